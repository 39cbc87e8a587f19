import PyProof.Rows.All
import PyProof.Rows.TmSorted
import HandS.ForMost
import HandS.Exc
import HandS.TryMany
import HandS.ExcOwn
import HandS.CallSlots
import HandS.EndTab
import HandS.TupAny
import HandS.Conv
import HandS.TupMul
import HandS.StrMore
import HandS.Deep
import HandS.TupLe
import KE.SortData
import HandS.RaiseMore
import HandS.More
import HandS.Flow
import HandS.IsInst
import HandS.SortInts
import HandS.Strs
import HandS.Text
import PyProof.DictStraight
import HandS.Codes
import HandS.Style
import HandS.Small
import HandS.Iter
import HandS.Zip
import HandS.Comp
import HandS.GenList
import HandS.AnyAll
import HandS.JoinGen
import PyProof.TupleOfGen
import HandS.HeadHook4
import HandS.HeadWalk
import HandS.Head2
import PyProof.ExcBaseAll.ValueError
import KE.OsArith
import KE.KStateDown
import PySem.Challenge.RW_councilwise_k64_whole_the_majoritys_plan
import PyProof.ListStr
import KE.GoesMore
import KE.GoesEnum
import PyProof.Draws
import PyProof.ConsumeS
import PyProof.SumAnyB
set_option Elab.async false
set_option linter.all false
/-! Fd1: pure values, the IR, the evaluator. -/
namespace D
open PySem

/-! ### values -/
/-- a value that never changes (lst: a list that nobody writes any more; obj: an instance that nobody writes any more) -/
inductive PV where
  | non
  | bl (b : Bool)
  | int (i : Int)
  | str (s : List Nat)
  | tup (xs : List PV)
  | lst (xs : List PV)
  | obj (c : String) (fs : List (String × PV))
  | dct (kvs : List (PV × PV))
  deriving Inhabited

/-- what a name may hold: a value, or a place of the heap -/
inductive RV where
  | pv (v : PV)
  | ref (p : Nat)
  deriving Inhabited

/-- what stands at a place of the heap -/
inductive AO where
  | lst (xs : List RV)
  | obj (c : String) (fs : List (String × RV))
  | dct (kvs : List (PV × RV))
  | dead
  deriving Inhabited

abbrev AH := List AO
abbrev Env := List (Option RV)

/-- an exception: its class, its fields -/
structure ExcV where
  cls : String
  fs : List (String × PV)

inductive Out (α : Type) where
  | ok (a : α) (h : AH)
  | exc (e : ExcV) (h : AH)
  | bad

def Out.bind {α β : Type} : Out α → (α → AH → Out β) → Out β
  | .ok a h, f => f a h
  | .exc e h, _ => .exc e h
  | .bad, _ => .bad

inductive Flow where
  | nxt (ρ : Env)
  | ret (v : RV)
  | brk (ρ : Env)
  | cnt (ρ : Env)

inductive SO where
  | ok (f : Flow) (h : AH)
  | exc (e : ExcV) (ρ : Env) (h : AH)
  | bad

def SO.ofE {α : Type} (ρ : Env) : Out α → (α → AH → SO) → SO
  | .ok a h, f => f a h
  | .exc e h, _ => .exc e ρ h
  | .bad, _ => .bad

/-- nothing is raised -/
def Out.nox {α : Type} : Out α → Out α
  | .exc _ _ => .bad
  | o => o
@[simp] theorem Out.nox_ok {α : Type} (a : α) (h : AH) : (Out.ok a h).nox = .ok a h := (rfl)
@[simp] theorem Out.nox_bad {α : Type} : (Out.bad : Out α).nox = .bad := (rfl)
@[simp] theorem Out.nox_exc {α : Type} (e : ExcV) (h : AH) : (Out.exc e h : Out α).nox = .bad := (rfl)

section
variable {α β : Type}
@[simp] theorem Out.bind_ok (a : α) (h : AH) (f : α → AH → Out β) : (Out.ok a h).bind f = f a h := (rfl)
@[simp] theorem Out.bind_exc (e : ExcV) (h : AH) (f : α → AH → Out β) : (Out.exc e h : Out α).bind f = .exc e h := (rfl)
@[simp] theorem Out.bind_bad (f : α → AH → Out β) : (Out.bad : Out α).bind f = .bad := (rfl)
theorem Out.bind_assoc {γ : Type} (o : Out α) (f : α → AH → Out β) (g : β → AH → Out γ) : (o.bind f).bind g = o.bind fun a h => (f a h).bind g := by cases o <;> rfl
@[simp] theorem SO.ofE_ok (ρ : Env) (a : α) (h : AH) (f : α → AH → SO) : SO.ofE ρ (.ok a h) f = f a h := (rfl)
@[simp] theorem SO.ofE_exc (ρ : Env) (e : ExcV) (h : AH) (f : α → AH → SO) : SO.ofE ρ (.exc e h : Out α) f = .exc e ρ h := (rfl)
@[simp] theorem SO.ofE_bad (ρ : Env) (f : α → AH → SO) : SO.ofE ρ (.bad : Out α) f = .bad := (rfl)
end
/-- what follows a statement -/
def SO.next : SO → (Env → AH → SO) → SO
  | .ok (.nxt ρ) h, f => f ρ h
  | r, _ => r
@[simp] theorem SO.next_nxt (ρ : Env) (h : AH) (f : Env → AH → SO) : (SO.ok (.nxt ρ) h).next f = f ρ h := (rfl)
@[simp] theorem SO.next_ret (v : RV) (h : AH) (f : Env → AH → SO) : (SO.ok (.ret v) h).next f = .ok (.ret v) h := (rfl)
@[simp] theorem SO.next_brk (ρ : Env) (h : AH) (f : Env → AH → SO) : (SO.ok (.brk ρ) h).next f = .ok (.brk ρ) h := (rfl)
@[simp] theorem SO.next_cnt (ρ : Env) (h : AH) (f : Env → AH → SO) : (SO.ok (.cnt ρ) h).next f = .ok (.cnt ρ) h := (rfl)
@[simp] theorem SO.next_exc (e : ExcV) (ρ : Env) (h : AH) (f : Env → AH → SO) : (SO.exc e ρ h).next f = .exc e ρ h := (rfl)
@[simp] theorem SO.next_bad (f : Env → AH → SO) : SO.bad.next f = .bad := (rfl)
/-- what follows a turn -/
def SO.turn : SO → (Env → AH → SO) → SO
  | .ok (.nxt ρ) h, f => f ρ h
  | .ok (.cnt ρ) h, f => f ρ h
  | .ok (.brk ρ) h, _ => .ok (.nxt ρ) h
  | r, _ => r
@[simp] theorem SO.turn_nxt (ρ : Env) (h : AH) (f : Env → AH → SO) : (SO.ok (.nxt ρ) h).turn f = f ρ h := (rfl)
@[simp] theorem SO.turn_cnt (ρ : Env) (h : AH) (f : Env → AH → SO) : (SO.ok (.cnt ρ) h).turn f = f ρ h := (rfl)
@[simp] theorem SO.turn_ret (v : RV) (h : AH) (f : Env → AH → SO) : (SO.ok (.ret v) h).turn f = .ok (.ret v) h := (rfl)
@[simp] theorem SO.turn_brk (ρ : Env) (h : AH) (f : Env → AH → SO) : (SO.ok (.brk ρ) h).turn f = .ok (.nxt ρ) h := (rfl)
@[simp] theorem SO.turn_exc (e : ExcV) (ρ : Env) (h : AH) (f : Env → AH → SO) : (SO.exc e ρ h).turn f = .exc e ρ h := (rfl)
@[simp] theorem SO.turn_bad (f : Env → AH → SO) : SO.bad.turn f = .bad := (rfl)
/-- an exception is looked at -/
def SO.caught : SO → (ExcV → Env → AH → SO) → SO
  | .exc e ρ h, f => f e ρ h
  | r, _ => r
@[simp] theorem SO.caught_ok (a : Flow) (h : AH) (f : ExcV → Env → AH → SO) : (SO.ok a h).caught f = .ok a h := (rfl)
@[simp] theorem SO.caught_exc (e : ExcV) (ρ : Env) (h : AH) (f : ExcV → Env → AH → SO) : (SO.exc e ρ h).caught f = f e ρ h := (rfl)
@[simp] theorem SO.caught_bad (f : ExcV → Env → AH → SO) : SO.bad.caught f = .bad := (rfl)

/-- nothing is raised -/
def SO.nox : SO → SO
  | .exc _ _ _ => .bad
  | r => r
@[simp] theorem SO.nox_ok (a : Flow) (h : AH) : (SO.ok a h).nox = .ok a h := (rfl)
@[simp] theorem SO.nox_exc (e : ExcV) (ρ : Env) (h : AH) : (SO.exc e ρ h).nox = .bad := (rfl)
@[simp] theorem SO.nox_bad : SO.bad.nox = .bad := (rfl)

/-! ### the IR -/
inductive Op2 where
  | add | sub | mul | fdiv | mod | pow | shl | shr | band | bor | bxor
  deriving DecidableEq
inductive Cmp where
  | eq | ne | lt | le | gt | ge | isN | notN | in_ | notIn
  deriving DecidableEq
/-- a target: a name's slot, or several -/
inductive T where
  | nm (i : Nat)
  | tp (is : List Nat)
  deriving DecidableEq

mutual
inductive E where
  | var (i : Nat)
  | cst (v : PV)
  | glob (x : String) (v : PV)
  | bin (m : Bool) (o : Op2) (a b : E)
  | neg (a : E)
  | inv (a : E)
  | cmp (o : Cmp) (a b : E)
  | chain (o p : Cmp) (a b c : E)
  | not_ (a : E)
  | and_ (es : Es)
  | or_ (es : Es)
  | ifx (c a b : E)
  | tup (es : Es)
  | lst (m : Bool) (es : Es)
  | idx (a b : E)
  | slc (m : Bool) (a lo hi : E)
  | rev (m : Bool) (a : E)
  | attr (a : E) (f : String) (cs : List String)
  | call (f : String) (es : Es)
  | callK (f : String) (es : Es) (ks : List String) (vs : Es) (pm : List Nat)
  | meth (a : E) (m : String) (tb : List (String × String)) (es : Es)
  | make (m : Bool) (c f : String) (es : Es)
  | isi (a : E) (t : String)
  | bi (b : String) (es : Es)
  | bi1 (m : Bool) (b : String) (i : It)
  | bm (m : String) (a : E) (es : Es)
  | join (a : E) (i : It)
  | lc (m : Bool) (t : T) (i : It) (cs : Es) (elt : E)
  | lc2 (m : Bool) (t : T) (i : It) (cs : Es) (t2 : T) (i2 : It) (cs2 : Es) (elt : E)
  | anyG (all : Bool) (t : T) (i : It) (cs : Es) (elt : E)
  | dct0 (m : Bool)
  | dctL (m : Bool) (a : E)
inductive Es where
  | nil
  | cons (e : E) (es : Es)
inductive It where
  | seq (e : E)
  | rng (es : Es)
  | enm (e : E)
  | zip (a b : E)
  | gen (t : T) (i : It) (cs : Es) (elt : E)
  | itms (e : E)
  | vals (e : E)
end

/-- None as it is written -/
def E.isNon : E → Bool
  | .cst .non => true
  | _ => false

mutual
inductive S where
  | asg (t : T) (e : E)
  | setI (a i v : E)
  | setF (a : E) (f : String) (cs : List String) (v : E)
  | aug (i : Nat) (o : Op2) (e : E)
  | par (is : List Nat) (es : Es)
  | augI (a i : E) (o : Op2) (e : E)
  | ex (e : E)
  | ret (e : E)
  | retN
  | ifs (c : E) (a b : Ss)
  | for_ (t : T) (i : It) (b : Ss)
  | whl (c : E) (b : Ss)
  | brk
  | cnt
  | pass
  | rais (c : String) (fs : List String) (es : Es)
  | tryx (b : Ss) (hs : Hs)
  | frz (i : Nat) (s : S)
inductive Ss where
  | nil
  | cons (s : S) (ss : Ss)
/-- except clauses: a class, a suite -/
inductive Hs where
  | nil
  | cons (c : String) (b : Ss) (hs : Hs)
end

/-- a def: the number of its parameters, of its slots, its body; keep: what it made stays in the heap behind it -/
structure Fn where
  np : Nat
  ns : Nat
  body : Ss
  keep : Bool

/-! ### operations -/
def optO {α : Type} (o : Option α) (h : AH) : Out α := match o with
  | some a => .ok a h
  | none => .bad

@[simp] theorem optO_some {α : Type} (a : α) (h : AH) : optO (some a) h = .ok a h := (rfl)
@[simp] theorem optO_none {α : Type} (h : AH) : optO (none : Option α) h = .bad := (rfl)

/-- the longest list, tuple, text -/
abbrev line : Nat := 16777216

def RV.pv? : RV → Option PV
  | .pv v => some v
  | .ref _ => none
@[simp] theorem RV.pv?_pv (v : PV) : (RV.pv v).pv? = some v := (rfl)
@[simp] theorem RV.pv?_ref (p : Nat) : (RV.ref p).pv? = none := (rfl)
def allPV : List RV → Option (List PV)
  | [] => some []
  | .pv v :: r => (allPV r).map (v :: ·)
  | .ref _ :: _ => none
@[simp] theorem allPV_nil : allPV [] = some [] := (rfl)
@[simp] theorem allPV_map (xs : List PV) : allPV (xs.map RV.pv) = some xs := by
  induction xs with
  | nil => rfl
  | cons x xs ih => simp [allPV, ih]
@[simp] theorem allPV_cons (v : PV) (r : List RV) : allPV (.pv v :: r) = (allPV r).map (v :: ·) := (rfl)
theorem allPV_some : ∀ {rs : List RV} {xs : List PV}, allPV rs = some xs → rs = xs.map RV.pv
  | [], xs, h => by simp at h; subst h; rfl
  | .pv v :: r, xs, h => by
    simp only [allPV_cons, Option.map_eq_some_iff] at h
    obtain ⟨ys, h1, h2⟩ := h
    subst h2
    rw [allPV_some h1]; rfl
  | .ref _ :: _, xs, h => by simp [allPV] at h

/-- a new list -/
def newL (m : Bool) (xs : List RV) (h : AH) : Out RV :=
  if xs.length ≤ line then
    if m then .ok (.ref h.length) (h ++ [.lst xs])
    else match allPV xs with
      | some ys => .ok (.pv (.lst ys)) h
      | none => .bad
  else .bad
/-- a new tuple -/
def newT (xs : List RV) (h : AH) : Out RV :=
  if xs.length ≤ line then
    match allPV xs with
    | some ys => .ok (.pv (.tup ys)) h
    | none => .bad
  else .bad
def newS (s : List Nat) (h : AH) : Out RV := if s.length ≤ line then .ok (.pv (.str s)) h else .bad

/-- a list's items -/
def viewL (h : AH) : RV → Option (List RV)
  | .pv (.lst xs) => some (xs.map .pv)
  | .ref p => match h[p]? with
    | some (.lst xs) => some xs
    | _ => none
  | _ => none
/-- a list, a tuple, a text as items -/
def viewQ (h : AH) : RV → Option (List RV)
  | .pv (.lst xs) => some (xs.map .pv)
  | .pv (.tup xs) => some (xs.map .pv)
  | .ref p => match h[p]? with
    | some (.lst xs) => some xs
    | _ => none
  | _ => none
/-- the same as a pure value -/
def viewP (h : AH) : RV → Option PV
  | .pv v => some v
  | .ref p => match h[p]? with
    | some (.lst xs) => (allPV xs).map .lst
    | _ => none

/-! dicts: keys are ints and texts -/
def isKey : PV → Bool
  | .int _ => true
  | .str _ => true
  | _ => false
def keyEq : PV → PV → Bool
  | .int i, .int j => decide (i = j)
  | .str s, .str t => decide (s = t)
  | _, _ => false
def dget {α : Type} (k : PV) (kvs : List (PV × α)) : Option α := (kvs.find? fun p => keyEq p.1 k).map (·.2)
def dput {α : Type} (k : PV) (v : α) (kvs : List (PV × α)) : List (PV × α) :=
  if kvs.any (fun p => keyEq p.1 k) then kvs.map (fun p => if keyEq p.1 k then (p.1, v) else p) else kvs ++ [(k, v)]
def dmerge {α : Type} (kvs more : List (PV × α)) : List (PV × α) := more.foldl (fun a p => dput p.1 p.2 a) kvs
/-- a dict's pairs -/
def viewD (h : AH) : RV → Option (List (PV × RV))
  | .pv (.dct kvs) => some (kvs.map fun p => (p.1, .pv p.2))
  | .ref p => match h[p]? with
    | some (.dct kvs) => some kvs
    | _ => none
  | _ => none
def dctPV : List (PV × RV) → Option (List (PV × PV))
  | [] => some []
  | (k, .pv v) :: r => (dctPV r).map ((k, v) :: ·)
  | (_, .ref _) :: _ => none
/-- a new dict -/
def newD (m : Bool) (kvs : List (PV × RV)) (h : AH) : Out RV :=
  if m then .ok (.ref h.length) (h ++ [.dct kvs])
  else match dctPV kvs with
    | some ys => .ok (.pv (.dct ys)) h
    | none => .bad
/-- d[k] -/
def dgetO (h : AH) (a : RV) (k : PV) : Out RV := match viewD h a with
  | some kvs => if isKey k then optO (dget k kvs) h else .bad
  | none => .bad
/-- k in d -/
def inD (h : AH) (a b : RV) : Option Bool := match a, viewD h b with
  | .pv k, some kvs => if isKey k then some (dget k kvs).isSome else none
  | _, _ => none
/-- pairs, as a list of tuples -/
def pairs? : List PV → Option (List (PV × RV))
  | [] => some []
  | .tup [k, v] :: r => if isKey k then (pairs? r).map ((k, .pv v) :: ·) else none
  | _ :: _ => none
/-- dict(x) -/
def dctK (x : RV) (h : AH) : Option (List (PV × RV)) :=
  match viewD h x with
  | some kvs => some kvs
  | none => ((viewL h x).bind allPV).bind fun ys => (pairs? ys).map (dmerge [])
def dctR (m : Bool) (x : RV) (h : AH) : Out RV := match dctK x h with
  | some kvs => newD m kvs h
  | none => .bad

def small (i : Int) : Bool := decide (-(2 ^ 64) < i) && decide (i < 2 ^ 64)
def fitsI (i : Int) : Bool := decide (-(2 ^ 63) ≤ i) && decide (i < 2 ^ 63)
def powOk (i j : Int) : Bool := decide (0 ≤ j) && decide (j ≤ 1000000) && decide (i.natAbs < 2 ^ 64)

def bopI (o : Op2) (i j : Int) : Option Int :=
  match o with
  | .add => some (i + j)
  | .sub => some (i - j)
  | .mul => if small i || small j then some (i * j) else none
  | .fdiv => if decide (0 < j) && decide (j < 1073741824) then some (i / j) else none
  | .mod => if 0 < j then some (i % j) else none
  | .pow => if powOk i j then some (i ^ j.toNat) else none
  | .shl => if powOk i j then some (i * 2 ^ j.toNat) else none
  | .shr => if 0 ≤ j then some (i / 2 ^ j.toNat) else none
  | .band => some (Builtin.bitAnd i j)
  | .bor => some (Builtin.bitOr i j)
  | .bxor => some (Builtin.bitXor i j)

def rep (n : Nat) (xs : List α) : List α := (List.replicate n xs).flatten

def bopL (m : Bool) (o : Op2) (a b : RV) (h : AH) : Out RV :=
  match o, viewL h a, b, viewL h b with
  | .add, some xs, _, some ys => newL m (xs ++ ys) h
  | .mul, some xs, .pv (.int k), _ => if fitsI k && decide (xs.length * k.toNat ≤ line) then newL m (rep k.toNat xs) h else .bad
  | _, _, _, _ => .bad

def bop (m : Bool) (o : Op2) (a b : RV) (h : AH) : Out RV :=
  match a, b with
  | .pv (.int i), .pv (.int j) => match bopI o i j with
    | some k => .ok (.pv (.int k)) h
    | none => .bad
  | .pv (.str s), .pv (.str t) => match o with
    | .add => newS (s ++ t) h
    | _ => .bad
  | .pv (.str s), .pv (.int k) => match o with
    | .mul => if fitsI k && decide (s.length * k.toNat ≤ line) then .ok (.pv (.str (rep k.toNat s))) h else .bad
    | _ => .bad
  | .pv (.tup xs), .pv (.tup ys) => match o with
    | .add => newT ((xs ++ ys).map .pv) h
    | _ => .bad
  | a, b => bopL m o a b h

/-! equality, order -/
mutual
def pyEq : PV → PV → Bool
  | .non, .non => true
  | .bl a, .bl b => a == b
  | .bl a, .int j => (if a then 1 else 0) == j
  | .int i, .bl b => i == (if b then 1 else 0)
  | .int i, .int j => i == j
  | .str s, .str t => s == t
  | .tup xs, .tup ys => pyEqs xs ys
  | .lst xs, .lst ys => pyEqs xs ys
  | _, _ => false
def pyEqs : List PV → List PV → Bool
  | [], [] => true
  | x :: xs, y :: ys => pyEq x y && pyEqs xs ys
  | _, _ => false
end
/-! == may be asked of it -/
mutual
def plain : Nat → PV → Bool
  | 0, _ => false
  | _ + 1, .non => true
  | _ + 1, .bl _ => true
  | _ + 1, .int _ => true
  | _ + 1, .str _ => true
  | n + 1, .tup xs => plains n xs
  | n + 1, .lst xs => plains n xs
  | _ + 1, .obj _ _ => false
  | _ + 1, .dct _ => false
def plains : Nat → List PV → Bool
  | _, [] => true
  | n, x :: xs => plain n x && plains n xs
end

def eqR (h : AH) (a b : RV) : Option Bool :=
  match viewP h a, viewP h b with
  | some x, some y => if plain 60 x && plain 60 y then some (pyEq x y) else none
  | _, _ => none
def inR (h : AH) (a b : RV) : Option Bool :=
  match viewP h a, viewP h b with
  | some x, some (.lst ys) => if plain 60 x && plains 60 ys then some (ys.any fun y => pyEq y x) else none
  | some x, some (.tup ys) => if plain 60 x && plains 60 ys then some (ys.any fun y => pyEq y x) else none
  | _, _ => inD h a b

def ltNat : List Nat → List Nat → Bool
  | [], [] => false
  | [], _ :: _ => true
  | _ :: _, [] => false
  | x :: xs, y :: ys => if x = y then ltNat xs ys else decide (x < y)

/-! ints, texts, tuples of such at any depth: by Python's order -/
mutual
def pyLt : PV → PV → Bool
  | .int i, .int j => decide (i < j)
  | .str s, .str t => ltNat s t
  | .tup xs, .tup ys => pyLts xs ys
  | _, _ => false
def pyLts : List PV → List PV → Bool
  | [], [] => false
  | [], _ :: _ => true
  | _ :: _, [] => false
  | x :: xs, y :: ys => if pyEq x y then pyLts xs ys else pyLt x y
end
/-! they may be ordered -/
mutual
def ordP : PV → PV → Bool
  | .int _, .int _ => true
  | .str _, .str _ => true
  | .tup xs, .tup ys => ordPs xs ys
  | _, _ => false
def ordPs : List PV → List PV → Bool
  | x :: xs, y :: ys => ordP x y && ordPs xs ys
  | [], _ => true
  | _ :: _, [] => true
end
def cmpR (o : Cmp) (a b : RV) (h : AH) : Option Bool :=
  match o with
  | .eq => eqR h a b
  | .ne => (eqR h a b).map (!·)
  | .in_ => inR h a b
  | .notIn => (inR h a b).map (!·)
  | .isN => match a, b with
    | .pv (.bl k), .pv (.bl l) => some (k == l)
    | .pv .non, .pv .non => some true
    | .pv _, .pv .non => some false
    | .ref _, .pv .non => some false
    | _, _ => none
  | .notN => match a, b with
    | .pv (.bl k), .pv (.bl l) => some (!(k == l))
    | .pv .non, .pv .non => some false
    | .pv _, .pv .non => some true
    | .ref _, .pv .non => some true
    | _, _ => none
  | .lt => match a, b with
    | .pv (.int i), .pv (.int j) => some (decide (i < j))
    | .pv (.str s), .pv (.str t) => some (ltNat s t)
    | .pv (.tup xs), .pv (.tup ys) => if ordPs xs ys && (plains 50 xs && plains 50 ys) then some (pyLts xs ys) else none
    | _, _ => none
  | .le => match a, b with
    | .pv (.int i), .pv (.int j) => some (decide (i ≤ j))
    | _, _ => none
  | .gt => match a, b with
    | .pv (.int i), .pv (.int j) => some (decide (j < i))
    | _, _ => none
  | .ge => match a, b with
    | .pv (.int i), .pv (.int j) => some (decide (j ≤ i))
    | _, _ => none

def truth (h : AH) : RV → Option Bool
  | .pv .non => some false
  | .pv (.bl b) => some b
  | .pv (.int i) => some (i != 0)
  | .pv (.str s) => some (!s.isEmpty)
  | .pv (.tup xs) => some (!xs.isEmpty)
  | .pv (.lst xs) => some (!xs.isEmpty)
  | .ref p => match h[p]? with
    | some (.lst xs) => some (!xs.isEmpty)
    | _ => none
  | _ => none

/-- an index, from the end where it is negative -/
def ixN (n : Nat) (i : Int) : Option Nat := if 0 ≤ i then (if i < n then some i.toNat else none) else if -(n : Int) ≤ i then some (i + n).toNat else none
def atI (xs : List α) (i : Int) : Option α := (ixN xs.length i).bind fun j => xs[j]?

def idxR (a b : RV) (h : AH) : Out RV :=
  match a, b with
  | .pv (.str s), .pv (.int i) => match atI s i with
    | some c => .ok (.pv (.str [c])) h
    | none => .bad
  | a, .pv (.int i) => match viewQ h a with
    | some xs => match atI xs i with
      | some x => .ok x h
      | none => .bad
    | none => dgetO h a (.int i)
  | a, .pv (.str s) => dgetO h a (.str s)
  | _, _ => .bad

/-- of a list -/
def idxL (a b : RV) (h : AH) : Out RV :=
  match b with
  | .pv (.int i) => match viewL h a with
    | some xs => match atI xs i with
      | some x => .ok x h
      | none => .bad
    | none => .bad
  | _ => .bad

/-- a slice's end -/
def sIx (n d : Nat) : Option Int → Nat
  | none => d
  | some v => if v < 0 then (v + (n : Int)).toNat else min v.toNat n
def cut (xs : List α) (lo hi : Option Int) : List α := (xs.drop (sIx xs.length 0 lo)).take (sIx xs.length xs.length hi - sIx xs.length 0 lo)
/-- a part of a slice: b, it is not written -/
def prtO (b : Bool) (v : RV) (h : AH) : Out (Option Int) := if b then .ok none h else match v with
  | .pv (.int i) => .ok (some i) h
  | _ => .bad
def slcR (m : Bool) (a : RV) (l u : Option Int) (h : AH) : Out RV :=
  match a with
  | .pv (.str s) => .ok (.pv (.str (cut s l u))) h
  | .pv (.tup xs) => .ok (.pv (.tup (cut xs l u))) h
  | a => match viewL h a with
    | some xs => newL m (cut xs l u) h
    | none => .bad

/-- x[::-1] -/
def revR (m : Bool) (a : RV) (h : AH) : Out RV :=
  match a with
  | .pv (.tup xs) => .ok (.pv (.tup xs.reverse)) h
  | a => match viewL h a with
    | some xs => newL m xs.reverse h
    | none => .bad

def lookF {α : Type} (f : String) : List (String × α) → Option α
  | [] => none
  | (n, v) :: r => if f = n then some v else lookF f r
def putF {α : Type} (f : String) (v : α) : List (String × α) → List (String × α)
  | [] => [(f, v)]
  | (n, u) :: r => if f = n then (n, v) :: r else (n, u) :: putF f v r
/-- a field -/
def attrR (cs : List String) (f : String) (a : RV) (h : AH) : Out RV :=
  match a with
  | .pv (.obj c fs) => if c ∈ cs then optO ((lookF f fs).map RV.pv) h else .bad
  | .ref p => match h[p]? with
    | some (.obj c fs) => if c ∈ cs then optO (lookF f fs) h else .bad
    | _ => .bad
  | _ => .bad
/-- an instance's class, if it has no field m -/
def clsR (a : RV) (m : String) (h : AH) : Option String :=
  match a with
  | .pv (.obj c fs) => match lookF m fs with
    | none => some c
    | some _ => none
  | .ref p => match h[p]? with
    | some (.obj c fs) => match lookF m fs with
      | none => some c
      | some _ => none
    | _ => none
  | _ => none

/-- what may be stored at p, by a def whose own places begin at lo -/
def mayStore (lo p : Nat) : RV → Bool
  | .pv _ => true
  | .ref _ => decide (lo ≤ p)

def setR (lo : Nat) (a i v : RV) (h : AH) : Out Unit :=
  match a, i with
  | .ref p, .pv (.int k) => match h[p]? with
    | some (.lst xs) => match ixN xs.length k with
      | some j => if mayStore lo p v then .ok () (h.set p (.lst (xs.set j v))) else .bad
      | none => .bad
    | some (.dct kvs) => if mayStore lo p v && decide (kvs.length < line) then .ok () (h.set p (.dct (dput (.int k) v kvs))) else .bad
    | _ => .bad
  | .ref p, .pv (.str s) => match h[p]? with
    | some (.dct kvs) => if mayStore lo p v && decide (kvs.length < line) then .ok () (h.set p (.dct (dput (.str s) v kvs))) else .bad
    | _ => .bad
  | _, _ => .bad
def setFR (lo : Nat) (cs : List String) (a : RV) (f : String) (v : RV) (h : AH) : Out Unit :=
  match a with
  | .ref p => match h[p]? with
    | some (.obj c fs) => if mayStore lo p v && decide (fs.length < 1000) && decide (c ∈ cs) then .ok () (h.set p (.obj c (putF f v fs))) else .bad
    | _ => .bad
  | _ => .bad

/-- isinstance -/
def isiR (h : AH) (a : RV) (t : String) : Option Bool :=
  match a with
  | .pv .non => some false
  | .pv (.bl _) => some (t == "bool" || t == "int")
  | .pv (.int _) => some (t == "int")
  | .pv (.str _) => some (t == "str")
  | .pv (.tup _) => some (t == "tuple")
  | .pv (.lst _) => some (t == "list")
  | .ref p => match h[p]? with
    | some (.lst _) => some (t == "list")
    | _ => none
  | _ => none

def pvs? (xs : List RV) : Option (List PV) := allPV xs

/-- a text that may be: not too long, its signs are signs -/
def okS (s : List Nat) : Bool := decide (s.length ≤ line) && s.all fun c => decide (c < 0x110000)
/-- an int's text -/
def strI (i : Int) : List Nat := (toString i).toList.map Char.toNat
/-- built-in functions and types, by values -/
def biR (b : String) (xs : List RV) (h : AH) : Out RV :=
  match b, xs with
  | "len", [.pv (.str s)] => .ok (.pv (.int s.length)) h
  | "len", [a] => match viewQ h a with
    | some ys => .ok (.pv (.int ys.length)) h
    | none => match viewD h a with
      | some kvs => .ok (.pv (.int kvs.length)) h
      | none => .bad
  | "abs", [.pv (.int i)] => .ok (.pv (.int (if i < 0 then -i else i))) h
  | "int", [.pv (.int i)] => .ok (.pv (.int i)) h
  | "int", [.pv (.bl k)] => .ok (.pv (.int (if k then 1 else 0))) h
  | "str", [.pv (.int i)] => if decide (i.natAbs.log2 < 1920) && okS (strI i) then .ok (.pv (.str (strI i))) h else .bad
  | "str", [.pv (.str s)] => .ok (.pv (.str s)) h
  | "min", [.pv (.int i), .pv (.int j)] => .ok (.pv (.int (if j < i then j else i))) h
  | "max", [.pv (.int i), .pv (.int j)] => .ok (.pv (.int (if j > i then j else i))) h
  | _, _ => .bad

def ints? : List RV → Option (List Int)
  | [] => some []
  | .pv (.int i) :: r => (ints? r).map (i :: ·)
  | _ :: _ => none
@[simp] theorem ints?_nil : ints? [] = some [] := (rfl)
@[simp] theorem ints?_map (xs : List Int) : ints? (xs.map fun i => RV.pv (.int i)) = some xs := by
  induction xs with
  | nil => rfl
  | cons x xs ih => simp [ints?, ih]
def strs? : List RV → Option (List (List Nat))
  | [] => some []
  | .pv (.str s) :: r => (strs? r).map (s :: ·)
  | _ :: _ => none
@[simp] theorem strs?_nil : strs? [] = some [] := (rfl)
@[simp] theorem strs?_map (xs : List (List Nat)) : strs? (xs.map fun s => RV.pv (.str s)) = some xs := by
  induction xs with
  | nil => rfl
  | cons x xs ih => simp [strs?, ih]

def insP (x : PV) : List PV → List PV
  | [] => [x]
  | y :: ys => if pyLt y x then y :: insP x ys else x :: y :: ys
/-- sorted: a stable order by insertion -/
def sortP : List PV → List PV
  | [] => []
  | x :: xs => insP x (sortP xs)

/-- what sorted takes: all ints, all texts, all tuples that may be ordered -/
def isInt : PV → Bool
  | .int _ => true
  | _ => false
def isStr : PV → Bool
  | .str _ => true
  | _ => false
def isTup1 : PV → Bool
  | .tup (_ :: _) => true
  | _ => false
def sortable (xs : List PV) : Bool := xs.all isInt || (xs.all isStr || (xs.all isTup1 && ((xs.all fun x => xs.all fun y => ordP x y) && plains 50 xs)))

/-- built-ins that take what is walked -/
def bi1R (m : Bool) (b : String) (xs : List RV) (h : AH) : Out RV :=
  match b with
  | "list" => newL m xs h
  | "tuple" => newT xs h
  | "sum" => match ints? xs with
    | some is => if xs.length ≤ line then .ok (.pv (.int is.sum)) h else .bad
    | none => .bad
  | "sorted" => match allPV xs with
    | some ys => if sortable ys then newL m ((sortP ys).map .pv) h else .bad
    | none => .bad
  | "min" => match ints? xs with
    | some (i :: is) => .ok (.pv (.int (is.foldl (fun a b => if b < a then b else a) i))) h
    | _ => .bad
  | "max" => match ints? xs with
    | some (i :: is) => .ok (.pv (.int (is.foldl (fun a b => if b > a then b else a) i))) h
    | _ => .bad
  | _ => .bad

def joinL (sep : List Nat) : List (List Nat) → List Nat
  | [] => []
  | [x] => x
  | x :: r => x ++ sep ++ joinL sep r
def joinR (a : RV) (xs : List RV) (h : AH) : Out RV :=
  match a, strs? xs with
  | .pv (.str s), some ts => if decide ((ts.map List.length).sum + ts.length * s.length ≤ line) then newS (joinL s ts) h else .bad
  | _, _ => .bad

/-- a method of a receiver, by its full name -/
def bmK (m : String) (x : RV) (h : AH) : Option String := match x with
  | .pv (.tup _) => if m = "index" then some "tuple.index" else none
  | x => if (viewL h x).isSome then lookF m [("append", "list.append"), ("pop", "list.pop"), ("index", "list.index"), ("reverse", "list.reverse"), ("insert", "list.insert")] else if (viewD h x).isSome then (if m = "get" then some "dict.get" else none) else none
/-- join's receiver -/
def isS : RV → Bool
  | .pv (.str _) => true
  | _ => false
/-- methods of built-in types -/
def bmR (lo : Nat) (m : String) (a : RV) (xs : List RV) (h : AH) : Out RV :=
  match m, a, xs with
  | "list.append", .ref p, [v] => match h[p]? with
    | some (.lst ys) => if mayStore lo p v && decide (ys.length < line) then .ok (.pv .non) (h.set p (.lst (ys ++ [v]))) else .bad
    | _ => .bad
  | "list.pop", .ref p, [] => match h[p]? with
    | some (.lst ys) => match ys.getLast? with
      | some y => .ok y (h.set p (.lst ys.dropLast))
      | none => .bad
    | _ => .bad
  | "list.pop", .ref p, [.pv (.int k)] => match h[p]? with
    | some (.lst ys) => match ixN ys.length k with
      | some j => match ys[j]? with
        | some y => .ok y (h.set p (.lst (ys.eraseIdx j)))
        | none => .bad
      | none => .bad
    | _ => .bad
  | "list.reverse", .ref p, [] => match h[p]? with
    | some (.lst ys) => .ok (.pv .non) (h.set p (.lst ys.reverse))
    | _ => .bad
  | "list.insert", .ref p, [.pv (.int k), v] => match h[p]? with
    | some (.lst ys) => if mayStore lo p v && (decide (ys.length < line) && (decide (0 ≤ k) && decide (k < 2 ^ 63))) then .ok (.pv .non) (h.set p (.lst (ys.take k.toNat ++ [v] ++ ys.drop k.toNat))) else .bad
    | _ => .bad
  | "tuple.index", .pv (.tup ys), [.pv (.str z)] => match strs? (ys.map .pv) with
    | some zs => match zs.findIdx? (fun y => y == z) with
      | some j => .ok (.pv (.int (j : Nat))) h
      | none => .bad
    | none => .bad
  | "list.index", a, [.pv z] => match viewP h a with
    | some (.lst ys) => if plains 59 ys && plain 60 z then match ys.findIdx? (fun y => pyEq y z) with
      | some j => .ok (.pv (.int (j : Nat))) h
      | none => .bad
      else .bad
    | _ => .bad
  | "dict.get", a, [.pv k] => match viewD h a with
    | some kvs => if isKey k then .ok ((dget k kvs).getD (.pv .non)) h else .bad
    | none => .bad
  | "dict.get", a, [.pv k, d] => match viewD h a with
    | some kvs => if isKey k then .ok ((dget k kvs).getD d) h else .bad
    | none => .bad
  | _, _, _ => .bad

/-! ### slots -/
def getV (ρ : Env) (i : Nat) : Option RV := (ρ[i]?).join
def T.slots : T → List Nat
  | .nm i => [i]
  | .tp is => is
def wipe (ρ : Env) : List Nat → Env
  | [] => ρ
  | v :: vs => (wipe ρ vs).set v none
def setAll : Env → List Nat → List RV → Option Env
  | ρ, [], [] => some ρ
  | ρ, i :: is, v :: vs => setAll (ρ.set i (some v)) is vs
  | _, _, _ => none
/-- a value to a target -/
def T.put (ρ : Env) (v : RV) : T → Option Env
  | .nm i => some (ρ.set i (some v))
  | .tp is => match v with
    | .pv (.tup xs) => setAll ρ is (xs.map .pv)
    | _ => none

/-! ### loops -/

/-- a comprehension's turns -/
def lcL (t : T) (ρ : Env) (test : Env → AH → Out Bool) (elt : Env → AH → Out RV) : List RV → AH → Out (List RV)
  | [], h => .ok [] h
  | x :: xs, h => (optO (t.put ρ x) h).bind fun ρ' h0 => (test ρ' h0).bind fun b h1 =>
      if b then (elt ρ' h1).bind fun y h2 => (lcL t ρ test elt xs h2).bind fun ys h3 => .ok (y :: ys) h3
      else lcL t ρ test elt xs h1
/-- two clauses -/
def lcL2 (t : T) (ρ : Env) (test : Env → AH → Out Bool) (inner : Env → AH → Out (List RV)) : List RV → AH → Out (List RV)
  | [], h => .ok [] h
  | x :: xs, h => (optO (t.put ρ x) h).bind fun ρ' h0 => (test ρ' h0).bind fun b h1 =>
      if b then (inner ρ' h1).bind fun y h2 => (lcL2 t ρ test inner xs h2).bind fun ys h3 => .ok (y ++ ys) h3
      else lcL2 t ρ test inner xs h1
/-- any, all (all: true) of a generator expression -/
def anyL (all : Bool) (t : T) (ρ : Env) (test : Env → AH → Out Bool) (elt : Env → AH → Out RV) : List RV → AH → Out RV
  | [], h => .ok (.pv (.bl all)) h
  | x :: xs, h => (optO (t.put ρ x) h).bind fun ρ' h0 => (test ρ' h0).bind fun b h1 =>
      if b then (elt ρ' h1).bind fun y h2 => match y with
        | .pv (.bl k) => if k = all then anyL all t ρ test elt xs h2 else .ok (.pv (.bl (!all))) h2
        | _ => .bad
      else anyL all t ρ test elt xs h1

def enumP : Nat → List PV → List RV
  | _, [] => []
  | k, v :: r => .pv (.tup [.int k, v]) :: enumP (k + 1) r
def zipP : List PV → List PV → List RV
  | v :: r, w :: q => .pv (.tup [v, w]) :: zipP r q
  | _, _ => []
def enmR : RV → Option (List RV)
  | .pv (.lst xs) => some (enumP 0 xs)
  | .pv (.tup xs) => some (enumP 0 xs)
  | _ => none
def zipR : RV → RV → Option (List RV)
  | .pv (.lst xs), .pv (.lst ys) => some (zipP xs ys)
  | .pv (.tup xs), .pv (.tup ys) => some (zipP xs ys)
  | _, _ => none
def rngL (lo hi : Int) : List RV := (List.range (hi - lo).toNat).map fun k => .pv (.int (lo + (k : Nat)))
def rngOk (i : Int) : Bool := decide (-(2 ^ 62) ≤ i) && decide (i < 2 ^ 62)
def rngR (xs : List RV) (h : AH) : Out (List RV) :=
  match xs with
  | [.pv (.int j)] => if rngOk j then .ok (rngL 0 j) h else .bad
  | [.pv (.int i), .pv (.int j)] => if rngOk i && rngOk j then .ok (rngL i j) h else .bad
  | _ => .bad
/-- what is walked, not written meanwhile -/
def itemsR : RV → Option (List RV)
  | .pv (.lst xs) => some (xs.map .pv)
  | .pv (.tup xs) => some (xs.map .pv)
  | .pv (.str s) => some (s.map fun c => .pv (.str [c]))
  | .pv (.dct kvs) => some (kvs.map fun p => .pv p.1)
  | _ => none
def itmsO (x : RV) (h : AH) : Out (List RV) := match x with
  | .pv (.dct kvs) => .ok (kvs.map fun p => .pv (.tup [p.1, p.2])) h
  | _ => .bad
def valsO (x : RV) (h : AH) : Out (List RV) := match x with
  | .pv (.dct kvs) => .ok (kvs.map fun p => .pv p.2) h
  | _ => .bad

/-! ### the evaluator -/
/-- a call: the def's name, the arguments, the heap -/
abbrev Calls := String → List RV → AH → Out RV
/-- what a make does behind __init__ -/
def madeR (m : Bool) (p : Nat) (h : AH) : Out RV :=
  if m then .ok (.ref p) h
  else match h[p]? with
    | some (.obj c fs) => match allPV (fs.map (·.2)) with
      | some vs => .ok (.pv (.obj c ((fs.map (·.1)).zip vs))) (h.set p .dead)
      | none => .bad
    | _ => .bad

def negO (x : RV) (h : AH) : Out RV := match x with
  | .pv (.int i) => .ok (.pv (.int (-i))) h
  | _ => .bad
def invO (x : RV) (h : AH) : Out RV := match x with
  | .pv (.int i) => .ok (.pv (.int (Builtin.bitNot i))) h
  | _ => .bad
def cmpO (o : Cmp) (x y : RV) (h : AH) : Out RV := match cmpR o x y h with
  | some k => .ok (.pv (.bl k)) h
  | none => .bad
def truO (x : RV) (h : AH) : Out Bool := match truth h x with
  | some k => .ok k h
  | none => .bad
def varO (i : Nat) (ρ : Env) (h : AH) : Out RV := match getV ρ i with
  | some v => .ok v h
  | none => .bad
def isiO (t : String) (x : RV) (h : AH) : Out RV := match isiR h x t with
  | some k => .ok (.pv (.bl k)) h
  | none => .bad
def itmO (x : RV) (h : AH) : Out (List RV) := match itemsR x with
  | some xs => .ok xs h
  | none => .bad
/-- list(x) of a text, of a dict -/
def listR (h : AH) (x : RV) : Option (List RV) := match x with
  | .pv (.str s) => some (s.map fun c => .pv (.str [c]))
  | x => (viewD h x).map fun kvs => kvs.map fun p => .pv p.1
/-- list(x), sorted(x) .. of a value -/
def bi1V (m : Bool) (b : String) (x : RV) (h : AH) : Out RV :=
  if b = "list" ∨ b = "tuple" then match viewQ h x with
    | some xs => match b, x with
      | "tuple", .pv (.tup ys) => .ok (.pv (.tup ys)) h
      | _, _ => bi1R m b xs h
    | none => if b = "list" then match listR h x with
      | some xs => newL m xs h
      | none => .bad
      else .bad
  else match viewL h x with
    | some xs => bi1R m b xs h
    | none => .bad
def joinV (a x : RV) (h : AH) : Out RV := match viewQ h x with
  | some xs => joinR a xs h
  | none => .bad
section
variable (C : Calls) (lo : Nat)
mutual
def evE : E → Env → AH → Out RV
  | .var i, ρ, h => varO i ρ h
  | .cst v, _, h => .ok (.pv v) h
  | .glob _ v, _, h => .ok (.pv v) h
  | .bin m o a b, ρ, h => (evE a ρ h).bind fun x h1 => (evE b ρ h1).bind fun y h2 => bop m o x y h2
  | .neg a, ρ, h => (evE a ρ h).bind negO
  | .inv a, ρ, h => (evE a ρ h).bind invO
  | .cmp o a b, ρ, h => (evE a ρ h).bind fun x h1 => (evE b ρ h1).bind fun y h2 => cmpO o x y h2
  | .chain o p a b c, ρ, h => (evE a ρ h).bind fun x h1 => (evE b ρ h1).bind fun y h2 => (optO (cmpR o x y h2) h2).bind fun k h3 =>
    if k then (evE c ρ h3).bind fun z h4 => cmpO p y z h4 else .ok (.pv (.bl false)) h3
  | .not_ a, ρ, h => ((evE a ρ h).bind truO).bind fun k h1 => .ok (.pv (.bl (!k))) h1
  | .and_ es, ρ, h => evAnd es ρ h
  | .or_ es, ρ, h => evOr es ρ h
  | .ifx c a b, ρ, h => ((evE c ρ h).bind truO).bind fun k h1 => if k then evE a ρ h1 else evE b ρ h1
  | .tup es, ρ, h => (evEs es ρ h).bind newT
  | .lst m es, ρ, h => (evEs es ρ h).bind (newL m)
  | .idx a b, ρ, h => (evE a ρ h).bind fun x h1 => (evE b ρ h1).bind fun y h2 => idxR x y h2
  | .slc m a l u, ρ, h => (evE a ρ h).bind fun x h1 => ((evE l ρ h1).bind (prtO l.isNon)).bind fun y h2 => ((evE u ρ h2).bind (prtO u.isNon)).bind fun z h3 => slcR m x y z h3
  | .rev m a, ρ, h => (evE a ρ h).bind (revR m)
  | .attr a f cs, ρ, h => (evE a ρ h).bind (attrR cs f)
  | .call f es, ρ, h => (evEs es ρ h).bind (C f)
  | .callK f es _ vs pm, ρ, h => (evEs es ρ h).bind fun xs h1 => (evEs vs ρ h1).bind fun ys h2 => C f (pm.filterMap fun i => (xs ++ ys)[i]?) h2
  | .meth a m tb es, ρ, h => (evE a ρ h).bind fun x h1 => (optO ((clsR x m h1).bind fun c => lookF c tb) h1).bind fun f h2 => (evEs es ρ h2).bind fun xs h3 => C f (x :: xs) h3
  | .make m c f es, ρ, h => (evEs es ρ h).bind fun xs h1 => (C f (.ref h1.length :: xs) (h1 ++ [.obj c []])).bind fun v h2 => match v with
    | .pv .non => madeR m h1.length h2
    | _ => .bad
  | .isi a ts, ρ, h => (evE a ρ h).bind (isiO ts)
  | .bi b es, ρ, h => (evEs es ρ h).bind (biR b)
  | .bi1 m b (.seq e), ρ, h => (evE e ρ h).bind (bi1V m b)
  | .bi1 m b i, ρ, h => (evI i ρ h).bind (bi1R m b)
  | .bm m a es, ρ, h => (evE a ρ h).bind fun x h1 => (optO (bmK m x h1) h1).bind fun id h2 => (evEs es ρ h2).bind fun xs h3 => bmR lo id x xs h3
  | .join a (.seq e), ρ, h => (evE a ρ h).bind fun x h1 => if isS x then (evE e ρ h1).bind fun y h2 => joinV x y h2 else .bad
  | .join a i, ρ, h => (evE a ρ h).bind fun x h1 => if isS x then (evI i ρ h1).bind fun xs h2 => joinR x xs h2 else .bad
  | .lc m t i cs elt, ρ, h => (evI i ρ h).bind fun xs h1 => (lcL t (wipe ρ t.slots) (evTs cs) (evE elt) xs h1).nox.bind (newL m)
  | .lc2 m t i cs t2 i2 cs2 elt, ρ, h => (evI i ρ h).bind fun xs h1 =>
    (lcL2 t (wipe ρ (t.slots ++ t2.slots)) (evTs cs) (fun ρ1 h2 => (evI i2 ρ1 h2).bind fun ys h3 => lcL t2 ρ1 (evTs cs2) (evE elt) ys h3) xs h1).nox.bind (newL m)
  | .dct0 m, _, h => newD m [] h
  | .dctL m a, ρ, h => (evE a ρ h).bind (dctR m)
  | .anyG all t i cs elt, ρ, h => (evI i ρ h).bind fun xs h1 => if xs.length ≤ line then (anyL all t (wipe ρ t.slots) (evTs cs) (evE elt) xs h1).nox else .bad
def evEs : Es → Env → AH → Out (List RV)
  | .nil, _, h => .ok [] h
  | .cons e es, ρ, h => (evE e ρ h).bind fun x h1 => (evEs es ρ h1).bind fun xs h2 => .ok (x :: xs) h2
def evAnd : Es → Env → AH → Out RV
  | .nil, _, _ => .bad
  | .cons e es, ρ, h => (evE e ρ h).bind fun x h1 => match es with
    | .nil => .ok x h1
    | .cons _ _ => (truO x h1).bind fun k h2 => if k then evAnd es ρ h2 else .ok x h2
def evOr : Es → Env → AH → Out RV
  | .nil, _, _ => .bad
  | .cons e es, ρ, h => (evE e ρ h).bind fun x h1 => match es with
    | .nil => .ok x h1
    | .cons _ _ => (truO x h1).bind fun k h2 => if k then .ok x h2 else evOr es ρ h2
/-- tests, one after another -/
def evTs : Es → Env → AH → Out Bool
  | .nil, _, h => .ok true h
  | .cons e es, ρ, h => ((evE e ρ h).bind truO).bind fun k h1 => if k then evTs es ρ h1 else .ok false h1
/-- what a loop walks -/
def evI : It → Env → AH → Out (List RV)
  | .seq e, ρ, h => (evE e ρ h).bind itmO
  | .rng es, ρ, h => (evEs es ρ h).bind rngR
  | .enm e, ρ, h => (evE e ρ h).bind fun x h1 => optO (enmR x) h1
  | .zip a b, ρ, h => (evE a ρ h).bind fun x h1 => (evE b ρ h1).bind fun y h2 => optO (zipR x y) h2
  | .gen t i cs elt, ρ, h => (evI i ρ h).bind fun xs h1 => (lcL t (wipe ρ t.slots) (evTs cs) (evE elt) xs h1).nox
  | .itms e, ρ, h => (evE e ρ h).bind itmsO
  | .vals e, ρ, h => (evE e ρ h).bind valsO
end

/-- the turns of a for -/
def forL (t : T) (body : Env → AH → SO) : List RV → Env → AH → SO
  | [], ρ, h => .ok (.nxt ρ) h
  | x :: xs, ρ, h => SO.ofE ρ (optO (t.put ρ x) h) fun ρ1 h1 => (body ρ1 h1).turn fun ρ2 h2 => forL t body xs ρ2 h2
/-- the turns of a while -/
def whlL (test : Env → AH → Out Bool) (body : Env → AH → SO) : Nat → Env → AH → SO
  | 0, _, _ => .bad
  | n + 1, ρ, h => SO.ofE ρ (test ρ h) fun b h1 => if b then (body ρ h1).turn fun ρ2 h2 => whlL test body n ρ2 h2 else .ok (.nxt ρ) h1

def putO (t : T) (ρ : Env) (v : RV) (h : AH) : SO := SO.ofE ρ (optO (t.put ρ v) h) fun ρ1 h1 => .ok (.nxt ρ1) h1
/-- x op= y, ints -/
def iopO (o : Op2) (x y : RV) (h : AH) : Out RV := match x, y with
  | .pv (.int i), .pv (.int j) => if o = .add ∨ o = .sub ∨ o = .mul ∨ o = .fdiv ∨ o = .band ∨ o = .bor ∨ o = .bxor then match bopI o i j with
    | some k => .ok (.pv (.int k)) h
    | none => .bad
    else .bad
  | _, _ => .bad
/-- a slot's list is written no more -/
def frzO (lo : Nat) (i : Nat) (ρ : Env) (h : AH) : Option (Env × AH) := match getV ρ i with
  | some (.ref p) => match h[p]? with
    | some (.lst xs) => match allPV xs with
      | some ys => if lo ≤ p ∧ ys.length ≤ line then some (ρ.set i (some (.pv (.lst ys))), h.set p .dead) else none
      | none => none
    | some (.dct kvs) => match dctPV kvs with
      | some ys => if lo ≤ p then some (ρ.set i (some (.pv (.dct ys))), h.set p .dead) else none
      | none => none
    | _ => none
  | _ => some (ρ, h)

/-- how often a while may turn -/
def fuel : Nat := 1152921504606846976

/-- a class's own ones above, itself first -/
abbrev Anc := String → List String
variable (an : Anc)
mutual
def exS : S → Env → AH → SO
  | .asg t e, ρ, h => SO.ofE ρ (evE C lo e ρ h) fun v h1 => putO t ρ v h1
  | .setI a i v, ρ, h => SO.ofE ρ (evE C lo v ρ h) fun x h1 => SO.ofE ρ (evE C lo a ρ h1) fun y h2 => SO.ofE ρ (evE C lo i ρ h2) fun z h3 =>
    SO.ofE ρ (setR lo y z x h3) fun _ h4 => .ok (.nxt ρ) h4
  | .setF a f cs v, ρ, h => SO.ofE ρ (evE C lo v ρ h) fun x h1 => SO.ofE ρ (evE C lo a ρ h1) fun y h2 => SO.ofE ρ (setFR lo cs y f x h2) fun _ h4 => .ok (.nxt ρ) h4
  | .aug i o e, ρ, h => SO.ofE ρ (varO i ρ h) fun x h0 => SO.ofE ρ (evE C lo e ρ h0) fun y h1 => SO.ofE ρ (iopO o x y h1) fun z h2 => .ok (.nxt (ρ.set i (some z))) h2
  | .par is es, ρ, h => SO.ofE ρ (evEs C lo es ρ h) fun xs h1 => SO.ofE ρ (optO (setAll ρ is xs) h1) fun ρ1 h2 => .ok (.nxt ρ1) h2
  | .augI a i o e, ρ, h => SO.ofE ρ (evE C lo a ρ h) fun x h1 => SO.ofE ρ (evE C lo i ρ h1) fun y h2 => SO.ofE ρ (idxL x y h2) fun z h3 => SO.ofE ρ (evE C lo e ρ h3) fun u h4 =>
    SO.ofE ρ (iopO o z u h4) fun r h5 => SO.ofE ρ (setR lo x y r h5) fun _ h6 => .ok (.nxt ρ) h6
  | .ex e, ρ, h => SO.ofE ρ (evE C lo e ρ h) fun _ h1 => .ok (.nxt ρ) h1
  | .ret e, ρ, h => SO.ofE ρ (evE C lo e ρ h) fun v h1 => .ok (.ret v) h1
  | .retN, _, h => .ok (.ret (.pv .non)) h
  | .ifs c a b, ρ, h => SO.ofE ρ ((evE C lo c ρ h).bind truO) fun k h1 => if k then exSs a ρ h1 else exSs b ρ h1
  | .for_ t i b, ρ, h => SO.ofE ρ (evI C lo i ρ h) fun xs h1 => forL t (exSs b) xs ρ h1
  | .whl c b, ρ, h => whlL (fun ρ1 h1 => (evE C lo c ρ1 h1).bind truO) (exSs b) fuel ρ h
  | .brk, ρ, h => .ok (.brk ρ) h
  | .cnt, ρ, h => .ok (.cnt ρ) h
  | .pass, ρ, h => .ok (.nxt ρ) h
  | .rais c fs es, ρ, h => SO.ofE ρ (evEs C lo es ρ h) fun xs h1 => SO.ofE ρ (optO (allPV xs) h1) fun vs h2 => if fs.length = vs.length then .exc ⟨c, fs.zip vs⟩ ρ h2 else .bad
  | .tryx b hs, ρ, h => (exSs b ρ h).caught fun e ρ1 h1 => exHs hs e ρ1 h1
  | .frz i s, ρ, h => SO.ofE ρ (optO (frzO lo i ρ h) h) fun q _ => exS s q.1 q.2
def exSs : Ss → Env → AH → SO
  | .nil, ρ, h => .ok (.nxt ρ) h
  | .cons s ss, ρ, h => (exS s ρ h).next fun ρ1 h1 => exSs ss ρ1 h1
def exHs : Hs → ExcV → Env → AH → SO
  | .nil, e, ρ, h => .exc e ρ h
  | .cons c b hs, e, ρ, h => if c ∈ an e.cls then (exSs b ρ h).nox else exHs hs e ρ h
end
end

/-! ### calls -/
structure Pg where
  fn : String → Option Fn
  an : Anc

/-- what a def leaves behind -/
def leave (keep : Bool) (lo : Nat) (v : RV) (h : AH) : Out RV :=
  match v with
  | .pv v => if keep then .ok (.pv v) h else .ok (.pv v) (h.take lo)
  | .ref p =>
    if keep then .ok (.ref p) h
    else if p < lo then .ok (.ref p) (h.take lo)
    else match h[p]? with
      | some (.lst xs) => match allPV xs with
        | some ys => if ys.length ≤ line then .ok (.pv (.lst ys)) (h.take lo) else .bad
        | none => .bad
      | _ => .bad
def leaveX (keep : Bool) (lo : Nat) (e : ExcV) (h : AH) : Out RV := if keep then .exc e h else .exc e (h.take lo)

/-- how a def ends -/
def SO.fin (keep : Bool) (lo : Nat) : SO → Out RV
  | .ok (.ret v) h => leave keep lo v h
  | .ok (.nxt _) h => leave keep lo (.pv .non) h
  | .exc e _ h => leaveX keep lo e h
  | _ => .bad
@[simp] theorem SO.fin_ret (k : Bool) (lo : Nat) (v : RV) (h : AH) : (SO.ok (.ret v) h).fin k lo = leave k lo v h := (rfl)
@[simp] theorem SO.fin_nxt (k : Bool) (lo : Nat) (ρ : Env) (h : AH) : (SO.ok (.nxt ρ) h).fin k lo = leave k lo (.pv .non) h := (rfl)
@[simp] theorem SO.fin_exc (k : Bool) (lo : Nat) (e : ExcV) (ρ : Env) (h : AH) : (SO.exc e ρ h).fin k lo = leaveX k lo e h := (rfl)
def runFn (P : Pg) (C : Calls) (f : Fn) (args : List RV) (h : AH) : Out RV :=
  if args.length = f.np then
    (exSs C h.length P.an f.body (args.map some ++ List.replicate (f.ns - f.np) none) h).fin f.keep h.length
  else .bad

def callN (P : Pg) : Nat → Calls
  | 0 => fun _ _ _ => .bad
  | n + 1 => fun f args h => match P.fn f with
    | some fn => runFn P (callN P n) fn args h
    | none => .bad
end D

set_option Elab.async false
set_option linter.all false
/-! Fd6s: sorting. -/
namespace D
open PySem
section
variable {α : Type} (lt : α → α → Bool)
def insB (x : α) : List α → List α
  | [] => [x]
  | y :: ys => if lt y x then y :: insB x ys else x :: y :: ys
def sortB : List α → List α
  | [] => []
  | x :: xs => insB lt x (sortB xs)
variable {lt}
theorem insB_perm (x : α) : ∀ xs, (insB lt x xs).Perm (x :: xs)
  | [] => .refl _
  | y :: ys => by
    unfold insB
    split
    · exact ((insB_perm x ys).cons y).trans (.swap x y ys)
    · exact .refl _
theorem sortB_perm : ∀ xs : List α, (sortB lt xs).Perm xs
  | [] => .refl _
  | x :: xs => (insB_perm x _).trans ((sortB_perm xs).cons x)
/-- a strict order, total -/
structure Lin (lt : α → α → Bool) : Prop where
  ir : ∀ a, lt a a = false
  tr : ∀ a b c, lt a b = true → lt b c = true → lt a c = true
  tot : ∀ a b, lt a b = false → lt b a = false → a = b
theorem Lin.as (L : Lin lt) {a b : α} (h : lt a b = true) : lt b a = false := by
  cases q : lt b a with
  | false => rfl
  | true => have := L.tr a b a h q; rw [L.ir] at this; cases this
/-- not above -/
theorem Lin.le_tr (L : Lin lt) {a b c : α} (h1 : lt b a = false) (h2 : lt c b = false) : lt c a = false := by
  cases q : lt c a with
  | false => rfl
  | true =>
    cases p : lt a b with
    | true => have := L.tr c a b q p; rw [h2] at this; cases this
    | false => have := L.tot a b p h1; subst this; rw [h2] at q; cases q
theorem insB_sorted (L : Lin lt) {x : α} : ∀ {xs : List α}, xs.Pairwise (fun a b => lt b a = false) → (insB lt x xs).Pairwise (fun a b => lt b a = false)
  | [], _ => by simp [insB]
  | y :: ys, h => by
    rw [List.pairwise_cons] at h
    unfold insB
    split
    · rename_i c
      refine List.pairwise_cons.mpr ⟨fun z hz => ?_, insB_sorted L h.2⟩
      rcases List.mem_cons.mp ((insB_perm x ys).mem_iff.mp hz) with rfl | hz
      · exact L.as c
      · exact h.1 z hz
    · rename_i c
      have c : lt y x = false := by simpa using c
      refine List.pairwise_cons.mpr ⟨fun z hz => ?_, List.pairwise_cons.mpr h⟩
      rcases List.mem_cons.mp hz with rfl | hz
      · exact c
      · exact L.le_tr c (h.1 z hz)
theorem sortB_sorted (L : Lin lt) : ∀ xs : List α, (sortB lt xs).Pairwise (fun a b => lt b a = false)
  | [] => .nil
  | x :: xs => insB_sorted L (sortB_sorted L xs)
theorem sortB_uniq (L : Lin lt) {xs ys : List α} (p : ys.Perm xs) (s : ys.Pairwise (fun a b => lt b a = false)) : ys = sortB lt xs :=
  List.Perm.eq_of_pairwise (fun a b _ _ h1 h2 => L.tot a b h2 h1) s (sortB_sorted L xs) (p.trans (sortB_perm xs).symm)
theorem insB_map {f : α → PV} (hf : ∀ a b, pyLt (f a) (f b) = lt a b) (x : α) : ∀ xs : List α, insP (f x) (xs.map f) = (insB lt x xs).map f
  | [] => rfl
  | y :: ys => by
    simp only [List.map_cons, insP, insB, hf]
    split
    · simp [insB_map hf x ys]
    · rfl
theorem sortB_map {f : α → PV} (hf : ∀ a b, pyLt (f a) (f b) = lt a b) : ∀ xs : List α, sortP (xs.map f) = (sortB lt xs).map f
  | [] => rfl
  | x :: xs => by
    simp only [List.map_cons, sortP, sortB]
    rw [sortB_map hf xs, insB_map hf]
end
/-- ints -/
def ltI (i j : Int) : Bool := decide (i < j)
theorem lin_int : Lin ltI := ⟨fun a => by simp [ltI], fun a b c h1 h2 => by simp only [ltI, decide_eq_true_eq] at *; omega, fun a b h1 h2 => by simp only [ltI, decide_eq_false_iff_not] at *; omega⟩
theorem ltNat_iff' : ∀ {s t : List Nat}, ltNat s t = decide (s < t)
  | [], [] => by simp [ltNat]
  | [], _ :: _ => by simp [ltNat]
  | _ :: _, [] => by simp [ltNat]
  | x :: xs, y :: ys => by
    simp only [ltNat]
    split
    · rename_i e
      subst e
      rw [ltNat_iff']
      simp [List.cons_lt_cons_iff]
    · rename_i e
      simp [List.cons_lt_cons_iff, e]
theorem lin_str : Lin ltNat := by
  refine ⟨fun a => ?_, fun a b c h1 h2 => ?_, fun a b h1 h2 => ?_⟩
  · rw [ltNat_iff']; simp [List.lt_irrefl]
  · rw [ltNat_iff'] at *
    simp only [decide_eq_true_eq] at *
    exact List.lt_trans h1 h2
  · rw [ltNat_iff'] at *
    simp only [decide_eq_false_iff_not] at *
    exact List.le_antisymm (List.not_lt.mp h2) (List.not_lt.mp h1)
theorem sort_ints (ns : List Int) : sortP (ns.map .int) = (sortB ltI ns).map .int := sortB_map (fun a b => by simp [pyLt, ltI]) ns
theorem sort_strs (ss : List (List Nat)) : sortP (ss.map .str) = (sortB ltNat ss).map .str := sortB_map (fun a b => by simp [pyLt]) ss
end D

set_option Elab.async false
set_option linter.all false
set_option maxRecDepth 100000
set_option maxHeartbeats 1000000
/-! Fd40: the evaluator's equations for simp; plain laws rest on them. -/
namespace D.Pl
open PySem D
theorem call_eq {P : Pg} {n : Nat} {f : String} {fn : Fn} (h : P.fn f = some fn) (args : List RV) (hp : AH) : callN P (n + 1) f args hp = runFn P (callN P n) fn args hp := by simp only [callN, h]
section
variable (C : Calls) (lo : Nat) (an : Anc) (ρ : Env) (h : AH)
@[scoped simp] theorem e_var (i : Nat) : evE C lo (.var i) ρ h = varO i ρ h := (rfl)
@[scoped simp] theorem e_cst (v : PV) : evE C lo (.cst v) ρ h = .ok (.pv v) h := (rfl)
@[scoped simp] theorem e_bin (m : Bool) (o : Op2) (a b : E) : evE C lo (.bin m o a b) ρ h = (evE C lo a ρ h).bind fun x h1 => (evE C lo b ρ h1).bind fun y h2 => bop m o x y h2 := (rfl)
@[scoped simp] theorem e_neg (a : E) : evE C lo (.neg a) ρ h = (evE C lo a ρ h).bind negO := (rfl)
@[scoped simp] theorem e_inv (a : E) : evE C lo (.inv a) ρ h = (evE C lo a ρ h).bind invO := (rfl)
@[scoped simp] theorem e_cmp (o : Cmp) (a b : E) : evE C lo (.cmp o a b) ρ h = (evE C lo a ρ h).bind fun x h1 => (evE C lo b ρ h1).bind fun y h2 => cmpO o x y h2 := (rfl)
@[scoped simp] theorem e_chain (o p : Cmp) (a b c : E) : evE C lo (.chain o p a b c) ρ h = (evE C lo a ρ h).bind fun x h1 => (evE C lo b ρ h1).bind fun y h2 => (optO (cmpR o x y h2) h2).bind fun k h3 => if k then (evE C lo c ρ h3).bind fun z h4 => cmpO p y z h4 else .ok (.pv (.bl false)) h3 := (rfl)
@[scoped simp] theorem e_not (a : E) : evE C lo (.not_ a) ρ h = ((evE C lo a ρ h).bind truO).bind fun k h1 => .ok (.pv (.bl (!k))) h1 := (rfl)
@[scoped simp] theorem e_and (es : Es) : evE C lo (.and_ es) ρ h = evAnd C lo es ρ h := (rfl)
@[scoped simp] theorem e_or (es : Es) : evE C lo (.or_ es) ρ h = evOr C lo es ρ h := (rfl)
@[scoped simp] theorem e_ifx (c a b : E) : evE C lo (.ifx c a b) ρ h = ((evE C lo c ρ h).bind truO).bind fun k h1 => if k then evE C lo a ρ h1 else evE C lo b ρ h1 := (rfl)
@[scoped simp] theorem e_tup (es : Es) : evE C lo (.tup es) ρ h = (evEs C lo es ρ h).bind newT := (rfl)
@[scoped simp] theorem e_lst (m : Bool) (es : Es) : evE C lo (.lst m es) ρ h = (evEs C lo es ρ h).bind (newL m) := (rfl)
@[scoped simp] theorem e_idx (a b : E) : evE C lo (.idx a b) ρ h = (evE C lo a ρ h).bind fun x h1 => (evE C lo b ρ h1).bind fun y h2 => idxR x y h2 := (rfl)
@[scoped simp] theorem e_slc (m : Bool) (a l u : E) : evE C lo (.slc m a l u) ρ h = (evE C lo a ρ h).bind fun x h1 => ((evE C lo l ρ h1).bind (prtO l.isNon)).bind fun y h2 => ((evE C lo u ρ h2).bind (prtO u.isNon)).bind fun z h3 => slcR m x y z h3 := (rfl)
@[scoped simp] theorem e_rev (m : Bool) (a : E) : evE C lo (.rev m a) ρ h = (evE C lo a ρ h).bind (revR m) := (rfl)
@[scoped simp] theorem e_glob (x : String) (v : PV) : evE C lo (.glob x v) ρ h = .ok (.pv v) h := (rfl)
@[scoped simp] theorem e_attr (a : E) (f : String) (cs : List String) : evE C lo (.attr a f cs) ρ h = (evE C lo a ρ h).bind (attrR cs f) := (rfl)
@[scoped simp] theorem e_call (f : String) (es : Es) : evE C lo (.call f es) ρ h = (evEs C lo es ρ h).bind (C f) := (rfl)
@[scoped simp] theorem e_callK (f : String) (es : Es) (ks : List String) (vs : Es) (pm : List Nat) : evE C lo (.callK f es ks vs pm) ρ h = (evEs C lo es ρ h).bind fun xs h1 => (evEs C lo vs ρ h1).bind fun ys h2 => C f (pm.filterMap fun i => (xs ++ ys)[i]?) h2 := (rfl)
@[scoped simp] theorem e_meth (a : E) (m : String) (tb : List (String × String)) (es : Es) : evE C lo (.meth a m tb es) ρ h = (evE C lo a ρ h).bind fun x h1 => (optO ((clsR x m h1).bind fun c => lookF c tb) h1).bind fun f h2 => (evEs C lo es ρ h2).bind fun xs h3 => C f (x :: xs) h3 := (rfl)
@[scoped simp] theorem e_make (m : Bool) (c f : String) (es : Es) : evE C lo (.make m c f es) ρ h = (evEs C lo es ρ h).bind fun xs h1 => (C f (.ref h1.length :: xs) (h1 ++ [.obj c []])).bind fun v h2 => match v with
    | .pv .non => madeR m h1.length h2
    | _ => .bad := (rfl)
@[scoped simp] theorem e_isi (a : E) (t : String) : evE C lo (.isi a t) ρ h = (evE C lo a ρ h).bind (isiO t) := (rfl)
@[scoped simp] theorem e_bi (b : String) (es : Es) : evE C lo (.bi b es) ρ h = (evEs C lo es ρ h).bind (biR b) := (rfl)
@[scoped simp] theorem e_bi1s (m : Bool) (b : String) (e : E) : evE C lo (.bi1 m b (.seq e)) ρ h = (evE C lo e ρ h).bind (bi1V m b) := (rfl)
@[scoped simp] theorem e_bi1r (m : Bool) (b : String) (es : Es) : evE C lo (.bi1 m b (.rng es)) ρ h = (evI C lo (.rng es) ρ h).bind (bi1R m b) := (rfl)
@[scoped simp] theorem e_bi1g (m : Bool) (b : String) (t : T) (i : It) (cs : Es) (el : E) : evE C lo (.bi1 m b (.gen t i cs el)) ρ h = (evI C lo (.gen t i cs el) ρ h).bind (bi1R m b) := (rfl)
@[scoped simp] theorem e_bm (m : String) (a : E) (es : Es) : evE C lo (.bm m a es) ρ h = (evE C lo a ρ h).bind fun x h1 => (optO (bmK m x h1) h1).bind fun id h2 => (evEs C lo es ρ h2).bind fun xs h3 => bmR lo id x xs h3 := (rfl)
@[scoped simp] theorem e_join (a b : E) : evE C lo (.join a (.seq b)) ρ h = (evE C lo a ρ h).bind fun x h1 => if isS x then (evE C lo b ρ h1).bind fun y h2 => joinV x y h2 else .bad := (rfl)
@[scoped simp] theorem e_lc (m : Bool) (t : T) (i : It) (cs : Es) (el : E) : evE C lo (.lc m t i cs el) ρ h = (evI C lo i ρ h).bind fun xs h1 => (lcL t (wipe ρ t.slots) (evTs C lo cs) (evE C lo el) xs h1).nox.bind (newL m) := (rfl)
@[scoped simp] theorem es_nil' : evEs C lo .nil ρ h = .ok [] h := (rfl)
@[scoped simp] theorem es_cons' (e : E) (es : Es) : evEs C lo (.cons e es) ρ h = (evE C lo e ρ h).bind fun x h1 => (evEs C lo es ρ h1).bind fun xs h2 => .ok (x :: xs) h2 := (rfl)
@[scoped simp] theorem ea_one (e : E) : evAnd C lo (.cons e .nil) ρ h = (evE C lo e ρ h).bind fun x h1 => .ok x h1 := (rfl)
@[scoped simp] theorem ea_more (e f : E) (es : Es) : evAnd C lo (.cons e (.cons f es)) ρ h = (evE C lo e ρ h).bind fun x h1 => (truO x h1).bind fun k h2 => if k then evAnd C lo (.cons f es) ρ h2 else .ok x h2 := (rfl)
@[scoped simp] theorem eo_one (e : E) : evOr C lo (.cons e .nil) ρ h = (evE C lo e ρ h).bind fun x h1 => .ok x h1 := (rfl)
@[scoped simp] theorem eo_more (e f : E) (es : Es) : evOr C lo (.cons e (.cons f es)) ρ h = (evE C lo e ρ h).bind fun x h1 => (truO x h1).bind fun k h2 => if k then .ok x h2 else evOr C lo (.cons f es) ρ h2 := (rfl)
@[scoped simp] theorem et_nil : evTs C lo .nil ρ h = .ok true h := (rfl)
@[scoped simp] theorem et_one (e : E) (es : Es) : evTs C lo (.cons e es) ρ h = ((evE C lo e ρ h).bind truO).bind fun k h1 => if k then evTs C lo es ρ h1 else .ok false h1 := (rfl)
@[scoped simp] theorem ei_seq (e : E) : evI C lo (.seq e) ρ h = (evE C lo e ρ h).bind itmO := (rfl)
@[scoped simp] theorem ei_rng (es : Es) : evI C lo (.rng es) ρ h = (evEs C lo es ρ h).bind rngR := (rfl)
@[scoped simp] theorem ei_enm (e : E) : evI C lo (.enm e) ρ h = (evE C lo e ρ h).bind fun x h1 => optO (enmR x) h1 := (rfl)
@[scoped simp] theorem ei_zip (a b : E) : evI C lo (.zip a b) ρ h = (evE C lo a ρ h).bind fun x h1 => (evE C lo b ρ h1).bind fun y h2 => optO (zipR x y) h2 := (rfl)
@[scoped simp] theorem ei_gen (t : T) (i : It) (cs : Es) (el : E) : evI C lo (.gen t i cs el) ρ h = (evI C lo i ρ h).bind fun xs h1 => (lcL t (wipe ρ t.slots) (evTs C lo cs) (evE C lo el) xs h1).nox := (rfl)
@[scoped simp] theorem x_asg (t : T) (e : E) : exS C lo an (.asg t e) ρ h = SO.ofE ρ (evE C lo e ρ h) fun v h1 => putO t ρ v h1 := (rfl)
@[scoped simp] theorem x_setI (a i v : E) : exS C lo an (.setI a i v) ρ h = SO.ofE ρ (evE C lo v ρ h) fun x h1 => SO.ofE ρ (evE C lo a ρ h1) fun y h2 => SO.ofE ρ (evE C lo i ρ h2) fun z h3 => SO.ofE ρ (setR lo y z x h3) fun _ h4 => .ok (.nxt ρ) h4 := (rfl)
@[scoped simp] theorem x_setF (a : E) (f : String) (cs : List String) (v : E) : exS C lo an (.setF a f cs v) ρ h = SO.ofE ρ (evE C lo v ρ h) fun x h1 => SO.ofE ρ (evE C lo a ρ h1) fun y h2 => SO.ofE ρ (setFR lo cs y f x h2) fun _ h4 => .ok (.nxt ρ) h4 := (rfl)
@[scoped simp] theorem x_aug (i : Nat) (o : Op2) (e : E) : exS C lo an (.aug i o e) ρ h = SO.ofE ρ (varO i ρ h) fun x h0 => SO.ofE ρ (evE C lo e ρ h0) fun y h1 => SO.ofE ρ (iopO o x y h1) fun z h2 => .ok (.nxt (ρ.set i (some z))) h2 := (rfl)
@[scoped simp] theorem x_par (is : List Nat) (es : Es) : exS C lo an (.par is es) ρ h = SO.ofE ρ (evEs C lo es ρ h) fun xs h1 => SO.ofE ρ (optO (setAll ρ is xs) h1) fun ρ1 h2 => .ok (.nxt ρ1) h2 := (rfl)
@[scoped simp] theorem x_augI (a i : E) (o : Op2) (e : E) : exS C lo an (.augI a i o e) ρ h = SO.ofE ρ (evE C lo a ρ h) fun x h1 => SO.ofE ρ (evE C lo i ρ h1) fun y h2 => SO.ofE ρ (idxL x y h2) fun z h3 => SO.ofE ρ (evE C lo e ρ h3) fun u h4 =>
    SO.ofE ρ (iopO o z u h4) fun r h5 => SO.ofE ρ (setR lo x y r h5) fun _ h6 => .ok (.nxt ρ) h6 := (rfl)
@[scoped simp] theorem x_ex (e : E) : exS C lo an (.ex e) ρ h = SO.ofE ρ (evE C lo e ρ h) fun _ h1 => .ok (.nxt ρ) h1 := (rfl)
@[scoped simp] theorem x_ret (e : E) : exS C lo an (.ret e) ρ h = SO.ofE ρ (evE C lo e ρ h) fun v h1 => .ok (.ret v) h1 := (rfl)
@[scoped simp] theorem x_retN : exS C lo an .retN ρ h = .ok (.ret (.pv .non)) h := (rfl)
@[scoped simp] theorem x_ifs (c : E) (a b : Ss) : exS C lo an (.ifs c a b) ρ h = SO.ofE ρ ((evE C lo c ρ h).bind truO) fun k h1 => if k then exSs C lo an a ρ h1 else exSs C lo an b ρ h1 := (rfl)
@[scoped simp] theorem x_for (t : T) (i : It) (b : Ss) : exS C lo an (.for_ t i b) ρ h = SO.ofE ρ (evI C lo i ρ h) fun xs h1 => forL t (exSs C lo an b) xs ρ h1 := (rfl)
@[scoped simp] theorem x_whl (c : E) (b : Ss) : exS C lo an (.whl c b) ρ h = whlL (fun ρ1 h1 => (evE C lo c ρ1 h1).bind truO) (exSs C lo an b) fuel ρ h := (rfl)
@[scoped simp] theorem x_brk : exS C lo an .brk ρ h = .ok (.brk ρ) h := (rfl)
@[scoped simp] theorem x_cnt : exS C lo an .cnt ρ h = .ok (.cnt ρ) h := (rfl)
@[scoped simp] theorem x_pass : exS C lo an .pass ρ h = .ok (.nxt ρ) h := (rfl)
@[scoped simp] theorem x_rais (c : String) (fs : List String) (es : Es) : exS C lo an (.rais c fs es) ρ h = SO.ofE ρ (evEs C lo es ρ h) fun xs h1 => SO.ofE ρ (optO (allPV xs) h1) fun vs h2 => if fs.length = vs.length then .exc ⟨c, fs.zip vs⟩ ρ h2 else .bad := (rfl)
@[scoped simp] theorem x_try (b : Ss) (hs : Hs) : exS C lo an (.tryx b hs) ρ h = (exSs C lo an b ρ h).caught fun e ρ1 h1 => exHs C lo an hs e ρ1 h1 := (rfl)
@[scoped simp] theorem x_frz (i : Nat) (s : S) : exS C lo an (.frz i s) ρ h = SO.ofE ρ (optO (frzO lo i ρ h) h) fun q _ => exS C lo an s q.1 q.2 := (rfl)
@[scoped simp] theorem xs_nil : exSs C lo an .nil ρ h = .ok (.nxt ρ) h := (rfl)
@[scoped simp] theorem xs_cons (s : S) (ss : Ss) : exSs C lo an (.cons s ss) ρ h = (exS C lo an s ρ h).next fun ρ1 h1 => exSs C lo an ss ρ1 h1 := (rfl)
@[scoped simp] theorem xh_nil (e : ExcV) : exHs C lo an .nil e ρ h = .exc e ρ h := (rfl)
@[scoped simp] theorem xh_cons (c : String) (b : Ss) (hs : Hs) (e : ExcV) : exHs C lo an (.cons c b hs) e ρ h = if c ∈ an e.cls then (exSs C lo an b ρ h).nox else exHs C lo an hs e ρ h := (rfl)
@[scoped simp] theorem for_nil (t : T) (b : Env → AH → SO) : forL t b [] ρ h = .ok (.nxt ρ) h := (rfl)
theorem for_cons (t : T) (b : Env → AH → SO) (x : RV) (xs : List RV) : forL t b (x :: xs) ρ h = SO.ofE ρ (optO (t.put ρ x) h) fun ρ1 h1 => (b ρ1 h1).turn fun ρ2 h2 => forL t b xs ρ2 h2 := rfl
end
end D.Pl

set_option Elab.async false
set_option linter.all false
/-! Fd41: bits of plan numbers. -/
namespace D.Pl
open PySem D
/-- the places of n questions: place i is bit n-1-i -/
def bitAt (n k i : Nat) : Nat := (k >>> (n - 1 - i)) % 2
theorem bitAt_le (n k i : Nat) : bitAt n k i < 2 := Nat.mod_lt _ (by decide)
theorem bitAt_tb (n k i : Nat) : bitAt n k i = (k.testBit (n - 1 - i)).toNat := by
  unfold bitAt
  rw [Nat.testBit_eq_decide_div_mod_eq, Nat.shiftRight_eq_div_pow]
  rcases Nat.mod_two_eq_zero_or_one (k / 2 ^ (n - 1 - i)) with h | h <;> simp [h]
/-- the codes of number k -/
def codesAt (n k : Nat) : List Nat := (List.range n).map fun i => 2 * i + bitAt n k i
/-- number k has the lot -/
def hasC (n k : Nat) (cs : List Nat) : Bool := cs.all fun c => bitAt n k (c / 2) == c % 2
theorem mem_codesAt {n k c : Nat} : c ∈ codesAt n k ↔ c / 2 < n ∧ bitAt n k (c / 2) = c % 2 := by
  unfold codesAt
  simp only [List.mem_map, List.mem_range]
  constructor
  · rintro ⟨i, hi, rfl⟩
    have := bitAt_le n k i
    have e : (2 * i + bitAt n k i) / 2 = i := by omega
    rw [e]
    omega
  · rintro ⟨h1, h2⟩
    exact ⟨c / 2, h1, by rw [h2]; omega⟩
theorem hasC_iff {n k : Nat} {cs : List Nat} (hc : ∀ c ∈ cs, c / 2 < n) : hasC n k cs = true ↔ ∀ c ∈ cs, c ∈ codesAt n k := by
  unfold hasC
  simp only [List.all_eq_true, beq_iff_eq, mem_codesAt]
  exact ⟨fun h c m => ⟨hc c m, h c m⟩, fun h c m => (h c m).2⟩
def maskOf (n : Nat) (cs : List Nat) : Nat := cs.foldl (fun m c => m ||| 1 <<< (n - 1 - c / 2)) 0
def wantOf (n : Nat) (cs : List Nat) : Nat := cs.foldl (fun w c => w ||| (1 <<< (n - 1 - c / 2)) * (c % 2)) 0
theorem tb_one (a j : Nat) : (1 <<< a).testBit j = decide (a = j) := by
  rw [Nat.one_shiftLeft, Nat.testBit_two_pow]
theorem mask_tb (n : Nat) (j : Nat) : ∀ (cs : List Nat) (m : Nat), (cs.foldl (fun m c => m ||| 1 <<< (n - 1 - c / 2)) m).testBit j = (m.testBit j || cs.any fun c => decide (n - 1 - c / 2 = j))
  | [], m => by simp
  | c :: cs, m => by
    rw [List.foldl_cons, mask_tb n j cs, Nat.testBit_or, tb_one, List.any_cons, Bool.or_assoc]
theorem want_tb (n : Nat) (j : Nat) : ∀ (cs : List Nat) (m : Nat), (cs.foldl (fun w c => w ||| (1 <<< (n - 1 - c / 2)) * (c % 2)) m).testBit j = (m.testBit j || cs.any fun c => decide (n - 1 - c / 2 = j) && decide (c % 2 = 1))
  | [], m => by simp
  | c :: cs, m => by
    have e : ((1 <<< (n - 1 - c / 2)) * (c % 2)).testBit j = (decide (n - 1 - c / 2 = j) && decide (c % 2 = 1)) := by
      rcases Nat.mod_two_eq_zero_or_one c with h | h
      · rw [h]; simp
      · rw [h, Nat.mul_one, tb_one]; simp
    rw [List.foldl_cons, want_tb n j cs, Nat.testBit_or, e, List.any_cons, Bool.or_assoc]
/-- a lot's places are apart -/
def apartC (cs : List Nat) : Prop := ∀ c ∈ cs, ∀ d ∈ cs, c / 2 = d / 2 → c = d
theorem and_mask {n k : Nat} {cs : List Nat} (hc : ∀ c ∈ cs, c / 2 < n) (ap : apartC cs) : k &&& maskOf n cs = wantOf n cs ↔ hasC n k cs = true := by
  have tb : ∀ c ∈ cs, (bitAt n k (c / 2) = c % 2 ↔ k.testBit (n - 1 - c / 2) = decide (c % 2 = 1)) := fun c _ => by
    rw [bitAt_tb]
    rcases Nat.mod_two_eq_zero_or_one c with h | h <;> cases k.testBit (n - 1 - c / 2) <;> simp [h]
  have hs : hasC n k cs = true ↔ ∀ c ∈ cs, k.testBit (n - 1 - c / 2) = decide (c % 2 = 1) := by
    unfold hasC
    simp only [List.all_eq_true, beq_iff_eq]
    exact ⟨fun h c m => (tb c m).mp (h c m), fun h c m => (tb c m).mpr (h c m)⟩
  rw [hs]
  constructor
  · intro e c m
    have q := congrArg (fun z => Nat.testBit z (n - 1 - c / 2)) e
    simp only [Nat.testBit_and, maskOf, wantOf, mask_tb, want_tb, Nat.zero_testBit, Bool.false_or] at q
    have y : (cs.any fun d => decide (n - 1 - d / 2 = n - 1 - c / 2)) = true := List.any_eq_true.mpr ⟨c, m, by simp⟩
    rw [y, Bool.and_true] at q
    rw [q]
    rw [Bool.eq_iff_iff, List.any_eq_true, decide_eq_true_eq]
    constructor
    · rintro ⟨d, md, hd⟩
      simp only [Bool.and_eq_true, decide_eq_true_eq] at hd
      have h1 := hc c m
      have h2 := hc d md
      have : d / 2 = c / 2 := by omega
      rw [← ap d md c m this]; exact hd.2
    · intro h
      exact ⟨c, m, by simp [h]⟩
  · intro h
    apply Nat.eq_of_testBit_eq
    intro j
    simp only [Nat.testBit_and, maskOf, wantOf, mask_tb, want_tb, Nat.zero_testBit, Bool.false_or]
    rw [Bool.eq_iff_iff, Bool.and_eq_true, List.any_eq_true, List.any_eq_true]
    constructor
    · rintro ⟨h1, c, m, hj⟩
      have hj := of_decide_eq_true hj
      have := h c m
      rw [hj, h1] at this
      exact ⟨c, m, by simp [hj, of_decide_eq_true this.symm]⟩
    · rintro ⟨c, m, hj⟩
      simp only [Bool.and_eq_true, decide_eq_true_eq] at hj
      have := h c m
      rw [hj.1] at this
      exact ⟨by rw [this]; simp [hj.2], c, m, by simp [hj.1]⟩
theorem band_nat (a b : Nat) : Builtin.bitAnd (a : Int) (b : Int) = ((a &&& b : Nat) : Int) := by
  rw [PyProof.Rows.bitAnd_pp (Int.natCast_nonneg a) (Int.natCast_nonneg b), Int.toNat_natCast, Int.toNat_natCast]
theorem bnot_nat (a : Nat) : Builtin.bitNot (a : Int) = -(a : Int) - 1 := by unfold Builtin.bitNot; omega
theorem bnot_neg (a : Nat) : Builtin.bitNot (-(a : Int) - 1) = a := by unfold Builtin.bitNot; omega
theorem bor_nat (a b : Nat) : Builtin.bitOr (a : Int) (b : Int) = ((a ||| b : Nat) : Int) := by
  unfold Builtin.bitOr
  rw [bnot_nat, bnot_nat]
  unfold Builtin.bitAnd
  have h1 : decide ((0 : Int) ≤ -(a : Int) - 1) = false := by simp; omega
  have h2 : decide ((0 : Int) ≤ -(b : Int) - 1) = false := by simp; omega
  rw [h1, h2]
  simp only [bnot_neg, Int.toNat_natCast]
  rw [bnot_nat, bnot_neg]
theorem xor_add (a : Nat) : ∀ b : Nat, (a ^^^ b) + (a &&& b) = a ||| b := by
  induction a using Nat.strongRecOn with
  | _ a ih =>
    intro b
    by_cases h : a = 0
    · subst h; simp
    · have q := ih (a / 2) (by omega) (b / 2)
      have e1 := @Nat.xor_div_two a b
      have e2 := @Nat.and_div_two a b
      have e3 := @Nat.or_div_two a b
      have m1 : (a ^^^ b) % 2 = 1 ↔ ¬(a % 2 = 1 ↔ b % 2 = 1) := Nat.xor_mod_two_eq_one
      have m2 : (a &&& b) % 2 = 1 ↔ a % 2 = 1 ∧ b % 2 = 1 := Nat.and_mod_two_eq_one
      have m3 : (a ||| b) % 2 = 1 ↔ a % 2 = 1 ∨ b % 2 = 1 := Nat.or_mod_two_eq_one
      omega
theorem bxor_nat (a b : Nat) : Builtin.bitXor (a : Int) (b : Int) = ((a ^^^ b : Nat) : Int) := by
  unfold Builtin.bitXor
  rw [bor_nat, band_nat]
  have := xor_add a b
  omega
end D.Pl

set_option Elab.async false
set_option linter.all false
/-! Fd42: comprehensions and loops that change no place. -/
namespace D.Pl
open PySem D
/-- a comprehension that only reads -/
theorem lcL_map {α : Type} {t : T} {ρ : Env} {test : Env → AH → Out Bool} {elt : Env → AH → Out RV} {h : AH} (g : α → RV) (ρ' : α → Env) (p : α → Bool) (f : α → RV) : ∀ ys : List α, (∀ y ∈ ys, t.put ρ (g y) = some (ρ' y) ∧ test (ρ' y) h = .ok (p y) h ∧ (p y = true → elt (ρ' y) h = .ok (f y) h)) →
    lcL t ρ test elt (ys.map g) h = .ok ((ys.filter p).map f) h
  | [], _ => rfl
  | y :: ys, hy => by
    obtain ⟨h1, h2, h3⟩ := hy y (by simp)
    have ih := lcL_map g ρ' p f ys fun z hz => hy z (by simp [hz])
    rw [List.map_cons]
    unfold lcL
    rw [h1, optO_some, Out.bind_ok, h2, Out.bind_ok]
    cases q : p y with
    | false => simp [q, ih]
    | true => simp [q, h3 q, ih]
theorem lcL_all {α : Type} {t : T} {ρ : Env} {elt : Env → AH → Out RV} {test : Env → AH → Out Bool} {h : AH} (g : α → RV) (ρ' : α → Env) (f : α → RV) (ys : List α) (hy : ∀ y ∈ ys, t.put ρ (g y) = some (ρ' y) ∧ test (ρ' y) h = .ok true h ∧ elt (ρ' y) h = .ok (f y) h) :
    lcL t ρ test elt (ys.map g) h = .ok (ys.map f) h := by
  have := lcL_map g ρ' (fun _ => true) f ys fun y m => ⟨(hy y m).1, (hy y m).2.1, fun _ => (hy y m).2.2⟩
  rw [this, List.filter_eq_self.mpr (fun _ _ => rfl)]
end D.Pl

set_option Elab.async false
set_option linter.all false
set_option maxRecDepth 100000
set_option maxHeartbeats 1000000
/-! Fd43: walking a list element by element; operations on values, for simp. -/
namespace D.Pl
open PySem D
/-- element by element, some are left out -/
def seqO {α β : Type} (F : α → AH → Out (Option β)) : List α → AH → Out (List β)
  | [], h => .ok [] h
  | y :: ys, h => (F y h).bind fun o h1 => (seqO F ys h1).bind fun r h2 => .ok (match o with | some v => v :: r | none => r) h2
@[scoped simp] theorem lcL_seq (t : T) (ρ : Env) (test : Env → AH → Out Bool) (elt : Env → AH → Out RV) : ∀ (ys : List RV) (h : AH),
    lcL t ρ test elt ys h = seqO (fun y h => (optO (t.put ρ y) h).bind fun ρ' h0 => (test ρ' h0).bind fun b h1 => if b then (elt ρ' h1).bind fun v h2 => .ok (some v) h2 else .ok none h1) ys h
  | [], h => rfl
  | y :: ys, h => by
    unfold lcL seqO
    cases t.put ρ y with
    | none => rfl
    | some ρ' =>
      simp only [optO_some, Out.bind_ok]
      cases test ρ' h with
      | bad => rfl
      | exc e h1 => rfl
      | ok b h1 =>
        simp only [Out.bind_ok]
        cases b with
        | false =>
          simp only [Bool.false_eq_true, if_false, Out.bind_ok, lcL_seq t ρ test elt ys]
          cases seqO _ ys h1 <;> rfl
        | true =>
          simp only [if_true]
          cases elt ρ' h1 with
          | bad => rfl
          | exc e h1 => rfl
          | ok v h2 => simp only [Out.bind_ok, lcL_seq t ρ test elt ys]
@[scoped simp] theorem seqO_map {α β γ : Type} (g : γ → α) (F : α → AH → Out (Option β)) : ∀ (ys : List γ) (h : AH), seqO F (ys.map g) h = seqO (fun y h => F (g y) h) ys h
  | [], h => rfl
  | y :: ys, h => by
    simp only [List.map_cons, seqO, seqO_map g F ys]
theorem seqO_ext {α β : Type} {F G : α → AH → Out (Option β)} : ∀ {ys : List α}, (∀ y, y ∈ ys → ∀ h, F y h = G y h) → ∀ h, seqO F ys h = seqO G ys h
  | [], _, h => rfl
  | y :: ys, e, h => by
    unfold seqO
    rw [e y (by simp)]
    congr 1
    funext o h1
    rw [seqO_ext fun z m => e z (List.mem_cons_of_mem _ m)]
theorem seqO_congr {α β : Type} {F G : α → AH → Out (Option β)} {ys zs : List α} {h k : AH} (e1 : ys = zs) (e2 : h = k) (e : ∀ y, y ∈ zs → ∀ h, F y h = G y h) : seqO F ys h = seqO G zs k := by
  subst e1 e2
  exact seqO_ext e _
@[scoped simp] theorem seqO_pure {α β : Type} (f : α → β) (h : AH) : ∀ ys : List α, seqO (fun y h => .ok (some (f y)) h) ys h = .ok (ys.map f) h
  | [] => rfl
  | y :: ys => by simp [seqO, seqO_pure f h ys]
@[scoped simp] theorem seqO_filter {α β : Type} (P : α → Prop) [DecidablePred P] (f : α → β) (h : AH) : ∀ ys : List α, seqO (fun y h => if P y then .ok (some (f y)) h else .ok none h) ys h = .ok ((ys.filter fun y => decide (P y)).map f) h
  | [] => rfl
  | y :: ys => by
    by_cases p : P y <;> simp [seqO, p, seqO_filter P f h ys]
@[scoped simp] theorem seqO_filterN {α β : Type} (P : α → Prop) [DecidablePred P] (f : α → β) (h : AH) : ∀ ys : List α, seqO (fun y h => if P y then .ok none h else .ok (some (f y)) h) ys h = .ok ((ys.filter fun y => decide (¬ P y)).map f) h
  | [] => rfl
  | y :: ys => by
    by_cases p : P y <;> simp [seqO, p, seqO_filterN P f h ys]
@[scoped simp] theorem filt_tt {α : Type} (xs : List α) : (xs.filter fun _ => true) = xs := List.filter_eq_self.mpr fun _ _ => rfl
/-- the same where F depends on the members and on this heap -/
theorem seqO_at {α β : Type} {F : α → AH → Out (Option β)} (p : α → Bool) (f : α → β) (h : AH) : ∀ {ys : List α}, (∀ y, y ∈ ys → F y h = .ok (if p y then some (f y) else none) h) → seqO F ys h = .ok ((ys.filter p).map f) h
  | [], _ => rfl
  | y :: ys, e => by
    unfold seqO
    rw [e y (by simp), Out.bind_ok, seqO_at p f h fun z m => e z (List.mem_cons_of_mem _ m)]
    cases q : p y <;> simp [q]
theorem seqO_all {α β : Type} {F : α → AH → Out (Option β)} (f : α → β) (h : AH) {ys : List α} (e : ∀ y, y ∈ ys → F y h = .ok (some (f y)) h) : seqO F ys h = .ok (ys.map f) h := by
  have := seqO_at (F := F) (fun _ => true) f h (ys := ys) (by simpa using e)
  rwa [List.filter_eq_self.mpr (fun _ _ => rfl)] at this
/-- element by element over a state -/
def mapSt {α β σ : Type} (f : α → σ → β × σ) : List α → σ → List β × σ
  | [], s => ([], s)
  | y :: ys, s => ((f y s).1 :: (mapSt f ys (f y s).2).1, (mapSt f ys (f y s).2).2)
theorem seqO_st {α β γ σ : Type} {F : α → AH → Out (Option β)} (H : σ → AH) (f : α → σ → γ × σ) (e : γ → β) : ∀ {ys : List α} (s : σ), (∀ y, y ∈ ys → ∀ s, F y (H s) = .ok (some (e (f y s).1)) (H (f y s).2)) → seqO F ys (H s) = .ok ((mapSt f ys s).1.map e) (H (mapSt f ys s).2)
  | [], s, _ => rfl
  | y :: ys, s, k => by
    unfold seqO
    rw [k y (by simp) s, Out.bind_ok, seqO_st H f e _ fun z m => k z (List.mem_cons_of_mem _ m)]
    rfl
theorem mapSt_app {α β σ : Type} (f : α → σ → β × σ) (y : α) : ∀ (p : List α) (s : σ), mapSt f (p ++ [y]) s = ((mapSt f p s).1 ++ [(f y (mapSt f p s).2).1], (f y (mapSt f p s).2).2)
  | [], s => rfl
  | x :: p, s => by simp [mapSt, mapSt_app f y p]
theorem mapSt_length {α β σ : Type} (f : α → σ → β × σ) : ∀ (ys : List α) (s : σ), (mapSt f ys s).1.length = ys.length
  | [], s => rfl
  | y :: ys, s => by simp [mapSt, mapSt_length f ys]
theorem mapSt_mem {α β σ : Type} (f : α → σ → β × σ) : ∀ (ys : List α) (s : σ) (b : β), b ∈ (mapSt f ys s).1 → ∃ y ∈ ys, ∃ s', b = (f y s').1
  | [], s, b, m => by simp [mapSt] at m
  | y :: ys, s, b, m => by
    simp only [mapSt, List.mem_cons] at m
    rcases m with m | m
    · exact ⟨y, by simp, s, m⟩
    · obtain ⟨z, mz, s', e⟩ := mapSt_mem f ys _ b m
      exact ⟨z, by simp [mz], s', e⟩
/-! ### for -/
/-- a for whose turns go on: E the names, H the heap, by a state -/
theorem for_fold {α σ : Type} {t : T} {b : Env → AH → SO} (g : α → RV) (E : σ → Env) (H : σ → AH) (f : σ → α → σ) : ∀ (ys : List α) (s : σ),
    (∀ y, y ∈ ys → ∀ s, ∃ ρ1, t.put (E s) (g y) = some ρ1 ∧ (b ρ1 (H s) = .ok (.nxt (E (f s y))) (H (f s y)) ∨ b ρ1 (H s) = .ok (.cnt (E (f s y))) (H (f s y)))) →
    forL t b (ys.map g) (E s) (H s) = .ok (.nxt (E (ys.foldl f s))) (H (ys.foldl f s))
  | [], s, _ => rfl
  | y :: ys, s, k => by
    obtain ⟨ρ1, e1, e2⟩ := k y (by simp) s
    have ih := for_fold g E H f ys (f s y) fun z m => k z (List.mem_cons_of_mem _ m)
    rw [List.map_cons, for_cons, e1]
    rcases e2 with e2 | e2 <;> simp [e2, ih]
/-- the same with an invariant of the state -/
theorem for_foldI {α σ : Type} {t : T} {b : Env → AH → SO} (g : α → RV) (E : σ → Env) (H : σ → AH) (f : σ → α → σ) (I : σ → Prop) : ∀ (ys : List α) (s : σ), I s →
    (∀ y, y ∈ ys → ∀ s, I s → I (f s y) ∧ ∃ ρ1, t.put (E s) (g y) = some ρ1 ∧ (b ρ1 (H s) = .ok (.nxt (E (f s y))) (H (f s y)) ∨ b ρ1 (H s) = .ok (.cnt (E (f s y))) (H (f s y)))) →
    forL t b (ys.map g) (E s) (H s) = .ok (.nxt (E (ys.foldl f s))) (H (ys.foldl f s)) ∧ I (ys.foldl f s)
  | [], s, i, _ => ⟨rfl, i⟩
  | y :: ys, s, i, k => by
    obtain ⟨i1, ρ1, e1, e2⟩ := k y (by simp) s i
    have ih := for_foldI g E H f I ys (f s y) i1 fun z m => k z (List.mem_cons_of_mem _ m)
    rw [List.map_cons, for_cons, e1]
    rcases e2 with e2 | e2 <;> simp [e2, ih]
/-- a for that may leave by a return -/
theorem for_ret {α σ : Type} {t : T} {b : Env → AH → SO} (g : α → RV) (E : σ → Env) (H : σ → AH) (f : σ → α → σ) (I : σ → Prop) (q : σ → α → Bool) (v : RV) : ∀ (ys : List α) (s : σ), I s →
    (∀ y, y ∈ ys → ∀ s, I s → ∃ ρ1, t.put (E s) (g y) = some ρ1 ∧ if q s y then b ρ1 (H s) = .ok (.ret v) (H (f s y)) else I (f s y) ∧ b ρ1 (H s) = .ok (.nxt (E (f s y))) (H (f s y))) →
    (∃ s', forL t b (ys.map g) (E s) (H s) = .ok (.nxt (E s')) (H s') ∧ I s') ∨ (∃ s', forL t b (ys.map g) (E s) (H s) = .ok (.ret v) (H s') ∧ ∃ y ∈ ys, ∃ s1, I s1 ∧ q s1 y = true)
  | [], s, i, _ => .inl ⟨s, rfl, i⟩
  | y :: ys, s, i, k => by
    obtain ⟨ρ1, e1, e2⟩ := k y (by simp) s i
    cases c : q s y with
    | true =>
      rw [c, if_pos rfl] at e2
      refine .inr ⟨f s y, ?_, y, by simp, s, i, c⟩
      rw [List.map_cons, for_cons, e1]; simp [e2]
    | false =>
      rw [c] at e2
      simp only [Bool.false_eq_true, if_false] at e2
      rcases for_ret g E H f I q v ys (f s y) e2.1 fun z m => k z (List.mem_cons_of_mem _ m) with ⟨s', h1, h2⟩ | ⟨s', h1, z, m, s1, h2⟩
      · refine .inl ⟨s', ?_, h2⟩
        rw [List.map_cons, for_cons, e1]; simp [e2.2, h1]
      · refine .inr ⟨s', ?_, z, by simp [m], s1, h2⟩
        rw [List.map_cons, for_cons, e1]; simp [e2.2, h1]
/-! by what was walked so far -/
theorem for_pre_aux {α : Type} {t : T} {b : Env → AH → SO} (g : α → RV) (E : List α → Env) (H : List α → AH) (ys : List α)
    (k : ∀ p y r, ys = p ++ y :: r → ∃ ρ1, t.put (E p) (g y) = some ρ1 ∧ (b ρ1 (H p) = .ok (.nxt (E (p ++ [y]))) (H (p ++ [y])) ∨ b ρ1 (H p) = .ok (.cnt (E (p ++ [y]))) (H (p ++ [y])))) : ∀ p r, ys = p ++ r →
    forL t b (r.map g) (E p) (H p) = .ok (.nxt (E ys)) (H ys)
  | p, [], e => by rw [List.append_nil] at e; subst e; rfl
  | p, y :: r, e => by
    obtain ⟨ρ1, e1, e2⟩ := k p y r e
    have ih := for_pre_aux g E H ys k (p ++ [y]) r (by rw [e, List.append_assoc]; rfl)
    rw [List.map_cons, for_cons, e1]
    rcases e2 with e2 | e2 <;> simp [e2, ih]
theorem for_pre {α : Type} {t : T} {b : Env → AH → SO} (g : α → RV) (E : List α → Env) (H : List α → AH) (ys : List α)
    (k : ∀ p y r, ys = p ++ y :: r → ∃ ρ1, t.put (E p) (g y) = some ρ1 ∧ (b ρ1 (H p) = .ok (.nxt (E (p ++ [y]))) (H (p ++ [y])) ∨ b ρ1 (H p) = .ok (.cnt (E (p ++ [y]))) (H (p ++ [y])))) :
    forL t b (ys.map g) (E []) (H []) = .ok (.nxt (E ys)) (H ys) := for_pre_aux g E H ys k [] ys rfl
theorem for_st {α : Type} {t : T} {b : Env → AH → SO} {g : α → RV} {ρ : Env} {h : AH} {ys : List α} (E : List α → Env) (H : List α → AH) (hr : ρ = E []) (hh : h = H [])
    (k : ∀ p y r, ys = p ++ y :: r → ∃ ρ1, t.put (E p) (g y) = some ρ1 ∧ (b ρ1 (H p) = .ok (.nxt (E (p ++ [y]))) (H (p ++ [y])) ∨ b ρ1 (H p) = .ok (.cnt (E (p ++ [y]))) (H (p ++ [y])))) :
    forL t b (ys.map g) ρ h = .ok (.nxt (E ys)) (H ys) := by
  subst hr hh
  exact for_pre g E H ys k
/-- the same where no place is changed -/
theorem for_pur {α : Type} {t : T} {b : Env → AH → SO} {g : α → RV} {ρ : Env} {h : AH} {ys : List α} (E : List α → Env) (hr : ρ = E [])
    (k : ∀ p y r, ys = p ++ y :: r → ∃ ρ1, t.put (E p) (g y) = some ρ1 ∧ (b ρ1 h = .ok (.nxt (E (p ++ [y]))) h ∨ b ρ1 h = .ok (.cnt (E (p ++ [y]))) h)) :
    forL t b (ys.map g) ρ h = .ok (.nxt (E ys)) h := by
  subst hr
  exact for_pre g E (fun _ => h) ys k
/-- until one is found -/
theorem for_find_aux {α : Type} {t : T} {b : Env → AH → SO} (g : α → RV) (E : List α → Env) (h : AH) (q : α → Bool) (v : α → RV) (ys : List α)
    (k : ∀ p y r, ys = p ++ y :: r → (∀ z ∈ p, q z = false) → ∃ ρ1, t.put (E p) (g y) = some ρ1 ∧ if q y then b ρ1 h = .ok (.ret (v y)) h else (b ρ1 h = .ok (.nxt (E (p ++ [y]))) h ∨ b ρ1 h = .ok (.cnt (E (p ++ [y]))) h)) : ∀ p r, ys = p ++ r → (∀ z ∈ p, q z = false) →
    forL t b (r.map g) (E p) h = match r.find? q with | some y => .ok (.ret (v y)) h | none => .ok (.nxt (E ys)) h
  | p, [], e, _ => by rw [List.append_nil] at e; subst e; rfl
  | p, y :: r, e, n => by
    obtain ⟨ρ1, e1, e2⟩ := k p y r e n
    rw [List.map_cons, for_cons, e1, List.find?_cons]
    cases c : q y with
    | true =>
      rw [c, if_pos rfl] at e2
      simp [e2]
    | false =>
      rw [c] at e2
      simp only [Bool.false_eq_true, if_false] at e2
      have ih := for_find_aux g E h q v ys k (p ++ [y]) r (by rw [e, List.append_assoc]; rfl) (by
        intro z m
        rcases List.mem_append.mp m with m | m
        · exact n z m
        · rw [List.mem_singleton.mp m]; exact c)
      rcases e2 with e2 | e2 <;> simp [e2, ih]
theorem for_find {α : Type} {t : T} {b : Env → AH → SO} {g : α → RV} {ρ : Env} {h : AH} {ys : List α} (E : List α → Env) (q : α → Bool) (v : α → RV) (hr : ρ = E [])
    (k : ∀ p y r, ys = p ++ y :: r → (∀ z ∈ p, q z = false) → ∃ ρ1, t.put (E p) (g y) = some ρ1 ∧ if q y then b ρ1 h = .ok (.ret (v y)) h else (b ρ1 h = .ok (.nxt (E (p ++ [y]))) h ∨ b ρ1 h = .ok (.cnt (E (p ++ [y]))) h)) :
    forL t b (ys.map g) ρ h = match ys.find? q with | some y => .ok (.ret (v y)) h | none => .ok (.nxt (E ys)) h := by
  subst hr
  exact for_find_aux g E h q v ys k [] ys rfl (by simp)
/-- a for, with what the names satisfy -/
theorem for_inv_aux {α : Type} {t : T} {b : Env → AH → SO} {g : α → RV} {ys : List α} (I : List α → Env → Prop) (H : List α → AH)
    (k : ∀ p y r ρ, ys = p ++ y :: r → I p ρ → ∃ ρ1 ρ2, t.put ρ (g y) = some ρ1 ∧ I (p ++ [y]) ρ2 ∧ (b ρ1 (H p) = .ok (.nxt ρ2) (H (p ++ [y])) ∨ b ρ1 (H p) = .ok (.cnt ρ2) (H (p ++ [y])))) : ∀ p r ρ, ys = p ++ r → I p ρ →
    ∃ ρ', I ys ρ' ∧ forL t b (r.map g) ρ (H p) = .ok (.nxt ρ') (H ys)
  | p, [], ρ, e, i => by rw [List.append_nil] at e; subst e; exact ⟨ρ, i, rfl⟩
  | p, y :: r, ρ, e, i => by
    obtain ⟨ρ1, ρ2, e1, i2, e2⟩ := k p y r ρ e i
    obtain ⟨ρ', i', e'⟩ := for_inv_aux I H k (p ++ [y]) r ρ2 (by rw [e, List.append_assoc]; rfl) i2
    refine ⟨ρ', i', ?_⟩
    rw [List.map_cons, for_cons, e1]
    rcases e2 with e2 | e2 <;> simp [e2, e']
theorem for_inv {α : Type} {t : T} {b : Env → AH → SO} {g : α → RV} {ys : List α} {ρ : Env} {h : AH} {F : SO} (hF : forL t b (ys.map g) ρ h = F) (I : List α → Env → Prop) (H : List α → AH) (h0 : I [] ρ) (hh : h = H [])
    (k : ∀ p y r ρ, ys = p ++ y :: r → I p ρ → ∃ ρ1 ρ2, t.put ρ (g y) = some ρ1 ∧ I (p ++ [y]) ρ2 ∧ (b ρ1 (H p) = .ok (.nxt ρ2) (H (p ++ [y])) ∨ b ρ1 (H p) = .ok (.cnt ρ2) (H (p ++ [y])))) :
    ∃ ρ', I ys ρ' ∧ F = .ok (.nxt ρ') (H ys) := by
  subst hh
  obtain ⟨ρ', i, e⟩ := for_inv_aux I H k [] ys ρ rfl h0
  exact ⟨ρ', i, hF ▸ e⟩
/-- no place is changed -/
theorem for_invP {α : Type} {t : T} {b : Env → AH → SO} {g : α → RV} {ys : List α} {ρ : Env} {h : AH} {F : SO} (hF : forL t b (ys.map g) ρ h = F) (I : List α → Env → Prop) (h0 : I [] ρ)
    (k : ∀ p y r ρ, ys = p ++ y :: r → I p ρ → ∃ ρ1 ρ2, t.put ρ (g y) = some ρ1 ∧ I (p ++ [y]) ρ2 ∧ (b ρ1 h = .ok (.nxt ρ2) h ∨ b ρ1 h = .ok (.cnt ρ2) h)) :
    ∃ ρ', I ys ρ' ∧ F = .ok (.nxt ρ') h := for_inv hF I (fun _ => h) h0 rfl k
/-- the same with what names and heap satisfy -/
theorem for_invH {α : Type} {t : T} {b : Env → AH → SO} {g : α → RV} {ys : List α} {ρ : Env} {h : AH} {F : SO} (hF : forL t b (ys.map g) ρ h = F) (I : List α → Env → AH → Prop) (h0 : I [] ρ h)
    (k : ∀ p y r ρ h, ys = p ++ y :: r → I p ρ h → ∃ ρ1 ρ2 h2, t.put ρ (g y) = some ρ1 ∧ I (p ++ [y]) ρ2 h2 ∧ (b ρ1 h = .ok (.nxt ρ2) h2 ∨ b ρ1 h = .ok (.cnt ρ2) h2)) :
    ∃ ρ' h', I ys ρ' h' ∧ F = .ok (.nxt ρ') h' := by
  have aux : ∀ p r ρ h, ys = p ++ r → I p ρ h → ∃ ρ' h', I ys ρ' h' ∧ forL t b (r.map g) ρ h = .ok (.nxt ρ') h' := by
    intro p r
    induction r generalizing p with
    | nil => intro ρ h e i; rw [List.append_nil] at e; subst e; exact ⟨ρ, h, i, rfl⟩
    | cons y r ih =>
      intro ρ h e i
      obtain ⟨ρ1, ρ2, h2, e1, i2, e2⟩ := k p y r ρ h e i
      obtain ⟨ρ', h', i', e'⟩ := ih (p ++ [y]) ρ2 h2 (by rw [e, List.append_assoc]; rfl) i2
      refine ⟨ρ', h', i', ?_⟩
      rw [List.map_cons, for_cons, e1]
      rcases e2 with e2 | e2 <;> simp [e2, e']
  obtain ⟨ρ', h', i, e⟩ := aux [] ys ρ h rfl h0
  exact ⟨ρ', h', i, hF ▸ e⟩
/-- element by element with what values and heap satisfy -/
theorem seqO_inv {α β γ : Type} {F : α → AH → Out (Option β)} {e : γ → β} {ys : List α} {h : AH} {R : Out (List β)} (hR : seqO F ys h = R) (I : List α → List γ → AH → Prop) (h0 : I [] [] h)
    (k : ∀ p y r vs h, ys = p ++ y :: r → I p vs h → ∃ h2, (∃ v, I (p ++ [y]) (vs ++ [v]) h2 ∧ F y h = .ok (some (e v)) h2) ∨ (I (p ++ [y]) vs h2 ∧ F y h = .ok none h2)) :
    ∃ vs h', I ys vs h' ∧ R = .ok (vs.map e) h' := by
  have aux : ∀ p r vs h, ys = p ++ r → I p vs h → ∃ ws h', I ys (vs ++ ws) h' ∧ seqO F r h = .ok (ws.map e) h' := by
    intro p r
    induction r generalizing p with
    | nil => intro vs h q i; rw [List.append_nil] at q; subst q; exact ⟨[], h, by simpa using i, rfl⟩
    | cons y r ih =>
      intro vs h q i
      obtain ⟨h2, ⟨v, i2, e2⟩ | ⟨i2, e2⟩⟩ := k p y r vs h q i
      · obtain ⟨ws, h', i', e'⟩ := ih (p ++ [y]) (vs ++ [v]) h2 (by rw [q, List.append_assoc]; rfl) i2
        refine ⟨v :: ws, h', by simpa using i', ?_⟩
        simp [seqO, e2, e']
      · obtain ⟨ws, h', i', e'⟩ := ih (p ++ [y]) vs h2 (by rw [q, List.append_assoc]; rfl) i2
        refine ⟨ws, h', i', ?_⟩
        simp [seqO, e2, e']
  obtain ⟨ws, h', i, q⟩ := aux [] ys [] h rfl h0
  exact ⟨ws, h', by simpa using i, hR ▸ q⟩
theorem mapSt_proj {α β γ σ : Type} (f : α → σ → β × σ) (g : β → γ) (u : α → γ) (e : ∀ y s, g (f y s).1 = u y) : ∀ (ys : List α) (s : σ), (mapSt f ys s).1.map g = ys.map u
  | [], s => rfl
  | y :: ys, s => by simp [mapSt, e, mapSt_proj f g u e ys]
theorem nodup_of_map {α β : Type} (g : α → β) : ∀ {l : List α}, (l.map g).Nodup → l.Nodup
  | [], _ => List.nodup_nil
  | x :: l, h => by
    have h := List.nodup_cons.mp h
    exact List.nodup_cons.mpr ⟨fun m => h.1 (List.mem_map.mpr ⟨x, m, rfl⟩), nodup_of_map g h.2⟩
theorem rev_ind {α : Type} {P : List α → Prop} (h0 : P []) (h1 : ∀ p q, P p → P (p ++ [q])) (l : List α) : P l := by
  rw [← List.reverse_reverse l]
  induction l.reverse with
  | nil => exact h0
  | cons x xs ih => rw [List.reverse_cons]; exact h1 _ _ ih
end D.Pl

set_option Elab.async false
set_option linter.all false
set_option maxRecDepth 100000
set_option maxHeartbeats 1000000
/-! Fd44: operations on values, for simp. -/
namespace D.Pl
open PySem D


def absI (i : Int) : Int := if i < 0 then -i else i
@[scoped simp] theorem allPV_mapf {α : Type} (f : α → PV) (xs : List α) : allPV (xs.map fun x => RV.pv (f x)) = some (xs.map f) := by
  induction xs with
  | nil => rfl
  | cons x xs ih => simp [ih]
@[scoped simp] theorem allPV_app (xs ys : List RV) : allPV (xs ++ ys) = (allPV xs).bind fun a => (allPV ys).map (a ++ ·) := by
  induction xs with
  | nil => cases h : allPV ys <;> simp [h]
  | cons x xs ih =>
    cases x with
    | ref p => rfl
    | pv v =>
      simp only [List.cons_append, allPV_cons, ih]
      cases allPV xs <;> simp
      cases allPV ys <;> simp
@[scoped simp] theorem ints_mapf {α : Type} (f : α → Int) (xs : List α) : ints? (xs.map fun x => RV.pv (.int (f x))) = some (xs.map f) := by
  induction xs with
  | nil => rfl
  | cons x xs ih => simp [ints?, ih]
@[scoped simp] theorem strs_mapf {α : Type} (f : α → List Nat) (xs : List α) : strs? (xs.map fun x => RV.pv (.str (f x))) = some (xs.map f) := by
  induction xs with
  | nil => rfl
  | cons x xs ih => simp [strs?, ih]
section
variable (m : Bool) (h : AH) (i j : Int)
@[scoped simp] theorem bop_addI : bop m .add (.pv (.int i)) (.pv (.int j)) h = .ok (.pv (.int (i + j))) h := (rfl)
@[scoped simp] theorem bop_subI : bop m .sub (.pv (.int i)) (.pv (.int j)) h = .ok (.pv (.int (i - j))) h := (rfl)
@[scoped simp] theorem bop_mulI (s : (small i || small j) = true) : bop m .mul (.pv (.int i)) (.pv (.int j)) h = .ok (.pv (.int (i * j))) h := by
  simp [bop, bopI, s]
@[scoped simp] theorem bop_modI (s : 0 < j) : bop m .mod (.pv (.int i)) (.pv (.int j)) h = .ok (.pv (.int (i % j))) h := by
  simp [bop, bopI, s]
@[scoped simp] theorem bop_fdivI (s : 0 < j) (s2 : j < 1073741824) : bop m .fdiv (.pv (.int i)) (.pv (.int j)) h = .ok (.pv (.int (i / j))) h := by
  simp [bop, bopI, s, s2]
@[scoped simp] theorem bop_addT (xs ys : List PV) (l : xs.length + ys.length ≤ line) : bop m .add (.pv (.tup xs)) (.pv (.tup ys)) h = .ok (.pv (.tup (xs ++ ys))) h := by
  simp [bop, newT]
  omega
@[scoped simp] theorem bop_addL (xs ys : List PV) (l : xs.length + ys.length ≤ line) : bop false .add (.pv (.lst xs)) (.pv (.lst ys)) h = .ok (.pv (.lst (xs ++ ys))) h := by
  simp [bop, bopL, viewL, newL]
  omega
@[scoped simp] theorem bop_addS (xs ys : List Nat) (l : xs.length + ys.length ≤ line) : bop m .add (.pv (.str xs)) (.pv (.str ys)) h = .ok (.pv (.str (xs ++ ys))) h := by
  simp [bop, newS]
  omega
@[scoped simp] theorem cmp_lt : cmpO .lt (.pv (.int i)) (.pv (.int j)) h = .ok (.pv (.bl (decide (i < j)))) h := (rfl)
@[scoped simp] theorem cmp_le : cmpO .le (.pv (.int i)) (.pv (.int j)) h = .ok (.pv (.bl (decide (i ≤ j)))) h := (rfl)
@[scoped simp] theorem cmp_gt : cmpO .gt (.pv (.int i)) (.pv (.int j)) h = .ok (.pv (.bl (decide (i > j)))) h := (rfl)
@[scoped simp] theorem cmp_ge : cmpO .ge (.pv (.int i)) (.pv (.int j)) h = .ok (.pv (.bl (decide (i ≥ j)))) h := (rfl)
@[scoped simp] theorem cmp_ltS (s t : List Nat) : cmpO .lt (.pv (.str s)) (.pv (.str t)) h = .ok (.pv (.bl (ltNat s t))) h := (rfl)
@[scoped simp] theorem cmp_eq (x y : PV) (hx : plain 60 x = true) (hy : plain 60 y = true) : cmpO .eq (.pv x) (.pv y) h = .ok (.pv (.bl (pyEq x y))) h := by
  simp [cmpO, cmpR, eqR, viewP, hx, hy]
@[scoped simp] theorem cmp_ne (x y : PV) (hx : plain 60 x = true) (hy : plain 60 y = true) : cmpO .ne (.pv x) (.pv y) h = .ok (.pv (.bl (!pyEq x y))) h := by
  simp [cmpO, cmpR, eqR, viewP, hx, hy]
@[scoped simp] theorem cmp_inT (x : PV) (ys : List PV) (hx : plain 60 x = true) (hy : plains 60 ys = true) : cmpO .in_ (.pv x) (.pv (.tup ys)) h = .ok (.pv (.bl (ys.any fun y => pyEq y x))) h := by
  simp [cmpO, cmpR, inR, viewP, hx, hy]
@[scoped simp] theorem cmp_inL (x : PV) (ys : List PV) (hx : plain 60 x = true) (hy : plains 60 ys = true) : cmpO .in_ (.pv x) (.pv (.lst ys)) h = .ok (.pv (.bl (ys.any fun y => pyEq y x))) h := by
  simp [cmpO, cmpR, inR, viewP, hx, hy]
@[scoped simp] theorem cmp_niT (x : PV) (ys : List PV) (hx : plain 60 x = true) (hy : plains 60 ys = true) : cmpO .notIn (.pv x) (.pv (.tup ys)) h = .ok (.pv (.bl (!ys.any fun y => pyEq y x))) h := by
  simp [cmpO, cmpR, inR, viewP, hx, hy]
@[scoped simp] theorem cmp_niL (x : PV) (ys : List PV) (hx : plain 60 x = true) (hy : plains 60 ys = true) : cmpO .notIn (.pv x) (.pv (.lst ys)) h = .ok (.pv (.bl (!ys.any fun y => pyEq y x))) h := by
  simp [cmpO, cmpR, inR, viewP, hx, hy]
@[scoped simp] theorem cmp_isN (v : PV) : cmpO .isN (.pv v) (.pv .non) h = .ok (.pv (.bl (match v with | .non => true | _ => false))) h := by
  cases v <;> rfl
@[scoped simp] theorem cmp_notN (v : PV) : cmpO .notN (.pv v) (.pv .non) h = .ok (.pv (.bl (match v with | .non => false | _ => true))) h := by
  cases v <;> rfl
@[scoped simp] theorem cmp_isB (a b : Bool) : cmpO .isN (.pv (.bl a)) (.pv (.bl b)) h = .ok (.pv (.bl (a == b))) h := (rfl)
@[scoped simp] theorem rev_tup (xs : List PV) : revR m (.pv (.tup xs)) h = .ok (.pv (.tup xs.reverse)) h := (rfl)
@[scoped simp] theorem tru_bl (b : Bool) : truO (.pv (.bl b)) h = .ok b h := by simp [truO, truth]
@[scoped simp] theorem itm_tup (xs : List PV) : itmO (.pv (.tup xs)) h = .ok (xs.map .pv) h := (rfl)
@[scoped simp] theorem itm_lst (xs : List PV) : itmO (.pv (.lst xs)) h = .ok (xs.map .pv) h := (rfl)
@[scoped simp] theorem idx_0 (a : PV) (r : List PV) : idxR (.pv (.tup (a :: r))) (.pv (.int 0)) h = .ok (.pv a) h := by simp [idxR, viewQ, atI, ixN]
@[scoped simp] theorem idx_1 (a b : PV) (r : List PV) : idxR (.pv (.tup (a :: b :: r))) (.pv (.int 1)) h = .ok (.pv b) h := by
  simp [idxR, viewQ, atI, ixN]
  rw [if_pos (by omega)]
  rfl
@[scoped simp] theorem idx_0L (a : PV) (r : List PV) : idxR (.pv (.lst (a :: r))) (.pv (.int 0)) h = .ok (.pv a) h := by simp [idxR, viewQ, atI, ixN]
@[scoped simp] theorem tru_int (i : Int) : truO (.pv (.int i)) h = .ok (decide (i ≠ 0)) h := by simp [truO, truth]; rfl
theorem idx_at {xs : List PV} {i : Nat} {v : PV} (e : xs[i]? = some v) (h : AH) : idxR (.pv (.tup xs)) (.pv (.int (i : Nat))) h = .ok (.pv v) h := by
  obtain ⟨hlt, e⟩ := List.getElem?_eq_some_iff.mp e
  simp [idxR, viewQ, atI, ixN, hlt, e]
theorem idx_atL {xs : List PV} {i : Nat} {v : PV} (e : xs[i]? = some v) (h : AH) : idxR (.pv (.lst xs)) (.pv (.int (i : Nat))) h = .ok (.pv v) h := by
  obtain ⟨hlt, e⟩ := List.getElem?_eq_some_iff.mp e
  simp [idxR, viewQ, atI, ixN, hlt, e]
@[scoped simp] theorem len_tup (xs : List PV) : biR "len" [.pv (.tup xs)] h = .ok (.pv (.int xs.length)) h := by simp [biR, viewQ]
@[scoped simp] theorem len_lst (xs : List PV) : biR "len" [.pv (.lst xs)] h = .ok (.pv (.int xs.length)) h := by simp [biR, viewQ]
@[scoped simp] theorem len_str (xs : List Nat) : biR "len" [.pv (.str xs)] h = .ok (.pv (.int xs.length)) h := (rfl)
@[scoped simp] theorem bi_int (i : Int) : biR "int" [.pv (.int i)] h = .ok (.pv (.int i)) h := (rfl)
@[scoped simp] theorem bi_intB (b : Bool) : biR "int" [.pv (.bl b)] h = .ok (.pv (.int (if b then 1 else 0))) h := (rfl)
@[scoped simp] theorem bi_abs (i : Int) : biR "abs" [.pv (.int i)] h = .ok (.pv (.int (absI i))) h := (rfl)
@[scoped simp] theorem bi_min (i j : Int) : biR "min" [.pv (.int i), .pv (.int j)] h = .ok (.pv (.int (if j < i then j else i))) h := (rfl)
@[scoped simp] theorem bi_max (i j : Int) : biR "max" [.pv (.int i), .pv (.int j)] h = .ok (.pv (.int (if j > i then j else i))) h := (rfl)
end
@[scoped simp] theorem line_eq : line = 16777216 := (rfl)
theorem rngOk_le {i : Int} (h1 : -1000000 ≤ i) (h2 : i ≤ 1000000) : rngOk i = true := by
  unfold rngOk
  rw [decide_eq_true, decide_eq_true]
  · rfl
  · exact Int.lt_of_le_of_lt h2 (by decide +kernel)
  · exact Int.le_trans (by decide +kernel) h1
/-- range(n) -/
theorem rng_nat {n : Nat} (hn : n ≤ 1000000) (h : AH) : rngR [.pv (.int (n : Nat))] h = .ok ((List.range n).map fun (k : Nat) => .pv (.int (k : Nat))) h := by
  simp [rngR, rngL, rngOk_le (i := (n : Int)) (by omega) (by omega)]
/-! names -/
section
variable (v w : RV) (ρ : Env) (h : AH) (i : Nat) (x : Option RV)
@[scoped simp] theorem var_0 : varO 0 (some v :: ρ) h = .ok v h := (rfl)
@[scoped simp] theorem var_s : varO (i + 1) (x :: ρ) h = varO i ρ h := by simp [varO, getV]
@[scoped simp] theorem put_nm : T.put ρ v (.nm i) = some (ρ.set i (some v)) := (rfl)
@[scoped simp] theorem put_tp (xs : List PV) (is : List Nat) : T.put ρ (.pv (.tup xs)) (.tp is) = setAll ρ is (xs.map .pv) := (rfl)
@[scoped simp] theorem sl_nm : T.slots (.nm i) = [i] := (rfl)
@[scoped simp] theorem sl_tp (is : List Nat) : T.slots (.tp is) = is := (rfl)
@[scoped simp] theorem wi_nil : wipe ρ [] = ρ := (rfl)
@[scoped simp] theorem wi_cons (is : List Nat) : wipe ρ (i :: is) = (wipe ρ is).set i none := (rfl)
@[scoped simp] theorem sa_nil : setAll ρ [] [] = some ρ := (rfl)
@[scoped simp] theorem sa_cons (is : List Nat) (vs : List RV) : setAll ρ (i :: is) (v :: vs) = setAll (ρ.set i (some v)) is vs := (rfl)
@[scoped simp] theorem putO_eq (t : T) : putO t ρ v h = SO.ofE ρ (optO (t.put ρ v) h) fun ρ1 h1 => .ok (.nxt ρ1) h1 := (rfl)
end
theorem shr_nat (m : Bool) (k : Nat) (j : Int) (hj : 0 ≤ j) (h : AH) : bop m .shr (.pv (.int (k : Nat))) (.pv (.int j)) h = .ok (.pv (.int ((k >>> j.toNat : Nat)))) h := by
  simp [bop, bopI, hj, Nat.shiftRight_eq_div_pow]
theorem band_n (m : Bool) (a b : Nat) (h : AH) : bop m .band (.pv (.int (a : Nat))) (.pv (.int (b : Nat))) h = .ok (.pv (.int ((a &&& b : Nat)))) h := by
  simp only [bop, bopI, band_nat]
theorem bor_n (m : Bool) (a b : Nat) (h : AH) : bop m .bor (.pv (.int (a : Nat))) (.pv (.int (b : Nat))) h = .ok (.pv (.int ((a ||| b : Nat)))) h := by
  simp only [bop, bopI, bor_nat]
theorem bxor_n (m : Bool) (a b : Nat) (h : AH) : bop m .bxor (.pv (.int (a : Nat))) (.pv (.int (b : Nat))) h = .ok (.pv (.int ((a ^^^ b : Nat)))) h := by
  simp only [bop, bopI, bxor_nat]
theorem band_1 (m : Bool) (i : Int) (hi : 0 ≤ i) (h : AH) : bop m .band (.pv (.int i)) (.pv (.int 1)) h = .ok (.pv (.int (i % 2))) h := by
  obtain ⟨k, rfl⟩ := Int.eq_ofNat_of_zero_le hi
  have := band_nat k 1
  simp only [bop, bopI]
  rw [show (1 : Int) = ((1 : Nat) : Int) from rfl, this, Nat.and_one_is_mod]
  rfl
theorem shl_1 (m : Bool) (j : Int) (h0 : 0 ≤ j) (h1 : j ≤ 1000000) (h : AH) : bop m .shl (.pv (.int 1)) (.pv (.int j)) h = .ok (.pv (.int ((1 <<< j.toNat : Nat)))) h := by
  simp [bop, bopI, powOk, h0, h1, Nat.one_shiftLeft]
section
variable (i j : Int) (h : AH)
@[scoped simp] theorem iop_add : iopO .add (.pv (.int i)) (.pv (.int j)) h = .ok (.pv (.int (i + j))) h := by simp [iopO, bopI]
@[scoped simp] theorem iop_sub : iopO .sub (.pv (.int i)) (.pv (.int j)) h = .ok (.pv (.int (i - j))) h := by simp [iopO, bopI]
theorem iop_bor (a b : Nat) : iopO .bor (.pv (.int (a : Nat))) (.pv (.int (b : Nat))) h = .ok (.pv (.int ((a ||| b : Nat)))) h := by
  simp [iopO, bopI, bor_nat]
theorem iop_band (a b : Nat) : iopO .band (.pv (.int (a : Nat))) (.pv (.int (b : Nat))) h = .ok (.pv (.int ((a &&& b : Nat)))) h := by
  simp [iopO, bopI, band_nat]
end
@[scoped simp] theorem nc_inj (a b : Nat) : ((a : Int) = (b : Int)) ↔ a = b := Int.ofNat_inj
@[scoped simp] theorem zipIdx_m {α β : Type} (f : α → β) (xs : List α) : (xs.map f).zipIdx = xs.zipIdx.map fun q => (f q.1, q.2) := by
  rw [List.zipIdx_map]; rfl
/-! ifs -/
section
variable {α β : Type} (P : Prop) [Decidable P] (h : AH)
@[scoped simp] theorem out_tf : (if P then Out.ok true h else Out.ok false h) = .ok (decide P) h := by split <;> simp [*]
@[scoped simp] theorem out_ft : (if P then Out.ok false h else Out.ok true h) = .ok (!decide P) h := by split <;> simp [*]
@[scoped simp] theorem bind_ite (A B : Out α) (f : α → AH → Out β) : (if P then A else B).bind f = if P then A.bind f else B.bind f := by split <;> rfl
@[scoped simp] theorem ofE_ite (A B : Out α) (ρ : Env) (f : α → AH → SO) : SO.ofE ρ (if P then A else B) f = if P then SO.ofE ρ A f else SO.ofE ρ B f := by split <;> rfl
@[scoped simp] theorem next_ite (A B : SO) (f : Env → AH → SO) : (if P then A else B).next f = if P then A.next f else B.next f := by split <;> rfl
@[scoped simp] theorem turn_ite (A B : SO) (f : Env → AH → SO) : (if P then A else B).turn f = if P then A.turn f else B.turn f := by split <;> rfl
@[scoped simp] theorem fin_ite (A B : SO) (k : Bool) (lo : Nat) : (if P then A else B).fin k lo = if P then A.fin k lo else B.fin k lo := by split <;> rfl
@[scoped simp] theorem nox_ite (A B : Out α) : (if P then A else B).nox = if P then A.nox else B.nox := by split <;> rfl
end
/-! places at the heap's end -/
section
variable (h : AH) (x y : AO) (lo : Nat) (cs : List String) (c f : String) (v : PV) (fs : List (String × RV))
@[scoped simp] theorem setF_end (hf : fs.length < 1000) (hc : c ∈ cs) : setFR lo cs (.ref h.length) f (.pv v) (h ++ [.obj c fs]) = .ok () (h ++ [.obj c (putF f (.pv v) fs)]) := by
  simp [setFR, mayStore, hf, hc]
@[scoped simp] theorem app_end (xs : List RV) (w : PV) (hl : xs.length < 16777216) : bmR lo "list.append" (.ref h.length) [.pv w] (h ++ [.lst xs]) = .ok (.pv .non) (h ++ [.lst (xs ++ [.pv w])]) := by
  simp [bmR, mayStore, hl]
@[scoped simp] theorem newL_t (xs : List RV) (hl : xs.length ≤ 16777216) : newL true xs h = .ok (.ref h.length) (h ++ [.lst xs]) := by
  simp [newL, hl]
theorem newL_f (xs : List RV) (ys : List PV) (e : allPV xs = some ys) (hl : xs.length ≤ 16777216) : newL false xs h = .ok (.pv (.lst ys)) h := by
  simp [newL, hl, e]
theorem setR_end (xs : List RV) (j : Nat) (w : PV) (hj : j < xs.length) : setR lo (.ref h.length) (.pv (.int (j : Nat))) (.pv w) (h ++ [.lst xs]) = .ok () (h ++ [.lst (xs.set j (.pv w))]) := by
  simp [setR, mayStore, ixN, hj]
theorem mul_lst1 (k : Nat) (hk : k ≤ 16777216) : bop true .mul (.pv (.lst [v])) (.pv (.int (k : Nat))) h = .ok (.ref h.length) (h ++ [.lst (List.replicate k (.pv v))]) := by
  have e : rep k [RV.pv v] = List.replicate k (.pv v) := by
    unfold rep
    induction k with
    | zero => rfl
    | succ k ih => simp [List.replicate_succ, ih (by omega)]
  have f : fitsI (k : Int) = true := by
    unfold fitsI
    rw [decide_eq_true, decide_eq_true]
    · rfl
    · exact Int.lt_of_le_of_lt (b := 16777216) (by omega) (by decide +kernel)
    · exact Int.le_trans (b := 0) (by decide +kernel) (by omega)
  simp [bop, bopL, viewL, f, e, hk]
@[scoped simp] theorem bmT_append (xs : List RV) : bmK "append" (.ref h.length) (h ++ [.lst xs]) = some "list.append" := by simp [bmK, viewL, lookF]
@[scoped simp] theorem isS_str (s : List Nat) : isS (.pv (.str s)) = true := by simp [isS]
@[scoped simp] theorem bmT_index (xs : List PV) : bmK "index" (.pv (.tup xs)) h = some "tuple.index" := by simp [bmK]
@[scoped simp] theorem newL_0 : newL false [] h = .ok (.pv (.lst [])) h := by simp [newL]
@[scoped simp] theorem newL_map {α : Type} (f : α → PV) (ys : List α) (hl : ys.length ≤ 16777216) : newL false (ys.map fun y => RV.pv (f y)) h = .ok (.pv (.lst (ys.map f))) h := by
  simp [newL, hl]
@[scoped simp] theorem newL_filt {α : Type} (f : α → PV) (p : α → Bool) (ys : List α) (hl : ys.length ≤ 16777216) : newL false ((ys.filter p).map fun y => RV.pv (f y)) h = .ok (.pv (.lst ((ys.filter p).map f))) h := by
  have := List.length_filter_le p ys
  simp [newL]
  omega
@[scoped simp] theorem newT_map {α : Type} (f : α → PV) (ys : List α) (hl : ys.length ≤ 16777216) : newT (ys.map fun y => RV.pv (f y)) h = .ok (.pv (.tup (ys.map f))) h := by
  simp [newT, hl]
@[scoped simp] theorem newT_filt {α : Type} (f : α → PV) (p : α → Bool) (ys : List α) (hl : ys.length ≤ 16777216) : newT ((ys.filter p).map fun y => RV.pv (f y)) h = .ok (.pv (.tup ((ys.filter p).map f))) h := by
  have := List.length_filter_le p ys
  simp [newT]
  omega
@[scoped simp] theorem newT_0 : newT [] h = .ok (.pv (.tup [])) h := by simp [newT]
@[scoped simp] theorem newT_1 (a : PV) : newT [.pv a] h = .ok (.pv (.tup [a])) h := by simp [newT, allPV]
@[scoped simp] theorem newT_2 (a b : PV) : newT [.pv a, .pv b] h = .ok (.pv (.tup [a, b])) h := by simp [newT, allPV]
@[scoped simp] theorem newL_1 (a : PV) : newL false [.pv a] h = .ok (.pv (.lst [a])) h := by simp [newL, allPV]
@[scoped simp] theorem newL_2 (a b : PV) : newL false [.pv a, .pv b] h = .ok (.pv (.lst [a, b])) h := by simp [newL, allPV]
theorem newT_f (xs : List RV) (ys : List PV) (e : allPV xs = some ys) (hl : xs.length ≤ 16777216) : newT xs h = .ok (.pv (.tup ys)) h := by
  simp [newT, hl, e]
theorem bi1R_list (xs : List RV) (m : Bool) : bi1R m "list" xs h = newL m xs h := (rfl)
theorem bi1R_tuple (xs : List RV) (m : Bool) : bi1R m "tuple" xs h = newT xs h := (rfl)
@[scoped simp] theorem nox_newL (m : Bool) (xs : List RV) : (newL m xs h).nox = newL m xs h := by unfold newL; split <;> (try rfl); split <;> (try rfl); split <;> rfl
theorem leave_list (xs : List RV) (ys : List PV) (e : allPV xs = some ys) (hl : ys.length ≤ 16777216) : leave false h.length (.ref h.length) (h ++ [.lst xs]) = .ok (.pv (.lst ys)) h := by
  simp [leave, e, hl]
theorem leave_map {α : Type} (f : α → PV) (ys : List α) (hl : ys.length ≤ 16777216) : leave false h.length (.ref h.length) (h ++ [.lst (ys.map fun y => .pv (f y))]) = .ok (.pv (.lst (ys.map f))) h :=
  leave_list h _ _ (allPV_mapf f ys) (by simpa using hl)
@[scoped simp] theorem leave_pv (n : Nat) (w : PV) : leave false n (.pv w) h = .ok (.pv w) (h.take n) := rfl
@[scoped simp] theorem leave_kpv (n : Nat) (w : PV) : leave true n (.pv w) h = .ok (.pv w) h := rfl
@[scoped simp] theorem leaveX_f (n : Nat) (e : ExcV) : leaveX false n e h = .exc e (h.take n) := rfl
theorem enumP_eq : ∀ (xs : List PV) (k : Nat), enumP k xs = (xs.zipIdx k).map fun q => .pv (.tup [.int (q.2 : Nat), q.1])
  | [], k => rfl
  | v :: r, k => by rw [enumP, enumP_eq r (k + 1)]; rfl
theorem zipP_eq : ∀ (xs ys : List PV), zipP xs ys = (xs.zip ys).map fun q => .pv (.tup [q.1, q.2])
  | [], ys => by cases ys <;> rfl
  | x :: xs, [] => rfl
  | x :: xs, y :: ys => by rw [zipP, zipP_eq xs ys]; rfl
@[scoped simp] theorem enm_lst (xs : List PV) : enmR (.pv (.lst xs)) = some (xs.zipIdx.map fun q => .pv (.tup [.int (q.2 : Nat), q.1])) := by
  rw [← enumP_eq]; rfl
@[scoped simp] theorem enm_tup (xs : List PV) : enmR (.pv (.tup xs)) = some (xs.zipIdx.map fun q => .pv (.tup [.int (q.2 : Nat), q.1])) := by
  rw [← enumP_eq]; rfl
@[scoped simp] theorem zip_lst (xs ys : List PV) : zipR (.pv (.lst xs)) (.pv (.lst ys)) = some ((xs.zip ys).map fun q => .pv (.tup [q.1, q.2])) := by
  rw [← zipP_eq]; rfl
@[scoped simp] theorem zip_tup (xs ys : List PV) : zipR (.pv (.tup xs)) (.pv (.tup ys)) = some ((xs.zip ys).map fun q => .pv (.tup [q.1, q.2])) := by
  rw [← zipP_eq]; rfl
end
/-! the same behind a first place -/
section
variable (z : AO) (h : AH) (x y : AO) (lo : Nat) (cs : List String) (c f : String) (v : PV) (fs : List (String × RV)) (m : Bool)
@[scoped simp] theorem setF_end1 (hf : fs.length < 1000) (hc : c ∈ cs) : setFR lo cs (.ref (h.length + 1)) f (.pv v) (z :: (h ++ [.obj c fs])) = .ok () (z :: (h ++ [.obj c (putF f (.pv v) fs)])) := by
  have := setF_end (z :: h) lo cs c f v fs hf hc
  simpa using this
@[scoped simp] theorem app_end1 (xs : List RV) (w : PV) (hl : xs.length < 16777216) : bmR lo "list.append" (.ref (h.length + 1)) [.pv w] (z :: (h ++ [.lst xs])) = .ok (.pv .non) (z :: (h ++ [.lst (xs ++ [.pv w])])) := by
  have := app_end (z :: h) lo xs w hl
  simpa using this
@[scoped simp] theorem bmT_append1 (xs : List RV) : bmK "append" (.ref (h.length + 1)) (z :: (h ++ [.lst xs])) = some "list.append" := by simp [bmK, viewL, lookF]
theorem leave_list1 (xs : List RV) (ys : List PV) (e : allPV xs = some ys) (hl : ys.length ≤ 16777216) : leave false (h.length + 1) (.ref (h.length + 1)) (z :: (h ++ [.lst xs])) = .ok (.pv (.lst ys)) (z :: h) := by
  have := leave_list (z :: h) xs ys e hl
  simpa using this
theorem setR_end1 (xs : List RV) (j : Nat) (w : PV) (hj : j < xs.length) : setR lo (.ref (h.length + 1)) (.pv (.int (j : Nat))) (.pv w) (z :: (h ++ [.lst xs])) = .ok () (z :: (h ++ [.lst (xs.set j (.pv w))])) := by
  have := setR_end (z :: h) lo xs j w hj
  simpa using this
end
/-! slices -/
section
variable (h : AH) (m : Bool)
@[scoped simp] theorem prt_t (v : RV) : prtO true v h = .ok none h := (rfl)
@[scoped simp] theorem prt_f (i : Int) : prtO false (.pv (.int i)) h = .ok (some i) h := (rfl)
@[scoped simp] theorem isNon_cst (v : PV) : E.isNon (.cst v) = (match v with | .non => true | _ => false) := by cases v <;> rfl
@[scoped simp] theorem isNon_var (i : Nat) : E.isNon (.var i) = false := (rfl)
@[scoped simp] theorem isNon_bin (m : Bool) (o : Op2) (a b : E) : E.isNon (.bin m o a b) = false := (rfl)
@[scoped simp] theorem isNon_call (f : String) (es : Es) : E.isNon (.call f es) = false := (rfl)
@[scoped simp] theorem isNon_neg (a : E) : E.isNon (.neg a) = false := (rfl)
@[scoped simp] theorem isNon_idx (a b : E) : E.isNon (.idx a b) = false := (rfl)
@[scoped simp] theorem neg_int (i : Int) : negO (.pv (.int i)) h = .ok (.pv (.int (-i))) h := (rfl)
@[scoped simp] theorem isNon_bi (f : String) (es : Es) : E.isNon (.bi f es) = false := (rfl)
theorem cut_to {α : Type} (xs : List α) (n : Nat) : cut xs none (some (n : Int)) = xs.take n := by
  simp only [cut, sIx, List.drop_zero, Nat.sub_zero]
  rw [if_neg (by omega), Int.toNat_natCast]
  by_cases h : n ≤ xs.length
  · rw [Nat.min_eq_left h]
  · rw [Nat.min_eq_right (by omega), List.take_length, List.take_of_length_le (by omega)]
theorem cut_from {α : Type} (xs : List α) (n : Nat) : cut xs (some (n : Int)) none = xs.drop n := by
  simp only [cut, sIx]
  rw [if_neg (by omega), Int.toNat_natCast]
  by_cases h : n ≤ xs.length
  · rw [Nat.min_eq_left h, List.take_of_length_le (by simp)]
  · rw [Nat.min_eq_right (by omega), List.drop_length, List.drop_of_length_le (by omega)]
    simp
@[scoped simp] theorem slc_toL (xs : List PV) (n : Nat) (hl : xs.length ≤ 16777216) : slcR false (.pv (.lst xs)) none (some (n : Int)) h = .ok (.pv (.lst (xs.take n))) h := by
  simp only [slcR, viewL, cut_to]
  rw [← List.map_take, newL_f _ _ _ (allPV_map _)]
  simp
  omega
@[scoped simp] theorem slc_fromL (xs : List PV) (n : Nat) (hl : xs.length ≤ 16777216) : slcR false (.pv (.lst xs)) (some (n : Int)) none h = .ok (.pv (.lst (xs.drop n))) h := by
  simp only [slcR, viewL, cut_from]
  rw [← List.map_drop, newL_f _ _ _ (allPV_map _)]
  simp
  omega
@[scoped simp] theorem slc_toT (xs : List PV) (n : Nat) : slcR m (.pv (.tup xs)) none (some (n : Int)) h = .ok (.pv (.tup (xs.take n))) h := by
  simp only [slcR, cut_to]
@[scoped simp] theorem slc_fromT (xs : List PV) (n : Nat) : slcR m (.pv (.tup xs)) (some (n : Int)) none h = .ok (.pv (.tup (xs.drop n))) h := by
  simp only [slcR, cut_from]
@[scoped simp] theorem slc_toS (xs : List Nat) (n : Nat) : slcR m (.pv (.str xs)) none (some (n : Int)) h = .ok (.pv (.str (xs.take n))) h := by
  simp only [slcR, cut_to]
@[scoped simp] theorem slc_fromS (xs : List Nat) (n : Nat) : slcR m (.pv (.str xs)) (some (n : Int)) none h = .ok (.pv (.str (xs.drop n))) h := by
  simp only [slcR, cut_from]
@[scoped simp] theorem list_lst (xs : List PV) (hl : xs.length ≤ 16777216) : bi1V false "list" (.pv (.lst xs)) h = .ok (.pv (.lst xs)) h := by
  simp [bi1V, viewQ, bi1R_list]
  rw [newL_f _ _ _ (allPV_map _) (by simpa using hl)]
@[scoped simp] theorem list_tup (xs : List PV) (hl : xs.length ≤ 16777216) : bi1V false "list" (.pv (.tup xs)) h = .ok (.pv (.lst xs)) h := by
  simp [bi1V, viewQ, bi1R_list]
  rw [newL_f _ _ _ (allPV_map _) (by simpa using hl)]
@[scoped simp] theorem tuple_lst (xs : List PV) (hl : xs.length ≤ 16777216) : bi1V m "tuple" (.pv (.lst xs)) h = .ok (.pv (.tup xs)) h := by
  simp [bi1V, viewQ, bi1R_tuple]
  rw [newT_f _ _ _ (allPV_map _) (by simpa using hl)]
@[scoped simp] theorem tuple_tup (xs : List PV) : bi1V m "tuple" (.pv (.tup xs)) h = .ok (.pv (.tup xs)) h := by
  simp [bi1V, viewQ]
@[scoped simp] theorem small_0 : small 0 = true := by decide
@[scoped simp] theorem small_1 : small 1 = true := by decide
@[scoped simp] theorem small_2 : small 2 = true := by decide
end
/-! a list in the first place -/
section
variable (xs : List RV) (t : AH) (k : Int) (v : PV) (lo : Nat)
@[scoped simp] theorem idxR_h : idxR (.ref 0) (.pv (.int k)) (.lst xs :: t) = optO (atI xs k) (.lst xs :: t) := by
  simp only [idxR, viewQ, List.getElem?_cons_zero]
  cases atI xs k <;> rfl
@[scoped simp] theorem idxL_h : idxL (.ref 0) (.pv (.int k)) (.lst xs :: t) = optO (atI xs k) (.lst xs :: t) := by
  simp only [idxL, viewL, List.getElem?_cons_zero]
  cases atI xs k <;> rfl
@[scoped simp] theorem setR_h : setR lo (.ref 0) (.pv (.int k)) (.pv v) (.lst xs :: t) = (optO (ixN xs.length k) (.lst xs :: t)).bind fun j _ => .ok () (.lst (xs.set j (.pv v)) :: t) := by
  simp only [setR, mayStore, List.getElem?_cons_zero, if_true, List.set_cons_zero]
  cases ixN xs.length k <;> rfl
end
/-! equality -/
section
variable (n : Nat)
@[scoped simp] theorem pl_int (i : Int) : plain (n + 1) (.int i) = true := (rfl)
@[scoped simp] theorem pl_str (s : List Nat) : plain (n + 1) (.str s) = true := (rfl)
@[scoped simp] theorem pl_bl (s : Bool) : plain (n + 1) (.bl s) = true := (rfl)
@[scoped simp] theorem pl_non : plain (n + 1) .non = true := (rfl)
@[scoped simp] theorem pl_tup (xs : List PV) : plain (n + 1) (.tup xs) = plains n xs := (rfl)
@[scoped simp] theorem pl_lst (xs : List PV) : plain (n + 1) (.lst xs) = plains n xs := (rfl)
@[scoped simp] theorem pls_nil : plains n [] = true := by cases n <;> rfl
@[scoped simp] theorem pls_cons (x : PV) (xs : List PV) : plains n (x :: xs) = (plain n x && plains n xs) := by cases n <;> rfl
theorem pls_all (xs : List PV) : plains n xs = xs.all (plain n) := by
  induction xs with
  | nil => simp
  | cons x xs ih => simp [ih]
@[scoped simp] theorem pls_map {α : Type} (f : α → PV) (xs : List α) : plains n (xs.map f) = xs.all fun x => plain n (f x) := by
  rw [pls_all, List.all_map]
  rfl
@[scoped simp] theorem pls_app (xs ys : List PV) : plains n (xs ++ ys) = (plains n xs && plains n ys) := by
  simp [pls_all]
end
@[scoped simp] theorem all_tt {α : Type} (xs : List α) : (xs.all fun _ => true) = true := by simp
@[scoped simp] theorem eq_int (i j : Int) : pyEq (.int i) (.int j) = (i == j) := (rfl)
@[scoped simp] theorem eq_str (i j : List Nat) : pyEq (.str i) (.str j) = (i == j) := (rfl)
@[scoped simp] theorem eq_bl (i j : Bool) : pyEq (.bl i) (.bl j) = (i == j) := (rfl)
@[scoped simp] theorem eq_tup (i j : List PV) : pyEq (.tup i) (.tup j) = pyEqs i j := (rfl)
@[scoped simp] theorem eq_lst (i j : List PV) : pyEq (.lst i) (.lst j) = pyEqs i j := (rfl)
@[scoped simp] theorem eqs_nil : pyEqs [] [] = true := (rfl)
@[scoped simp] theorem eqs_cons (x y : PV) (i j : List PV) : pyEqs (x :: i) (y :: j) = (pyEq x y && pyEqs i j) := (rfl)
@[scoped simp] theorem eqs_nc (y : PV) (j : List PV) : pyEqs [] (y :: j) = false := (rfl)
@[scoped simp] theorem eqs_cn (y : PV) (j : List PV) : pyEqs (y :: j) [] = false := (rfl)
@[scoped simp] theorem eqs_lnil (xs : List PV) : pyEqs xs [] = xs.isEmpty := by cases xs <;> rfl
@[scoped simp] theorem eqs_nill (xs : List PV) : pyEqs [] xs = xs.isEmpty := by cases xs <;> rfl
/-- values whose == is the plain one -/
theorem eqs_map {α : Type} (f : α → PV) (e : ∀ a b, pyEq (f a) (f b) = true ↔ a = b) : ∀ xs ys : List α, pyEqs (xs.map f) (ys.map f) = true ↔ xs = ys
  | [], [] => by simp
  | [], y :: ys => by simp
  | x :: xs, [] => by simp
  | x :: xs, y :: ys => by simp [e, eqs_map f e xs ys]
end D.Pl

set_option Elab.async false
set_option linter.all false
set_option maxRecDepth 100000
set_option maxHeartbeats 1000000
/-! Fd45: names in order, answers, lots, plans by their numbers. -/
namespace D.Pl
open PySem D
abbrev Nm := List Nat
abbrev Ans := Nm × Int
abbrev Lot := List Ans
@[scoped simp] abbrev ansV (a : Ans) : PV := .tup [.str a.1, .int a.2]
@[scoped simp] abbrev lotV (l : Lot) : PV := .tup (l.map fun a => .tup [.str a.1, .int a.2])
@[scoped simp] abbrev qsV (qs : List Nm) : PV := .tup (qs.map .str)
@[scoped simp] abbrev agV (qs : List Nm) (bars : List Lot) : PV := .tup [qsV qs, .tup (bars.map fun l => .tup (l.map fun a => .tup [.str a.1, .int a.2]))]
theorem lt_irr : ∀ a : Nm, ltNat a a = false
  | [] => rfl
  | x :: xs => by simp [ltNat, lt_irr xs]
theorem lt_tr : ∀ {a b c : Nm}, ltNat a b = true → ltNat b c = true → ltNat a c = true
  | [], [], _, h, _ => by simp [ltNat] at h
  | [], y :: ys, [], _, h => by simp [ltNat] at h
  | [], y :: ys, z :: zs, _, _ => rfl
  | x :: xs, [], _, h, _ => by simp [ltNat] at h
  | x :: xs, y :: ys, [], _, h => by simp [ltNat] at h
  | x :: xs, y :: ys, z :: zs, h1, h2 => by
    unfold ltNat at *
    split at h1 <;> split at h2 <;> split <;> simp_all
    · exact lt_tr h1 h2
    all_goals omega
theorem lt_tot : ∀ {a b : Nm}, ltNat a b = false → a ≠ b → ltNat b a = true
  | [], [], _, h => absurd rfl h
  | [], y :: ys, h, _ => by simp [ltNat] at h
  | x :: xs, [], _, _ => rfl
  | x :: xs, y :: ys, h, n => by
    unfold ltNat at *
    split at h
    · rename_i e
      subst e
      rw [if_pos rfl]
      exact lt_tot h (by simpa using n)
    · rename_i e
      rw [if_neg (Ne.symm e)]
      simp at h ⊢
      omega
theorem lt_asym {a b : Nm} (h : ltNat a b = true) : ltNat b a = false := by
  cases q : ltNat b a with
  | false => rfl
  | true => have := lt_tr h q; rw [lt_irr] at this; cases this
theorem lt_ne {a b : Nm} (h : ltNat a b = true) : a ≠ b := by
  rintro rfl
  rw [lt_irr] at h
  cases h
theorem lt_nil {a : Nm} (h : a ≠ []) : ltNat [] a = true := by cases a <;> simp_all [ltNat]
/-- strictly ascending names -/
def Asc (l : List Nm) : Prop := l.Pairwise fun a b => ltNat a b = true
theorem Asc.nodup {l : List Nm} (h : Asc l) : l.Nodup := List.Pairwise.imp (fun h => lt_ne h) h
/-! sorted of names -/
def insS (x : Nm) : List Nm → List Nm
  | [] => [x]
  | y :: ys => if ltNat y x then y :: insS x ys else x :: y :: ys
def sortS : List Nm → List Nm
  | [] => []
  | x :: xs => insS x (sortS xs)
theorem insP_str (x : Nm) : ∀ ys : List Nm, insP (.str x) (ys.map .str) = (insS x ys).map .str
  | [] => rfl
  | y :: ys => by
    simp only [List.map_cons, insP, insS, pyLt, insP_str x ys]
    split <;> rfl
@[scoped simp] theorem sortP_str : ∀ xs : List Nm, sortP (xs.map PV.str) = (sortS xs).map PV.str
  | [] => rfl
  | x :: xs => by rw [List.map_cons, sortP, sortP_str xs, insP_str]; rfl
theorem insS_perm (x : Nm) : ∀ ys, (insS x ys).Perm (x :: ys)
  | [] => .refl _
  | y :: ys => by
    unfold insS
    split
    · exact ((insS_perm x ys).cons y).trans (.swap x y ys)
    · exact .refl _
theorem sortS_perm : ∀ xs : List Nm, (sortS xs).Perm xs
  | [] => .refl _
  | x :: xs => (insS_perm x _).trans ((sortS_perm xs).cons x)
theorem insS_asc (x : Nm) : ∀ ys, Asc ys → x ∉ ys → Asc (insS x ys)
  | [], _, _ => by simp [insS, Asc]
  | y :: ys, h, n => by
    unfold insS
    have h' := List.pairwise_cons.mp h
    have ne : x ≠ y ∧ x ∉ ys := by simpa using n
    split
    · rename_i q
      refine List.pairwise_cons.mpr ⟨fun z m => ?_, insS_asc x ys h'.2 ne.2⟩
      have := (insS_perm x ys).mem_iff.mp m
      simp at this
      rcases this with rfl | m
      · exact q
      · exact h'.1 z m
    · rename_i q
      have q : ltNat y x = false := by simpa using q
      have q := lt_tot q (Ne.symm ne.1)
      refine List.pairwise_cons.mpr ⟨fun z m => ?_, h⟩
      simp at m
      rcases m with rfl | m
      · exact q
      · exact lt_tr q (h'.1 z m)
theorem sortS_asc : ∀ xs : List Nm, xs.Nodup → Asc (sortS xs)
  | [], _ => by simp [sortS, Asc]
  | x :: xs, h => by
    have h := List.nodup_cons.mp h
    exact insS_asc x _ (sortS_asc xs h.2) fun m => h.1 ((sortS_perm xs).mem_iff.mp m)
theorem all_isStr (xs : List Nm) : ((xs.map PV.str).all isStr) = true := by simp [isStr]
@[scoped simp] theorem ans_any (r : Lot) (s : Nm) (i : Int) : (r.any fun a => a.1 == s && a.2 == i) = decide ((s, i) ∈ r) := by
  rw [Bool.eq_iff_iff, List.any_eq_true, decide_eq_true_eq]
  constructor
  · rintro ⟨a, m, h⟩
    simp at h
    rw [← h.1, ← h.2]
    exact m
  · intro m
    exact ⟨_, m, by simp⟩
@[scoped simp] theorem sorted_strL (xs : List Nm) (hl : xs.length < 64) (h : AH) : bi1V false "sorted" (.pv (.lst (xs.map .str))) h = .ok (.pv (.lst ((sortS xs).map .str))) h := by
  have e : (sortS xs).length = xs.length := (sortS_perm xs).length_eq
  have e2 := newL_f h (((sortS xs).map PV.str).map .pv) _ (allPV_map _) (by simp; omega)
  simp only [List.map_map] at e2
  simp [bi1V, viewL, bi1R, sortable, all_isStr, hl, Function.comp_def] at e2 ⊢
  rw [if_pos (.inr (.inl fun x _ => rfl))]
  exact e2
@[scoped simp] theorem sum_lst {α : Type} (f : α → Int) (xs : List α) (hl : xs.length ≤ 16777216) (h : AH) : bi1V false "sum" (.pv (.lst (xs.map fun a => .int (f a)))) h = .ok (.pv (.int (xs.map f).sum)) h := by
  simp only [bi1V, viewL, bi1R]
  rw [List.map_map, show (RV.pv ∘ fun a => PV.int (f a)) = fun a => RV.pv (.int (f a)) from rfl, ints_mapf]
  simp [hl]
@[scoped simp] theorem sum_filt {α : Type} (f : α → Int) (p : α → Bool) (xs : List α) (hl : xs.length ≤ 16777216) (h : AH) : bi1V false "sum" (.pv (.lst ((xs.filter p).map fun a => .int (f a)))) h = .ok (.pv (.int ((xs.filter p).map f).sum)) h :=
  sum_lst f _ (Nat.le_trans (List.length_filter_le _ _) hl) h
@[scoped simp] theorem tuple_filt {α : Type} (f : α → PV) (p : α → Bool) (ys : List α) (hl : ys.length ≤ 16777216) (m : Bool) (h : AH) : bi1V m "tuple" (.pv (.lst ((ys.filter p).map f))) h = .ok (.pv (.tup ((ys.filter p).map f))) h :=
  tuple_lst h m _ (by rw [List.length_map]; exact Nat.le_trans (List.length_filter_le _ _) hl)
@[scoped simp] theorem bi1R_tupF {α : Type} (f : α → PV) (p : α → Bool) (ys : List α) (hl : ys.length ≤ 16777216) (m : Bool) (h : AH) : bi1R m "tuple" ((ys.filter p).map fun y => RV.pv (f y)) h = .ok (.pv (.tup ((ys.filter p).map f))) h := by
  rw [bi1R_tuple, newT_f _ _ _ (allPV_mapf _ _)]
  rw [List.length_map]
  exact Nat.le_trans (List.length_filter_le _ _) hl
@[scoped simp] theorem bi1R_tupM {α : Type} (f : α → PV) (ys : List α) (hl : ys.length ≤ 16777216) (m : Bool) (h : AH) : bi1R m "tuple" (ys.map fun y => RV.pv (f y)) h = .ok (.pv (.tup (ys.map f))) h := by
  rw [bi1R_tuple, newT_f _ _ _ (allPV_mapf _ _)]
  rw [List.length_map]
  exact hl
@[scoped simp] theorem tuple_take {α : Type} (f : α → PV) (k : Nat) (ys : List α) (hl : ys.length ≤ 16777216) (m : Bool) (h : AH) : bi1V m "tuple" (.pv (.lst ((ys.take k).map f))) h = .ok (.pv (.tup ((ys.take k).map f))) h :=
  tuple_lst h m _ (by rw [List.length_map, List.length_take]; omega)
theorem join_chars (w : List Nat) (hl : w.length ≤ 1000) (h : AH) : joinV (.pv (.str [])) (.pv (.lst (w.map fun c => .str [c]))) h = .ok (.pv (.str w)) h := by
  have e : joinL [] (w.map fun c => [c]) = w := by
    induction w with
    | nil => rfl
    | cons c w ih =>
      cases w with
      | nil => rfl
      | cons d w =>
        have := ih (by simp at hl ⊢; omega)
        simp [joinL] at this ⊢
        exact this
  have e2 : ((w.map fun c => [c]).map List.length).sum = w.length := by
    rw [List.map_map]
    have : List.length ∘ (fun c : Nat => [c]) = fun _ => 1 := rfl
    rw [this, List.map_const', List.sum_replicate_nat]
    omega
  simp only [joinV, viewQ, joinR, List.map_map]
  have e3 : strs? (w.map (RV.pv ∘ fun c => .str [c])) = some (w.map fun c => [c]) := strs_mapf (fun c => [c]) w
  rw [e3]
  simp only [e, e2, newS, line_eq, List.length_nil, Nat.mul_zero, Nat.add_zero]
  rw [if_pos (by simp; omega), if_pos (by omega)]
theorem frz_end1 {α : Type} (z : AO) (h : AH) (i : Nat) (ρ : Env) (f : α → PV) (ys : List α) (e : getV ρ i = some (.ref (h.length + 1))) (hl : ys.length ≤ 16777216) :
    frzO (h.length + 1) i ρ (z :: (h ++ [.lst (ys.map fun y => .pv (f y))])) = some (ρ.set i (some (.pv (.lst (ys.map f)))), z :: (h ++ [.dead])) := by
  simp [frzO, e, hl]
/-! lots -/
/-- a lot of answers to qs -/
structure LotOk (qs : List Nm) (l : Lot) : Prop where
  mem : ∀ a ∈ l, a.1 ∈ qs ∧ (a.2 = 0 ∨ a.2 = 1)
  asc : Asc (l.map (·.1))
def codeOf (qs : List Nm) (a : Ans) : Nat := 2 * qs.idxOf a.1 + a.2.toNat
def codesOf (qs : List Nm) (l : Lot) : List Nat := l.map (codeOf qs)
/-- the answer with this code -/
def oneOf (qs : List Nm) (c : Nat) : Ans := (qs.getD (c / 2) [], ((c % 2 : Nat) : Int))
/-- the plan with this number -/
def planAt (qs : List Nm) (k : Nat) : Lot := (List.range qs.length).map fun i => (qs.getD i [], (bitAt qs.length k i : Int))
theorem planAt_codes (qs : List Nm) (k : Nat) : planAt qs k = (codesAt qs.length k).map (oneOf qs) := by
  unfold planAt codesAt oneOf
  rw [List.map_map]
  apply List.map_congr_left
  intro i _
  have := bitAt_le qs.length k i
  have e : (2 * i + bitAt qs.length k i) / 2 = i := by omega
  have e2 : (2 * i + bitAt qs.length k i) % 2 = bitAt qs.length k i := by omega
  simp only [Function.comp, e, e2]
theorem idx_lt {qs : List Nm} {s : Nm} (m : s ∈ qs) : qs.idxOf s < qs.length := List.idxOf_lt_length_of_mem m
theorem idx_get {qs : List Nm} {s : Nm} (m : s ∈ qs) : qs.getD (qs.idxOf s) [] = s := by
  have h := idx_lt m
  simp [List.getD_eq_getElem?_getD, h]
theorem find_idx {qs : List Nm} {s : Nm} (m : s ∈ qs) : qs.findIdx? (fun y => y == s) = some (qs.idxOf s) := by
  rw [List.findIdx?_eq_some_iff_findIdx_eq]
  exact ⟨idx_lt m, rfl⟩
theorem codeOf_half {qs : List Nm} {a : Ans} (h : a.2 = 0 ∨ a.2 = 1) : codeOf qs a / 2 = qs.idxOf a.1 ∧ codeOf qs a % 2 = a.2.toNat := by
  unfold codeOf
  rcases h with h | h <;> rw [h] <;> simp <;> omega
theorem one_code {qs : List Nm} {a : Ans} (m : a.1 ∈ qs) (h : a.2 = 0 ∨ a.2 = 1) : oneOf qs (codeOf qs a) = a := by
  obtain ⟨h1, h2⟩ := codeOf_half (qs := qs) h
  unfold oneOf
  rw [h1, h2, idx_get m]
  rcases h with h | h <;> rw [h] <;> exact Prod.ext rfl h.symm
theorem code_lt {qs : List Nm} {a : Ans} (m : a.1 ∈ qs) (h : a.2 = 0 ∨ a.2 = 1) : codeOf qs a / 2 < qs.length := by
  rw [(codeOf_half h).1]
  exact idx_lt m
theorem code_inj {qs : List Nm} {a b : Ans} (m : a.1 ∈ qs) (h : a.2 = 0 ∨ a.2 = 1) (m' : b.1 ∈ qs) (h' : b.2 = 0 ∨ b.2 = 1) (e : codeOf qs a = codeOf qs b) : a = b := by
  rw [← one_code m h, ← one_code m' h', e]
/-- a plan has an answer -/
theorem mem_plan {qs : List Nm} (nd : qs.Nodup) {k : Nat} {a : Ans} (m : a.1 ∈ qs) (h : a.2 = 0 ∨ a.2 = 1) : a ∈ planAt qs k ↔ bitAt qs.length k (codeOf qs a / 2) = codeOf qs a % 2 := by
  rw [planAt_codes, List.mem_map]
  constructor
  · rintro ⟨c, mc, e⟩
    have hc := mem_codesAt.mp mc
    have e1 : qs.getD (c / 2) [] = a.1 := congrArg Prod.fst e
    have e2 : ((c % 2 : Nat) : Int) = a.2 := congrArg Prod.snd e
    have i : c / 2 = qs.idxOf a.1 := by
      rw [← e1]
      rw [List.getD_eq_getElem?_getD, List.getElem?_eq_getElem hc.1, Option.getD_some]
      exact (List.Nodup.idxOf_getElem nd _ hc.1).symm
    obtain ⟨h1, h2⟩ := codeOf_half (qs := qs) h
    rw [h1, h2, ← i, hc.2]
    omega
  · intro e
    exact ⟨codeOf qs a, mem_codesAt.mpr ⟨code_lt m h, e⟩, one_code m h⟩
theorem hasC_mem {qs : List Nm} (nd : qs.Nodup) {k : Nat} {l : Lot} (h : LotOk qs l) : hasC qs.length k (codesOf qs l) = true ↔ ∀ a ∈ l, a ∈ planAt qs k := by
  unfold hasC codesOf
  simp only [List.all_map, List.all_eq_true, Function.comp, beq_iff_eq]
  exact ⟨fun H a m => (mem_plan nd (h.mem a m).1 (h.mem a m).2).mpr (H a m), fun H a m => (mem_plan nd (h.mem a m).1 (h.mem a m).2).mp (H a m)⟩
theorem codes_apart {qs : List Nm} {l : Lot} (h : LotOk qs l) : apartC (codesOf qs l) := by
  intro c mc d md e
  unfold codesOf at mc md
  obtain ⟨a, ma, rfl⟩ := List.mem_map.mp mc
  obtain ⟨b, mb, rfl⟩ := List.mem_map.mp md
  have ha := h.mem a ma
  have hb := h.mem b mb
  rw [(codeOf_half ha.2).1, (codeOf_half hb.2).1] at e
  have e1 : a.1 = b.1 := by rw [← idx_get ha.1, ← idx_get hb.1, e]
  have : a = b := by
    have nd := List.pairwise_iff_getElem.mp h.asc.nodup
    obtain ⟨i, hi, rfl⟩ := List.getElem_of_mem ma
    obtain ⟨j, hj, rfl⟩ := List.getElem_of_mem mb
    rcases Nat.lt_trichotomy i j with q | q | q
    · exact absurd (by rw [List.getElem_map, List.getElem_map]; exact e1) (nd i j (by simpa using hi) (by simpa using hj) q)
    · simp [q]
    · exact absurd (by rw [List.getElem_map, List.getElem_map]; exact e1.symm) (nd j i (by simpa using hj) (by simpa using hi) q)
  rw [this]
theorem codes_lt {qs : List Nm} {l : Lot} (h : LotOk qs l) : ∀ c ∈ codesOf qs l, c / 2 < qs.length := by
  intro c mc
  obtain ⟨a, ma, rfl⟩ := List.mem_map.mp mc
  exact code_lt (h.mem a ma).1 (h.mem a ma).2
theorem has_iff {qs : List Nm} (nd : qs.Nodup) {k : Nat} {l : Lot} (h : LotOk qs l) : k &&& maskOf qs.length (codesOf qs l) = wantOf qs.length (codesOf qs l) ↔ ∀ a ∈ l, a ∈ planAt qs k :=
  (and_mask (codes_lt h) (codes_apart h)).trans (hasC_mem nd h)
end D.Pl

set_option Elab.async false
set_option linter.all false
set_option maxRecDepth 100000
set_option maxHeartbeats 1000000
/-! Fd46: answers and lots in order. -/
namespace D.Pl
open PySem D
def ltA (a b : Ans) : Bool := if a.1 = b.1 then decide (a.2 < b.2) else ltNat a.1 b.1
theorem lin_A : Lin ltA := by
  refine ⟨fun a => by simp [ltA], fun a b c h1 h2 => ?_, fun a b h1 h2 => ?_⟩
  · unfold ltA at *
    split at h1 <;> split at h2
    · rename_i e1 e2
      rw [if_pos (e1.trans e2)]
      simp at *; omega
    · rename_i e1 e2
      rw [if_neg (by rw [e1]; exact e2), e1]; exact h2
    · rename_i e1 e2
      rw [if_neg (by rw [← e2]; exact e1), ← e2]; exact h1
    · have := lt_tr h1 h2
      rw [if_neg (lt_ne this)]; exact this
  · unfold ltA at *
    split at h1
    · rename_i e
      rw [if_pos e.symm] at h2
      simp at h1 h2
      exact Prod.ext e (by omega)
    · rename_i e
      rw [if_neg (Ne.symm e)] at h2
      have := lt_tot h1 e
      rw [this] at h2; cases h2
def ltL : Lot → Lot → Bool
  | [], [] => false
  | [], _ :: _ => true
  | _ :: _, [] => false
  | x :: xs, y :: ys => if x = y then ltL xs ys else ltA x y
theorem ltL_ir : ∀ a, ltL a a = false
  | [] => rfl
  | x :: xs => by simp [ltL, ltL_ir xs]
theorem ltL_tr : ∀ {a b c : Lot}, ltL a b = true → ltL b c = true → ltL a c = true
  | [], [], _, h, _ => by simp [ltL] at h
  | [], _ :: _, [], _, h => by simp [ltL] at h
  | [], _ :: _, _ :: _, _, _ => rfl
  | _ :: _, [], _, h, _ => by simp [ltL] at h
  | _ :: _, _ :: _, [], _, h => by simp [ltL] at h
  | x :: xs, y :: ys, z :: zs, h1, h2 => by
    unfold ltL at *
    split at h1 <;> split at h2
    · rename_i e1 e2
      subst e1 e2
      rw [if_pos rfl]
      exact ltL_tr h1 h2
    · rename_i e1 e2
      subst e1
      rw [if_neg e2]; exact h2
    · rename_i e1 e2
      subst e2
      rw [if_neg e1]; exact h1
    · have := lin_A.tr _ _ _ h1 h2
      rw [if_neg (by rintro rfl; rw [lin_A.ir] at this; cases this)]; exact this
theorem ltL_tot : ∀ {a b : Lot}, ltL a b = false → ltL b a = false → a = b
  | [], [], _, _ => rfl
  | [], _ :: _, h, _ => by simp [ltL] at h
  | _ :: _, [], _, h => by simp [ltL] at h
  | x :: xs, y :: ys, h1, h2 => by
    unfold ltL at h1 h2
    split at h1
    · rename_i e
      subst e
      rw [if_pos rfl] at h2
      rw [ltL_tot h1 h2]
    · rename_i e
      rw [if_neg (Ne.symm e)] at h2
      exact absurd (lin_A.tot _ _ h1 h2) e
theorem lin_L : Lin ltL := ⟨ltL_ir, fun _ _ _ => ltL_tr, fun _ _ => ltL_tot⟩
theorem pyEq_ans (a b : Ans) : pyEq (ansV a) (ansV b) = decide (a = b) := by
  simp [Prod.ext_iff]
  rw [Bool.eq_iff_iff]; simp
theorem pyLt_ans (a b : Ans) : pyLt (ansV a) (ansV b) = ltA a b := by
  simp only [ansV, pyLt, pyLts, eq_str, eq_int, ltA]
  by_cases h : a.1 = b.1
  · rw [if_pos h, if_pos (by simpa using h)]
    by_cases q : a.2 = b.2
    · simp [q]
    · simp [q]
  · rw [if_neg h, if_neg (by simpa using h)]
theorem pyLts_lot : ∀ a b : Lot, pyLts (a.map ansV) (b.map ansV) = ltL a b
  | [], [] => rfl
  | [], _ :: _ => rfl
  | _ :: _, [] => rfl
  | x :: xs, y :: ys => by
    simp only [List.map_cons, pyLts, ltL, pyEq_ans, pyLt_ans, pyLts_lot xs ys, decide_eq_true_eq]
theorem pyLt_lot (a b : Lot) : pyLt (lotV a) (lotV b) = ltL a b := by
  unfold lotV pyLt
  exact pyLts_lot a b
theorem ordPs_lot : ∀ a b : Lot, ordPs (a.map ansV) (b.map ansV) = true
  | [], _ => by simp [ordPs]
  | _ :: _, [] => by simp [ordPs]
  | x :: xs, y :: ys => by
    simp only [List.map_cons, ordPs, ordPs_lot xs ys, ansV, ordP, Bool.and_self]
theorem sortable_lots {xs : List Lot} (ne : ∀ l ∈ xs, l ≠ []) : sortable (xs.map lotV) = true := by
  unfold sortable
  rw [Bool.or_eq_true, Bool.or_eq_true, Bool.and_eq_true, Bool.and_eq_true]
  refine .inr (.inr ⟨?_, ?_, by simp⟩)
  · simp only [List.all_map, List.all_eq_true, Function.comp]
    intro l m
    cases l with
    | nil => exact absurd rfl (ne _ m)
    | cons a l => rfl
  · simp only [List.all_map, List.all_eq_true, Function.comp]
    intro l _ k _
    unfold ordP
    exact ordPs_lot l k
theorem sortable_ans (xs : List Ans) : sortable (xs.map ansV) = true := by
  unfold sortable
  rw [Bool.or_eq_true, Bool.or_eq_true, Bool.and_eq_true, Bool.and_eq_true]
  refine .inr (.inr ⟨?_, ?_, by simp⟩)
  · simp [isTup1]
  · simp [ordP, ordPs]
theorem sorted_lots {xs : List Lot} (ne : ∀ l ∈ xs, l ≠ []) (hl : xs.length ≤ 16777216) (h : AH) : bi1V false "sorted" (.pv (.lst (xs.map lotV))) h = .ok (.pv (.lst ((sortB ltL xs).map lotV))) h := by
  have e := sortB_map (lt := ltL) (f := lotV) pyLt_lot xs
  have e2 := newL_f h (((sortB ltL xs).map lotV).map .pv) _ (allPV_map _) (by rw [List.length_map, List.length_map, (sortB_perm (lt := ltL) xs).length_eq]; exact hl)
  simp only [bi1V, viewL, bi1R]
  rw [if_neg (by decide), allPV_map]
  simp only [sortable_lots ne, if_true, e, e2]
theorem sorted_ans {xs : List Ans} (hl : xs.length ≤ 16777216) (h : AH) : bi1V false "sorted" (.pv (.lst (xs.map ansV))) h = .ok (.pv (.lst ((sortB ltA xs).map ansV))) h := by
  have e := sortB_map (lt := ltA) (f := ansV) pyLt_ans xs
  have e2 := newL_f h (((sortB ltA xs).map ansV).map .pv) _ (allPV_map _) (by rw [List.length_map, List.length_map, (sortB_perm (lt := ltA) xs).length_eq]; exact hl)
  simp only [bi1V, viewL, bi1R]
  rw [if_neg (by decide), allPV_map]
  simp only [sortable_ans xs, if_true, e, e2]
/-- strictly rising: sorted of any order of them -/
theorem sort_of {α : Type} {lt : α → α → Bool} (L : Lin lt) {xs ys : List α} (p : ys.Perm xs) (s : ys.Pairwise (fun a b => lt a b = true)) : sortB lt xs = ys :=
  (sortB_uniq L p (s.imp fun h => L.as h)).symm
theorem ltL_snoc (r : Lot) {a b : Ans} (h : ltA a b = true) : ltL (r ++ [a]) (r ++ [b]) = true := by
  induction r with
  | nil => simp [ltL, h]; rintro rfl; rw [lin_A.ir] at h; cases h
  | cons x r ih => simp [ltL, ih]
theorem ltL_app : ∀ {r s : Lot} (a b : Lot), r.length = s.length → ltL r s = true → ltL (r ++ a) (s ++ b) = true
  | [], [], _, _, _, h => by simp [ltL] at h
  | [], _ :: _, _, _, e, _ => by simp at e
  | _ :: _, [], _, _, e, _ => by simp at e
  | x :: xs, y :: ys, a, b, e, h => by
    simp only [List.cons_append]
    unfold ltL at *
    split at h
    · rename_i q
      rw [if_pos q]
      exact ltL_app a b (by simpa using e) h
    · rename_i q
      rw [if_neg q]; exact h
/-! dicts with text keys -/
section
variable (C : Calls) (lo : Nat) (ρ : Env) (h : AH)
@[scoped simp] theorem e_dct0 (m : Bool) : evE C lo (.dct0 m) ρ h = newD m [] h := (rfl)
@[scoped simp] theorem e_dctL (m : Bool) (a : E) : evE C lo (.dctL m a) ρ h = (evE C lo a ρ h).bind (dctR m) := (rfl)
@[scoped simp] theorem ei_itms (e : E) : evI C lo (.itms e) ρ h = (evE C lo e ρ h).bind itmsO := (rfl)
@[scoped simp] theorem ei_vals (e : E) : evI C lo (.vals e) ρ h = (evE C lo e ρ h).bind valsO := (rfl)
@[scoped simp] theorem itm_dct (kvs : List (PV × PV)) : itmO (.pv (.dct kvs)) h = .ok (kvs.map fun p => .pv p.1) h := (rfl)
@[scoped simp] theorem itms_dct (kvs : List (PV × PV)) : itmsO (.pv (.dct kvs)) h = .ok (kvs.map fun p => .pv (.tup [p.1, p.2])) h := (rfl)
@[scoped simp] theorem newD_f0 : newD false [] h = .ok (.pv (.dct [])) h := (rfl)
end
section
variable {α : Type} (f : α → PV)
abbrev dV (RS : List (Nm × α)) : PV := .dct (RS.map fun p => (.str p.1, f p.2))
theorem dput_new {β : Type} (q : Nm) (v : β) (kvs : List (PV × β)) (n : ∀ p ∈ kvs, keyEq p.1 (.str q) = false) : dput (.str q) v kvs = kvs ++ [(.str q, v)] := by
  unfold dput
  rw [if_neg]
  simp only [List.any_eq_true, not_exists, not_and]
  intro p m
  rw [n p m]; simp
theorem dmerge_new {β : Type} (g : Nm × α → β) : ∀ (RS : List (Nm × α)) (P : List (Nm × α)), ((P ++ RS).map (·.1)).Nodup → dmerge (P.map fun p => (PV.str p.1, g p)) (RS.map fun p => (PV.str p.1, g p)) = (P ++ RS).map fun p => (PV.str p.1, g p)
  | [], P, _ => by simp [dmerge]
  | r :: RS, P, nd => by
    have e := dput_new r.1 (g r) (P.map fun p => (PV.str p.1, g p)) (by
      intro p m
      obtain ⟨q, mq, rfl⟩ := List.mem_map.mp m
      simp only [keyEq, decide_eq_false_iff_not]
      rw [List.map_append, List.nodup_append] at nd
      exact nd.2.2 _ (List.mem_map.mpr ⟨q, mq, rfl⟩) _ (List.mem_map.mpr ⟨r, by simp, rfl⟩))
    have ih := dmerge_new g RS (P ++ [r]) (by simpa using nd)
    unfold dmerge at ih ⊢
    rw [List.map_cons, List.foldl_cons, e]
    simp only [List.map_append, List.map_cons, List.map_nil, List.append_assoc, List.cons_append, List.nil_append] at ih ⊢
    exact ih
theorem pairs_eq : ∀ RS : List (Nm × α), pairs? (RS.map fun p => PV.tup [.str p.1, f p.2]) = some (RS.map fun p => (PV.str p.1, RV.pv (f p.2)))
  | [] => rfl
  | r :: RS => by simp [pairs?, isKey, pairs_eq RS]
theorem dctPV_eq : ∀ RS : List (Nm × α), dctPV (RS.map fun p => (PV.str p.1, RV.pv (f p.2))) = some (RS.map fun p => (PV.str p.1, f p.2))
  | [] => rfl
  | r :: RS => by simp [dctPV, dctPV_eq RS]
theorem dctR_pairs (RS : List (Nm × α)) (nd : (RS.map (·.1)).Nodup) (h : AH) : dctR false (.pv (.lst (RS.map fun p => .tup [.str p.1, f p.2]))) h = .ok (.pv (dV f RS)) h := by
  have e := dmerge_new (fun p => RV.pv (f p.2)) RS [] (by simpa using nd)
  simp only [List.map_nil, List.nil_append] at e
  simp only [dctR, dctK, viewD, viewL, Option.bind_some, allPV_map, pairs_eq, Option.map_some, e, newD, Bool.false_eq_true, if_false, dctPV_eq]
theorem dget_mem {β : Type} (g : Nm × α → β) : ∀ {RS : List (Nm × α)}, (RS.map (·.1)).Nodup → ∀ {r : Nm × α}, r ∈ RS → dget (.str r.1) (RS.map fun p => (PV.str p.1, g p)) = some (g r)
  | r0 :: RS, nd, r, m => by
    simp only [List.map_cons, List.nodup_cons] at nd
    unfold dget
    rw [List.map_cons, List.find?_cons]
    rcases List.mem_cons.mp m with rfl | m
    · simp [keyEq]
    · have ne : keyEq (.str r0.1) (.str r.1) = false := by
        simp only [keyEq, decide_eq_false_iff_not]
        intro q
        exact nd.1 (by rw [q]; exact List.mem_map.mpr ⟨r, m, rfl⟩)
      rw [ne]
      exact dget_mem g nd.2 m
theorem idx_dct (RS : List (Nm × α)) (nd : (RS.map (·.1)).Nodup) {r : Nm × α} (m : r ∈ RS) (h : AH) : idxR (.pv (dV f RS)) (.pv (.str r.1)) h = .ok (.pv (f r.2)) h := by
  have e := dget_mem (fun p => RV.pv (f p.2)) nd m
  simp only [idxR, dgetO, viewD, isKey, if_true]
  rw [List.map_map, show ((fun p : PV × PV => (p.1, RV.pv p.2)) ∘ fun p : Nm × α => (PV.str p.1, f p.2)) = fun p => (PV.str p.1, RV.pv (f p.2)) from rfl, e]
  rfl
end
end D.Pl

set_option Elab.async false
set_option linter.all false
set_option maxRecDepth 100000
set_option maxHeartbeats 0
namespace D.k64
open PySem D D.Pl
def f_Plans____init__ : Fn := ⟨3, 5, (.cons (.setF (.var 0) "names" ["Plans"] (.var 1)) (.cons (.setF (.var 0) "many" ["Plans"] (.bi "len" (.cons (.var 1) .nil))) (.cons (.setF (.var 0) "can" ["Plans"] (.var 2)) (.cons (.setF (.var 0) "allowed" ["Plans"] (.lc false (.tp [3, 4]) (.enm (.var 2)) (.cons (.var 4) .nil) (.var 3))) .nil)))), true⟩
def f_Plans__code_of : Fn := ⟨2, 2, (.cons (.ret (.bin false .add (.bin false .mul (.cst (.int 2)) (.bm "index" (.attr (.var 0) "names" ["Plans"]) (.cons (.idx (.var 1) (.cst (.int 0))) .nil))) (.idx (.var 1) (.cst (.int 1))))) .nil), false⟩
def f_Plans__answer_of : Fn := ⟨2, 2, (.cons (.ret (.tup (.cons (.idx (.attr (.var 0) "names" ["Plans"]) (.bin false .fdiv (.var 1) (.cst (.int 2)))) (.cons (.bin false .mod (.var 1) (.cst (.int 2))) .nil)))) .nil), false⟩
def f_Plans__codes_of : Fn := ⟨2, 3, (.cons (.ret (.bi1 false "tuple" (.gen (.nm 2) (.seq (.var 1)) .nil (.meth (.var 0) "code_of" [("Plans", "Plans.code_of")] (.cons (.var 2) .nil))))) .nil), false⟩
def f_Plans__lot_of : Fn := ⟨2, 3, (.cons (.ret (.bi1 false "tuple" (.gen (.nm 2) (.seq (.var 1)) .nil (.meth (.var 0) "answer_of" [("Plans", "Plans.answer_of")] (.cons (.var 2) .nil))))) .nil), false⟩
def f_Plans__number_of : Fn := ⟨2, 4, (.cons (.asg (.nm 2) (.cst (.int 0))) (.cons (.for_ (.nm 3) (.seq (.var 1)) (.cons (.asg (.nm 2) (.bin false .add (.bin false .mul (.cst (.int 2)) (.var 2)) (.idx (.var 3) (.cst (.int 1))))) .nil)) (.cons (.ret (.var 2)) .nil))), false⟩
def f_Plans__codes_at : Fn := ⟨2, 4, (.cons (.asg (.nm 2) (.bin false .sub (.attr (.var 0) "many" ["Plans"]) (.cst (.int 1)))) (.cons (.ret (.bi1 false "tuple" (.gen (.nm 3) (.rng (.cons (.attr (.var 0) "many" ["Plans"]) .nil)) .nil (.bin false .add (.bin false .mul (.cst (.int 2)) (.var 3)) (.bin false .band (.bin false .shr (.var 1) (.bin false .sub (.var 2) (.var 3))) (.cst (.int 1))))))) .nil)), false⟩
def f_Plans__plan_of : Fn := ⟨2, 2, (.cons (.ret (.meth (.var 0) "lot_of" [("Plans", "Plans.lot_of")] (.cons (.meth (.var 0) "codes_at" [("Plans", "Plans.codes_at")] (.cons (.var 1) .nil)) .nil))) .nil), false⟩
def f_Plans__bits_of : Fn := ⟨2, 6, (.cons (.asg (.nm 2) (.cst (.int 0))) (.cons (.asg (.nm 3) (.cst (.int 0))) (.cons (.for_ (.nm 4) (.seq (.var 1)) (.cons (.asg (.nm 5) (.bin false .shl (.cst (.int 1)) (.bin false .sub (.bin false .sub (.attr (.var 0) "many" ["Plans"]) (.cst (.int 1))) (.bin false .fdiv (.var 4) (.cst (.int 2)))))) (.cons (.aug 2 .bor (.var 5)) (.cons (.aug 3 .bor (.bin false .mul (.var 5) (.bin false .mod (.var 4) (.cst (.int 2))))) .nil)))) (.cons (.ret (.tup (.cons (.var 2) (.cons (.var 3) .nil)))) .nil)))), false⟩
def f_flags_of : Fn := ⟨1, 9, (.cons (.asg (.tp [4, 5]) (.var 0)) (.cons (.asg (.nm 1) (.make false "Plans" "Plans.__init__" (.cons (.var 4) (.cons (.lst false .nil) .nil)))) (.cons (.asg (.nm 2) (.bi1 false "list" (.rng (.cons (.bin false .shl (.cst (.int 1)) (.bi "len" (.cons (.var 4) .nil))) .nil)))) (.cons (.for_ (.nm 3) (.seq (.var 5)) (.cons (.asg (.tp [6, 7]) (.meth (.var 1) "bits_of" [("Plans", "Plans.bits_of")] (.cons (.meth (.var 1) "codes_of" [("Plans", "Plans.codes_of")] (.cons (.var 3) .nil)) .nil))) (.cons (.asg (.nm 2) (.lc false (.nm 8) (.seq (.var 2)) (.cons (.cmp .ne (.bin false .band (.var 8) (.var 6)) (.var 7)) .nil) (.var 8))) .nil))) (.cons (.ret (.call "flags_from" (.cons (.var 4) (.cons (.var 2) .nil)))) .nil))))), false⟩
def f_flags_from : Fn := ⟨2, 4, (.cons (.asg (.nm 2) (.bin true .mul (.lst false (.cons (.cst (.bl false)) .nil)) (.bin false .shl (.cst (.int 1)) (.bi "len" (.cons (.var 0) .nil))))) (.cons (.for_ (.nm 3) (.seq (.var 1)) (.cons (.setI (.var 2) (.var 3) (.cst (.bl true))) .nil)) (.cons (.ret (.var 2)) .nil))), false⟩
def f_plans_in : Fn := ⟨1, 1, (.cons (.ret (.make false "Plans" "Plans.__init__" (.cons (.idx (.var 0) (.cst (.int 0))) (.cons (.call "flags_of" (.cons (.var 0) .nil)) .nil)))) .nil), false⟩
def f_far_sums : Fn := ⟨2, 8, (.cons (.asg (.nm 2) (.bin false .mul (.lst false (.cons (.cst (.int 0)) .nil)) (.bi "len" (.cons (.attr (.var 0) "allowed" ["Plans"]) .nil)))) (.cons (.for_ (.nm 3) (.rng (.cons (.attr (.var 0) "many" ["Plans"]) .nil)) (.cons (.asg (.nm 4) (.bi1 false "sum" (.gen (.nm 6) (.seq (.var 1)) .nil (.bin false .band (.bin false .shr (.var 6) (.var 3)) (.cst (.int 1)))))) (.cons (.asg (.nm 5) (.tup (.cons (.var 4) (.cons (.bin false .sub (.bi "len" (.cons (.var 1) .nil)) (.var 4)) .nil)))) (.cons (.asg (.nm 2) (.lc false (.tp [7, 6]) (.zip (.var 2) (.attr (.var 0) "allowed" ["Plans"])) .nil (.bin false .add (.var 7) (.idx (.var 5) (.bin false .band (.bin false .shr (.var 6) (.var 3)) (.cst (.int 1))))))) .nil)))) (.cons (.ret (.var 2)) .nil))), false⟩
def f_nearest_plans : Fn := ⟨2, 8, (.cons (.asg (.nm 2) (.call "plans_in" (.cons (.var 0) .nil))) (.cons (.asg (.nm 3) (.call "far_sums" (.cons (.var 2) (.cons (.lc false (.nm 5) (.seq (.var 1)) .nil (.meth (.var 2) "number_of" [("Plans", "Plans.number_of")] (.cons (.var 5) .nil))) .nil)))) (.cons (.asg (.nm 4) (.bi1 false "min" (.seq (.var 3)))) (.cons (.ret (.bi1 false "tuple" (.gen (.tp [6, 7]) (.zip (.attr (.var 2) "allowed" ["Plans"]) (.var 3)) (.cons (.cmp .eq (.var 7) (.var 4)) .nil) (.meth (.var 2) "plan_of" [("Plans", "Plans.plan_of")] (.cons (.var 6) .nil))))) .nil)))), false⟩
def f_majority_plan : Fn := ⟨1, 6, (.cons (.ifs (.cmp .eq (.bin false .mod (.bi "len" (.cons (.var 0) .nil)) (.cst (.int 2))) (.cst (.int 0))) (.cons (.rais "Even" [] .nil) .nil) .nil) (.cons (.asg (.nm 1) (.lst true .nil)) (.cons (.for_ (.tp [2, 3]) (.enm (.idx (.var 0) (.cst (.int 0)))) (.cons (.asg (.nm 4) (.bi1 false "sum" (.gen (.nm 5) (.seq (.var 0)) .nil (.idx (.idx (.var 5) (.var 2)) (.cst (.int 1)))))) (.cons (.ex (.bm "append" (.var 1) (.cons (.tup (.cons (.idx (.var 3) (.cst (.int 0))) (.cons (.ifx (.cmp .gt (.bin false .mul (.cst (.int 2)) (.var 4)) (.bi "len" (.cons (.var 0) .nil))) (.cst (.int 1)) (.cst (.int 0))) .nil))) .nil))) .nil))) (.cons (.frz 1 (.ret (.bi1 false "tuple" (.seq (.var 1))))) .nil)))), false⟩
def f_is_number : Fn := ⟨1, 1, (.cons (.ret (.and_ (.cons (.isi (.var 0) "int") (.cons (.not_ (.isi (.var 0) "bool")) .nil)))) .nil), false⟩
def f_is_between : Fn := ⟨3, 3, (.cons (.ret (.and_ (.cons (.call "is_number" (.cons (.var 0) .nil)) (.cons (.chain .le .le (.var 1) (.var 0) (.var 2)) .nil)))) .nil), false⟩
def f_is_pair : Fn := ⟨1, 1, (.cons (.ret (.and_ (.cons (.isi (.var 0) "tuple") (.cons (.cmp .eq (.bi "len" (.cons (.var 0) .nil)) (.cst (.int 2))) .nil)))) .nil), false⟩
def f_is_question : Fn := ⟨2, 2, (.cons (.ret (.and_ (.cons (.isi (.var 1) "str") (.cons (.cmp .in_ (.var 1) (.var 0)) .nil)))) .nil), false⟩
def f_is_answer : Fn := ⟨2, 2, (.cons (.ret (.and_ (.cons (.call "is_pair" (.cons (.var 1) .nil)) (.cons (.call "is_question" (.cons (.var 0) (.cons (.idx (.var 1) (.cst (.int 0))) .nil))) (.cons (.call "is_between" (.cons (.idx (.var 1) (.cst (.int 1))) (.cons (.cst (.int 0)) (.cons (.cst (.int 1)) .nil)))) .nil))))) .nil), false⟩
def f_is_lot : Fn := ⟨2, 4, (.cons (.ifs (.not_ (.isi (.var 1) "tuple")) (.cons (.ret (.cst (.bl false))) .nil) .nil) (.cons (.asg (.nm 2) (.cst (.str []))) (.cons (.for_ (.nm 3) (.seq (.var 1)) (.cons (.ifs (.or_ (.cons (.not_ (.call "is_answer" (.cons (.var 0) (.cons (.var 3) .nil)))) (.cons (.not_ (.cmp .lt (.var 2) (.idx (.var 3) (.cst (.int 0))))) .nil))) (.cons (.ret (.cst (.bl false))) .nil) .nil) (.cons (.asg (.nm 2) (.idx (.var 3) (.cst (.int 0)))) .nil))) (.cons (.ret (.cst (.bl true))) .nil)))), false⟩
def f_is_plan : Fn := ⟨2, 2, (.cons (.ret (.and_ (.cons (.call "is_lot" (.cons (.var 0) (.cons (.var 1) .nil))) (.cons (.cmp .eq (.bi "len" (.cons (.var 1) .nil)) (.bi "len" (.cons (.var 0) .nil))) .nil)))) .nil), false⟩
def f_is_allowed : Fn := ⟨2, 3, (.cons (.ifs (.not_ (.call "is_plan" (.cons (.idx (.var 0) (.cst (.int 0))) (.cons (.var 1) .nil)))) (.cons (.ret (.cst (.bl false))) .nil) .nil) (.cons (.asg (.nm 2) (.call "plans_in" (.cons (.var 0) .nil))) (.cons (.ret (.idx (.attr (.var 2) "can" ["Plans"]) (.meth (.var 2) "number_of" [("Plans", "Plans.number_of")] (.cons (.var 1) .nil)))) .nil))), false⟩
def f__law_reel : Fn := ⟨1, 4, (.cons (.asg (.nm 1) (.lst true .nil)) (.cons (.asg (.nm 2) (.cst (.int 4711))) (.cons (.for_ (.nm 3) (.seq (.var 0)) (.cons (.asg (.nm 2) (.bin false .mod (.bi "int" (.cons (.bin false .add (.bin false .add (.bin false .mul (.var 2) (.cst (.int 37))) (.bin false .mod (.bi "int" (.cons (.var 3) .nil)) (.cst (.int 1000003)))) (.cst (.int 5))) .nil)) (.cst (.int 2147483647)))) (.cons (.ifs (.cmp .ge (.bi "abs" (.cons (.bi "int" (.cons (.var 3) .nil)) .nil)) (.bin false .pow (.cst (.int 10)) (.cst (.int 18)))) (.cons (.ex (.bm "append" (.var 1) (.cons (.bi "abs" (.cons (.bi "int" (.cons (.var 3) .nil)) .nil)) .nil))) .nil) .nil) .nil))) (.cons (.ret (.lst true (.cons (.var 1) (.cons (.cst (.int 0)) (.cons (.cst (.int 0)) (.cons (.var 2) .nil)))))) .nil)))), true⟩
def f__law_next : Fn := ⟨2, 3, (.cons (.ifs (.and_ (.cons (.cmp .eq (.idx (.var 0) (.cst (.int 1))) (.cst (.int 0))) (.cons (.cmp .gt (.bi "len" (.cons (.idx (.var 0) (.cst (.int 0))) .nil)) (.cst (.int 0))) .nil))) (.cons (.setI (.var 0) (.cst (.int 1)) (.bm "pop" (.idx (.var 0) (.cst (.int 0))) (.cons (.cst (.int 0)) .nil))) (.cons (.setI (.var 0) (.cst (.int 2)) (.cst (.int 60))) .nil)) .nil) (.cons (.ifs (.cmp .gt (.idx (.var 0) (.cst (.int 1))) (.cst (.int 0))) (.cons (.asg (.nm 2) (.bin false .mod (.bi "int" (.cons (.idx (.var 0) (.cst (.int 1))) .nil)) (.var 1))) (.cons (.setI (.var 0) (.cst (.int 2)) (.bin false .sub (.idx (.var 0) (.cst (.int 2))) (.cst (.int 1)))) (.cons (.setI (.var 0) (.cst (.int 1)) (.bin false .mul (.bin false .fdiv (.idx (.var 0) (.cst (.int 1))) (.var 1)) (.bi "int" (.cons (.cmp .gt (.idx (.var 0) (.cst (.int 2))) (.cst (.int 0))) .nil)))) (.cons (.ret (.var 2)) .nil)))) .nil) (.cons (.setI (.var 0) (.cst (.int 3)) (.bin false .mod (.bi "int" (.cons (.bin false .add (.bin false .mul (.idx (.var 0) (.cst (.int 3))) (.cst (.int 48271))) (.cst (.int 12347))) .nil)) (.cst (.int 2147483647)))) (.cons (.ret (.bin false .mod (.bi "int" (.cons (.bin false .fdiv (.idx (.var 0) (.cst (.int 3))) (.cst (.int 32))) .nil)) (.var 1))) .nil)))), false⟩
def f__law_one : Fn := ⟨2, 2, (.cons (.ret (.idx (.var 1) (.call "_law_next" (.cons (.var 0) (.cons (.bi "len" (.cons (.var 1) .nil)) .nil))))) .nil), false⟩
def f__law_mixed : Fn := ⟨2, 4, (.cons (.asg (.nm 2) (.bi1 true "list" (.seq (.var 1)))) (.cons (.ret (.lc false (.nm 3) (.rng (.cons (.bi "len" (.cons (.var 1) .nil)) .nil)) .nil (.bm "pop" (.var 2) (.cons (.call "_law_next" (.cons (.var 0) (.cons (.bi "len" (.cons (.var 2) .nil)) .nil))) .nil)))) .nil)), false⟩
def f__law_alike : Fn := ⟨2, 3, (.cons (.ifs (.cmp .isN (.var 1) (.cst .non)) (.cons (.ret (.cmp .isN (.var 0) (.cst .non))) .nil) .nil) (.cons (.ifs (.isi (.var 1) "tuple") (.cons (.ifs (.or_ (.cons (.not_ (.isi (.var 0) "tuple")) (.cons (.cmp .ne (.bi "len" (.cons (.var 0) .nil)) (.bi "len" (.cons (.var 1) .nil))) .nil))) (.cons (.ret (.cst (.bl false))) .nil) .nil) (.cons (.ret (.cmp .eq (.lc false (.nm 2) (.rng (.cons (.bi "len" (.cons (.var 1) .nil)) .nil)) (.cons (.not_ (.call "_law_alike" (.cons (.idx (.var 0) (.var 2)) (.cons (.idx (.var 1) (.var 2)) .nil)))) .nil) (.var 2)) (.lst false .nil))) .nil)) .nil) (.cons (.ifs (.isi (.var 1) "bool") (.cons (.ret (.and_ (.cons (.isi (.var 0) "bool") (.cons (.cmp .eq (.var 0) (.var 1)) .nil)))) .nil) .nil) (.cons (.ifs (.isi (.var 1) "int") (.cons (.ret (.and_ (.cons (.isi (.var 0) "int") (.cons (.not_ (.isi (.var 0) "bool")) (.cons (.cmp .eq (.var 0) (.var 1)) .nil))))) .nil) .nil) (.cons (.ret (.and_ (.cons (.isi (.var 0) "str") (.cons (.cmp .eq (.var 0) (.var 1)) .nil)))) .nil))))), false⟩
def f__law_names : Fn := ⟨2, 4, (.cons (.asg (.nm 2) (.call "_law_one" (.cons (.var 0) (.cons (.lst false (.cons (.cst (.str [])) (.cons (.cst (.str [48])) (.cons (.cst (.str [46, 120])) (.cons (.cst (.str [57, 122])) (.cons (.cst (.str [113, 46, 55])) .nil)))))) .nil)))) (.cons (.ret (.bi1 false "tuple" (.seq (.bi1 false "sorted" (.seq (.lc false (.nm 3) (.seq (.slc false (.call "_law_mixed" (.cons (.var 0) (.cons (.cst (.str [97, 98, 99, 100, 101, 102, 103, 104, 105, 106, 107, 108])) .nil))) (.cst .non) (.var 1))) .nil (.bin false .add (.var 3) (.var 2)))))))) .nil)), false⟩
def f__law_all_plans : Fn := ⟨1, 3, (.cons (.asg (.nm 1) (.lst false (.cons (.tup .nil) .nil))) (.cons (.for_ (.nm 2) (.seq (.var 0)) (.cons (.asg (.nm 1) (.call "_law_longer" (.cons (.var 1) (.cons (.var 2) .nil)))) .nil)) (.cons (.ret (.bi1 false "sorted" (.seq (.var 1)))) .nil))), false⟩
def f__law_longer : Fn := ⟨2, 3, (.cons (.ret (.bin false .add (.lc false (.nm 2) (.seq (.var 0)) .nil (.bin false .add (.var 2) (.tup (.cons (.tup (.cons (.var 1) (.cons (.cst (.int 0)) .nil))) .nil)))) (.lc false (.nm 2) (.seq (.var 0)) .nil (.bin false .add (.var 2) (.tup (.cons (.tup (.cons (.var 1) (.cons (.cst (.int 1)) .nil))) .nil)))))) .nil), false⟩
def f__law_plans : Fn := ⟨1, 6, (.cons (.asg (.tp [1, 2]) (.var 0)) (.cons (.ret (.lc false (.nm 3) (.seq (.call "_law_all_plans" (.cons (.var 1) .nil))) (.cons (.cmp .eq (.lc false (.nm 4) (.seq (.var 2)) (.cons (.cmp .eq (.lc false (.nm 5) (.seq (.var 4)) (.cons (.cmp .notIn (.var 5) (.var 3)) .nil) (.var 5)) (.lst false .nil)) .nil) (.var 4)) (.lst false .nil)) .nil) (.var 3))) .nil)), false⟩
def f__law_clashes : Fn := ⟨2, 9, (.cons (.asg (.nm 2) (.lst false (.cons (.tup .nil) .nil))) (.cons (.for_ (.nm 3) (.seq (.var 0)) (.cons (.asg (.nm 2) (.bin false .add (.var 2) (.call "_law_longer" (.cons (.var 2) (.cons (.var 3) .nil))))) .nil)) (.cons (.asg (.nm 4) (.lc false (.nm 5) (.seq (.var 2)) (.cons (.cmp .eq (.lc false (.nm 6) (.seq (.var 1)) (.cons (.cmp .eq (.lc false (.nm 8) (.seq (.var 5)) (.cons (.cmp .notIn (.var 8) (.var 6)) .nil) (.var 8)) (.lst false .nil)) .nil) (.var 6)) (.lst false .nil)) .nil) (.var 5))) (.cons (.ret (.bi1 false "sorted" (.seq (.lc false (.nm 5) (.seq (.var 4)) (.cons (.cmp .eq (.lc false (.nm 7) (.seq (.var 5)) (.cons (.cmp .in_ (.bi1 false "tuple" (.seq (.lc false (.nm 8) (.seq (.var 5)) (.cons (.cmp .ne (.var 8) (.var 7)) .nil) (.var 8)))) (.var 4)) .nil) (.var 7)) (.lst false .nil)) .nil) (.var 5))))) .nil)))), false⟩
def f__law_with_bars : Fn := ⟨3, 7, (.cons (.asg (.nm 3) (.call "_law_clashes" (.cons (.var 1) (.cons (.var 2) .nil)))) (.cons (.asg (.nm 4) (.lc false (.nm 6) (.seq (.call "_law_all_plans" (.cons (.var 1) .nil))) (.cons (.cmp .notIn (.var 6) (.var 2)) .nil) (.var 6))) (.cons (.asg (.nm 5) (.call "_law_one" (.cons (.var 0) (.cons (.lst false (.cons (.var 3) (.cons (.var 4) (.cons (.call "_law_mixed" (.cons (.var 0) (.cons (.bin false .add (.var 3) (.lc false (.nm 6) (.seq (.var 4)) (.cons (.cmp .notIn (.var 6) (.var 3)) .nil) (.var 6))) .nil))) .nil)))) .nil)))) (.cons (.ret (.tup (.cons (.var 1) (.cons (.bi1 false "tuple" (.seq (.var 5))) .nil)))) .nil)))), false⟩
def f__law_kind : Fn := ⟨2, 10, (.cons (.asg (.nm 2) (.lc false (.nm 7) (.rng (.cons (.idx (.lst false (.cons (.cst (.int 1)) (.cons (.cst (.int 2)) (.cons (.cst (.int 4)) (.cons (.cst (.int 8)) .nil))))) (.var 1)) .nil)) .nil (.bi1 false "tuple" (.seq (.lc false (.nm 8) (.rng (.cons (.var 1) .nil)) .nil (.bin false .mod (.bi "int" (.cons (.bin false .fdiv (.var 7) (.idx (.lst false (.cons (.cst (.int 1)) (.cons (.cst (.int 2)) (.cons (.cst (.int 4)) .nil)))) (.var 8))) .nil)) (.cst (.int 2)))))))) (.cons (.asg (.nm 3) (.call "_law_next" (.cons (.var 0) (.cons (.cst (.int 7)) .nil)))) (.cons (.asg (.nm 4) (.lc false (.nm 8) (.rng (.cons (.var 1) .nil)) .nil (.call "_law_next" (.cons (.var 0) (.cons (.cst (.int 2)) .nil))))) (.cons (.asg (.nm 5) (.slc false (.call "_law_mixed" (.cons (.var 0) (.cons (.bi1 false "list" (.rng (.cons (.var 1) .nil))) .nil))) (.cst .non) (.bin false .add (.cst (.int 1)) (.call "_law_next" (.cons (.var 0) (.cons (.var 1) .nil)))))) (.cons (.ifs (.cmp .lt (.var 3) (.cst (.int 3))) (.cons (.asg (.nm 6) (.lc false (.nm 9) (.seq (.var 2)) (.cons (.cmp .eq (.lc false (.nm 8) (.seq (.var 5)) (.cons (.cmp .ne (.idx (.var 9) (.var 8)) (.idx (.var 4) (.var 8))) .nil) (.var 8)) (.lst false .nil)) .nil) (.var 9))) (.cons (.ret (.ifx (.cmp .lt (.var 3) (.cst (.int 2))) (.var 6) (.lc false (.nm 9) (.seq (.var 2)) (.cons (.cmp .notIn (.var 9) (.var 6)) .nil) (.var 9)))) .nil)) .nil) (.cons (.ifs (.cmp .eq (.var 3) (.cst (.int 3))) (.cons (.ret (.lc false (.nm 9) (.seq (.var 2)) (.cons (.cmp .eq (.bin false .mod (.bi "int" (.cons (.bi1 false "sum" (.seq (.lc false (.nm 8) (.seq (.var 5)) .nil (.idx (.var 9) (.var 8))))) .nil)) (.cst (.int 2))) (.cst (.int 1))) .nil) (.var 9))) .nil) .nil) (.cons (.ifs (.cmp .eq (.var 3) (.cst (.int 4))) (.cons (.ret (.lc false (.nm 9) (.seq (.var 2)) (.cons (.cmp .eq (.idx (.var 9) (.idx (.var 5) (.cst (.int 0)))) (.idx (.var 4) (.cst (.int 0)))) .nil) (.var 9))) .nil) .nil) (.cons (.ret (.ifx (.cmp .eq (.var 3) (.cst (.int 5))) (.lc false (.nm 9) (.seq (.var 2)) (.cons (.cmp .eq (.call "_law_next" (.cons (.var 0) (.cons (.cst (.int 2)) .nil))) (.cst (.int 0))) .nil) (.var 9)) (.call "_law_one" (.cons (.var 0) (.cons (.lst false (.cons (.lst false .nil) (.cons (.var 2) .nil))) .nil))))) .nil)))))))), false⟩
def f__law_linked : Fn := ⟨2, 12, (.cons (.asg (.nm 2) (.bin false .add (.cst (.int 1)) (.call "_law_next" (.cons (.var 0) (.cons (.var 1) .nil))))) (.cons (.asg (.nm 3) (.ifx (.cmp .lt (.var 2) (.cst (.int 3))) (.call "_law_names" (.cons (.var 0) (.cons (.bin false .add (.var 2) (.call "_law_one" (.cons (.var 0) (.cons (.lst false (.cons (.cst (.int 0)) (.cons (.cst (.int 1)) (.cons (.cst (.int 1)) (.cons (.cst (.int 2)) .nil))))) .nil)))) .nil))) (.call "_law_names" (.cons (.var 0) (.cons (.bin false .add (.var 2) (.call "_law_next" (.cons (.var 0) (.cons (.cst (.int 2)) .nil)))) .nil))))) (.cons (.asg (.nm 4) (.bi1 false "tuple" (.seq (.bi1 false "sorted" (.seq (.slc false (.call "_law_mixed" (.cons (.var 0) (.cons (.bi1 false "list" (.seq (.var 3))) .nil))) (.cst .non) (.var 2))))))) (.cons (.asg (.nm 5) (.dctL false (.lc false (.nm 10) (.seq (.var 3)) (.cons (.cmp .notIn (.var 10) (.var 4)) .nil) (.tup (.cons (.var 10) (.cons (.call "_law_kind" (.cons (.var 0) (.cons (.var 2) .nil))) .nil)))))) (.cons (.asg (.nm 6) (.lst true .nil)) (.cons (.for_ (.nm 7) (.rng (.cons (.idx (.lst false (.cons (.cst (.int 1)) (.cons (.cst (.int 2)) (.cons (.cst (.int 4)) (.cons (.cst (.int 8)) .nil))))) (.var 2)) .nil)) (.cons (.asg (.nm 8) (.bi1 false "tuple" (.seq (.lc false (.nm 11) (.rng (.cons (.var 2) .nil)) .nil (.bin false .mod (.bi "int" (.cons (.bin false .fdiv (.var 7) (.idx (.lst false (.cons (.cst (.int 1)) (.cons (.cst (.int 2)) (.cons (.cst (.int 4)) .nil)))) (.var 11))) .nil)) (.cst (.int 2))))))) (.cons (.asg (.nm 9) (.bin false .add (.lc false (.nm 11) (.rng (.cons (.var 2) .nil)) .nil (.tup (.cons (.idx (.var 4) (.var 11)) (.cons (.idx (.var 8) (.var 11)) .nil)))) (.lc false (.nm 10) (.seq (.var 5)) .nil (.tup (.cons (.var 10) (.cons (.bi "int" (.cons (.cmp .in_ (.var 8) (.idx (.var 5) (.var 10))) .nil)) .nil)))))) (.cons (.ex (.bm "append" (.var 6) (.cons (.bi1 false "tuple" (.seq (.bi1 false "sorted" (.seq (.var 9))))) .nil))) .nil)))) (.cons (.frz 6 (.ret (.tup (.cons (.call "_law_with_bars" (.cons (.var 0) (.cons (.var 3) (.cons (.bi1 false "sorted" (.seq (.var 6))) .nil)))) (.cons (.var 4) .nil))))) .nil))))))), false⟩
def f__law_drawn : Fn := ⟨2, 6, (.cons (.asg (.nm 2) (.call "_law_next" (.cons (.var 0) (.cons (.cst (.int 3)) .nil)))) (.cons (.ifs (.cmp .eq (.var 2) (.cst (.int 0))) (.cons (.asg (.nm 5) (.idx (.call "_law_linked" (.cons (.var 0) (.cons (.cst (.int 3)) .nil))) (.cst (.int 0)))) (.cons (.ret (.ifx (.cmp .le (.bi "len" (.cons (.call "_law_plans" (.cons (.var 5) .nil)) .nil)) (.var 1)) (.var 5) (.tup (.cons (.idx (.var 5) (.cst (.int 0))) (.cons (.bin false .add (.idx (.var 5) (.cst (.int 1))) (.bi1 false "tuple" (.seq (.slc false (.call "_law_plans" (.cons (.var 5) .nil)) (.var 1) (.cst .non))))) .nil))))) .nil)) .nil) (.cons (.asg (.nm 3) (.call "_law_names" (.cons (.var 0) (.cons (.bin false .add (.cst (.int 1)) (.call "_law_next" (.cons (.var 0) (.cons (.cst (.int 4)) .nil)))) .nil)))) (.cons (.asg (.nm 4) (.slc false (.call "_law_mixed" (.cons (.var 0) (.cons (.call "_law_all_plans" (.cons (.var 3) .nil)) .nil))) (.cst .non) (.bin false .add (.cst (.int 1)) (.call "_law_next" (.cons (.var 0) (.cons (.var 1) .nil)))))) (.cons (.ret (.call "_law_with_bars" (.cons (.var 0) (.cons (.var 3) (.cons (.bi1 false "sorted" (.seq (.var 4))) .nil))))) .nil))))), false⟩
def f__law_apart : Fn := ⟨2, 3, (.cons (.ret (.bi "len" (.cons (.lc false (.nm 2) (.seq (.var 0)) (.cons (.cmp .notIn (.var 2) (.var 1)) .nil) (.var 2)) .nil))) .nil), false⟩
def f__law_far : Fn := ⟨2, 3, (.cons (.ret (.bi1 false "sum" (.seq (.lc false (.nm 2) (.seq (.var 1)) .nil (.call "_law_apart" (.cons (.var 0) (.cons (.var 2) .nil))))))) .nil), false⟩
def f__law_nearest : Fn := ⟨2, 4, (.cons (.asg (.nm 2) (.bi1 false "min" (.seq (.lc false (.nm 3) (.seq (.var 0)) .nil (.call "_law_far" (.cons (.var 3) (.cons (.var 1) .nil))))))) (.cons (.ret (.lc false (.nm 3) (.seq (.var 0)) (.cons (.cmp .eq (.call "_law_far" (.cons (.var 3) (.cons (.var 1) .nil))) (.var 2)) .nil) (.var 3))) .nil)), false⟩
def f__law_majority : Fn := ⟨1, 5, (.cons (.asg (.nm 1) (.lst true .nil)) (.cons (.for_ (.nm 2) (.rng (.cons (.bi "len" (.cons (.idx (.var 0) (.cst (.int 0))) .nil)) .nil)) (.cons (.asg (.nm 3) (.idx (.idx (.idx (.var 0) (.cst (.int 0))) (.var 2)) (.cst (.int 0)))) (.cons (.ex (.bm "append" (.var 1) (.cons (.tup (.cons (.var 3) (.cons (.bi "int" (.cons (.cmp .gt (.bin false .mul (.cst (.int 2)) (.bi "len" (.cons (.lc false (.nm 4) (.seq (.var 0)) (.cons (.cmp .in_ (.tup (.cons (.var 3) (.cons (.cst (.int 1)) .nil))) (.var 4)) .nil) (.var 4)) .nil))) (.bi "len" (.cons (.var 0) .nil))) .nil)) .nil))) .nil))) .nil))) (.cons (.frz 1 (.ret (.bi1 false "tuple" (.seq (.var 1))))) .nil))), false⟩
def f_law : Fn := ⟨1, 12, (.cons (.asg (.nm 1) (.call "_law_reel" (.cons (.var 0) .nil))) (.cons (.for_ (.nm 2) (.rng (.cons (.cst (.int 4)) .nil)) (.cons (.asg (.nm 3) (.call "_law_drawn" (.cons (.var 1) (.cons (.call "_law_one" (.cons (.var 1) (.cons (.lst false (.cons (.cst (.int 4)) (.cons (.cst (.int 8)) (.cons (.cst (.int 16)) .nil)))) .nil))) .nil)))) (.cons (.asg (.nm 4) (.call "_law_plans" (.cons (.var 3) .nil))) (.cons (.asg (.nm 5) (.bi1 false "tuple" (.seq (.lc false (.nm 10) (.rng (.cons (.call "_law_one" (.cons (.var 1) (.cons (.lst false (.cons (.cst (.int 1)) (.cons (.cst (.int 3)) (.cons (.cst (.int 3)) (.cons (.cst (.int 5)) (.cons (.cst (.int 7)) (.cons (.cst (.int 39)) .nil))))))) .nil))) .nil)) .nil (.call "_law_one" (.cons (.var 1) (.cons (.var 4) .nil))))))) (.cons (.par [8, 9] (.cons (.call "_law_majority" (.cons (.var 5) .nil)) (.cons (.call "_law_nearest" (.cons (.var 4) (.cons (.var 5) .nil))) .nil))) (.cons (.ifs (.or_ (.cons (.not_ (.call "_law_alike" (.cons (.call "majority_plan" (.cons (.var 5) .nil)) (.cons (.var 8) .nil)))) (.cons (.not_ (.call "_law_alike" (.cons (.call "is_allowed" (.cons (.var 3) (.cons (.var 8) .nil))) (.cons (.cmp .in_ (.var 8) (.var 4)) .nil)))) .nil))) (.cons (.ret (.cst (.bl false))) .nil) .nil) (.cons (.asg (.nm 6) (.callK "nearest_plans" .nil ["agenda", "ballots"] (.cons (.var 3) (.cons (.var 5) .nil)) [0, 1])) (.cons (.ifs (.not_ (.call "_law_alike" (.cons (.var 6) (.cons (.bi1 false "tuple" (.seq (.var 9))) .nil)))) (.cons (.ret (.cst (.bl false))) .nil) .nil) (.cons (.ifs (.or_ (.cons (.and_ (.cons (.cmp .in_ (.var 8) (.var 4)) (.cons (.cmp .ne (.var 9) (.lst false (.cons (.var 8) .nil))) .nil))) (.cons (.and_ (.cons (.cmp .notIn (.var 8) (.var 4)) (.cons (.cmp .le (.call "_law_far" (.cons (.idx (.var 9) (.cst (.int 0))) (.cons (.var 5) .nil))) (.call "_law_far" (.cons (.var 8) (.cons (.var 5) .nil)))) .nil))) .nil))) (.cons (.ret (.cst (.bl false))) .nil) .nil) (.cons (.asg (.nm 7) (.bi1 false "max" (.seq (.bin false .add (.lst false (.cons (.cst (.int 0)) .nil)) (.lc false (.nm 11) (.seq (.call "_law_clashes" (.cons (.idx (.var 3) (.cst (.int 0))) (.cons (.var 4) .nil)))) .nil (.bi "len" (.cons (.var 11) .nil))))))) (.cons (.ifs (.and_ (.cons (.cmp .le (.var 7) (.cst (.int 2))) (.cons (.cmp .notIn (.var 8) (.var 4)) .nil))) (.cons (.ret (.cst (.bl false))) .nil) .nil) .nil))))))))))) (.cons (.ret (.cst (.bl true))) .nil))), false⟩
def fns : List (String × Fn) := [("Plans.__init__", f_Plans____init__), ("Plans.code_of", f_Plans__code_of), ("Plans.answer_of", f_Plans__answer_of), ("Plans.codes_of", f_Plans__codes_of), ("Plans.lot_of", f_Plans__lot_of), ("Plans.number_of", f_Plans__number_of), ("Plans.codes_at", f_Plans__codes_at), ("Plans.plan_of", f_Plans__plan_of), ("Plans.bits_of", f_Plans__bits_of), ("flags_of", f_flags_of), ("flags_from", f_flags_from), ("plans_in", f_plans_in), ("far_sums", f_far_sums), ("nearest_plans", f_nearest_plans), ("majority_plan", f_majority_plan), ("is_number", f_is_number), ("is_between", f_is_between), ("is_pair", f_is_pair), ("is_question", f_is_question), ("is_answer", f_is_answer), ("is_lot", f_is_lot), ("is_plan", f_is_plan), ("is_allowed", f_is_allowed), ("_law_reel", f__law_reel), ("_law_next", f__law_next), ("_law_one", f__law_one), ("_law_mixed", f__law_mixed), ("_law_alike", f__law_alike), ("_law_names", f__law_names), ("_law_all_plans", f__law_all_plans), ("_law_longer", f__law_longer), ("_law_plans", f__law_plans), ("_law_clashes", f__law_clashes), ("_law_with_bars", f__law_with_bars), ("_law_kind", f__law_kind), ("_law_linked", f__law_linked), ("_law_drawn", f__law_drawn), ("_law_apart", f__law_apart), ("_law_far", f__law_far), ("_law_nearest", f__law_nearest), ("_law_majority", f__law_majority), ("law", f_law)]
def ancs : List (String × List String) := [("Even", ["Even", "CouncilError", "ValueError"])]
def pg : Pg := ⟨fun f => lookF f fns, fun n => (ancs.lookup n).getD []⟩
theorem g_Plans____init__ : pg.fn "Plans.__init__" = some f_Plans____init__ := rfl
theorem g_Plans__code_of : pg.fn "Plans.code_of" = some f_Plans__code_of := rfl
theorem g_Plans__answer_of : pg.fn "Plans.answer_of" = some f_Plans__answer_of := rfl
theorem g_Plans__codes_of : pg.fn "Plans.codes_of" = some f_Plans__codes_of := rfl
theorem g_Plans__lot_of : pg.fn "Plans.lot_of" = some f_Plans__lot_of := rfl
theorem g_Plans__number_of : pg.fn "Plans.number_of" = some f_Plans__number_of := rfl
theorem g_Plans__codes_at : pg.fn "Plans.codes_at" = some f_Plans__codes_at := rfl
theorem g_Plans__plan_of : pg.fn "Plans.plan_of" = some f_Plans__plan_of := rfl
theorem g_Plans__bits_of : pg.fn "Plans.bits_of" = some f_Plans__bits_of := rfl
theorem g_flags_of : pg.fn "flags_of" = some f_flags_of := rfl
theorem g_flags_from : pg.fn "flags_from" = some f_flags_from := rfl
theorem g_plans_in : pg.fn "plans_in" = some f_plans_in := rfl
theorem g_far_sums : pg.fn "far_sums" = some f_far_sums := rfl
theorem g_nearest_plans : pg.fn "nearest_plans" = some f_nearest_plans := rfl
theorem g_majority_plan : pg.fn "majority_plan" = some f_majority_plan := rfl
theorem g_is_number : pg.fn "is_number" = some f_is_number := rfl
theorem g_is_between : pg.fn "is_between" = some f_is_between := rfl
theorem g_is_pair : pg.fn "is_pair" = some f_is_pair := rfl
theorem g_is_question : pg.fn "is_question" = some f_is_question := rfl
theorem g_is_answer : pg.fn "is_answer" = some f_is_answer := rfl
theorem g_is_lot : pg.fn "is_lot" = some f_is_lot := rfl
theorem g_is_plan : pg.fn "is_plan" = some f_is_plan := rfl
theorem g_is_allowed : pg.fn "is_allowed" = some f_is_allowed := rfl
theorem g__law_reel : pg.fn "_law_reel" = some f__law_reel := rfl
theorem g__law_next : pg.fn "_law_next" = some f__law_next := rfl
theorem g__law_one : pg.fn "_law_one" = some f__law_one := rfl
theorem g__law_mixed : pg.fn "_law_mixed" = some f__law_mixed := rfl
theorem g__law_alike : pg.fn "_law_alike" = some f__law_alike := rfl
theorem g__law_names : pg.fn "_law_names" = some f__law_names := rfl
theorem g__law_all_plans : pg.fn "_law_all_plans" = some f__law_all_plans := rfl
theorem g__law_longer : pg.fn "_law_longer" = some f__law_longer := rfl
theorem g__law_plans : pg.fn "_law_plans" = some f__law_plans := rfl
theorem g__law_clashes : pg.fn "_law_clashes" = some f__law_clashes := rfl
theorem g__law_with_bars : pg.fn "_law_with_bars" = some f__law_with_bars := rfl
theorem g__law_kind : pg.fn "_law_kind" = some f__law_kind := rfl
theorem g__law_linked : pg.fn "_law_linked" = some f__law_linked := rfl
theorem g__law_drawn : pg.fn "_law_drawn" = some f__law_drawn := rfl
theorem g__law_apart : pg.fn "_law_apart" = some f__law_apart := rfl
theorem g__law_far : pg.fn "_law_far" = some f__law_far := rfl
theorem g__law_nearest : pg.fn "_law_nearest" = some f__law_nearest := rfl
theorem g__law_majority : pg.fn "_law_majority" = some f__law_majority := rfl
theorem g_law : pg.fn "law" = some f_law := rfl
end D.k64

set_option Elab.async false
set_option linter.all false
set_option maxRecDepth 100000
set_option maxHeartbeats 1000000
namespace D.k64
open D D.Pl PySem
/-! ### Plans -/
def allowedOf (can : List Bool) : List Nat := (List.range can.length).filter fun k => can.getD k false
def plansF (qs : List Nm) (can : List Bool) : List (String × PV) := [("names", .tup (qs.map .str)), ("many", .int qs.length), ("can", .lst (can.map .bl)), ("allowed", .lst ((allowedOf can).map fun k => .int (k : Nat)))]
def plansV (qs : List Nm) (can : List Bool) : PV := .obj "Plans" (plansF qs can)
section
variable (qs : List Nm) (can : List Bool) (h : AH) (cs : List String)
@[scoped simp] theorem pl_names (c : "Plans" ∈ cs) : attrR cs "names" (.pv (plansV qs can)) h = .ok (.pv (.tup (qs.map .str))) h := by simp [attrR, plansV, plansF, lookF, c]
@[scoped simp] theorem pl_many (c : "Plans" ∈ cs) : attrR cs "many" (.pv (plansV qs can)) h = .ok (.pv (.int qs.length)) h := by simp [attrR, plansV, plansF, lookF, c]
@[scoped simp] theorem pl_can (c : "Plans" ∈ cs) : attrR cs "can" (.pv (plansV qs can)) h = .ok (.pv (.lst (can.map .bl))) h := by simp [attrR, plansV, plansF, lookF, c]
@[scoped simp] theorem pl_allowed (c : "Plans" ∈ cs) : attrR cs "allowed" (.pv (plansV qs can)) h = .ok (.pv (.lst ((allowedOf can).map fun k => .int (k : Nat)))) h := by simp [attrR, plansV, plansF, lookF, c]
@[scoped simp] theorem pl_cls (m : String) (e : lookF m (plansF qs can) = none) : clsR (.pv (plansV qs can)) m h = some "Plans" := by
  simp only [clsR, plansV, e]
end
theorem index_eq (lo : Nat) {qs : List Nm} {s : Nm} (m : s ∈ qs) (h : AH) : bmR lo "tuple.index" (.pv (.tup (qs.map .str))) [.pv (.str s)] h = .ok (.pv (.int (qs.idxOf s : Nat))) h := by
  simp [bmR, Function.comp_def, find_idx m]
theorem code_of_eq (n : Nat) (qs : List Nm) (can : List Bool) (a : Ans) (m : a.1 ∈ qs) (hb : a.2 = 0 ∨ a.2 = 1) (h : AH) :
    callN pg (n + 1) "Plans.code_of" [.pv (plansV qs can), .pv (ansV a)] h = .ok (.pv (.int (codeOf qs a))) h := by
  rw [call_eq g_Plans__code_of]
  simp [f_Plans__code_of, runFn, varO, getV, index_eq _ m, leave, small, codeOf]
  rcases hb with hb | hb <;> rw [hb] <;> rfl
theorem answer_of_eq (n : Nat) (qs : List Nm) (can : List Bool) (c : Nat) (hc : c / 2 < qs.length) (h : AH) :
    callN pg (n + 1) "Plans.answer_of" [.pv (plansV qs can), .pv (.int (c : Nat))] h = .ok (.pv (ansV (oneOf qs c))) h := by
  rw [call_eq g_Plans__answer_of]
  have hi := idx_at (xs := qs.map .str) (i := c / 2) (v := .str (qs.getD (c / 2) [])) (by simp [hc]) h
  simp at hi
  simp [f_Plans__answer_of, runFn, varO, getV, hi, newT, leave, oneOf]
theorem codes_of_eq (n : Nat) {qs : List Nm} (can : List Bool) {l : Lot} (hl : LotOk qs l) (hn : l.length ≤ 16777216) (h : AH) :
    callN pg (n + 2) "Plans.codes_of" [.pv (plansV qs can), .pv (lotV l)] h = .ok (.pv (.tup ((codesOf qs l).map fun c => .int (c : Nat)))) h := by
  rw [call_eq g_Plans__codes_of]
  simp [f_Plans__codes_of, runFn, varO, getV, T.put, T.slots, wipe, lookF, plansF]
  rw [seqO_all (fun a => .pv (.int (codeOf qs a)))]
  · simp [bi1R, newT, hn, leave, codesOf, Function.comp_def]
  · intro a ma
    have := code_of_eq n qs can a (hl.mem a ma).1 (hl.mem a ma).2 h
    simp at this
    simp [this]
theorem lot_of_eq (n : Nat) (qs : List Nm) (can : List Bool) (cs : List Nat) (hc : ∀ c ∈ cs, c / 2 < qs.length) (hl : cs.length ≤ 16777216) (h : AH) :
    callN pg (n + 2) "Plans.lot_of" [.pv (plansV qs can), .pv (.tup (cs.map fun c => .int (c : Nat)))] h = .ok (.pv (lotV (cs.map (oneOf qs)))) h := by
  rw [call_eq g_Plans__lot_of]
  simp [f_Plans__lot_of, runFn, varO, getV, T.put, T.slots, wipe, lookF, plansF]
  rw [seqO_all (fun c => .pv (ansV (oneOf qs c)))]
  · simp [bi1R, newT, hl, leave, Function.comp_def]
  · intro c mc
    have := answer_of_eq n qs can c (hc c mc) h
    simp at this
    simp [this]
theorem shr_bit (m : Bool) (n k i : Nat) (hi : i < n) (h : AH) : bop m .shr (.pv (.int (k : Nat))) (.pv (.int ((n : Int) - 1 - (i : Nat)))) h = .ok (.pv (.int (((k : Int) >>> (n - 1 - i) )))) h := by
  rw [shr_nat _ _ _ (by omega), show ((n : Int) - 1 - (i : Nat)).toNat = n - 1 - i by omega]
  rfl
theorem and1s (m : Bool) (k j : Nat) (h : AH) : bop m .band (.pv (.int ((k : Int) >>> j))) (.pv (.int 1)) h = .ok (.pv (.int ((k : Int) >>> j % 2))) h := by
  rw [band_1]
  exact Int.natCast_nonneg (k >>> j)
theorem codes_at_eq (n : Nat) (qs : List Nm) (can : List Bool) (k : Nat) (hl : qs.length ≤ 100) (h : AH) :
    callN pg (n + 1) "Plans.codes_at" [.pv (plansV qs can), .pv (.int (k : Nat))] h = .ok (.pv (.tup ((codesAt qs.length k).map fun c => .int (c : Nat)))) h := by
  rw [call_eq g_Plans__codes_at]
  have hL : qs.length ≤ 16777216 := by omega
  simp [f_Plans__codes_at, runFn, rng_nat (n := qs.length) (by omega)]
  rw [seqO_all (fun i => .pv (.int (2 * (i : Nat) + bitAt qs.length k i : Nat)))]
  · simp [bi1R, newT, leave, codesAt, Function.comp_def, hL]
  · intro i mi
    have hi := List.mem_range.mp mi
    simp [shr_bit _ _ k i hi, and1s, small, bitAt]
theorem bits_of_eq (n : Nat) (qs : List Nm) (can : List Bool) (cs : List Nat) (hl : qs.length ≤ 100) (hc : ∀ c ∈ cs, c / 2 < qs.length) (h : AH) :
    callN pg (n + 1) "Plans.bits_of" [.pv (plansV qs can), .pv (.tup (cs.map fun c => .int (c : Nat)))] h = .ok (.pv (.tup [.int (maskOf qs.length cs : Nat), .int (wantOf qs.length cs : Nat)])) h := by
  rw [call_eq g_Plans__bits_of]
  simp [f_Plans__bits_of, runFn]
  rw [for_pur (fun p => [some (.pv (plansV qs can)), some (.pv (.tup (cs.map fun c => .int (c : Nat)))), some (.pv (.int (maskOf qs.length p : Nat))), some (.pv (.int (wantOf qs.length p : Nat))), p.getLast?.map fun c => .pv (.int (c : Nat)), p.getLast?.map fun c => .pv (.int (1 <<< (qs.length - 1 - c / 2) : Nat))]) ?_ ?_]
  · simp [newT, leave]
  · rfl
  · intro p c r e
    have := hc c (by simp [e])
    refine ⟨_, rfl, .inl ?_⟩
    have e1 : ((qs.length : Int) - 1 - (c : Int) / 2).toNat = qs.length - 1 - c / 2 := by omega
    have e2 : iopO .bor (.pv (.int (wantOf qs.length p : Nat))) (.pv (.int ((1 <<< (qs.length - 1 - c / 2) : Nat) * ((c : Int) % 2)))) h = .ok (.pv (.int (wantOf qs.length (p ++ [c]) : Nat))) h := by
      rw [show ((c : Int) % 2) = ((c % 2 : Nat) : Int) from rfl, ← Int.natCast_mul, iop_bor]
      simp [wantOf]
    have e3 : ∀ z : Int, (small z || small ((c : Int) % 2)) = true := fun z => by
      rcases Int.emod_two_eq (c : Int) with q | q <;> rw [q] <;> simp [small]
    simp [-Int.natCast_shiftLeft, shl_1 _ ((qs.length : Int) - 1 - (c : Int) / 2) (by omega) (by omega), e1, iop_bor, bop_mulI _ _ _ _ (e3 _), e2]
    simp [maskOf]
theorem allowed_zip (can : List Bool) : ((can.zipIdx.filter fun q => q.1).map fun q => q.2) = allowedOf can := by
  have e : can.zipIdx = (List.range can.length).map fun i => (can.getD i false, i) := by
    apply List.ext_getElem
    · simp
    · intro i h1 h2
      simp at h1
      simp [h1]
  rw [e, List.filter_map, List.map_map]
  unfold allowedOf
  simp [Function.comp_def]
theorem init_eq (n : Nat) (qs : List Nm) (can : List Bool) (h : AH) (hc : can.length ≤ 16777216) :
    callN pg (n + 1) "Plans.__init__" [.ref h.length, .pv (qsV qs), .pv (.lst (can.map .bl))] (h ++ [.obj "Plans" []]) = .ok (.pv .non) (h ++ [.obj "Plans" ((plansF qs can).map fun q => (q.1, .pv q.2))]) := by
  rw [call_eq g_Plans____init__]
  simp [f_Plans____init__, runFn, putF]
  rw [newL_f _ _ _ (allPV_mapf _ _) (by simpa using Nat.le_trans (List.length_filter_le _ _) (by simpa using hc))]
  simp [putF, plansF, ← allowed_zip]
theorem madeR_end (h : AH) (c : String) (fs : List (String × PV)) : madeR false h.length (h ++ [.obj c (fs.map fun q => (q.1, .pv q.2))]) = .ok (.pv (.obj c fs)) (h ++ [.dead]) := by
  have e : allPV ((fs.map fun q => (q.1, RV.pv q.2)).map (·.2)) = some (fs.map (·.2)) := by
    simp [Function.comp_def]
  have e2 : ((fs.map fun q => (q.1, RV.pv q.2)).map (·.1)).zip (fs.map (·.2)) = fs := by
    rw [List.map_map]
    exact List.zip_of_prod rfl rfl |>.symm
  simp only [madeR, List.getElem?_append_right (Nat.le_refl _), Nat.sub_self, List.getElem?_cons_zero, e, e2, Bool.false_eq_true, if_false]
  simp
theorem flags_from_eq (n : Nat) (qs : List Nm) (ks : List Nat) (hn : qs.length ≤ 10) (hk : ∀ k ∈ ks, k < 2 ^ qs.length) (h : AH) :
    callN pg (n + 1) "flags_from" [.pv (qsV qs), .pv (.lst (ks.map fun k => .int (k : Nat)))] h = .ok (.pv (.lst (((List.range (2 ^ qs.length)).map fun k => decide (k ∈ ks)).map .bl))) h := by
  rw [call_eq g_flags_from]
  have hp : 2 ^ qs.length ≤ 2 ^ 10 := Nat.pow_le_pow_right (by omega) hn
  have e1 : (1 : Int) <<< qs.length = ((2 ^ qs.length : Nat) : Int) := by rw [← Nat.one_shiftLeft]; rfl
  simp [-Int.natCast_pow, f_flags_from, runFn, shl_1 _ (qs.length : Int) (by omega) (by omega), newL, e1, mul_lst1 _ _ (2 ^ qs.length) (by omega)]
  rw [for_st (fun p => [some (.pv (qsV qs)), some (.pv (.lst (ks.map fun k => .int (k : Nat)))), some (.ref h.length), p.getLast?.map fun k => .pv (.int (k : Nat))])
    (fun p => h ++ [.lst ((List.range (2 ^ qs.length)).map fun k => .pv (.bl (decide (k ∈ p))))]) ?_ ?_ ?_]
  · simp
    rw [leave_list _ _ _ (allPV_mapf _ _) (by simp; omega)]
    simp [Function.comp_def]
  · rfl
  · simp [List.map_const']
  · intro p k r e
    have hkk := hk k (by simp [e])
    refine ⟨_, rfl, .inl ?_⟩
    simp [setR_end, hkk]
    apply List.ext_getElem
    · simp
    · intro i h1 h2
      simp [List.getElem_set]
      split <;> simp_all
      omega
theorem init0_eq (n : Nat) (qs : List Nm) (h : AH) :
    callN pg (n + 1) "Plans.__init__" [.ref h.length, .pv (qsV qs), .pv (.lst [])] (h ++ [.obj "Plans" []]) = .ok (.pv .non) (h ++ [.obj "Plans" ((plansF qs []).map fun q => (q.1, .pv q.2))]) := init_eq n qs [] h (by simp)
theorem flags_of_eq (n : Nat) (qs : List Nm) (bars : List Lot) (nd : qs.Nodup) (hn : qs.length ≤ 10) (hb : ∀ b ∈ bars, LotOk qs b ∧ b.length ≤ 100) (h : AH) :
    callN pg (n + 4) "flags_of" [.pv (agV qs bars)] h = .ok (.pv (.lst (((List.range (2 ^ qs.length)).map fun k => decide (∀ b ∈ bars, ¬ ∀ a ∈ b, a ∈ planAt qs k)).map .bl))) h := by
  rw [call_eq g_flags_of]
  have hp : 2 ^ qs.length ≤ 2 ^ 10 := Nat.pow_le_pow_right (by omega) hn
  have e1 : (1 : Int) <<< qs.length = ((2 ^ qs.length : Nat) : Int) := by rw [← Nat.one_shiftLeft]; rfl
  have e2 := fun h => rng_nat (n := 2 ^ qs.length) (by omega) h
  have e3 := fun h => newL_f (h := h) ((List.range (2 ^ qs.length)).map fun (k : Nat) => .pv (.int (k : Nat))) _ (allPV_mapf _ _) (by simp; omega)
  simp [-Int.natCast_pow, f_flags_of, runFn, init0_eq, madeR_end, shl_1 _ (qs.length : Int) (by omega) (by omega), e1, e2, bi1R_list, e3]
  rw [for_pur (fun p => [some (.pv (agV qs bars)), some (.pv (plansV qs [])), some (.pv (.lst (((List.range (2 ^ qs.length)).filter fun k => decide (∀ b ∈ p, ¬ k &&& maskOf qs.length (codesOf qs b) = wantOf qs.length (codesOf qs b))).map fun k => .int (k : Nat)))),
    p.getLast?.map fun l => .pv (lotV l), some (.pv (qsV qs)), some (.pv (.tup (bars.map fun l => lotV l))), p.getLast?.map fun l => .pv (.int (maskOf qs.length (codesOf qs l) : Nat)), p.getLast?.map fun l => .pv (.int (wantOf qs.length (codesOf qs l) : Nat)), none]) ?_ ?_]
  · have h1 := flags_from_eq (n + 2) qs ((List.range (2 ^ qs.length)).filter fun k => decide (∀ b ∈ bars, ¬ k &&& maskOf qs.length (codesOf qs b) = wantOf qs.length (codesOf qs b))) hn (by simp; omega) (h ++ [.dead])
    simp only [var_0, var_s, Out.bind_ok, SO.next_nxt]
    rw [h1]
    simp
    intro k hk
    simp only [hk, true_and]
    rw [Bool.eq_iff_iff, Bool.and_eq_true, decide_eq_true_eq, decide_eq_true_eq, decide_eq_true_eq]
    constructor
    · rintro ⟨_, q⟩ b m
      have := q b m
      rwa [has_iff nd (hb b m).1] at this
    · intro q
      refine ⟨trivial, fun b m => ?_⟩
      rw [has_iff nd (hb b m).1]
      exact q b m
  · simp [plansV]
  · intro p b r e
    have hbb := hb b (by simp [e])
    refine ⟨_, rfl, .inl ?_⟩
    have c1 := codes_of_eq (n + 1) [] hbb.1 (by omega) (h ++ [.dead])
    have c2 := bits_of_eq (n + 2) qs [] (codesOf qs b) (by omega) (codes_lt hbb.1) (h ++ [.dead])
    simp at c1 c2
    simp [lookF, plansF, c1, c2, band_n]
    rw [newL_f _ _ _ (allPV_mapf _ _) ?_]
    rotate_left
    · rw [List.length_map]
      exact Nat.le_trans (List.length_filter_le _ _) (by rw [List.length_range]; omega)
    simp
    congr 1
    apply List.filter_congr
    intro k _
    rw [Bool.eq_iff_iff]
    simp
    constructor
    · rintro ⟨q1, q2⟩ z (m | m)
      · exact q2 z m
      · subst m; exact q1
    · intro q
      exact ⟨q b (.inr rfl), fun z m => q z (.inl m)⟩
/-- which numbers are allowed -/
def canOf (qs : List Nm) (bars : List Lot) : List Bool := (List.range (2 ^ qs.length)).map fun k => decide (∀ b ∈ bars, ¬ ∀ a ∈ b, a ∈ planAt qs k)
def goodOf (qs : List Nm) (bars : List Lot) : List Nat := (List.range (2 ^ qs.length)).filter fun k => decide (∀ b ∈ bars, ¬ ∀ a ∈ b, a ∈ planAt qs k)
theorem allowed_can (qs : List Nm) (bars : List Lot) : allowedOf (canOf qs bars) = goodOf qs bars := by
  unfold allowedOf canOf goodOf
  rw [List.length_map, List.length_range]
  apply List.filter_congr
  intro k hk
  simp at hk
  simp [List.getD_eq_getElem?_getD, hk]
theorem good_len (qs : List Nm) (bars : List Lot) (hn : qs.length ≤ 10) : (goodOf qs bars).length ≤ 1024 := by
  refine Nat.le_trans (List.length_filter_le _ _) ?_
  rw [List.length_range]
  exact Nat.pow_le_pow_right (by omega) hn
/-- a right agenda, as far as it is asked -/
structure AgOk (qs : List Nm) (bars : List Lot) : Prop where
  asc : Asc qs
  ne : ∀ q ∈ qs, q ≠ []
  len : qs.length ≤ 10
  bars : ∀ b ∈ bars, LotOk qs b ∧ b.length ≤ 100
theorem plans_in_eq (n : Nat) (qs : List Nm) (bars : List Lot) (ok : AgOk qs bars) (h : AH) :
    callN pg (n + 5) "plans_in" [.pv (agV qs bars)] h = .ok (.pv (plansV qs (canOf qs bars))) h := by
  rw [call_eq g_plans_in]
  have h1 := flags_of_eq n qs bars ok.asc.nodup ok.len ok.bars h
  have h2 := init_eq (n + 3) qs (canOf qs bars) h (by unfold canOf; rw [List.length_map, List.length_range]; exact Nat.le_trans (Nat.pow_le_pow_right (by omega) ok.len) (by decide))
  have h3 := madeR_end h "Plans" (plansF qs (canOf qs bars))
  unfold canOf at h2 h3
  simp only [f_plans_in, runFn, xs_cons, x_ret, e_make, es_cons', es_nil', e_idx, e_var, e_cst, e_call]
  simp only [List.map_cons, List.map_nil, List.cons_append, var_0, Out.bind_ok, idx_0, h1]
  simp only [SO.ofE_ok, h2, Out.bind_ok, h3]
  simp [canOf, plansV]
end D.k64

set_option Elab.async false
set_option linter.all false
set_option maxRecDepth 100000
set_option maxHeartbeats 1000000
namespace D.k64
open D D.Pl PySem
/-! ### the law's draws -/
structure Rl where
  g : List Int
  a : Int
  i : Int
  m : Int
def Rl.gv (s : Rl) : AO := .lst (s.g.map fun i => .pv (.int i))
def Rl.rv (s : Rl) : AO := .lst [.ref 0, .pv (.int s.a), .pv (.int s.i), .pv (.int s.m)]
def rlH (t : AH) (s : Rl) : AH := s.gv :: s.rv :: t
@[scoped simp] theorem rlH_take (t : AH) (s s' : Rl) : (rlH t s').take (rlH t s).length = rlH t s' := by simp [rlH]
def Rl.load (s : Rl) : Rl := match s.g with
  | [] => s
  | x :: r => if s.a = 0 then { s with g := r, a := x, i := 60 } else s
def next (lim : Int) (s : Rl) : Int × Rl :=
  let u := s.load
  if 0 < u.a then (u.a % lim, { u with i := u.i - 1, a := u.a / lim * (if 0 < u.i - 1 then 1 else 0) })
  else (((u.m * 48271 + 12347) % 2147483647) / 32 % lim, { u with m := (u.m * 48271 + 12347) % 2147483647 })
theorem idxR_1 (g : AO) (xs : List RV) (t : AH) (k : Int) : idxR (.ref 1) (.pv (.int k)) (g :: .lst xs :: t) = optO (atI xs k) (g :: .lst xs :: t) := by
  simp only [idxR, viewQ, List.getElem?_cons_succ, List.getElem?_cons_zero]
  cases atI xs k <;> rfl
theorem setR_1 (g : AO) (xs : List RV) (t : AH) (k : Int) (lo : Nat) (v : PV) : setR lo (.ref 1) (.pv (.int k)) (.pv v) (g :: .lst xs :: t) = (optO (ixN xs.length k) (g :: .lst xs :: t)).bind fun j _ => .ok () (g :: .lst (xs.set j (.pv v)) :: t) := by
  simp only [setR, mayStore, List.getElem?_cons_succ, List.getElem?_cons_zero, if_true, List.set_cons_zero, List.set_cons_succ]
  cases ixN xs.length k <;> rfl
theorem len_h (xs : List RV) (t : AH) : biR "len" [.ref 0] (.lst xs :: t) = .ok (.pv (.int xs.length)) (.lst xs :: t) := by simp [biR, viewQ]
theorem pop_h (lo : Nat) (x : RV) (xs : List RV) (t : AH) : bmR lo "list.pop" (.ref 0) [.pv (.int 0)] (.lst (x :: xs) :: t) = .ok x (.lst xs :: t) := by simp [bmR, ixN]
theorem popK_h (xs : List RV) (t : AH) : bmK "pop" (.ref 0) (.lst xs :: t) = some "list.pop" := by simp [bmK, viewL, lookF]
theorem next_eq (n : Nat) (lim : Int) (h0 : 0 < lim) (h1 : lim < 1073741824) (s : Rl) (t : AH) :
    callN pg (n + 1) "_law_next" [.ref 1, .pv (.int lim)] (rlH t s) = .ok (.pv (.int (next lim s).1)) (rlH t (next lim s).2) := by
  rw [call_eq g__law_next]
  have s1 : small 48271 = true := by decide
  have sm : ∀ (z : Int) (p : Prop) [Decidable p], bop false .mul (.pv (.int z)) (.pv (.int (if p then 1 else 0))) = fun h => .ok (.pv (.int (z * (if p then 1 else 0)))) h := by
    intro z p _
    funext h
    apply bop_mulI
    split <;> simp [small]
  obtain ⟨g, a, i, m⟩ := s
  by_cases ha : a = 0
  · subst ha
    cases g with
    | nil => simp [f__law_next, runFn, rlH, Rl.gv, Rl.rv, idxR_1, setR_1, len_h, atI, ixN, next, Rl.load, h0, s1]
    | cons x r =>
      by_cases hx : 0 < x
      · simp [f__law_next, runFn, rlH, Rl.gv, Rl.rv, idxR_1, setR_1, len_h, pop_h, popK_h, atI, ixN, next, Rl.load, h0, h1, s1, sm, hx]
      · simp [f__law_next, runFn, rlH, Rl.gv, Rl.rv, idxR_1, setR_1, len_h, pop_h, popK_h, atI, ixN, next, Rl.load, h0, h1, s1, sm, hx]
  · have hl : (⟨g, a, i, m⟩ : Rl).load = ⟨g, a, i, m⟩ := by
      cases g <;> simp [Rl.load, ha]
    by_cases hx : 0 < a
    · simp [f__law_next, runFn, rlH, Rl.gv, Rl.rv, idxR_1, setR_1, atI, ixN, next, hl, h0, h1, s1, sm, hx, ha]
    · simp [f__law_next, runFn, rlH, Rl.gv, Rl.rv, idxR_1, setR_1, atI, ixN, next, hl, h0, h1, s1, sm, hx, ha]
theorem next_bd {lim : Int} (h0 : 0 < lim) (s : Rl) : 0 ≤ (next lim s).1 ∧ (next lim s).1 < lim := by
  have a := fun z : Int => Int.emod_nonneg z (show lim ≠ 0 by omega)
  have b := fun z : Int => Int.emod_lt_of_pos z h0
  unfold next
  simp only []
  split
  · exact ⟨a _, b _⟩
  · exact ⟨a _, b _⟩
theorem next_lt {n : Nat} (h0 : 0 < n) (s : Rl) : (next n s).1.toNat < n := by
  have := next_bd (lim := (n : Int)) (by omega) s
  omega
theorem next_nat {n : Nat} (h0 : 0 < n) (s : Rl) : ((next n s).1.toNat : Int) = (next n s).1 := by
  have := next_bd (lim := (n : Int)) (by omega) s
  omega
/-- one of a row -/
def oneG {α : Type} [Inhabited α] (ys : List α) (s : Rl) : α × Rl := (ys.getD (next ys.length s).1.toNat default, (next ys.length s).2)
theorem oneG_mem {α : Type} [Inhabited α] {ys : List α} (h0 : ys ≠ []) (s : Rl) : (oneG ys s).1 ∈ ys := by
  have := next_lt (n := ys.length) (List.length_pos_iff.mpr h0) s
  simp [oneG, List.getD_eq_getElem?_getD, this]
theorem one_eqG {α : Type} [Inhabited α] (n : Nat) (f : α → PV) (ys : List α) (v : PV) (hv : v = .lst (ys.map f) ∨ v = .tup (ys.map f)) (h0 : ys ≠ []) (h1 : ys.length < 1073741824) (s : Rl) (t : AH) :
    callN pg (n + 2) "_law_one" [.ref 1, .pv v] (rlH t s) = .ok (.pv (f (oneG ys s).1)) (rlH t (oneG ys s).2) := by
  rw [call_eq g__law_one]
  have lt := next_lt (n := ys.length) (List.length_pos_iff.mpr h0) s
  have e1 := next_eq n ys.length (by have := List.length_pos_iff.mpr h0; omega) (by omega) s t
  have e3 : (ys.map f)[(next ys.length s).1.toNat]? = some (f (oneG ys s).1) := by
    simp [oneG, List.getD_eq_getElem?_getD, lt]
  rcases hv with rfl | rfl
  · have e2 := fun h => idx_atL e3 h
    rw [next_nat (List.length_pos_iff.mpr h0)] at e2
    simp [f__law_one, runFn, e1, e2]
    simp [oneG]
  · have e2 := fun h => idx_at e3 h
    rw [next_nat (List.length_pos_iff.mpr h0)] at e2
    simp [f__law_one, runFn, e1, e2]
    simp [oneG]
end D.k64

set_option Elab.async false
set_option linter.all false
set_option maxRecDepth 100000
set_option maxHeartbeats 1000000
namespace D.k64
open D D.Pl PySem
theorem erase_perm {α : Type} : ∀ (xs : List α) (i : Nat) (h : i < xs.length), (xs[i] :: xs.eraseIdx i).Perm xs
  | x :: xs, 0, _ => .refl _
  | x :: xs, i + 1, h => by
    have := erase_perm xs i (by simpa using h)
    exact (List.Perm.swap x _ _).trans (this.cons x)
theorem erase_map {α β : Type} (f : α → β) : ∀ (xs : List α) (i : Nat), (xs.map f).eraseIdx i = (xs.eraseIdx i).map f
  | [], _ => rfl
  | _ :: _, 0 => rfl
  | x :: xs, i + 1 => by simp [erase_map f xs i]
/-- mixed, step by step: what is left, what is found, the state -/
def shS {α : Type} (ys : List α) (s : Rl) : Nat → List α × List α × Rl
  | 0 => (ys, [], s)
  | k + 1 =>
    let q := shS ys s k
    (q.1.eraseIdx (next q.1.length q.2.2).1.toNat, q.2.1 ++ (q.1[(next q.1.length q.2.2).1.toNat]?).toList, (next q.1.length q.2.2).2)
theorem shS_len {α : Type} (ys : List α) (s : Rl) : ∀ k, k ≤ ys.length → (shS ys s k).1.length = ys.length - k ∧ (shS ys s k).2.1.length = k ∧ ((shS ys s k).2.1 ++ (shS ys s k).1).Perm ys
  | 0, _ => ⟨rfl, rfl, .refl _⟩
  | k + 1, h => by
    obtain ⟨h1, h2, h3⟩ := shS_len ys s k (by omega)
    have lt := next_lt (n := (shS ys s k).1.length) (by omega) (shS ys s k).2.2
    refine ⟨?_, ?_, ?_⟩
    · simp [shS, List.length_eraseIdx, lt]; omega
    · simp [shS, h2, lt]
    · refine List.Perm.trans ?_ h3
      simp only [shS, List.append_assoc]
      refine List.Perm.append_left _ ?_
      simp only [List.getElem?_eq_getElem lt, Option.toList_some, List.cons_append, List.nil_append]
      exact erase_perm _ _ lt
def shuf {α : Type} (ys : List α) (s : Rl) : List α × Rl := ((shS ys s ys.length).2.1, (shS ys s ys.length).2.2)
theorem shuf_perm {α : Type} (ys : List α) (s : Rl) : (shuf ys s).1.Perm ys := by
  obtain ⟨h1, h2, h3⟩ := shS_len ys s ys.length (Nat.le_refl _)
  have : (shS ys s ys.length).1 = [] := List.length_eq_zero_iff.mp (by omega)
  rw [this, List.append_nil] at h3
  exact h3
theorem range_pre {n : Nat} {p r : List Nat} {y : Nat} (e : List.range n = p ++ y :: r) : y = p.length ∧ y < n := by
  have h := congrArg (fun l => l[p.length]?) e
  simp at h
  have : p.length < n := by
    have := congrArg List.length e
    simp at this
    omega
  rw [List.getElem?_range this] at h
  have := Option.some.inj h
  omega
theorem len_end2 (g z : AO) (h : AH) (xs : List RV) : biR "len" [.ref (h.length + 1 + 1)] (g :: z :: (h ++ [.lst xs])) = .ok (.pv (.int xs.length)) (g :: z :: (h ++ [.lst xs])) := by simp [biR, viewQ]
theorem pop_end2 (lo : Nat) (g z : AO) (h : AH) (xs : List RV) (j : Nat) (x : RV) (e : xs[j]? = some x) : bmR lo "list.pop" (.ref (h.length + 1 + 1)) [.pv (.int (j : Nat))] (g :: z :: (h ++ [.lst xs])) = .ok x (g :: z :: (h ++ [.lst (xs.eraseIdx j)])) := by
  obtain ⟨hlt, e⟩ := List.getElem?_eq_some_iff.mp e
  simp [bmR, ixN, hlt, e]
theorem popK_end2 (g z : AO) (h : AH) (xs : List RV) : bmK "pop" (.ref (h.length + 1 + 1)) (g :: z :: (h ++ [.lst xs])) = some "list.pop" := by simp [bmK, viewL, lookF]
theorem mixed_eq {α : Type} (n : Nat) (f : α → PV) (ys : List α) (v : PV) (hv : ∀ h, bi1V true "list" (.pv v) h = .ok (.ref h.length) (h ++ [.lst (ys.map fun y => .pv (f y))])) (hlen : ∀ h, biR "len" [.pv v] h = .ok (.pv (.int ys.length)) h)
    (hl : ys.length ≤ 1000000) (s : Rl) (t : AH) :
    callN pg (n + 2) "_law_mixed" [.ref 1, .pv v] (rlH t s) = .ok (.pv (.lst ((shuf ys s).1.map f))) (rlH t (shuf ys s).2) := by
  rw [call_eq g__law_mixed]
  simp [f__law_mixed, runFn, hv, hlen, rng_nat hl, rlH]
  generalize hR : seqO _ _ _ = R
  obtain ⟨vs, h', ⟨rfl, rfl⟩, rfl⟩ := seqO_inv (e := fun y => RV.pv (f y)) hR (fun p vs h => vs = (shS ys s p.length).2.1 ∧ h = rlH (t ++ [.lst ((shS ys s p.length).1.map fun y => .pv (f y))]) (shS ys s p.length).2.2) ⟨rfl, rfl⟩ (by
    rintro p k r _ _ e ⟨rfl, rfl⟩
    obtain ⟨h1, h2⟩ := range_pre e
    obtain ⟨l1, l2, _⟩ := shS_len ys s p.length (by omega)
    rw [show (p ++ [k]).length = p.length + 1 by simp]
    simp only [shS]
    generalize hq : shS ys s p.length = q at *
    have hp : 0 < q.1.length := by omega
    have lt := next_lt hp q.2.2
    have e1 := next_eq n q.1.length (by omega) (by omega) q.2.2 (t ++ [.lst (q.1.map fun y => .pv (f y))])
    have e2 := fun lo => pop_end2 lo (next q.1.length q.2.2).2.gv (next q.1.length q.2.2).2.rv t (q.1.map fun y => .pv (f y)) (next q.1.length q.2.2).1.toNat (.pv (f q.1[(next q.1.length q.2.2).1.toNat])) (by simp [lt])
    rw [next_nat hp] at e2
    simp only [rlH] at e1
    refine ⟨_, .inl ⟨q.1[(next q.1.length q.2.2).1.toNat], ⟨?_, rfl⟩, ?_⟩⟩
    · simp [lt]
    · simp only [rlH, popK_end2, optO_some, Out.bind_ok, len_end2, List.length_map, e1, e2]
      rw [← erase_map])
  have l : (shS ys s ys.length).2.1.length ≤ 16777216 := by rw [(shS_len ys s ys.length (Nat.le_refl _)).2.1]; omega
  simp only [List.length_range]
  simp [l, shuf, rlH]
end D.k64

set_option Elab.async false
set_option linter.all false
set_option maxRecDepth 100000
set_option maxHeartbeats 1000000
namespace D.k64
open D D.Pl PySem
/-! ### names -/
def endsL : List Nm := [[], [48], [46, 120], [57, 122], [113, 46, 55]]
def lettersL : List Nat := [97, 98, 99, 100, 101, 102, 103, 104, 105, 106, 107, 108]
def namesOf (m : Nat) (s : Rl) : List Nm × Rl :=
  (sortS (((shuf lettersL (oneG endsL s).2).1.take m).map fun c => [c] ++ (oneG endsL s).1), (shuf lettersL (oneG endsL s).2).2)
theorem ends_mem (s : Rl) : (oneG endsL s).1 ∈ endsL := oneG_mem (by simp [endsL]) s
theorem names_eq (n m : Nat) (hm : m ≤ 12) (s : Rl) (t : AH) :
    callN pg (n + 3) "_law_names" [.ref 1, .pv (.int (m : Nat))] (rlH t s) = .ok (.pv (qsV (namesOf m s).1)) (rlH t (namesOf m s).2) := by
  rw [call_eq g__law_names]
  have e1 := one_eqG n PV.str endsL _ (.inl rfl) (by simp [endsL]) (by simp [endsL]) s t
  have hS : ∀ h, bi1V true "list" (.pv (.str lettersL)) h = .ok (.ref h.length) (h ++ [.lst (lettersL.map fun y => .pv (.str [y]))]) := fun h => by
    simp [bi1V, viewQ, listR]
    simp [lettersL]
  have e2 := mixed_eq n (fun c : Nat => PV.str [c]) lettersL (.str lettersL) hS (fun h => by simp [lettersL]) (by simp [lettersL]) (oneG endsL s).2 t
  have hE := ends_mem s
  have hp := (shuf_perm lettersL (oneG endsL s).2).length_eq
  unfold namesOf
  generalize oneG endsL s = E at *
  generalize shuf lettersL E.2 = Q at *
  have hE2 : E.1.length ≤ 3 := by
    revert hE; generalize E.1 = e; intro hE
    simp [endsL] at hE
    rcases hE with rfl | rfl | rfl | rfl | rfl <;> simp
  have hp2 : Q.1.length = 12 := by rw [hp]; rfl
  simp [endsL, lettersL] at e1 e2
  have c1 : 1 + E.1.length ≤ 16777216 := by omega
  have hs := (sortS_perm (((Q.1.take m).map fun c => [c] ++ E.1))).length_eq
  simp [-List.map_take] at hs
  have e3 := fun h => sorted_strL ((Q.1.take m).map fun c => [c] ++ E.1) (by simp; omega) h
  simp [-List.map_take] at e3
  have c2 : (sortS ((Q.1.take m).map fun c => c :: E.1)).length ≤ 16777216 := by omega
  have c3 : Q.1.length ≤ 16777216 := by omega
  have e4 := fun h => slc_toL h (Q.1.map fun c => PV.str [c]) m (by simpa using c3)
  rw [← List.map_take] at e4
  have e5 := fun h => newL_map h (fun y => PV.str (y :: E.1)) (Q.1.take m) (by simp; omega)
  simp only [List.map_map, Function.comp_def] at e3
  simp [-List.map_take, f__law_names, runFn, newL, e1, e2, e4, c1, e3, c2]
  intro q
  omega
theorem namesOf_len {m : Nat} (hm : m ≤ 12) (s : Rl) : (namesOf m s).1.length = m := by
  have hp := (shuf_perm lettersL (oneG endsL s).2).length_eq
  have : lettersL.length = 12 := rfl
  unfold namesOf
  rw [(sortS_perm _).length_eq, List.length_map, List.length_take, hp, this]
  omega
theorem namesOf_asc (m : Nat) (s : Rl) : Asc (namesOf m s).1 := by
  refine sortS_asc _ ?_
  have nd : (shuf lettersL (oneG endsL s).2).1.Nodup := (shuf_perm lettersL _).nodup_iff.mpr (by decide)
  have nd2 := List.Nodup.sublist (List.take_sublist m _) nd
  generalize (shuf lettersL (oneG endsL s).2).1.take m = l at *
  induction l with
  | nil => simp
  | cons c l ih =>
    have h := List.nodup_cons.mp nd2
    refine List.nodup_cons.mpr ⟨fun hm => ?_, ih h.2⟩
    obtain ⟨d, md, e⟩ := List.mem_map.mp hm
    simp at e
    rw [e] at md
    exact h.1 md
theorem namesOf_ne (m : Nat) (s : Rl) : ∀ q ∈ (namesOf m s).1, q ≠ [] := by
  intro q hq
  have := (sortS_perm _).mem_iff.mp hq
  obtain ⟨c, _, rfl⟩ := List.mem_map.mp this
  simp
/-! ### plans -/
def longer (L : List Lot) (q : Nm) : List Lot := L.map (fun l => l ++ [(q, 0)]) ++ L.map fun l => l ++ [(q, 1)]
theorem longer_eq (n : Nat) (L : List Lot) (q : Nm) (h1 : L.length ≤ 1000) (h2 : ∀ l ∈ L, l.length ≤ 1000) (h : AH) :
    callN pg (n + 1) "_law_longer" [.pv (.lst (L.map lotV)), .pv (.str q)] h = .ok (.pv (.lst ((longer L q).map lotV))) h := by
  rw [call_eq g__law_longer]
  have e : ∀ (b : Int) (l : Lot), l ∈ L → l.length + 1 ≤ 16777216 := fun b l m => by have := h2 l m; omega
  have key : ∀ (b : Int) (h : AH), seqO (fun (y : Lot) h => (bop false .add (.pv (lotV y)) (.pv (.tup [.tup [.str q, .int b]])) h).bind fun v h2 => .ok (some v) h2) L h = .ok (L.map fun l => RV.pv (lotV (l ++ [(q, b)]))) h := fun b h =>
    seqO_all _ _ fun l m => by
      have := e b l m
      simp [this]
  have k0 := key 0
  have k1 := key 1
  simp [f__law_longer, runFn]
  simp at k0 k1
  have hL : L.length ≤ 16777216 := by omega
  simp [k0, k1, hL]
  rw [bop_addL _ _ _ (by simp; omega)]
  simp [longer, Function.comp_def]
theorem longer_len (L : List Lot) (q : Nm) : (longer L q).length = 2 * L.length := by simp [longer]; omega
theorem longer_perm (L : List Lot) (q : Nm) : (longer L q).Perm (L.flatMap fun r => [r ++ [(q, 0)], r ++ [(q, 1)]]) := by
  induction L with
  | nil => simp [longer]
  | cons l L ih =>
    simp only [longer, List.map_cons, List.cons_append, List.flatMap_cons, List.nil_append] at ih ⊢
    refine List.Perm.cons _ ?_
    refine List.Perm.trans List.perm_middle ?_
    exact ih.cons _
/-- all plans, in the program's order -/
def step2 (q : Nm) (rows : List Lot) : List Lot := rows.flatMap fun r => [r ++ [(q, 0)], r ++ [(q, 1)]]
theorem step2_len (q : Nm) : ∀ rows, (step2 q rows).length = 2 * rows.length
  | [] => rfl
  | r :: rows => by
    have := step2_len q rows
    simp only [step2, List.flatMap_cons, List.length_append, List.length_cons, List.length_nil] at this ⊢
    omega
def rowsP (qs : List Nm) : List Lot := qs.foldl (fun rows q => step2 q rows) [[]]
theorem rowsP_app (p : List Nm) (q : Nm) : rowsP (p ++ [q]) = step2 q (rowsP p) := by simp [rowsP]
theorem rowsP_len (qs : List Nm) : (rowsP qs).length = 2 ^ qs.length := by
  induction qs using rev_ind with
  | h0 => rfl
  | h1 p q ih => rw [rowsP_app, step2_len, ih, List.length_append, List.length_singleton, Nat.pow_succ]; omega
theorem bitAt_last (n k b : Nat) (hb : b < 2) : bitAt (n + 1) (2 * k + b) n = b := by
  unfold bitAt
  simp
  omega
theorem bitAt_step (n k b i : Nat) (hb : b < 2) (hi : i < n) : bitAt (n + 1) (2 * k + b) i = bitAt n k i := by
  unfold bitAt
  rw [Nat.shiftRight_eq_div_pow, Nat.shiftRight_eq_div_pow]
  have e : n + 1 - 1 - i = (n - 1 - i) + 1 := by omega
  rw [e, Nat.pow_succ, Nat.mul_comm (2 ^ (n - 1 - i)), ← Nat.div_div_eq_div_mul]
  have : (2 * k + b) / 2 = k := by omega
  rw [this]
theorem planAt_step (qs : List Nm) (q : Nm) (k b : Nat) (hb : b < 2) : planAt (qs ++ [q]) (2 * k + b) = planAt qs k ++ [(q, (b : Int))] := by
  unfold planAt
  rw [List.length_append, List.length_singleton, List.range_succ, List.map_append]
  congr 1
  · apply List.map_congr_left
    intro i hi
    have hi := List.mem_range.mp hi
    rw [bitAt_step _ _ _ _ hb hi]
    simp [List.getD_eq_getElem?_getD, List.getElem?_append_left hi]
  · simp [bitAt_last _ _ _ hb]
theorem range2 : ∀ n : Nat, List.range (2 * n) = (List.range n).flatMap fun k => [2 * k, 2 * k + 1]
  | 0 => rfl
  | n + 1 => by
    rw [show 2 * (n + 1) = 2 * n + 1 + 1 by omega, List.range_succ, List.range_succ, range2 n, List.range_succ]
    simp
theorem fm_congr {α β : Type} {f g : α → List β} : ∀ {l : List α}, (∀ x ∈ l, f x = g x) → l.flatMap f = l.flatMap g
  | [], _ => rfl
  | x :: l, h => by
    rw [List.flatMap_cons, List.flatMap_cons, h x (by simp), fm_congr fun y m => h y (by simp [m])]
theorem rowsP_eq (qs : List Nm) : rowsP qs = (List.range (2 ^ qs.length)).map (planAt qs) := by
  refine rev_ind (P := fun qs => rowsP qs = (List.range (2 ^ qs.length)).map (planAt qs)) rfl (fun p q ih => ?_) qs
  · rw [rowsP_app, ih, List.length_append, List.length_singleton, Nat.pow_succ, Nat.mul_comm, range2, step2, List.map_flatMap, List.flatMap_map]
    apply fm_congr
    intro k _
    have h0 := planAt_step p q k 0 (by decide)
    have h1 := planAt_step p q k 1 (by decide)
    simp at h0 h1
    simp [h0, h1]
theorem planAt_len (qs : List Nm) (k : Nat) : (planAt qs k).length = qs.length := by simp [planAt]
theorem rowsP_mem_len {qs : List Nm} {r : Lot} (m : r ∈ rowsP qs) : r.length = qs.length := by
  rw [rowsP_eq] at m
  obtain ⟨k, _, rfl⟩ := List.mem_map.mp m
  exact planAt_len qs k
end D.k64

set_option Elab.async false
set_option linter.all false
set_option maxRecDepth 100000
set_option maxHeartbeats 1000000
namespace D.k64
open D D.Pl PySem
theorem flatMap_perm {α β : Type} {f : α → List β} {xs ys : List α} (p : xs.Perm ys) : (xs.flatMap f).Perm (ys.flatMap f) := by
  induction p with
  | nil => exact .refl _
  | cons x _ ih => simp only [List.flatMap_cons]; exact ih.append_left _
  | swap x y l =>
    simp only [List.flatMap_cons, ← List.append_assoc]
    exact List.Perm.append_right _ List.perm_append_comm
  | trans _ _ a b => exact a.trans b
def rawP (qs : List Nm) : List Lot := qs.foldl longer [[]]
theorem rawP_app (p : List Nm) (q : Nm) : rawP (p ++ [q]) = longer (rawP p) q := by simp [rawP]
theorem rawP_perm (qs : List Nm) : (rawP qs).Perm (rowsP qs) := by
  induction qs using rev_ind with
  | h0 => exact .refl _
  | h1 p q ih => rw [rawP_app, rowsP_app]; exact (longer_perm _ q).trans (flatMap_perm ih)
theorem ltA_01 (q : Nm) : ltA (q, 0) (q, 1) = true := by simp [ltA]
theorem rowsP_rise (qs : List Nm) : (rowsP qs).Pairwise fun a b => ltL a b = true := by
  induction qs using rev_ind with
  | h0 => simp [rowsP]
  | h1 p q ih =>
    rw [rowsP_app]
    unfold step2
    rw [List.pairwise_flatMap]
    refine ⟨fun r _ => ?_, ?_⟩
    · simp [ltL_snoc r (ltA_01 q)]
    · have hl : ∀ r ∈ rowsP p, r.length = p.length := fun r m => rowsP_mem_len m
      refine List.Pairwise.imp_of_mem (fun {a b} ma mb h x mx y my => ?_) ih
      have e : a.length = b.length := (hl a ma).trans (hl b mb).symm
      simp at mx my
      rcases mx with rfl | rfl <;> rcases my with rfl | rfl <;> exact ltL_app _ _ e h
theorem all_plans_eq (n : Nat) (v : PV) (qs : List Nm) (hv : ∀ h, itmO (.pv v) h = .ok (qs.map fun q => .pv (.str q)) h) (h0 : qs ≠ []) (hn : qs.length ≤ 6) (h : AH) :
    callN pg (n + 2) "_law_all_plans" [.pv v] h = .ok (.pv (.lst ((rowsP qs).map lotV))) h := by
  rw [call_eq g__law_all_plans]
  simp [f__law_all_plans, runFn, hv, newT, newL]
  have hN : ∀ p : List Nm, p.length ≤ 6 → (rawP p).length ≤ 64 := fun p hp => by
    rw [(rawP_perm p).length_eq, rowsP_len]
    exact Nat.le_trans (Nat.pow_le_pow_right (by decide) hp) (by decide)
  have hM : ∀ p : List Nm, ∀ r ∈ rawP p, r.length = p.length := fun p r m => rowsP_mem_len ((rawP_perm p).mem_iff.mp m)
  rw [for_pur (fun p => [some (.pv v), some (.pv (.lst ((rawP p).map lotV))), p.getLast?.map fun q => .pv (.str q)]) ?_ ?_]
  · have e := sorted_lots (xs := rawP qs) (fun l m z => by subst z; exact h0 (List.length_eq_zero_iff.mp (hM _ _ m).symm)) (by have := hN qs hn; omega) h
    rw [sort_of lin_L (rawP_perm qs).symm (rowsP_rise qs)] at e
    simp [e]
  · simp [rawP]
  · intro p q r e
    have hp : p.length ≤ 6 := by
      have := congrArg List.length e
      simp at this
      omega
    refine ⟨_, rfl, .inl ?_⟩
    have e1 := longer_eq n (rawP p) q (by have := hN p hp; omega) (fun l m => by rw [hM p l m]; omega) h
    rw [rawP_app]
    simp [e1]
/-! the allowed plans by the law -/
def goodRows (qs : List Nm) (bars : List Lot) : List Lot := (rowsP qs).filter fun r => decide (∀ b ∈ bars, ¬ ∀ a ∈ b, a ∈ r)
theorem goodRows_eq (qs : List Nm) (bars : List Lot) : goodRows qs bars = (goodOf qs bars).map (planAt qs) := by
  unfold goodRows goodOf
  rw [rowsP_eq, List.filter_map]
  rfl
theorem emp_ans (l : List Ans) (h : AH) : cmpO .eq (.pv (.lst (l.map fun a => .tup [.str a.1, .int a.2]))) (.pv (.lst [])) h = .ok (.pv (.bl l.isEmpty)) h := by
  simp
theorem emp_lots (l : List Lot) (h : AH) : cmpO .eq (.pv (.lst (l.map lotV))) (.pv (.lst [])) h = .ok (.pv (.bl l.isEmpty)) h := by
  simp
/-- [one for one in l if one not in y] == [], as a test -/
theorem out_has {β : Type} (l y : Lot) (hl : l.length ≤ 16777216) (v : β) (h : AH) :
    (((((newL false (List.map (fun x => RV.pv (PV.tup [PV.str x.fst, PV.int x.snd])) (List.filter (fun a => !decide ((a.fst, a.snd) ∈ y)) l)) h).bind fun x h1 => cmpO Cmp.eq x (RV.pv (PV.lst [])) h1).bind truO).bind fun k h1 => Out.ok k h1).bind fun b h1 =>
      if b = true then Out.ok (some v) h1 else Out.ok none h1) = .ok (if decide (∀ a ∈ l, a ∈ y) then some v else none) h := by
  have hf : (l.filter (fun a => !decide ((a.1, a.2) ∈ y))).length ≤ 16777216 := Nat.le_trans (List.length_filter_le _ _) hl
  rw [newL_map _ _ _ hf, Out.bind_ok, emp_ans, Out.bind_ok, tru_bl, Out.bind_ok, Out.bind_ok]
  by_cases q : ∀ a ∈ l, a ∈ y
  · have q2 : l.filter (fun a => !decide ((a.1, a.2) ∈ y)) = [] := by simpa using fun a b m => q (a, b) m
    rw [q2, decide_eq_true q]; rfl
  · have q2 : l.filter (fun a => !decide ((a.1, a.2) ∈ y)) ≠ [] := by
      intro z
      rw [List.filter_eq_nil_iff] at z
      exact q fun a m => by simpa using z a m
    rw [decide_eq_false q]
    cases e : l.filter (fun a => !decide ((a.1, a.2) ∈ y)) with
    | nil => exact absurd e q2
    | cons => rfl
/-- [x for x in L if p x] == [], as a test -/
theorem out_none {β : Type} (L : List Lot) (p : Lot → Bool) (hl : L.length ≤ 16777216) (v : β) (h : AH) :
    (((((Out.ok (List.map (fun l => RV.pv (lotV l)) (List.filter p L)) h).nox.bind (newL false)).bind fun x h1 => cmpO Cmp.eq x (RV.pv (PV.lst [])) h1).bind truO).bind fun k h1 => Out.ok k h1).bind (fun b h1 =>
      if b = true then Out.ok (some v) h1 else Out.ok none h1) = .ok (if decide (∀ a ∈ L, ¬ p a = true) then some v else none) h := by
  have hf : (L.filter p).length ≤ 16777216 := Nat.le_trans (List.length_filter_le _ _) hl
  rw [Out.nox_ok, Out.bind_ok, newL_map _ _ _ hf, Out.bind_ok, emp_lots, Out.bind_ok, tru_bl, Out.bind_ok, Out.bind_ok]
  by_cases q : ∀ a ∈ L, ¬ p a = true
  · have q2 : L.filter p = [] := by rw [List.filter_eq_nil_iff]; exact q
    rw [q2, decide_eq_true q]; rfl
  · have q2 : L.filter p ≠ [] := by
      intro z
      rw [List.filter_eq_nil_iff] at z
      exact q z
    rw [decide_eq_false q]
    cases e : L.filter p with
    | nil => exact absurd e q2
    | cons => rfl
theorem plans_eq (n : Nat) (qs : List Nm) (bars : List Lot) (h0 : qs ≠ []) (hn : qs.length ≤ 6) (hb : bars.length ≤ 1000) (hb2 : ∀ b ∈ bars, b.length ≤ 100) (h : AH) :
    callN pg (n + 3) "_law_plans" [.pv (agV qs bars)] h = .ok (.pv (.lst ((goodRows qs bars).map lotV))) h := by
  rw [call_eq g__law_plans]
  have e1 := all_plans_eq n (qsV qs) qs (fun h => by simp) h0 hn
  have hN : (rowsP qs).length ≤ 64 := by rw [rowsP_len]; exact Nat.le_trans (Nat.pow_le_pow_right (by decide) hn) (by decide)
  simp [f__law_plans, runFn, e1, Function.comp_def]
  rw [seqO_at (fun r => decide (∀ b ∈ bars, ¬ ∀ a ∈ b, a ∈ r)) (fun l => RV.pv (lotV l)) _ (fun y my => ?_)]
  · have hf := Nat.le_trans (List.length_filter_le (fun r => decide (∀ b ∈ bars, ¬ ∀ a ∈ b, a ∈ r)) (rowsP qs)) hN
    rw [Out.nox_ok, Out.bind_ok, newL_map _ _ _ (by omega), SO.ofE_ok, SO.next_ret, SO.fin_ret, leave_pv, List.take_length]
    rfl
  · rw [seqO_at (fun b => decide (∀ a ∈ b, a ∈ y)) (fun l => RV.pv (lotV l)) _ (fun b mb => out_has b y (by have := hb2 b mb; omega) _ _)]
    have := out_none (β := RV) bars (fun b => decide (∀ a ∈ b, a ∈ y)) (by omega) (RV.pv (lotV y)) h
    rw [this]
    simp only [decide_eq_true_eq]
end D.k64

set_option Elab.async false
set_option linter.all false
set_option maxRecDepth 100000
set_option maxHeartbeats 1000000
namespace D.k64
open D D.Pl PySem
theorem pyEq_lot : ∀ a b : Lot, pyEqs (a.map ansV) (b.map ansV) = decide (a = b)
  | [], [] => rfl
  | [], _ :: _ => rfl
  | _ :: _, [] => rfl
  | x :: xs, y :: ys => by
    simp only [List.map_cons, eqs_cons, pyEq_ans, pyEq_lot xs ys, List.cons.injEq, Bool.decide_and]
theorem any_lot (L : List Lot) (l : Lot) : (L.any fun y => pyEqs (y.map fun a => PV.tup [.str a.1, .int a.2]) (l.map fun a => PV.tup [.str a.1, .int a.2])) = decide (l ∈ L) := by
  rw [Bool.eq_iff_iff, List.any_eq_true, decide_eq_true_eq]
  constructor
  · rintro ⟨y, m, h⟩
    have := pyEq_lot y l
    unfold ansV at this
    rw [this] at h
    rw [← of_decide_eq_true h]; exact m
  · intro m
    refine ⟨l, m, ?_⟩
    have := pyEq_lot l l
    unfold ansV at this
    rw [this]; simp
/-- all lots -/
def rawL (qs : List Nm) : List Lot := qs.foldl (fun L q => L ++ longer L q) [[]]
theorem rawL_app (p : List Nm) (q : Nm) : rawL (p ++ [q]) = rawL p ++ longer (rawL p) q := by simp [rawL]
theorem rawL_len (qs : List Nm) : (rawL qs).length = 3 ^ qs.length := by
  induction qs using rev_ind with
  | h0 => rfl
  | h1 p q ih => rw [rawL_app, List.length_append, longer_len, ih, List.length_append, List.length_singleton, Nat.pow_succ]; omega
theorem rawL_mem {qs : List Nm} : Asc qs → ∀ l ∈ rawL qs, LotOk qs l ∧ l.length ≤ qs.length := by
  induction qs using rev_ind with
  | h0 => intro _ l m; simp [rawL] at m; subst m; exact ⟨⟨by simp, by simp [Asc]⟩, by simp⟩
  | h1 p q ih =>
    intro as l m
    have as' := List.pairwise_append.mp as
    have up : ∀ {l : Lot}, LotOk p l → LotOk (p ++ [q]) l := fun h => ⟨fun a ma => ⟨List.mem_append_left _ (h.mem a ma).1, (h.mem a ma).2⟩, h.asc⟩
    have sn : ∀ {l : Lot} (b : Int), b = 0 ∨ b = 1 → LotOk p l → LotOk (p ++ [q]) (l ++ [(q, b)]) := fun {l} b hb h => by
      refine ⟨fun a ma => ?_, ?_⟩
      · rcases List.mem_append.mp ma with ma | ma
        · exact (up h).mem a ma
        · simp at ma; subst ma; simp [hb]
      · rw [List.map_append]
        refine List.pairwise_append.mpr ⟨h.asc, by simp, fun x mx y my => ?_⟩
        simp at my; subst my
        obtain ⟨a, ma, rfl⟩ := List.mem_map.mp mx
        exact as'.2.2 _ (h.mem a ma).1 _ (by simp)
    rw [rawL_app] at m
    simp only [longer, List.mem_append, List.mem_map] at m
    rcases m with m | ⟨k, m, rfl⟩ | ⟨k, m, rfl⟩
    · have := ih as'.1 l m
      exact ⟨up this.1, by simp; omega⟩
    · have := ih as'.1 k m
      exact ⟨sn 0 (.inl rfl) this.1, by simp; omega⟩
    · have := ih as'.1 k m
      exact ⟨sn 1 (.inr rfl) this.1, by simp; omega⟩
def clashesAll (qs : List Nm) (A : List Lot) : List Lot := (rawL qs).filter fun l => decide (∀ p ∈ A, ¬ ∀ a ∈ l, a ∈ p)
def leastRaw (qs : List Nm) (A : List Lot) : List Lot := (clashesAll qs A).filter fun l => decide (∀ a ∈ l, l.filter (fun b => decide (b ≠ a)) ∉ clashesAll qs A)
def leastOf (qs : List Nm) (A : List Lot) : List Lot := sortB ltL (leastRaw qs A)
theorem out_ans {β : Type} (L : List Ans) (p : Ans → Bool) (hl : L.length ≤ 16777216) (v : β) (h : AH) :
    (((((Out.ok (List.map (fun l => RV.pv (ansV l)) (List.filter p L)) h).nox.bind (newL false)).bind fun x h1 => cmpO Cmp.eq x (RV.pv (PV.lst [])) h1).bind truO).bind fun k h1 => Out.ok k h1).bind (fun b h1 =>
      if b = true then Out.ok (some v) h1 else Out.ok none h1) = .ok (if decide (∀ a ∈ L, ¬ p a = true) then some v else none) h := by
  have hf : (L.filter p).length ≤ 16777216 := Nat.le_trans (List.length_filter_le _ _) hl
  rw [Out.nox_ok, Out.bind_ok, newL_map _ _ _ hf, Out.bind_ok, emp_ans, Out.bind_ok, tru_bl, Out.bind_ok, Out.bind_ok]
  by_cases q : ∀ a ∈ L, ¬ p a = true
  · have q2 : L.filter p = [] := by rw [List.filter_eq_nil_iff]; exact q
    rw [q2, decide_eq_true q]; rfl
  · have q2 : L.filter p ≠ [] := by
      intro z
      rw [List.filter_eq_nil_iff] at z
      exact q z
    rw [decide_eq_false q]
    cases e : L.filter p with
    | nil => exact absurd e q2
    | cons => rfl
theorem clashes_eq (n : Nat) (qs : List Nm) (A : List Lot) (as : Asc qs) (hn : qs.length ≤ 5) (hA : A.length ≤ 1000) (hA0 : A ≠ []) (h : AH) :
    callN pg (n + 2) "_law_clashes" [.pv (qsV qs), .pv (.lst (A.map lotV))] h = .ok (.pv (.lst ((leastOf qs A).map lotV))) h := by
  rw [call_eq g__law_clashes]
  simp [f__law_clashes, runFn, newT, newL]
  have hN : ∀ p : List Nm, p.length ≤ 5 → (rawL p).length ≤ 243 := fun p hp => by
    rw [rawL_len]
    exact Nat.le_trans (Nat.pow_le_pow_right (by decide) hp) (by decide)
  rw [for_pur (fun p => [some (.pv (qsV qs)), some (.pv (.lst (A.map lotV))), some (.pv (.lst ((rawL p).map lotV))), p.getLast?.map fun q => .pv (.str q), none, none, none, none, none]) ?_ ?_]
  · have hL := rawL_mem as
    have hR := hN qs hn
    simp [Function.comp_def]
    rw [seqO_at (fun l => decide (∀ p ∈ A, ¬ ∀ a ∈ l, a ∈ p)) (fun l => RV.pv (lotV l)) _ (fun y my => ?_)]
    rotate_left
    · rw [seqO_at (fun b => decide (∀ a ∈ y, a ∈ b)) (fun l => RV.pv (lotV l)) _ (fun b mb => out_has y b (by have := (hL y my).2; omega) _ _)]
      have := out_none (β := RV) A (fun b => decide (∀ a ∈ y, a ∈ b)) (by omega) (RV.pv (lotV y)) h
      rw [this]
      simp only [decide_eq_true_eq]
    have hf : (clashesAll qs A).length ≤ 243 := Nat.le_trans (List.length_filter_le _ _) hR
    have hmem : ∀ l ∈ clashesAll qs A, l.length ≤ qs.length ∧ l ≠ [] := fun l m => by
      obtain ⟨m1, m2⟩ := List.mem_filter.mp m
      refine ⟨(hL l m1).2, ?_⟩
      rintro rfl
      obtain ⟨p, mp⟩ := List.exists_mem_of_ne_nil A hA0
      exact (of_decide_eq_true m2) p mp (by simp)
    rw [show (List.filter (fun l => decide (∀ (p : Lot), p ∈ A → ¬∀ (a : Ans), a ∈ l → a ∈ p)) (rawL qs)) = clashesAll qs A from rfl]
    rw [Out.nox_ok, Out.bind_ok, newL_map _ _ _ (Nat.le_trans hf (by decide)), SO.ofE_ok, SO.next_nxt]
    unfold leastOf leastRaw
    generalize hC : clashesAll qs A = C at *
    simp [-exists_and_left, -exists_and_right, Function.comp_def]
    have hc : ∀ (y : Lot) (a : Ans), (y.filter fun b => !decide (b.1 = a.1) || !decide (b.2 = a.2)) = y.filter fun b => decide ¬ b = a := fun y a => by
      apply List.filter_congr
      intro b _
      rw [Bool.eq_iff_iff]
      simp [Prod.ext_iff]
    rw [seqO_at (fun l => decide (∀ a ∈ l, ¬ l.filter (fun b => decide ¬ b = a) ∈ C)) (fun l => RV.pv (lotV l)) _ (fun y my => ?_)]
    · have hf2 := Nat.le_trans (List.length_filter_le (fun l => decide (∀ a ∈ l, ¬ l.filter (fun b => decide ¬ b = a) ∈ C)) C) hf
      have hs := sorted_lots (xs := C.filter (fun l => decide (∀ a ∈ l, ¬ l.filter (fun b => decide ¬ b = a) ∈ C))) (fun l m => (hmem l ((List.mem_filter.mp m).1)).2) (by omega) h
      rw [Out.nox_ok, Out.bind_ok, newL_map _ _ _ (by omega), Out.bind_ok, hs]
      simp
    · have hy := (hmem y my).1
      rw [seqO_at (fun a => decide (y.filter (fun b => decide ¬ b = a) ∈ C)) (fun l => RV.pv (ansV l)) _ (fun a ma => ?_)]
      · have := out_ans (β := RV) y (fun a => decide (y.filter (fun b => decide ¬ b = a) ∈ C)) (by omega) (RV.pv (lotV y)) h
        rw [this]
        simp only [decide_eq_true_eq]
      · rw [hc]
        have hl := Nat.le_trans (List.length_filter_le (fun b => decide ¬ b = a) y) hy
        have := any_lot C (y.filter fun b => decide ¬ b = a)
        rw [newL_map _ _ _ (by omega), Out.bind_ok, tuple_lst _ _ _ (by rw [List.length_map]; omega), Out.bind_ok, cmp_inL _ _ _ (by simp) (by simp)]
        rw [List.any_map]
        simp only [Function.comp_def, lotV, eq_tup, this]
        rw [Out.bind_ok, tru_bl, Out.bind_ok, Out.bind_ok]
        cases decide (y.filter (fun b => decide ¬ b = a) ∈ C) <;> rfl
  · simp [rawL]
  · intro p q r e
    have hp : p.length + 1 ≤ 5 := by
      have := congrArg List.length e
      simp at this
      omega
    have pre : p <+: qs := ⟨q :: r, e.symm⟩
    have hM := rawL_mem (List.Pairwise.sublist pre.sublist as)
    have hl := hN p (by omega)
    refine ⟨_, rfl, .inl ?_⟩
    have e1 := longer_eq n (rawL p) q (by omega) (fun l m => by have := (hM l m).2; omega) h
    have e2 := fun h => bop_addL h ((rawL p).map lotV) ((longer (rawL p) q).map lotV) (by simp [longer_len]; omega)
    rw [← List.map_append] at e2
    simp [e1, e2, rawL_app]
end D.k64

set_option Elab.async false
set_option linter.all false
set_option maxRecDepth 100000
set_option maxHeartbeats 1000000
namespace D.k64
open D D.Pl PySem
theorem leastOf_sub (qs : List Nm) (A : List Lot) : ∀ l ∈ leastOf qs A, l ∈ clashesAll qs A := fun l m => by
  have := (sortB_perm (lt := ltL) _).mem_iff.mp m
  exact (List.mem_filter.mp this).1
theorem leastOf_len (qs : List Nm) (A : List Lot) (hn : qs.length ≤ 5) : (leastOf qs A).length ≤ 243 := by
  unfold leastOf leastRaw clashesAll
  rw [(sortB_perm (lt := ltL) _).length_eq]
  refine Nat.le_trans (List.length_filter_le _ _) (Nat.le_trans (List.length_filter_le _ _) ?_)
  rw [rawL_len]
  exact Nat.le_trans (Nat.pow_le_pow_right (by decide) hn) (by decide)
theorem list_lstT {α : Type} (f : α → PV) (xs : List α) (hl : xs.length ≤ 16777216) (h : AH) : bi1V true "list" (.pv (.lst (xs.map f))) h = .ok (.ref h.length) (h ++ [.lst (xs.map fun y => .pv (f y))]) := by
  simp [bi1V, viewQ, bi1R_list]
  rw [newL_t _ _ (by simpa using hl)]
  simp [Function.comp_def]
theorem list_tupT {α : Type} (f : α → PV) (xs : List α) (hl : xs.length ≤ 16777216) (h : AH) : bi1V true "list" (.pv (.tup (xs.map f))) h = .ok (.ref h.length) (h ++ [.lst (xs.map fun y => .pv (f y))]) := by
  simp [bi1V, viewQ, bi1R_list]
  rw [newL_t _ _ (by simpa using hl)]
  simp [Function.comp_def]
theorem with_bars_eq (n : Nat) (qs : List Nm) (A : List Lot) (as : Asc qs) (h0 : qs ≠ []) (hn : qs.length ≤ 5) (hA : A.length ≤ 1000) (hA0 : A ≠ []) (s : Rl) (t : AH) :
    ∃ bars s', callN pg (n + 4) "_law_with_bars" [.ref 1, .pv (qsV qs), .pv (.lst (A.map lotV))] (rlH t s) = .ok (.pv (agV qs bars)) (rlH t s') ∧ bars.length ≤ 400 ∧ ∀ b ∈ bars, b ∈ leastOf qs A ∨ (b ∈ rowsP qs ∧ b ∉ A) := by
  rw [call_eq g__law_with_bars]
  have hN : (rowsP qs).length ≤ 32 := by rw [rowsP_len]; exact Nat.le_trans (Nat.pow_le_pow_right (by decide) hn) (by decide)
  have e1 := fun h => clashes_eq (n + 1) qs A as hn hA hA0 h
  have e2 := fun h => all_plans_eq (n + 1) (qsV qs) qs (fun h => by simp) h0 (by omega) h
  have hL := leastOf_len qs A hn
  have hLm := leastOf_sub qs A
  generalize leastOf qs A = C at *
  have hO : ((rowsP qs).filter fun y => !decide (y ∈ A)).length ≤ 32 := Nat.le_trans (List.length_filter_le _ _) hN
  have hOm : ∀ b ∈ (rowsP qs).filter fun y => !decide (y ∈ A), b ∈ rowsP qs ∧ b ∉ A := fun b m => by simpa using m
  generalize hOe : ((rowsP qs).filter fun y => !decide (y ∈ A)) = O at *
  have hP : (O.filter fun y => !decide (y ∈ C)).length ≤ 32 := Nat.le_trans (List.length_filter_le _ _) hO
  have hPm : ∀ b ∈ O.filter fun y => !decide (y ∈ C), b ∈ O := fun b m => (List.mem_filter.mp m).1
  have e3 := mixed_eq (n + 1) lotV (C ++ O.filter fun y => !decide (y ∈ C)) (.lst ((C ++ O.filter fun y => !decide (y ∈ C)).map lotV)) (list_lstT lotV _ (by rw [List.length_append]; omega)) (fun h => by rw [len_lst, List.length_map]) (by rw [List.length_append]; omega) s t
  have hZ := shuf_perm (C ++ O.filter fun y => !decide (y ∈ C)) s
  have hZl := hZ.length_eq
  simp only [List.length_append] at hZl
  have hZm : ∀ b ∈ (shuf (C ++ O.filter fun y => !decide (y ∈ C)) s).1, b ∈ C ∨ b ∈ O := fun b m => by
    rcases List.mem_append.mp (hZ.mem_iff.mp m) with m | m
    · exact .inl m
    · exact .inr (hPm b m)
  generalize shuf (C ++ O.filter fun y => !decide (y ∈ C)) s = Z at *
  have e4 := one_eqG (n + 1) (fun L : List Lot => PV.lst (L.map lotV)) [C, O, Z.1] _ (.inl rfl) (by simp) (by simp) Z.2 t
  have hB := oneG_mem (ys := [C, O, Z.1]) (by simp) Z.2
  generalize oneG [C, O, Z.1] Z.2 = B at *
  have hBl : B.1.length ≤ 400 ∧ ∀ b ∈ B.1, b ∈ C ∨ b ∈ O := by
    simp at hB
    rcases hB with e | e | e <;> rw [e]
    · exact ⟨by omega, fun b m => .inl m⟩
    · exact ⟨by omega, fun b m => .inr m⟩
    · exact ⟨by omega, hZm⟩
  refine ⟨B.1, B.2, ?_, hBl.1, fun b m => by
    rcases hBl.2 b m with m | m
    · exact .inl m
    · exact .inr (hOm b m)⟩
  have c1 : O.length ≤ 16777216 := by omega
  have c2 : (O.filter fun y => !decide (y ∈ C)).length ≤ 16777216 := by omega
  have c3 : B.1.length ≤ 16777216 := by omega
  have e5 := fun h => bop_addL h (C.map lotV) ((O.filter fun y => !decide (y ∈ C)).map lotV) (by simp only [List.length_map, line_eq]; omega)
  rw [← List.map_append] at e5
  simp only [List.map_cons, List.map_nil] at e4
  simp [-List.map_append, f__law_with_bars, runFn, e1, e2, Function.comp_def, any_lot, hOe, c1, c2, e5, e3, newL]
  rw [e4]
  simp [c3]
end D.k64

set_option Elab.async false
set_option linter.all false
set_option maxRecDepth 100000
set_option maxHeartbeats 1000000
namespace D.k64
open D D.Pl PySem
@[scoped simp] abbrev rowV (r : List Int) : PV := .tup (r.map .int)
theorem row_at {r : List Int} {k : Nat} (hk : k < r.length) (h : AH) : idxR (.pv (rowV r)) (.pv (.int (k : Nat))) h = .ok (.pv (.int (r.getD k 0))) h :=
  idx_at (by simp [hk]) h
theorem lst_at' {r : List Int} {k : Nat} (hk : k < r.length) (h : AH) : idxR (.pv (.lst (r.map .int))) (.pv (.int (k : Nat))) h = .ok (.pv (.int (r.getD k 0))) h :=
  idx_atL (by simp [hk]) h
def place (m n : Nat) : List Int := (List.range m).map fun k => ((n : Int) / 2 ^ k) % 2
theorem pow_at (k : Nat) (hk : k < 3) (h : AH) : idxR (.pv (.lst [.int 1, .int 2, .int 4])) (.pv (.int (k : Nat))) h = .ok (.pv (.int (2 ^ k))) h := by
  rcases (by omega : k = 0 ∨ k = 1 ∨ k = 2) with rfl | rfl | rfl <;> rfl
theorem pow_at4 (k : Nat) (hk : k < 4) (h : AH) : idxR (.pv (.lst [.int 1, .int 2, .int 4, .int 8])) (.pv (.int (k : Nat))) h = .ok (.pv (.int ((2 ^ k : Nat) : Int))) h := by
  rcases (by omega : k = 0 ∨ k = 1 ∨ k = 2 ∨ k = 3) with rfl | rfl | rfl | rfl <;> rfl
theorem pow_small (k : Nat) (hk : k < 3) : (0 : Int) < 2 ^ k ∧ (2 : Int) ^ k < 1073741824 := by
  rcases (by omega : k = 0 ∨ k = 1 ∨ k = 2) with rfl | rfl | rfl <;> decide
/-- int(n // [1, 2, 4][k]) % 2, for all k -/
theorem place_eq (m n : Nat) (hm : m ≤ 3) (h : AH) :
    seqO (fun (k : Nat) h => (((((idxR (.pv (.lst [.int 1, .int 2, .int 4])) (.pv (.int (k : Nat))) h).bind fun y h2 => bop false .fdiv (.pv (.int (n : Nat))) y h2).bind fun x h1 => Out.ok [x] h1).bind (biR "int")).bind fun x h1 => bop false .mod x (.pv (.int 2)) h1).bind fun v h5 => .ok (some v) h5) (List.range m) h = .ok ((place m n).map fun i => .pv (.int i)) h := by
  rw [seqO_all (fun k => RV.pv (.int (((n : Int) / 2 ^ k) % 2))) _ fun k mk => ?_]
  · simp [place, Function.comp_def]
  · have hk : k < 3 := by simp at mk; omega
    obtain ⟨p1, p2⟩ := pow_small k hk
    simp [pow_at k hk, p1, p2]
def nth : Ss → Nat → S
  | .nil, _ => .pass
  | .cons s _, 0 => s
  | .cons _ ss, i + 1 => nth ss i
def ssDrop : Nat → Ss → Ss
  | 0, ss => ss
  | _ + 1, .nil => .nil
  | n + 1, .cons _ ss => ssDrop n ss
abbrev KB (i : Nat) : S := nth f__law_kind.body i
def placesL (m : Nat) : List (List Int) := (List.range (2 ^ m)).map (place m)
theorem place_len (m n : Nat) : (place m n).length = m := by simp [place]
theorem places_mem {m : Nat} {r : List Int} (h : r ∈ placesL m) : r.length = m := by
  obtain ⟨n, _, rfl⟩ := List.mem_map.mp h
  exact place_len m n
theorem kq0 (n m lo : Nat) (h1 : 1 ≤ m) (hm : m ≤ 3) (x2 x3 x4 x5 x6 x7 x8 x9 : Option RV) (h : AH) :
    exS (callN pg n) lo pg.an (KB 0) [some (.ref 1), some (.pv (.int (m : Nat))), x2, x3, x4, x5, x6, x7, x8, x9] h =
    .ok (.nxt [some (.ref 1), some (.pv (.int (m : Nat))), some (.pv (.lst ((placesL m).map rowV))), x3, x4, x5, x6, x7, x8, x9]) h := by
  have hp : 2 ^ m ≤ 8 := Nat.le_trans (Nat.pow_le_pow_right (by decide) hm) (by decide)
  have r1 := fun h => rng_nat (n := m) (by omega) h
  have r2 := fun h => rng_nat (n := 2 ^ m) (by omega) h
  simp [-Int.natCast_pow, KB, nth, f__law_kind, newL, allPV, pow_at4 m (by omega), r1, r2]
  rw [seqO_all (fun k => RV.pv (rowV (place m k))) _ fun k mk => ?_]
  · rw [Out.nox_ok, Out.bind_ok, newL_map _ _ _ (by simp; omega), SO.ofE_ok]
    simp [placesL, Function.comp_def]
  · rw [place_eq m k hm]
    have := place_len m k
    simp [show m ≤ 16777216 by omega, this]
def signsOf (m : Nat) (s : Rl) : List Int × Rl := mapSt (fun (_ : Nat) s => next 2 s) (List.range m) s
theorem kq2 (n m lo : Nat) (hm : m ≤ 3) (x2 x3 x4 x5 x6 x7 x8 x9 : Option RV) (s : Rl) (t : AH) :
    exS (callN pg (n + 1)) lo pg.an (KB 2) [some (.ref 1), some (.pv (.int (m : Nat))), x2, x3, x4, x5, x6, x7, x8, x9] (rlH t s) =
    .ok (.nxt [some (.ref 1), some (.pv (.int (m : Nat))), x2, x3, some (.pv (.lst ((signsOf m s).1.map .int))), x5, x6, x7, x8, x9]) (rlH t (signsOf m s).2) := by
  have r1 := fun h => rng_nat (n := m) (by omega) h
  simp [KB, nth, f__law_kind, r1]
  rw [seqO_st (rlH t) (fun (_ : Nat) s => next 2 s) (fun i => RV.pv (.int i)) s fun k mk s => ?_]
  · have : (signsOf m s).1.length = m := by simp [signsOf, mapSt_length]
    have e : (mapSt (fun (_ : Nat) s => next 2 s) (List.range m) s) = signsOf m s := rfl
    rw [e]
    simp [show m ≤ 16777216 by omega, this]
  · rw [next_eq n 2 (by decide) (by decide)]
    simp
def someOf (m : Nat) (s : Rl) : List Nat × Rl := ((shuf (List.range m) s).1.take (1 + (next m (shuf (List.range m) s).2).1.toNat), (next m (shuf (List.range m) s).2).2)
theorem someOf_mem {m : Nat} (s : Rl) : ∀ k ∈ (someOf m s).1, k < m := fun k mk => by
  have := (shuf_perm (List.range m) s).mem_iff.mp (List.mem_of_mem_take mk)
  simpa using this
theorem someOf_ne {m : Nat} (h1 : 1 ≤ m) (s : Rl) : (someOf m s).1 ≠ [] := fun z => by
  have := congrArg List.length z
  have hp := (shuf_perm (List.range m) s).length_eq
  simp [someOf, hp] at this
  omega
theorem someOf_len {m : Nat} (s : Rl) : (someOf m s).1.length ≤ m := by
  have hp := (shuf_perm (List.range m) s).length_eq
  simp [someOf, hp]
  omega
theorem kq3 (n m lo : Nat) (h1 : 1 ≤ m) (hm : m ≤ 3) (x2 x3 x4 x5 x6 x7 x8 x9 : Option RV) (s : Rl) (t : AH) :
    exS (callN pg (n + 2)) lo pg.an (KB 3) [some (.ref 1), some (.pv (.int (m : Nat))), x2, x3, x4, x5, x6, x7, x8, x9] (rlH t s) =
    .ok (.nxt [some (.ref 1), some (.pv (.int (m : Nat))), x2, x3, x4, some (.pv (.lst ((someOf m s).1.map fun k => .int (k : Nat)))), x6, x7, x8, x9]) (rlH t (someOf m s).2) := by
  have r1 := fun h => rng_nat (n := m) (by omega) h
  have e1 := mixed_eq n (fun k : Nat => PV.int (k : Nat)) (List.range m) (.lst ((List.range m).map fun k => .int (k : Nat))) (list_lstT (fun k : Nat => PV.int (k : Nat)) _ (by simp; omega)) (fun h => by simp) (by simp; omega) s t
  have hp := (shuf_perm (List.range m) s).length_eq
  have e2 := next_eq (n + 1) (m : Int) (by omega) (by omega) (shuf (List.range m) s).2 t
  have e3 := next_nat (n := m) (by omega) (shuf (List.range m) s).2
  unfold someOf
  generalize shuf (List.range m) s = Q at *
  have e4 := fun h => slc_toL h (Q.1.map fun k : Nat => PV.int (k : Nat)) (1 + (next m Q.2).1.toNat) (by simp at hp ⊢; omega)
  rw [← List.map_take, Int.natCast_add, e3] at e4
  simp only [Int.cast_ofNat_Int] at e4
  have r3 := fun h => newL_map h (fun k : Nat => PV.int (k : Nat)) (List.range m) (by simp; omega)
  simp [-List.map_take, KB, nth, f__law_kind, r1, bi1R_list, r3, e1, e2, e4]
end D.k64

set_option Elab.async false
set_option linter.all false
set_option maxRecDepth 100000
set_option maxHeartbeats 1000000
namespace D.k64
open D D.Pl PySem
theorem pyEq_row : ∀ a b : List Int, pyEqs (a.map .int) (b.map .int) = decide (a = b)
  | [], [] => rfl
  | [], _ :: _ => rfl
  | _ :: _, [] => rfl
  | x :: xs, y :: ys => by
    simp only [List.map_cons, eqs_cons, eq_int, pyEq_row xs ys, List.cons.injEq, Bool.decide_and]
    rfl
theorem any_row (L : List (List Int)) (l : List Int) : (L.any fun y => pyEqs (y.map .int) (l.map .int)) = decide (l ∈ L) := by
  rw [Bool.eq_iff_iff, List.any_eq_true, decide_eq_true_eq]
  constructor
  · rintro ⟨y, m, h⟩
    rw [pyEq_row] at h
    rw [← of_decide_eq_true h]; exact m
  · intro m
    exact ⟨l, m, by rw [pyEq_row]; simp⟩
theorem emp_ints (l : List Nat) (h : AH) : cmpO .eq (.pv (.lst (l.map fun k => .int (k : Nat)))) (.pv (.lst [])) h = .ok (.pv (.bl l.isEmpty)) h := by
  simp
theorem out_nat {β : Type} (L : List Nat) (p : Nat → Bool) (hl : L.length ≤ 16777216) (v : β) (h : AH) :
    (((((Out.ok (List.map (fun l : Nat => RV.pv (.int (l : Nat))) (List.filter p L)) h).nox.bind (newL false)).bind fun x h1 => cmpO Cmp.eq x (RV.pv (PV.lst [])) h1).bind truO).bind fun k h1 => Out.ok k h1).bind (fun b h1 =>
      if b = true then Out.ok (some v) h1 else Out.ok none h1) = .ok (if decide (∀ a ∈ L, ¬ p a = true) then some v else none) h := by
  have hf : (L.filter p).length ≤ 16777216 := Nat.le_trans (List.length_filter_le _ _) hl
  rw [Out.nox_ok, Out.bind_ok, newL_map _ _ _ hf, Out.bind_ok, emp_ints, Out.bind_ok, tru_bl, Out.bind_ok, Out.bind_ok]
  by_cases q : ∀ a ∈ L, ¬ p a = true
  · have q2 : L.filter p = [] := by rw [List.filter_eq_nil_iff]; exact q
    rw [q2, decide_eq_true q]; rfl
  · have q2 : L.filter p ≠ [] := by
      intro z
      rw [List.filter_eq_nil_iff] at z
      exact q z
    rw [decide_eq_false q]
    cases e : L.filter p with
    | nil => exact absurd e q2
    | cons => rfl
theorem kq4 (n m lo : Nat) (h1 : 1 ≤ m) (hm : m ≤ 3) (P : List (List Int)) (hP : ∀ r ∈ P, r.length = m) (hPl : P.length ≤ 8) (way : Int) (S : List Int) (hS : S.length = m) (W : List Nat) (hW : ∀ k ∈ W, k < m) (hW0 : W ≠ []) (hWl : W.length ≤ m)
    (x6 x7 x8 x9 : Option RV) (s : Rl) (t : AH) :
    ∃ (R : List (List Int)) (s' : Rl), exSs (callN pg (n + 3)) lo pg.an (ssDrop 4 f__law_kind.body) [some (.ref 1), some (.pv (.int (m : Nat))), some (.pv (.lst (P.map rowV))), some (.pv (.int way)), some (.pv (.lst (S.map .int))), some (.pv (.lst (W.map fun k => .int (k : Nat)))), x6, x7, x8, x9] (rlH t s) =
      .ok (.ret (.pv (.lst (R.map rowV)))) (rlH t s') ∧ R.length ≤ 8 := by
  have hr : ∀ r ∈ P, ∀ k ∈ W, ∀ h, idxR (.pv (.tup (r.map .int))) (.pv (.int (k : Nat))) h = .ok (.pv (.int (r.getD k 0))) h := fun r mr k mk h => row_at (by rw [hP r mr]; exact hW k mk) h
  have hs : ∀ k ∈ W, ∀ h, idxR (.pv (.lst (S.map .int))) (.pv (.int (k : Nat))) h = .ok (.pv (.int (S.getD k 0))) h := fun k mk h => lst_at' (by rw [hS]; exact hW k mk) h
  simp only [ssDrop, f__law_kind]
  have hf : ∀ q : List Int → Bool, (P.filter q).length ≤ 8 := fun q => Nat.le_trans (List.length_filter_le _ _) hPl
  have hf' : ∀ q : List Int → Bool, (P.filter q).length ≤ 16777216 := fun q => Nat.le_trans (hf q) (by decide)
  by_cases w3 : way < 3
  · simp [w3]
    rw [seqO_at (fun r => decide (∀ k ∈ W, ¬ decide (r.getD k 0 ≠ S.getD k 0) = true)) (fun r => RV.pv (rowV r)) _ (fun r mr => ?_)]
    · rw [Out.nox_ok, Out.bind_ok, newL_map _ _ _ (hf' _), SO.ofE_ok, SO.next_nxt]
      generalize hT : P.filter (fun r => decide (∀ k ∈ W, ¬ decide (r.getD k 0 ≠ S.getD k 0) = true)) = T
      have hTl : T.length ≤ 8 := by rw [← hT]; exact hf _
      by_cases w2 : way < 2
      · refine ⟨T, ⟨s, ?_⟩, hTl⟩
        simp [w2]
      · refine ⟨P.filter fun r => !decide (r ∈ T), ⟨s, ?_⟩, hf _⟩
        have hf2 := hf' fun r => !decide (r ∈ T)
        simp [w2, Function.comp_def, any_row, hf2]
    · rw [seqO_at (fun k => decide (r.getD k 0 ≠ S.getD k 0)) (fun k : Nat => RV.pv (.int (k : Nat))) _ (fun k mk => ?_)]
      · have := out_nat (β := RV) W (fun k => decide (r.getD k 0 ≠ S.getD k 0)) (by omega) (RV.pv (rowV r)) (rlH t s)
        rw [this]
      · rw [hr r mr k mk, Out.bind_ok, hs k mk, Out.bind_ok]
        simp
        split <;> rfl
  · by_cases w4 : way = 3
    · subst w4
      simp
      rw [seqO_at (fun r => decide ((W.map fun k => r.getD k 0).sum % 2 = 1)) (fun r => RV.pv (rowV r)) _ (fun r mr => ?_)]
      · rw [Out.nox_ok, Out.bind_ok, newL_map _ _ _ (hf' _), SO.ofE_ok, SO.next_ret]
        refine ⟨_, ⟨s, rfl⟩, hf _⟩
      · rw [seqO_all (fun k : Nat => RV.pv (.int (r.getD k 0))) _ (fun k mk => ?_)]
        · have c := sum_lst (fun k : Nat => r.getD k 0) W (by omega) (rlH t s)
          rw [Out.nox_ok, Out.bind_ok, newL_map _ (fun k : Nat => PV.int (r.getD k 0)) _ (by omega), Out.bind_ok, c]
          simp
          split <;> rfl
        · rw [hr r mr k mk]
          simp
    · by_cases w5 : way = 4
      · subst w5
        obtain ⟨k0, W', rfl⟩ := List.exists_cons_of_ne_nil hW0
        have hS0 : S ≠ [] := by rintro rfl; simp at hS; omega
        obtain ⟨s0, S', rfl⟩ := List.exists_cons_of_ne_nil hS0
        simp
        rw [seqO_at (fun r => decide (r.getD k0 0 = s0)) (fun r => RV.pv (rowV r)) _ (fun r mr => ?_)]
        · rw [Out.nox_ok, Out.bind_ok, newL_map _ _ _ (hf' _), SO.ofE_ok, SO.next_ret]
          refine ⟨_, ⟨s, rfl⟩, hf _⟩
        · rw [hr r mr k0 (by simp)]
          simp
          split <;> rfl
      · by_cases w6 : way = 5
        · subst w6
          simp
          generalize hR : seqO _ _ _ = R
          obtain ⟨vs, h', ⟨s', rfl, hl⟩, rfl⟩ := seqO_inv (e := fun y => RV.pv (rowV y)) hR (fun p vs h => ∃ s', h = rlH t s' ∧ vs.length ≤ p.length) ⟨s, rfl, Nat.le_refl _⟩ (by
            rintro p r q vs _ e ⟨s1, rfl, hv⟩
            refine ⟨rlH t (next 2 s1).2, ?_⟩
            rw [next_eq (n + 2) 2 (by decide) (by decide)]
            by_cases c : (next 2 s1).1 = 0
            · exact .inl ⟨r, ⟨_, rfl, by simp; omega⟩, by simp [c]⟩
            · exact .inr ⟨⟨_, rfl, by simp; omega⟩, by simp [c]⟩)
          rw [Out.nox_ok, Out.bind_ok, newL_map _ _ _ (by omega), SO.ofE_ok, SO.next_ret]
          exact ⟨vs, ⟨s', rfl⟩, by omega⟩
        · have e := one_eqG (n + 1) (fun L : List (List Int) => PV.lst (L.map rowV)) [[], P] _ (.inl rfl) (by simp) (by simp) s t
          have hm := oneG_mem (ys := [[], P]) (by simp) s
          generalize oneG [[], P] s = Q at *
          simp only [List.map_cons, List.map_nil] at e
          have hQ : Q.1.length ≤ 8 := by
            simp at hm
            rcases hm with e | e <;> rw [e]
            · simp
            · exact hPl
          refine ⟨Q.1, Q.2, ?_, hQ⟩
          simp [w3, w4, w5, w6, newL, e]
end D.k64

set_option Elab.async false
set_option linter.all false
set_option maxRecDepth 100000
set_option maxHeartbeats 1000000
namespace D.k64
open D D.Pl PySem
theorem kind_eq (n m : Nat) (h1 : 1 ≤ m) (hm : m ≤ 3) (s : Rl) (t : AH) :
    ∃ (R : List (List Int)) (s' : Rl), callN pg (n + 4) "_law_kind" [.ref 1, .pv (.int (m : Nat))] (rlH t s) = .ok (.pv (.lst (R.map rowV))) (rlH t s') ∧ R.length ≤ 8 := by
  rw [call_eq g__law_kind]
  have hb : f__law_kind.body = .cons (KB 0) (.cons (KB 1) (.cons (KB 2) (.cons (KB 3) (ssDrop 4 f__law_kind.body)))) := rfl
  have e1 := next_eq (n + 2) 7 (by decide) (by decide) s t
  have hP : (placesL m).length ≤ 8 := by
    simp [placesL]; exact Nat.le_trans (Nat.pow_le_pow_right (by decide) hm) (by decide)
  have hS : ∀ s, (signsOf m s).1.length = m := fun s => by simp [signsOf, mapSt_length]
  obtain ⟨R, s', e, hl⟩ := kq4 n m (rlH t s).length h1 hm (placesL m) (fun r => places_mem) hP (next 7 s).1 (signsOf m (next 7 s).2).1 (hS _) (someOf m (signsOf m (next 7 s).2).2).1 (someOf_mem _) (someOf_ne h1 _) (someOf_len _) none none none none (someOf m (signsOf m (next 7 s).2).2).2 t
  refine ⟨R, s', ?_, hl⟩
  unfold runFn
  rw [hb]
  have q1 : ∀ (lo : Nat) (x2 x3 x4 x5 x6 x7 x8 x9 : Option RV), exS (callN pg (n + 3)) lo pg.an (KB 1) [some (.ref 1), some (.pv (.int (m : Nat))), x2, x3, x4, x5, x6, x7, x8, x9] (rlH t s) =
      .ok (.nxt [some (.ref 1), some (.pv (.int (m : Nat))), x2, some (.pv (.int (next 7 s).1)), x4, x5, x6, x7, x8, x9]) (rlH t (next 7 s).2) := fun lo x2 x3 x4 x5 x6 x7 x8 x9 => by
    simp [KB, nth, f__law_kind, e1]
  have ha : ([RV.ref 1, RV.pv (.int (m : Nat))].map some ++ List.replicate (f__law_kind.ns - f__law_kind.np) none) = [some (.ref 1), some (.pv (.int (m : Nat))), none, none, none, none, none, none, none, none] := rfl
  rw [ha, if_pos (by rfl), xs_cons, kq0 _ m _ h1 hm, SO.next_nxt, xs_cons, q1, SO.next_nxt, xs_cons, kq2 _ m _ hm, SO.next_nxt, xs_cons, kq3 _ m _ h1 hm, SO.next_nxt, e, SO.fin_ret]
  simp [f__law_kind]
/-! lots that are plans -/
theorem mem_rowsP {qs : List Nm} : ∀ {r : Lot}, r.map (·.1) = qs → (∀ a ∈ r, a.2 = 0 ∨ a.2 = 1) → r ∈ rowsP qs := by
  induction qs using rev_ind with
  | h0 => intro r h _; simp at h; subst h; simp [rowsP]
  | h1 p q ih =>
    intro r h hv
    have hr : r ≠ [] := by rintro rfl; simp at h
    obtain ⟨r', a, rfl⟩ : ∃ r' a, r = r' ++ [a] := ⟨r.dropLast, r.getLast hr, (List.dropLast_concat_getLast hr).symm⟩
    rw [List.map_append] at h
    obtain ⟨h1, h2⟩ := List.append_inj' h (by simp)
    simp at h2
    have := ih h1 fun b mb => hv b (List.mem_append_left _ mb)
    rw [rowsP_app]
    unfold step2
    refine List.mem_flatMap.mpr ⟨r', this, ?_⟩
    obtain ⟨x, y⟩ := a
    simp at h2; subst h2
    rcases hv (x, y) (by simp) with e | e <;> simp at e <;> subst e <;> simp
theorem sort_plan {qs : List Nm} (as : Asc qs) {l : Lot} (p : (l.map (·.1)).Perm qs) (hv : ∀ a ∈ l, a.2 = 0 ∨ a.2 = 1) : sortB ltA l ∈ rowsP qs := by
  have sp := sortB_perm (lt := ltA) l
  have ss := sortB_sorted lin_A l
  have nd : ((sortB ltA l).map (·.1)).Nodup := ((sp.map _).trans p).nodup_iff.mpr as.nodup
  have asc : Asc ((sortB ltA l).map (·.1)) := by
    unfold Asc
    rw [List.pairwise_map]
    have nd2 : (sortB ltA l).Pairwise fun a b => a.1 ≠ b.1 := by
      unfold List.Nodup at nd
      rwa [List.pairwise_map] at nd
    refine (ss.and nd2).imp fun {a b} h => ?_
    obtain ⟨h1, h2⟩ := h
    unfold ltA at h1
    rw [if_neg (Ne.symm h2)] at h1
    exact lt_tot h1 (Ne.symm h2)
  refine mem_rowsP ?_ fun a m => hv a (sp.mem_iff.mp m)
  exact List.Perm.eq_of_pairwise (fun a b _ _ h1 h2 => by rw [lt_asym h1] at h2; cases h2) asc as ((sp.map _).trans p)
end D.k64

set_option Elab.async false
set_option linter.all false
set_option maxRecDepth 100000
set_option maxHeartbeats 1000000
namespace D.k64
open D D.Pl PySem
abbrev LB (i : Nat) : S := nth f__law_linked.body i
theorem lq0 (n lo : Nat) (x2 x3 x4 x5 x6 x7 x8 x9 x10 x11 : Option RV) (s : Rl) (t : AH) :
    ∃ (m : Nat) (s' : Rl), exS (callN pg (n + 1)) lo pg.an (LB 0) [some (.ref 1), some (.pv (.int 3)), x2, x3, x4, x5, x6, x7, x8, x9, x10, x11] (rlH t s) =
      .ok (.nxt [some (.ref 1), some (.pv (.int 3)), some (.pv (.int (m : Nat))), x3, x4, x5, x6, x7, x8, x9, x10, x11]) (rlH t s') ∧ 1 ≤ m ∧ m ≤ 3 := by
  have e := next_eq n 3 (by decide) (by decide) s t
  have b := next_bd (lim := 3) (by decide) s
  refine ⟨1 + (next 3 s).1.toNat, (next 3 s).2, ?_, by omega, by omega⟩
  have c : ((1 + (next 3 s).1.toNat : Nat) : Int) = 1 + (next 3 s).1 := by omega
  simp only [c]
  simp [LB, nth, f__law_linked, e]
structure Qs (m : Nat) (qs : List Nm) : Prop where
  asc : Asc qs
  ne : ∀ q ∈ qs, q ≠ []
  lo : m ≤ qs.length
  hi : qs.length ≤ 4
theorem names_qs {m k : Nat} (h : k ≤ 4) (hm : m ≤ k) (s : Rl) : Qs m (namesOf k s).1 :=
  ⟨namesOf_asc k s, namesOf_ne k s, by rw [namesOf_len (by omega)]; exact hm, by rw [namesOf_len (by omega)]; exact h⟩
theorem lq1 (n lo m : Nat) (h1 : 1 ≤ m) (hm : m ≤ 3) (x3 x4 x5 x6 x7 x8 x9 x10 x11 : Option RV) (s : Rl) (t : AH) :
    ∃ (qs : List Nm) (s' : Rl), exS (callN pg (n + 3)) lo pg.an (LB 1) [some (.ref 1), some (.pv (.int 3)), some (.pv (.int (m : Nat))), x3, x4, x5, x6, x7, x8, x9, x10, x11] (rlH t s) =
      .ok (.nxt [some (.ref 1), some (.pv (.int 3)), some (.pv (.int (m : Nat))), some (.pv (qsV qs)), x4, x5, x6, x7, x8, x9, x10, x11]) (rlH t s') ∧ Qs m qs := by
  by_cases c : (m : Int) < 3
  · have e := one_eqG (n + 1) PV.int [0, 1, 1, 2] _ (.inl rfl) (by simp) (by simp) s t
    have hm2 := oneG_mem (ys := [(0 : Int), 1, 1, 2]) (by simp) s
    generalize oneG [(0 : Int), 1, 1, 2] s = Q at *
    have hq : ∃ k : Nat, Q.1 = (k : Int) ∧ k ≤ 2 := by
      simp at hm2
      rcases hm2 with e | e | e <;> rw [e]
      · exact ⟨0, rfl, by omega⟩
      · exact ⟨1, rfl, by omega⟩
      · exact ⟨2, rfl, by omega⟩
    obtain ⟨k, hk, hk2⟩ := hq
    have e2 := names_eq n (m + k) (by omega) Q.2 t
    refine ⟨(namesOf (m + k) Q.2).1, (namesOf (m + k) Q.2).2, ?_, names_qs (by omega) (by omega) _⟩
    rw [Int.natCast_add] at e2
    simp only [List.map_cons, List.map_nil] at e
    simp [LB, nth, f__law_linked, c, newL, allPV, e, hk, e2]
  · have e := next_eq (n + 2) 2 (by decide) (by decide) s t
    have b := next_bd (lim := 2) (by decide) s
    have c2 : ((m + (next 2 s).1.toNat : Nat) : Int) = m + (next 2 s).1 := by omega
    have e2 := names_eq n (m + (next 2 s).1.toNat) (by omega) (next 2 s).2 t
    rw [c2] at e2
    refine ⟨(namesOf (m + (next 2 s).1.toNat) (next 2 s).2).1, (namesOf (m + (next 2 s).1.toNat) (next 2 s).2).2, ?_, names_qs (by omega) (by omega) _⟩
    simp [LB, nth, f__law_linked, c, e, e2]
theorem lq2 (n lo m : Nat) (h1 : 1 ≤ m) (hm : m ≤ 3) (qs : List Nm) (Q : Qs m qs) (x4 x5 x6 x7 x8 x9 x10 x11 : Option RV) (s : Rl) (t : AH) :
    ∃ (pr : List Nm) (s' : Rl), exS (callN pg (n + 2)) lo pg.an (LB 2) [some (.ref 1), some (.pv (.int 3)), some (.pv (.int (m : Nat))), some (.pv (qsV qs)), x4, x5, x6, x7, x8, x9, x10, x11] (rlH t s) =
      .ok (.nxt [some (.ref 1), some (.pv (.int 3)), some (.pv (.int (m : Nat))), some (.pv (qsV qs)), some (.pv (qsV pr)), x5, x6, x7, x8, x9, x10, x11]) (rlH t s') ∧ pr.length = m ∧ pr.Nodup ∧ ∀ q ∈ pr, q ∈ qs := by
  have hi := Q.hi
  have lo' := Q.lo
  have e1 := mixed_eq n PV.str qs (.lst (qs.map .str)) (list_lstT PV.str _ (by omega)) (fun h => by simp) (by omega) s t
  have hp := shuf_perm qs s
  refine ⟨sortS ((shuf qs s).1.take m), (shuf qs s).2, ?_, ?_, ?_, ?_⟩
  · have hl := hp.length_eq
    have hs := (sortS_perm ((shuf qs s).1.take m)).length_eq
    generalize shuf qs s = Z at *
    have e4 := fun h => slc_toL h (Z.1.map PV.str) m (by simp; omega)
    rw [← List.map_take] at e4
    have hs2 : (Z.1.take m).length < 64 := by simp; omega
    have e5 := fun h => sorted_strL (Z.1.take m) hs2 h
    have hs3 : (sortS (Z.1.take m)).length ≤ 16777216 := by omega
    simp [-List.map_take, LB, nth, f__law_linked, list_tup, show qs.length ≤ 16777216 by omega, e1, e4, e5, hs3]
  · rw [(sortS_perm _).length_eq, List.length_take, hp.length_eq]; omega
  · rw [(sortS_perm _).nodup_iff]
    exact List.Nodup.sublist (List.take_sublist _ _) (hp.nodup_iff.mpr Q.asc.nodup)
  · intro q hq
    exact hp.mem_iff.mp (List.mem_of_mem_take ((sortS_perm _).mem_iff.mp hq))
end D.k64

set_option Elab.async false
set_option linter.all false
set_option maxRecDepth 100000
set_option maxHeartbeats 1000000
namespace D.k64
open D D.Pl PySem
abbrev RowsD := List (Nm × List (List Int))
abbrev fR (L : List (List Int)) : PV := .lst (L.map rowV)
theorem any_nm (L : List Nm) (q : Nm) : (L.any fun y => y == q) = decide (q ∈ L) := by
  rw [Bool.eq_iff_iff, List.any_eq_true, decide_eq_true_eq]
  constructor
  · rintro ⟨y, m, h⟩; rw [← eq_of_beq h]; exact m
  · intro m; exact ⟨q, m, by simp⟩
theorem lq3 (n lo m : Nat) (h1 : 1 ≤ m) (hm : m ≤ 3) (qs pr : List Nm) (Q : Qs m qs) (x5 x6 x7 x8 x9 x10 x11 : Option RV) (s : Rl) (t : AH) :
    ∃ (RS : RowsD) (s' : Rl), exS (callN pg (n + 4)) lo pg.an (LB 3) [some (.ref 1), some (.pv (.int 3)), some (.pv (.int (m : Nat))), some (.pv (qsV qs)), some (.pv (qsV pr)), x5, x6, x7, x8, x9, x10, x11] (rlH t s) =
      .ok (.nxt [some (.ref 1), some (.pv (.int 3)), some (.pv (.int (m : Nat))), some (.pv (qsV qs)), some (.pv (qsV pr)), some (.pv (dV fR RS)), x6, x7, x8, x9, x10, x11]) (rlH t s') ∧ RS.map (·.1) = qs.filter (fun q => decide (q ∉ pr)) := by
  have hi := Q.hi
  simp [LB, nth, f__law_linked, Function.comp_def]
  generalize hR : seqO _ _ _ = R
  obtain ⟨vs, h', ⟨s', rfl, hv⟩, rfl⟩ := seqO_inv (e := fun p : Nm × List (List Int) => RV.pv (.tup [.str p.1, fR p.2])) hR (fun p vs h => ∃ s', h = rlH t s' ∧ vs.map (·.1) = p.filter fun q => decide (q ∉ pr)) ⟨s, rfl, rfl⟩ (by
    rintro p q r vs _ e ⟨s1, rfl, hv⟩
    by_cases c : q ∈ pr
    · refine ⟨rlH t s1, .inr ⟨⟨s1, rfl, by simp [hv, c]⟩, ?_⟩⟩
      simp
      exact fun z => absurd rfl (z q c)
    · obtain ⟨R, s2, e2, _⟩ := kind_eq n m h1 hm s1 t
      refine ⟨rlH t s2, .inl ⟨(q, R), ⟨s2, rfl, by simp [hv, c]⟩, ?_⟩⟩
      simp [c, e2])
  have hl : vs.length ≤ 4 := by
    have := congrArg List.length hv
    simp only [List.length_map] at this
    rw [this]
    exact Nat.le_trans (List.length_filter_le _ _) hi
  have nd : (vs.map (·.1)).Nodup := by rw [hv]; exact List.Nodup.sublist List.filter_sublist Q.asc.nodup
  refine ⟨vs, ⟨s', ?_⟩, by simpa using hv⟩
  rw [Out.nox_ok, Out.bind_ok, newL_map _ (fun p : Nm × List (List Int) => PV.tup [.str p.1, fR p.2]) _ (by omega), Out.bind_ok, dctR_pairs fR vs nd]
  simp [Function.comp_def]
def planN (m : Nat) (pr : List Nm) (RS : RowsD) (k : Nat) : Lot := (List.range m).map (fun i => (pr.getD i [], (place m k).getD i 0)) ++ RS.map fun p => (p.1, if place m k ∈ p.2 then 1 else 0)
theorem place_bit (m k i : Nat) : (place m k).getD i 0 = 0 ∨ (place m k).getD i 0 = 1 := by
  by_cases h : i < m
  · simp [place, h]; omega
  · simp [place, h]
theorem planN_ok {m : Nat} {qs pr : List Nm} {RS : RowsD} (Q : Qs m qs) (hp : pr.length = m) (nd : pr.Nodup) (sub : ∀ q ∈ pr, q ∈ qs) (hR : RS.map (·.1) = qs.filter (fun q => decide (q ∉ pr))) (k : Nat) : sortB ltA (planN m pr RS k) ∈ rowsP qs := by
  refine sort_plan Q.asc ?_ ?_
  · have e1 : ((List.range m).map (fun i => (pr.getD i [], (place m k).getD i 0))).map (·.1) = pr := by
      rw [List.map_map]
      apply List.ext_getElem
      · simp [hp]
      · intro i h1 h2
        simp [h2]
    have e2 : (RS.map fun p => (p.1, if place m k ∈ p.2 then (1 : Int) else 0)).map (·.1) = qs.filter (fun q => decide (q ∉ pr)) := by
      rw [List.map_map]; exact hR
    unfold planN
    rw [List.map_append, e1, e2]
    refine (List.perm_ext_iff_of_nodup ?_ Q.asc.nodup).mpr fun q => ?_
    · refine List.nodup_append.mpr ⟨nd, List.Nodup.sublist List.filter_sublist Q.asc.nodup, fun a ma b mb => ?_⟩
      rintro rfl
      simp at mb
      exact mb.2 ma
    · simp only [List.mem_append, List.mem_filter, decide_eq_true_eq]
      constructor
      · rintro (h | h)
        · exact sub q h
        · exact h.1
      · intro h
        by_cases c : q ∈ pr
        · exact .inl c
        · exact .inr ⟨h, c⟩
  · intro a ma
    rcases List.mem_append.mp ma with ma | ma
    · obtain ⟨i, _, rfl⟩ := List.mem_map.mp ma
      exact place_bit m k i
    · obtain ⟨p, _, rfl⟩ := List.mem_map.mp ma
      simp only
      split
      · exact .inr rfl
      · exact .inl rfl
end D.k64

set_option Elab.async false
set_option linter.all false
set_option maxRecDepth 100000
set_option maxHeartbeats 1000000
namespace D.k64
open D D.Pl PySem
def suite : S → Ss
  | .for_ _ _ b => b
  | .whl _ b => b
  | .frz _ s => suite s
  | _ => .nil
theorem app_end2 (lo : Nat) (g z : AO) (h : AH) (xs : List RV) (w : PV) (hl : xs.length < 16777216) : bmR lo "list.append" (.ref (h.length + 1 + 1)) [.pv w] (g :: z :: (h ++ [.lst xs])) = .ok (.pv .non) (g :: z :: (h ++ [.lst (xs ++ [.pv w])])) := by
  simp [bmR, mayStore, hl]
theorem appK_end2 (g z : AO) (h : AH) (xs : List RV) : bmK "append" (.ref (h.length + 1 + 1)) (g :: z :: (h ++ [.lst xs])) = some "list.append" := by simp [bmK, viewL, lookF]
theorem nm_at {pr : List Nm} {k : Nat} (hk : k < pr.length) (h : AH) : idxR (.pv (qsV pr)) (.pv (.int (k : Nat))) h = .ok (.pv (.str (pr.getD k []))) h :=
  idx_at (by simp [hk]) h
theorem lbody (n lo m k : Nat) (h1 : 1 ≤ m) (hm : m ≤ 3) (qs pr : List Nm) (hp : pr.length = m) (RS : RowsD) (nd : (RS.map (·.1)).Nodup) (hRS : RS.length ≤ 4) (A : List RV) (hA : A.length ≤ 100) (x8 x9 : Option RV) (s : Rl) (t : AH) :
    exSs (callN pg n) lo pg.an (suite (LB 5)) [some (.ref 1), some (.pv (.int 3)), some (.pv (.int (m : Nat))), some (.pv (qsV qs)), some (.pv (qsV pr)), some (.pv (dV fR RS)), some (.ref (t.length + 1 + 1)), some (.pv (.int (k : Nat))), x8, x9, none, none] (rlH (t ++ [.lst A]) s) =
      .ok (.nxt [some (.ref 1), some (.pv (.int 3)), some (.pv (.int (m : Nat))), some (.pv (qsV qs)), some (.pv (qsV pr)), some (.pv (dV fR RS)), some (.ref (t.length + 1 + 1)), some (.pv (.int (k : Nat))), some (.pv (rowV (place m k))), some (.pv (.lst ((planN m pr RS k).map ansV))), none, none])
        (rlH (t ++ [.lst (A ++ [.pv (lotV (sortB ltA (planN m pr RS k)))])]) s) := by
  have r1 := fun h => rng_nat (n := m) (by omega) h
  have pl := place_len m k
  have hm2 : m ≤ 16777216 := by omega
  have e8 := fun h => place_eq m k hm h
  have e9a : ∀ h, seqO (fun (i : Nat) h => (((idxR (.pv (qsV pr)) (.pv (.int (i : Nat))) h).bind fun x h1 => ((idxR (.pv (rowV (place m k))) (.pv (.int (i : Nat))) h1).bind fun x h1 => Out.ok [x] h1).bind fun xs h2 => Out.ok (x :: xs) h2).bind newT).bind fun v h2 => Out.ok (some v) h2) (List.range m) h =
      .ok ((List.range m).map fun i => RV.pv (ansV (pr.getD i [], (place m k).getD i 0))) h := fun h => seqO_all _ _ fun i mi => by
    have hi : i < m := by simpa using mi
    rw [nm_at (by omega), Out.bind_ok, row_at (by omega)]
    simp
  have e9b : ∀ h, seqO (fun (p : Nm × List (List Int)) h => (((((((idxR (.pv (dV fR RS)) (.pv (.str p.1)) h).bind fun y h2 => cmpO .in_ (.pv (rowV (place m k))) y h2).bind fun x h1 => Out.ok [x] h1).bind (biR "int")).bind fun x h1 => Out.ok [x] h1).bind fun xs h2 => Out.ok (.pv (.str p.1) :: xs) h2).bind newT).bind fun v h2 => Out.ok (some v) h2) RS h =
      .ok (RS.map fun p => RV.pv (ansV (p.1, if place m k ∈ p.2 then 1 else 0))) h := fun h => seqO_all _ _ fun p mp => by
    rw [idx_dct fR RS nd mp, Out.bind_ok]
    have := any_row p.2 (place m k)
    simp [Function.comp_def, this]
  simp only [qsV, rowV] at e9a e9b
  have hf : ∀ h, newL false ((planN m pr RS k).map fun a => RV.pv (ansV a)) h = .ok (.pv (.lst ((planN m pr RS k).map ansV))) h := fun h => newL_map h ansV _ (by simp [planN]; omega)
  have n3 : ∀ h, newL false [.pv (.int 1), .pv (.int 2), .pv (.int 4)] h = .ok (.pv (.lst [.int 1, .int 2, .int 4])) h := fun h => by simp [newL, allPV]
  simp [LB, nth, suite, f__law_linked, n3, r1, e8, pl, hm2, e9a, e9b, Function.comp_def]
  have hR2 : RS.length ≤ 16777216 := by omega
  have hb : ∀ h, bop false .add (.pv (.lst ((List.range m).map fun y => PV.tup [.str (pr[y]?.getD []), .int ((place m k)[y]?.getD 0)]))) (.pv (.lst (RS.map fun p => PV.tup [.str p.1, .int (if place m k ∈ p.2 then 1 else 0)]))) h = .ok (.pv (.lst ((planN m pr RS k).map ansV))) h := fun h => by
    rw [bop_addL _ _ _ (by simp; omega)]
    simp [planN, Function.comp_def]
  have hP : (planN m pr RS k).length ≤ 16777216 := by simp [planN]; omega
  have hs := fun h => sorted_ans (xs := planN m pr RS k) hP h
  have hsl : (sortB ltA (planN m pr RS k)).length ≤ 16777216 := by rw [(sortB_perm (lt := ltA) _).length_eq]; exact hP
  have ht := fun h => tuple_lst h false ((sortB ltA (planN m pr RS k)).map ansV) (by simpa using hsl)
  have ha := fun w => app_end2 lo s.gv s.rv t A w (by omega)
  have hk := appK_end2 s.gv s.rv t A
  rw [newL_map _ (fun p : Nm × List (List Int) => PV.tup [.str p.1, .int (if place m k ∈ p.2 then 1 else 0)]) _ hR2, Out.bind_ok, hb]
  simp only [rlH] at *
  simp [-sorted_strL, hs, ht, ha, hk]
end D.k64

set_option Elab.async false
set_option linter.all false
set_option maxRecDepth 100000
set_option maxHeartbeats 1000000
namespace D.k64
open D D.Pl PySem
theorem sub_eq {α β : Type} (f : α → β) : ∀ {l1 l2 : List α}, l1.map f = l2.map f → (l1.map f).Nodup → (∀ x ∈ l1, x ∈ l2) → l1 = l2
  | [], [], _, _, _ => rfl
  | [], _ :: _, h, _, _ => by simp at h
  | _ :: _, [], h, _, _ => by simp at h
  | x :: l1, y :: l2, h, nd, sub => by
    simp only [List.map_cons, List.cons.injEq] at h
    simp only [List.map_cons, List.nodup_cons] at nd
    have e : x = y := by
      rcases List.mem_cons.mp (sub x (by simp)) with e | m
      · exact e
      · exact absurd (by rw [h.2]; exact List.mem_map.mpr ⟨x, m, rfl⟩) nd.1
    subst e
    rw [sub_eq f h.2 nd.2 fun z mz => by
      rcases List.mem_cons.mp (sub z (by simp [mz])) with e | m
      · subst e; exact absurd (List.mem_map.mpr ⟨z, mz, rfl⟩) nd.1
      · exact m]
theorem rows_names {qs : List Nm} {r : Lot} (m : r ∈ rowsP qs) : r.map (·.1) = qs := by
  rw [rowsP_eq] at m
  obtain ⟨k, _, rfl⟩ := List.mem_map.mp m
  unfold planAt
  rw [List.map_map]
  apply List.ext_getElem
  · simp
  · intro i h1 h2
    simp at h1
    simp [h1]
theorem rows_bits {qs : List Nm} {r : Lot} (m : r ∈ rowsP qs) : ∀ a ∈ r, a.2 = 0 ∨ a.2 = 1 := by
  rw [rowsP_eq] at m
  obtain ⟨k, _, rfl⟩ := List.mem_map.mp m
  intro a ma
  obtain ⟨i, _, rfl⟩ := List.mem_map.mp ma
  have := bitAt_le qs.length k i
  simp only
  omega
theorem rows_lot {qs : List Nm} (as : Asc qs) {r : Lot} (m : r ∈ rowsP qs) : LotOk qs r := by
  have hn := rows_names m
  refine ⟨fun a ma => ⟨by rw [← hn]; exact List.mem_map.mpr ⟨a, ma, rfl⟩, rows_bits m a ma⟩, by rw [hn]; exact as⟩
/-- a right agenda that was drawn -/
structure AgD (qs : List Nm) (bars : List Lot) : Prop where
  asc : Asc qs
  ne : ∀ q ∈ qs, q ≠ []
  lo : qs ≠ []
  hi : qs.length ≤ 4
  bl : bars.length ≤ 500
  bm : ∀ b ∈ bars, LotOk qs b ∧ b.length ≤ 4
  good : goodRows qs bars ≠ []
theorem bars_ok {qs : List Nm} {bars A : List Lot} {m : Nat} (Q : Qs m qs) (h0 : qs ≠ []) (hA : ∀ a ∈ A, a ∈ rowsP qs) (hA0 : A ≠ []) (hl : bars.length ≤ 400) (hb : ∀ b ∈ bars, b ∈ leastOf qs A ∨ (b ∈ rowsP qs ∧ b ∉ A)) : AgD qs bars := by
  refine ⟨Q.asc, Q.ne, h0, Q.hi, by omega, fun b mb => ?_, fun z => ?_⟩
  · rcases hb b mb with h | h
    · have := leastOf_sub qs A b h
      have := rawL_mem Q.asc b (List.mem_filter.mp this).1
      exact ⟨this.1, Nat.le_trans this.2 Q.hi⟩
    · exact ⟨rows_lot Q.asc h.1, by rw [rowsP_mem_len h.1]; exact Q.hi⟩
  · obtain ⟨a, ma⟩ := List.exists_mem_of_ne_nil A hA0
    have : a ∈ goodRows qs bars := by
      refine List.mem_filter.mpr ⟨hA a ma, decide_eq_true fun b mb sub => ?_⟩
      rcases hb b mb with h | h
      · have := (List.mem_filter.mp (leastOf_sub qs A b h)).2
        exact (of_decide_eq_true this) a ma sub
      · have e : b = a := sub_eq (·.1) ((rows_names h.1).trans (rows_names (hA a ma)).symm) (by rw [rows_names h.1]; exact Q.asc.nodup) sub
        subst e
        exact h.2 ma
    rw [z] at this
    cases this
theorem linked_eq (n : Nat) (s : Rl) (t : AH) :
    ∃ (qs pr : List Nm) (bars : List Lot) (s' : Rl), callN pg (n + 6) "_law_linked" [.ref 1, .pv (.int 3)] (rlH t s) = .ok (.pv (.tup [agV qs bars, qsV pr])) (rlH t s') ∧ AgD qs bars ∧ bars.length ≤ 400 := by
  rw [call_eq g__law_linked]
  have hb : f__law_linked.body = .cons (LB 0) (.cons (LB 1) (.cons (LB 2) (.cons (LB 3) (.cons (LB 4) (.cons (LB 5) (.cons (LB 6) .nil)))))) := rfl
  obtain ⟨m, s1, e0, h1, hm⟩ := lq0 (n + 4) (rlH t s).length none none none none none none none none none none s t
  obtain ⟨qs, s2, e1, Q⟩ := lq1 (n + 2) (rlH t s).length m h1 hm none none none none none none none none none s1 t
  obtain ⟨pr, s3, e2, hpl, hpn, hps⟩ := lq2 (n + 3) (rlH t s).length m h1 hm qs Q none none none none none none none none s2 t
  obtain ⟨RS, s4, e3, hRS⟩ := lq3 (n + 1) (rlH t s).length m h1 hm qs pr Q none none none none none none none s3 t
  have hi := Q.hi
  have ndR : (RS.map (·.1)).Nodup := by rw [hRS]; exact List.Nodup.sublist List.filter_sublist Q.asc.nodup
  have hRl : RS.length ≤ 4 := by
    have := congrArg List.length hRS
    rw [List.length_map] at this
    rw [this]
    exact Nat.le_trans (List.length_filter_le _ _) hi
  have h0 : qs ≠ [] := by rintro rfl; have := Q.lo; simp at this; omega
  have hp8 : 2 ^ m ≤ 8 := Nat.le_trans (Nat.pow_le_pow_right (by decide) hm) (by decide)
  have hp1 : 1 ≤ 2 ^ m := Nat.one_le_two_pow
  let A : List Lot := (List.range (2 ^ m)).map fun k => sortB ltA (planN m pr RS k)
  have hAm : ∀ a ∈ A, a ∈ rowsP qs := fun a ma => by
    obtain ⟨k, _, rfl⟩ := List.mem_map.mp ma
    exact planN_ok Q hpl hpn hps hRS k
  have hAl : A.length ≤ 8 := by simp [A]; exact hp8
  have sp := sortB_perm (lt := ltL) A
  have hA0 : sortB ltL A ≠ [] := fun z => by
    have := sp.length_eq
    rw [z] at this
    simp [A] at this
    omega
  obtain ⟨bars, s5, e6, hbl, hbm⟩ := with_bars_eq (n + 1) qs (sortB ltL A) Q.asc h0 (by omega) (by rw [sp.length_eq]; omega) hA0 s4 (t ++ [.dead])
  refine ⟨qs, pr, bars, s5, ?_, bars_ok Q h0 (fun a ma => hAm a (sp.mem_iff.mp ma)) hA0 hbl hbm, hbl⟩
  unfold runFn
  rw [hb]
  have ha : ([RV.ref 1, RV.pv (.int 3)].map some ++ List.replicate (f__law_linked.ns - f__law_linked.np) none) = [some (.ref 1), some (.pv (.int 3)), none, none, none, none, none, none, none, none, none, none] := rfl
  have e4 : exS (callN pg (n + 5)) (rlH t s).length pg.an (LB 4) [some (.ref 1), some (.pv (.int 3)), some (.pv (.int (m : Nat))), some (.pv (qsV qs)), some (.pv (qsV pr)), some (.pv (dV fR RS)), none, none, none, none, none, none] (rlH t s4) =
      .ok (.nxt [some (.ref 1), some (.pv (.int 3)), some (.pv (.int (m : Nat))), some (.pv (qsV qs)), some (.pv (qsV pr)), some (.pv (dV fR RS)), some (.ref (t.length + 1 + 1)), none, none, none, none, none]) (rlH (t ++ [.lst []]) s4) := by
    simp [LB, nth, f__law_linked, rlH]
  have r2 := fun h => rng_nat (n := 2 ^ m) (by omega) h
  have n4 : ∀ h, newL false [.pv (.int 1), .pv (.int 2), .pv (.int 4), .pv (.int 8)] h = .ok (.pv (.lst [.int 1, .int 2, .int 4, .int 8])) h := fun h => by simp [newL, allPV]
  have e5 : ∃ x7 x8 x9, exS (callN pg (n + 5)) (rlH t s).length pg.an (LB 5) [some (.ref 1), some (.pv (.int 3)), some (.pv (.int (m : Nat))), some (.pv (qsV qs)), some (.pv (qsV pr)), some (.pv (dV fR RS)), some (.ref (t.length + 1 + 1)), none, none, none, none, none] (rlH (t ++ [.lst []]) s4) =
      .ok (.nxt [some (.ref 1), some (.pv (.int 3)), some (.pv (.int (m : Nat))), some (.pv (qsV qs)), some (.pv (qsV pr)), some (.pv (dV fR RS)), some (.ref (t.length + 1 + 1)), x7, x8, x9, none, none]) (rlH (t ++ [.lst (A.map fun l => .pv (lotV l))]) s4) := by
    have hf : LB 5 = .for_ (.nm 7) (.rng (.cons (.idx (.lst false (.cons (.cst (.int 1)) (.cons (.cst (.int 2)) (.cons (.cst (.int 4)) (.cons (.cst (.int 8)) .nil))))) (.var 2)) .nil)) (suite (LB 5)) := rfl
    rw [hf, x_for]
    simp [-Int.natCast_pow, n4, pow_at4 m (by omega), r2]
    generalize hF : forL _ _ _ _ _ = F
    obtain ⟨ρ', h', ⟨x7, x8, x9, rfl, rfl⟩, rfl⟩ := for_invH hF (fun p ρ h => ∃ x7 x8 x9, ρ = [some (.ref 1), some (.pv (.int 3)), some (.pv (.int (m : Nat))), some (.pv (qsV qs)), some (.pv (qsV pr)), some (.pv (dV fR RS)), some (.ref (t.length + 1 + 1)), x7, x8, x9, none, none] ∧
      h = rlH (t ++ [.lst ((p.map fun k => sortB ltA (planN m pr RS k)).map fun l => .pv (lotV l))]) s4) ⟨none, none, none, rfl, rfl⟩ (by
        rintro p k r _ _ e ⟨x7, x8, x9, rfl, rfl⟩
        have hpl2 : p.length ≤ 8 := by
          have := congrArg List.length e
          simp at this
          omega
        have e' := lbody (n + 5) (rlH t s).length m k h1 hm qs pr hpl RS ndR hRl ((p.map fun k => sortB ltA (planN m pr RS k)).map fun l => .pv (lotV l)) (by simp; omega) x8 x9 s4 t
        refine ⟨_, _, _, rfl, ⟨some (.pv (.int (k : Nat))), some (.pv (rowV (place m k))), some (.pv (.lst ((planN m pr RS k).map ansV))), rfl, rfl⟩, .inl ?_⟩
        simp only [List.set_cons_succ, List.set_cons_zero]
        rw [e']
        simp)
    exact ⟨x7, x8, x9, rfl⟩
  obtain ⟨x7, x8, x9, e5⟩ := e5
  rw [ha, if_pos (by rfl), xs_cons, e0, SO.next_nxt, xs_cons, e1, SO.next_nxt, xs_cons, e2, SO.next_nxt, xs_cons, e3, SO.next_nxt, xs_cons, e4, SO.next_nxt, xs_cons, e5, SO.next_nxt]
  have ef : frzO (rlH t s).length 6 [some (.ref 1), some (.pv (.int 3)), some (.pv (.int (m : Nat))), some (.pv (qsV qs)), some (.pv (qsV pr)), some (.pv (dV fR RS)), some (.ref (t.length + 1 + 1)), x7, x8, x9, none, none] (rlH (t ++ [.lst (A.map fun l => .pv (lotV l))]) s4) =
      some ([some (.ref 1), some (.pv (.int 3)), some (.pv (.int (m : Nat))), some (.pv (qsV qs)), some (.pv (qsV pr)), some (.pv (dV fR RS)), some (.pv (.lst (A.map lotV))), x7, x8, x9, none, none], rlH (t ++ [.dead]) s4) := by
    simp [frzO, getV, rlH, show A.length ≤ 16777216 by omega]
  have es := fun h => sorted_lots (xs := A) (fun l ml z => by subst z; exact h0 (List.length_eq_zero_iff.mp (rowsP_mem_len (hAm _ ml)).symm)) (by omega) h
  simp only [LB, nth, f__law_linked]
  rw [xs_cons, x_frz, ef]
  simp only [optO_some, SO.ofE_ok]
  generalize sortB ltL A = A2 at *
  simp [e6, es]
  simp [rlH]
end D.k64

set_option Elab.async false
set_option linter.all false
set_option maxRecDepth 100000
set_option maxHeartbeats 1000000
namespace D.k64
open D D.Pl PySem
theorem rowsP_nodup (qs : List Nm) : (rowsP qs).Nodup := (rowsP_rise qs).imp fun {a b} h e => by rw [e, ltL_ir] at h; cases h
theorem good_lenD {qs : List Nm} {bars : List Lot} (D : AgD qs bars) : (goodRows qs bars).length ≤ 16 := by
  refine Nat.le_trans (List.length_filter_le _ _) ?_
  rw [rowsP_len]
  exact Nat.le_trans (Nat.pow_le_pow_right (by decide) D.hi) (by decide)
theorem good_sub {qs : List Nm} {bars : List Lot} {r : Lot} (m : r ∈ goodRows qs bars) : r ∈ rowsP qs := (List.mem_filter.mp m).1
theorem good_more {qs : List Nm} {bars : List Lot} (D : AgD qs bars) (hl : bars.length ≤ 400) {k : Nat} (hk : 1 ≤ k) : AgD qs (bars ++ (goodRows qs bars).drop k) := by
  have hN := good_lenD D
  have hm : ∀ r ∈ (goodRows qs bars).drop k, r ∈ goodRows qs bars := fun r m => List.mem_of_mem_drop m
  refine ⟨D.asc, D.ne, D.lo, D.hi, by simp; omega, fun b mb => ?_, fun z => ?_⟩
  · rcases List.mem_append.mp mb with mb | mb
    · exact D.bm b mb
    · have := good_sub (hm b mb)
      exact ⟨rows_lot D.asc this, by rw [rowsP_mem_len this]; exact D.hi⟩
  · have nd : (goodRows qs bars).Nodup := List.Nodup.sublist List.filter_sublist (rowsP_nodup qs)
    obtain ⟨g, G, e⟩ := List.exists_cons_of_ne_nil D.good
    have mg : g ∈ goodRows qs bars := by rw [e]; simp
    have hg := of_decide_eq_true (List.mem_filter.mp mg).2
    have : g ∈ goodRows qs (bars ++ (goodRows qs bars).drop k) := by
      refine List.mem_filter.mpr ⟨good_sub mg, decide_eq_true fun b mb sub => ?_⟩
      rcases List.mem_append.mp mb with mb | mb
      · exact hg b mb sub
      · have e2 : b = g := sub_eq (·.1) ((rows_names (good_sub (hm b mb))).trans (rows_names (good_sub mg)).symm) (by rw [rows_names (good_sub (hm b mb))]; exact D.asc.nodup) sub
        subst e2
        obtain ⟨k', rfl⟩ : ∃ k', k = k' + 1 := ⟨k - 1, by omega⟩
        rw [e, List.drop_succ_cons] at mb
        rw [e, List.nodup_cons] at nd
        exact nd.1 (List.mem_of_mem_drop mb)
    rw [z] at this
    cases this
theorem drawn_eq (n most : Nat) (h1 : 1 ≤ most) (h2 : most ≤ 16) (s : Rl) (t : AH) :
    ∃ (qs : List Nm) (bars : List Lot) (s' : Rl), callN pg (n + 7) "_law_drawn" [.ref 1, .pv (.int (most : Nat))] (rlH t s) = .ok (.pv (agV qs bars)) (rlH t s') ∧ AgD qs bars := by
  rw [call_eq g__law_drawn]
  have e0 := next_eq (n + 5) 3 (by decide) (by decide) s t
  have b0 := next_bd (lim := 3) (by decide) s
  generalize next 3 s = W at *
  by_cases c : W.1 = 0
  · obtain ⟨qs, pr, bars, s1, e1, D, hb4⟩ := linked_eq n W.2 t
    have hN : (goodRows qs bars).length ≤ 16 := by
      refine Nat.le_trans (List.length_filter_le _ _) ?_
      rw [rowsP_len]
      exact Nat.le_trans (Nat.pow_le_pow_right (by decide) D.hi) (by decide)
    have e2 := fun h => plans_eq (n + 3) qs bars D.lo (by have := D.hi; omega) (by have := D.bl; omega) (fun b mb => by have := (D.bm b mb).2; omega) h
    by_cases c2 : (goodRows qs bars).length ≤ most
    · refine ⟨qs, bars, s1, ?_, D⟩
      have c3 : ((goodRows qs bars).length : Int) ≤ most := by omega
      simp [f__law_drawn, runFn, e0, c, e1, e2, c3]
    · refine ⟨qs, bars ++ (goodRows qs bars).drop most, s1, ?_, good_more D hb4 h1⟩
      have c3 : ¬ ((goodRows qs bars).length : Int) ≤ most := by omega
      have e3 := fun h => slc_fromL h ((goodRows qs bars).map lotV) most (by simp; omega)
      rw [← List.map_drop] at e3
      have hl : ((goodRows qs bars).drop most).length ≤ 16 := by simp; omega
      have e4 := fun h => tuple_lst h false (((goodRows qs bars).drop most).map lotV) (by rw [List.length_map]; omega)
      have e5 := fun h => bop_addT false h (bars.map lotV) (((goodRows qs bars).drop most).map lotV) (by have := D.bl; rw [List.length_map, List.length_map, line_eq]; omega)
      rw [← List.map_append] at e5
      simp [-List.map_append, -List.map_drop, f__law_drawn, runFn, e0, c, e1, e2, c3, e3, e4, e5]
  · have e1 := next_eq (n + 5) 4 (by decide) (by decide) W.2 t
    have b1 := next_bd (lim := 4) (by decide) W.2
    have c2 : ((1 + (next 4 W.2).1.toNat : Nat) : Int) = 1 + (next 4 W.2).1 := by omega
    have e2 := names_eq (n + 3) (1 + (next 4 W.2).1.toNat) (by omega) (next 4 W.2).2 t
    rw [c2] at e2
    have Q := names_qs (m := 1) (k := 1 + (next 4 W.2).1.toNat) (by omega) (by omega) (next 4 W.2).2
    generalize namesOf (1 + (next 4 W.2).1.toNat) (next 4 W.2).2 = Z at *
    obtain ⟨qs, s2⟩ := Z
    simp only at e2 Q
    have h0 : qs ≠ [] := by rintro rfl; have := Q.lo; simp at this
    have hi := Q.hi
    have hN : (rowsP qs).length ≤ 16 := by
      rw [rowsP_len]
      exact Nat.le_trans (Nat.pow_le_pow_right (by decide) hi) (by decide)
    have hN1 : 1 ≤ (rowsP qs).length := by rw [rowsP_len]; exact Nat.one_le_two_pow
    have e3 := fun h => all_plans_eq (n + 4) (qsV qs) qs (fun h => by simp) h0 (by omega) h
    have e4 := mixed_eq (n + 4) lotV (rowsP qs) (.lst ((rowsP qs).map lotV)) (list_lstT lotV _ (by omega)) (fun h => by simp) (by omega) s2 t
    have hp := shuf_perm (rowsP qs) s2
    have hpl := hp.length_eq
    have hpm : ∀ r ∈ (shuf (rowsP qs) s2).1, r ∈ rowsP qs := fun r mr => hp.mem_iff.mp mr
    generalize shuf (rowsP qs) s2 = S3 at *
    have e5 := next_eq (n + 5) most (by omega) (by omega) S3.2 t
    have b5 := next_bd (lim := (most : Int)) (by omega) S3.2
    generalize next most S3.2 = S4 at *
    have c6 : ((1 + S4.1.toNat : Nat) : Int) = 1 + S4.1 := by omega
    have e6 := fun h => slc_toL h (S3.1.map lotV) (1 + S4.1.toNat) (by simp; omega)
    rw [← List.map_take, c6] at e6
    have hA : ∀ r ∈ S3.1.take (1 + S4.1.toNat), r ∈ rowsP qs := fun r mr => hpm r (List.mem_of_mem_take mr)
    have hAl : (S3.1.take (1 + S4.1.toNat)).length ≤ 16 := by rw [List.length_take]; omega
    have hA0 : S3.1.take (1 + S4.1.toNat) ≠ [] := fun z => by
      have : (S3.1.take (1 + S4.1.toNat)).length = 0 := by rw [z]; rfl
      rw [List.length_take] at this
      omega
    generalize S3.1.take (1 + S4.1.toNat) = A at *
    have es := fun h => sorted_lots (xs := A) (fun l ml z => by subst z; exact h0 (List.length_eq_zero_iff.mp (rowsP_mem_len (hA _ ml)).symm)) (by omega) h
    have sp := sortB_perm (lt := ltL) A
    have hA0' : sortB ltL A ≠ [] := fun z => by
      have := sp.length_eq
      rw [z] at this
      exact hA0 (List.length_eq_zero_iff.mp this.symm)
    obtain ⟨bars, s5, e7, hbl, hbm⟩ := with_bars_eq (n + 2) qs (sortB ltL A) Q.asc h0 (by omega) (by rw [sp.length_eq]; omega) hA0' S4.2 t
    refine ⟨qs, bars, s5, ?_, bars_ok Q h0 (fun a ma => hA a (sp.mem_iff.mp ma)) hA0' hbl hbm⟩
    simp [-List.map_take, f__law_drawn, runFn, e0, c, e1, e2, e3, e4, e5, e6, es, e7]
end D.k64

set_option Elab.async false
set_option linter.all false
set_option maxRecDepth 100000
set_option maxHeartbeats 1000000
namespace D.k64
open D D.Pl PySem
mutual
def sm : Nat → PV → Bool
  | 0, _ => false
  | _ + 1, .bl _ => true
  | _ + 1, .int _ => true
  | _ + 1, .str _ => true
  | d + 1, .tup xs => sms d xs && decide (xs.length ≤ 1000000)
  | _ + 1, _ => false
def sms : Nat → List PV → Bool
  | _, [] => true
  | d, x :: xs => sm d x && sms d xs
end
theorem sms_mem {d : Nat} : ∀ {xs : List PV}, sms d xs = true → ∀ x ∈ xs, sm d x = true
  | [], _, x, m => by simp at m
  | y :: ys, h, x, m => by
    simp only [sms, Bool.and_eq_true] at h
    rcases List.mem_cons.mp m with rfl | m
    · exact h.1
    · exact sms_mem h.2 x m
theorem alike_eq : ∀ (d : Nat) (v : PV), sm d v = true → ∀ (n : Nat) (h : AH), callN pg (n + d) "_law_alike" [.pv v, .pv v] h = .ok (.pv (.bl true)) h
  | 0, v, hv, _, _ => by simp [sm] at hv
  | d + 1, v, hv, n, h => by
    rw [← Nat.add_assoc, call_eq g__law_alike]
    cases v with
    | non => simp [sm] at hv
    | bl b => simp [f__law_alike, runFn, isiO, isiR]
    | int i => simp [f__law_alike, runFn, isiO, isiR]
    | str i => simp [f__law_alike, runFn, isiO, isiR]
    | lst i => simp [sm] at hv
    | obj i => simp [sm] at hv
    | dct i => simp [sm] at hv
    | tup xs =>
      simp [sm] at hv
      simp [f__law_alike, runFn, isiO, isiR, rng_nat hv.2]
      rw [seqO_at (fun _ => false) (fun k : Nat => RV.pv (.int (k : Nat))) _ (fun k mk => ?_)]
      · have hz : (List.range xs.length).filter (fun _ => false) = [] := by rw [List.filter_eq_nil_iff]; simp
        simp [hz]
      · have h2 : k < xs.length := by simpa using mk
        have e1 := idx_at (xs := xs) (i := k) (v := xs[k]) (by simp [h2]) h
        have e2 := alike_eq d xs[k] (sms_mem hv.1 _ (List.getElem_mem h2)) n h
        simp [e1, e2]
theorem reel_eq (n : Nat) (ns : List Int) (hn : ns.length ≤ 63) : ∃ s : Rl, callN pg (n + 1) "_law_reel" [.pv (.lst (ns.map .int))] [] = .ok (.ref 1) (rlH [] s) := by
  rw [call_eq g__law_reel]
  have e18 : bop false .pow (.pv (.int 10)) (.pv (.int 18)) = fun h => .ok (.pv (.int 1000000000000000000)) h := rfl
  have s37 : small 37 = true := by decide
  simp [-exists_and_right, -exists_and_left, f__law_reel, runFn]
  generalize hF : forL _ _ _ _ _ = F
  obtain ⟨ρ', h', ⟨z, x, g, rfl, rfl, _⟩, rfl⟩ := for_invH hF (fun p ρ h => ∃ (z : Int) (x : Option RV) (g : List Int), ρ = [some (.pv (.lst (ns.map PV.int))), some (.ref 0), some (.pv (.int z)), x] ∧ h = [.lst (g.map fun i => .pv (.int i))] ∧ g.length ≤ p.length) ⟨4711, none, [], by simp, rfl, Nat.le_refl _⟩ (by
    rintro p y r ρ h e ⟨z, x, g, rfl, rfl, hg⟩
    have hp : p.length < 63 := by
      have := congrArg List.length e
      simp at this
      omega
    have ha : ∀ w, bmR 0 "list.append" (.ref 0) [.pv w] [.lst (g.map fun i => .pv (.int i))] = .ok (.pv .non) [.lst ((g.map fun i => .pv (.int i)) ++ [.pv w])] := fun w => app_end [] 0 (g.map fun i => .pv (.int i)) w (by simp; omega)
    have hk : bmK "append" (.ref 0) [.lst (g.map fun i => RV.pv (.int i))] = some "list.append" := bmT_append [] _
    by_cases c : absI y ≥ 1000000000000000000
    · refine ⟨_, _, [.lst ((g ++ [absI y]).map fun i => .pv (.int i))], rfl, ⟨(z * 37 + y % 1000003 + 5) % 2147483647, some (.pv (.int y)), g ++ [absI y], rfl, rfl, by simp; omega⟩, .inl ?_⟩
      simp [s37, e18, c, ha, hk]
    · refine ⟨_, _, [.lst (g.map fun i => .pv (.int i))], rfl, ⟨(z * 37 + y % 1000003 + 5) % 2147483647, some (.pv (.int y)), g, rfl, rfl, by simp; omega⟩, .inl ?_⟩
      simp [s37, e18, c])
  refine ⟨⟨g, 0, 0, z⟩, ?_⟩
  simp [rlH, Rl.gv, Rl.rv, leave]
end D.k64

set_option Elab.async false
set_option linter.all false
set_option maxRecDepth 100000
set_option maxHeartbeats 1000000
namespace D.k64
open D D.Pl PySem
theorem sumG {α : Type} (f : α → Int) (xs : List α) (hl : xs.length ≤ 16777216) (m : Bool) (h : AH) : bi1R m "sum" (xs.map fun a => RV.pv (.int (f a))) h = .ok (.pv (.int (xs.map f).sum)) h := by
  simp only [bi1R]
  rw [ints_mapf]
  simp [hl]
def dist (n a b : Nat) : Nat := ((List.range n).filter fun i => decide (bitAt n a i ≠ bitAt n b i)).length
theorem sum_ones {α : Type} (xs : List α) : (xs.map fun _ => (1 : Int)).sum = xs.length := by
  induction xs with
  | nil => rfl
  | cons x xs ih => simp [ih]; omega
theorem plan_mem {qs : List Nm} (nd : qs.Nodup) (b i : Nat) (hi : i < qs.length) (v : Int) : (qs.getD i [], v) ∈ planAt qs b ↔ v = bitAt qs.length b i := by
  unfold planAt
  rw [List.mem_map]
  constructor
  · rintro ⟨j, mj, e⟩
    have hj : j < qs.length := by simpa using mj
    simp only [Prod.mk.injEq] at e
    have : j = i := by
      have h1 : qs.getD j [] = qs[j] := by simp [hj]
      have h2 : qs.getD i [] = qs[i] := by simp [hi]
      rw [h1, h2] at e
      rw [← List.Nodup.idxOf_getElem nd _ hj, ← List.Nodup.idxOf_getElem nd _ hi, e.1]
    subst this
    exact e.2.symm
  · rintro rfl
    exact ⟨i, by simpa using hi, rfl⟩
theorem apart_eq (n : Nat) (qs : List Nm) (nd : qs.Nodup) (hn : qs.length ≤ 100) (a b : Nat) (h : AH) :
    callN pg (n + 1) "_law_apart" [.pv (lotV (planAt qs a)), .pv (lotV (planAt qs b))] h = .ok (.pv (.int (dist qs.length a b : Nat))) h := by
  rw [call_eq g__law_apart]
  have e : ((planAt qs a).filter fun x => !decide ((x.1, x.2) ∈ planAt qs b)).length = dist qs.length a b := by
    have : planAt qs a = (List.range qs.length).map fun i => (qs.getD i [], (bitAt qs.length a i : Int)) := rfl
    rw [this, List.filter_map, List.length_map]
    unfold dist
    congr 1
    apply List.filter_congr
    intro i mi
    have hi : i < qs.length := by simpa using mi
    have := plan_mem nd b i hi (bitAt qs.length a i : Int)
    simp only [Function.comp, this]
    rw [Bool.eq_iff_iff]
    simp
  have hl : ((planAt qs a).filter fun x => !decide ((x.1, x.2) ∈ planAt qs b)).length ≤ 16777216 := Nat.le_trans (List.length_filter_le _ _) (by rw [planAt_len]; omega)
  have e2 := newL_map h ansV _ hl
  simp [f__law_apart, runFn, Function.comp_def]
  simp only [ansV] at e2
  rw [e2]
  simp [e]
def far (n : Nat) (B : List Nat) (k : Nat) : Int := (B.map fun b => ((dist n k b : Nat) : Int)).sum
abbrev bsV (qs : List Nm) (B : List Nat) : PV := .tup (B.map fun b => lotV (planAt qs b))
theorem law_far_eq (n : Nat) (qs : List Nm) (nd : qs.Nodup) (hn : qs.length ≤ 100) (a : Nat) (B : List Nat) (hB : B.length ≤ 1000) (h : AH) :
    callN pg (n + 2) "_law_far" [.pv (lotV (planAt qs a)), .pv (bsV qs B)] h = .ok (.pv (.int (far qs.length B a))) h := by
  rw [call_eq g__law_far]
  simp [f__law_far, runFn, Function.comp_def]
  rw [seqO_all (fun b => RV.pv (.int ((dist qs.length a b : Nat) : Int))) _ (fun b mb => by
    have := apart_eq n qs nd hn a b h
    simp only [lotV] at this
    rw [this]; simp)]
  rw [Out.nox_ok, Out.bind_ok, newL_map _ (fun b => PV.int ((dist qs.length a b : Nat) : Int)) _ (by omega), Out.bind_ok, sum_lst _ _ (by omega)]
  simp [far]
end D.k64

set_option Elab.async false
set_option linter.all false
set_option maxRecDepth 100000
set_option maxHeartbeats 1000000
namespace D.k64
open D D.Pl PySem
theorem plan_of_eq (n : Nat) (qs : List Nm) (can : List Bool) (k : Nat) (hl : qs.length ≤ 100) (h : AH) :
    callN pg (n + 3) "Plans.plan_of" [.pv (plansV qs can), .pv (.int (k : Nat))] h = .ok (.pv (lotV (planAt qs k))) h := by
  rw [call_eq g_Plans__plan_of]
  have e1 := codes_at_eq (n + 1) qs can k hl h
  have e2 := lot_of_eq n qs can (codesAt qs.length k) (fun c m => (mem_codesAt.mp m).1) (by simp [codesAt]; omega) h
  have e3 := planAt_codes qs k
  simp [f_Plans__plan_of, runFn, lookF, plansF, e1, e2, e3, oneOf, Function.comp_def]
theorem number_of_eq (n : Nat) (qs : List Nm) (can : List Bool) (k : Nat) (hk : k < 2 ^ qs.length) (h : AH) :
    callN pg (n + 1) "Plans.number_of" [.pv (plansV qs can), .pv (lotV (planAt qs k))] h = .ok (.pv (.int (k : Nat))) h := by
  rw [call_eq g_Plans__number_of]
  have hp : planAt qs k = (List.range qs.length).map fun i => (qs.getD i [], (bitAt qs.length k i : Int)) := rfl
  simp [f_Plans__number_of, runFn, hp]
  generalize hF : forL _ _ _ _ _ = F
  obtain ⟨ρ', ⟨x, rfl⟩, rfl⟩ := for_invP hF (fun p ρ => ∃ x, ρ = [some (.pv (plansV qs can)), some (.pv (lotV (planAt qs k))), some (.pv (.int ((k >>> (qs.length - p.length) : Nat)))), x]) ⟨none, by
      have : k >>> qs.length = 0 := by rw [Nat.shiftRight_eq_div_pow]; exact Nat.div_eq_of_lt hk
      simp [this, hp, Function.comp_def]⟩ (by
    rintro p i r ρ e ⟨x, rfl⟩
    obtain ⟨h1, h2⟩ := range_pre e
    refine ⟨_, _, rfl, ⟨some (.pv (ansV (qs.getD i [], (bitAt qs.length k i : Int)))), rfl⟩, .inl ?_⟩
    have s2 : small 2 = true := by decide
    have e1 : 2 * ((k >>> (qs.length - p.length) : Nat) : Int) + (bitAt qs.length k i : Int) = ((k >>> (qs.length - (p.length + 1)) : Nat) : Int) := by
      have : qs.length - p.length = (qs.length - (p.length + 1)) + 1 := by omega
      have hb : bitAt qs.length k i = k >>> (qs.length - (p.length + 1)) % 2 := by
        unfold bitAt
        congr 2
        omega
      rw [hb, this, Nat.shiftRight_succ]
      omega
    simp [-Int.natCast_shiftRight, s2, e1])
  simp
end D.k64

set_option Elab.async false
set_option linter.all false
set_option maxRecDepth 100000
set_option maxHeartbeats 1000000
namespace D.k64
open D D.Pl PySem
def tbI (k j : Nat) : Int := ((k >>> j % 2 : Nat) : Int)
theorem tb_eq (k j : Nat) (h : AH) : ((bop false .shr (.pv (.int (k : Nat))) (.pv (.int (j : Nat))) h).bind fun x h1 => bop false .band x (.pv (.int 1)) h1) = .ok (.pv (.int (tbI k j))) h := by
  rw [shr_nat _ _ _ (by omega), Out.bind_ok, band_1 _ _ (Int.natCast_nonneg _)]
  simp [tbI]
theorem tb_01 (k j : Nat) : tbI k j = 0 ∨ tbI k j = 1 := by unfold tbI; omega
def yesN (B : List Nat) (j : Nat) : Int := (B.map fun b => tbI b j).sum
def cost (B : List Nat) (k j : Nat) : Int := if tbI k j = 1 then B.length - yesN B j else yesN B j
theorem cost_sum (B : List Nat) (k j : Nat) : cost B k j = (B.map fun b => if tbI k j = tbI b j then (0 : Int) else 1).sum := by
  unfold cost yesN
  induction B with
  | nil => simp
  | cons b B ih =>
    simp only [List.map_cons, List.sum_cons, List.length_cons]
    rcases tb_01 k j with e | e <;> rw [e] at ih ⊢ <;> rcases tb_01 b j with e2 | e2 <;> rw [e2] <;> simp at ih ⊢ <;> omega
theorem sum_add {α : Type} (f g : α → Int) : ∀ xs : List α, (xs.map fun x => f x + g x).sum = (xs.map f).sum + (xs.map g).sum
  | [] => rfl
  | x :: xs => by simp [sum_add f g xs]; omega
theorem sum_zero {α : Type} : ∀ xs : List α, (xs.map fun _ => (0 : Int)).sum = 0
  | [] => rfl
  | x :: xs => by simp [sum_zero xs]
theorem sum_swap {α β : Type} (f : α → β → Int) : ∀ (xs : List α) (ys : List β), (xs.map fun x => (ys.map fun y => f x y).sum).sum = (ys.map fun y => (xs.map fun x => f x y).sum).sum
  | [], ys => by simp [sum_zero]
  | x :: xs, ys => by
    simp only [List.map_cons, List.sum_cons, sum_swap f xs ys, sum_add]
theorem sum_filt' {α : Type} (p : α → Bool) : ∀ xs : List α, (xs.map fun x => if p x then (1 : Int) else 0).sum = (xs.filter p).length
  | [] => rfl
  | x :: xs => by
    simp only [List.map_cons, List.sum_cons, sum_filt' p xs, List.filter_cons]
    split <;> simp <;> omega
theorem perm_sum {xs ys : List Int} (p : xs.Perm ys) : xs.sum = ys.sum := by
  induction p with
  | nil => rfl
  | cons x _ ih => simp [ih]
  | swap x y l => simp; omega
  | trans _ _ a b => exact a.trans b
theorem rev_perm (n : Nat) : ((List.range n).map fun i => n - 1 - i).Perm (List.range n) := by
  refine (List.perm_ext_iff_of_nodup ?_ List.nodup_range).mpr fun a => ?_
  · have := (List.nodup_range (n := n))
    unfold List.Nodup at *
    rw [List.pairwise_map]
    refine List.Pairwise.imp_of_mem (fun {a b} ma mb h => ?_) this
    simp at ma mb
    omega
  · simp only [List.mem_map, List.mem_range]
    constructor
    · rintro ⟨i, hi, rfl⟩; omega
    · intro h; exact ⟨n - 1 - a, by omega, by omega⟩
theorem dist_sum (n a b : Nat) : ((List.range n).map fun j => if tbI a j = tbI b j then (0 : Int) else 1).sum = dist n a b := by
  have e := (rev_perm n).map fun j => if tbI a j = tbI b j then (0 : Int) else 1
  have e2 : ((List.range n).map fun j => if tbI a j = tbI b j then (0 : Int) else 1).sum = (((List.range n).map fun i => n - 1 - i).map fun j => if tbI a j = tbI b j then (0 : Int) else 1).sum := (perm_sum e).symm
  rw [e2, List.map_map]
  unfold dist
  rw [← sum_filt']
  congr 1
  apply List.map_congr_left
  intro i _
  simp only [Function.comp, tbI, bitAt, Int.ofNat_inj]
  by_cases c : a >>> (n - 1 - i) % 2 = b >>> (n - 1 - i) % 2 <;> simp [c]
theorem costs_far (n : Nat) (B : List Nat) (k : Nat) : ((List.range n).map fun j => cost B k j).sum = far n B k := by
  simp only [cost_sum]
  rw [sum_swap]
  unfold far
  congr 1
  apply List.map_congr_left
  intro b _
  exact dist_sum n k b
theorem mul_lst0 (L : Nat) (hL : L ≤ 16777216) (h : AH) : bop false .mul (.pv (.lst [.int 0])) (.pv (.int (L : Nat))) h = .ok (.pv (.lst (List.replicate L (.int 0)))) h := by
  have e : rep L [RV.pv (.int 0)] = (List.replicate L (PV.int 0)).map .pv := by
    unfold rep
    clear hL
    induction L with
    | zero => rfl
    | succ k ih => simp [List.replicate_succ, ih]
  have f : fitsI (L : Int) = true := by
    unfold fitsI
    rw [decide_eq_true, decide_eq_true]
    · rfl
    · exact Int.lt_of_le_of_lt (b := 16777216) (by omega) (by decide +kernel)
    · exact Int.le_trans (b := 0) (by decide +kernel) (by omega)
  have e2 := newL_f h ((List.replicate L (PV.int 0)).map .pv) _ (allPV_map _) (by simpa using hL)
  simp only [bop, bopL, viewL, List.map_cons, List.map_nil, f, e, Int.toNat_natCast, List.length_cons, List.length_nil, Nat.zero_add, Nat.one_mul, hL, decide_true, Bool.and_self, if_true, e2]
theorem pick2 (y z : Int) (k j : Nat) (h : AH) : idxR (.pv (.tup [.int y, .int z])) (.pv (.int (tbI k j))) h = .ok (.pv (.int (if tbI k j = 1 then z else y))) h := by
  rcases tb_01 k j with e | e <;> rw [e] <;> simp
theorem far_sums_eq (n : Nat) (qs : List Nm) (can : List Bool) (B : List Nat) (hn : qs.length ≤ 100) (hc : (allowedOf can).length ≤ 10000) (hB : B.length ≤ 1000) (h : AH) :
    callN pg (n + 1) "far_sums" [.pv (plansV qs can), .pv (.lst (B.map fun b => .int (b : Nat)))] h = .ok (.pv (.lst ((allowedOf can).map fun k => .int (far qs.length B k)))) h := by
  rw [call_eq g_far_sums]
  have r1 := fun h => rng_nat (n := qs.length) (by omega) h
  generalize hA : allowedOf can = A at *
  have m0 := mul_lst0 A.length (by omega)
  simp [f_far_sums, runFn, hA, m0, r1]
  rw [for_pur (fun p => [some (.pv (plansV qs can)), some (.pv (.lst (B.map fun b => .int (b : Nat)))), some (.pv (.lst (A.map fun k => .int ((p.map fun j => cost B k j).sum)))), p.getLast?.map fun j : Nat => .pv (.int (j : Nat)), p.getLast?.map fun j => .pv (.int (yesN B j)), p.getLast?.map fun j => .pv (.tup [.int (yesN B j), .int (B.length - yesN B j)]), none, none]) ?_ ?_]
  · simp [costs_far]
  · simp [List.map_const']
  · intro p j r e
    refine ⟨_, rfl, .inl ?_⟩
    have hB2 : B.length ≤ 16777216 := by omega
    have hA2 : A.length ≤ 16777216 := by omega
    have t1 : ∀ (k : Nat) h, ((bop false .shr (.pv (.int (k : Nat))) (.pv (.int (j : Nat))) h).bind fun x h1 => bop false .band x (.pv (.int 1)) h1) = .ok (.pv (.int (tbI k j))) h := fun k h => tb_eq k j h
    have s1 : bi1R false "sum" (B.map fun b => RV.pv (.int (tbI b j))) h = .ok (.pv (.int (yesN B j))) h := sumG (fun b => tbI b j) B hB2 false h
    have ez : (A.map fun k => PV.int ((p.map fun j => cost B k j).sum)).zip (A.map fun k => PV.int (k : Nat)) = A.map fun k => (PV.int ((p.map fun j => cost B k j).sum), PV.int (k : Nat)) := by
      apply List.ext_getElem
      · simp
      · intro i h1 h2
        simp
    simp [hA, t1, s1, ez, pick2]
    rw [newL_map _ (fun k => PV.int ((p.map fun j => cost B k j).sum + if tbI k j = 1 then B.length - yesN B j else yesN B j)) _ hA2]
    simp [cost]
end D.k64

set_option Elab.async false
set_option linter.all false
set_option maxRecDepth 100000
set_option maxHeartbeats 1000000
namespace D.k64
open D D.Pl PySem
def minL : List Int → Int
  | [] => 0
  | i :: is => is.foldl (fun a b => if b < a then b else a) i
theorem min_lstF {α : Type} (f : α → Int) {xs : List α} (h0 : xs ≠ []) (h : AH) : bi1V false "min" (.pv (.lst (xs.map fun a => .int (f a)))) h = .ok (.pv (.int (minL (xs.map f)))) h := by
  obtain ⟨x, r, rfl⟩ := List.exists_cons_of_ne_nil h0
  simp only [bi1V, viewL, bi1R]
  rw [if_neg (by decide), List.map_map, show (RV.pv ∘ fun a => PV.int (f a)) = fun a => RV.pv (.int (f a)) from rfl, ints_mapf]
  rfl
theorem AgD.ok {qs : List Nm} {bars : List Lot} (D : AgD qs bars) : AgOk qs bars := ⟨D.asc, D.ne, by have := D.hi; omega, fun b m => ⟨(D.bm b m).1, by have := (D.bm b m).2; omega⟩⟩
def nearL (n : Nat) (A B : List Nat) : List Nat := A.filter fun k => decide (far n B k = minL (A.map fun k => far n B k))
theorem good_lt {qs : List Nm} {bars : List Lot} {k : Nat} (m : k ∈ goodOf qs bars) : k < 2 ^ qs.length := by
  have := (List.mem_filter.mp m).1
  simpa using this
theorem nearest_plans_eq (n : Nat) (qs : List Nm) (bars : List Lot) (D : AgD qs bars) (B : List Nat) (hB : B.length ≤ 1000) (hBm : ∀ b ∈ B, b < 2 ^ qs.length) (h0 : goodOf qs bars ≠ []) (h : AH) :
    callN pg (n + 6) "nearest_plans" [.pv (agV qs bars), .pv (bsV qs B)] h = .ok (.pv (bsV qs (nearL qs.length (goodOf qs bars) B))) h := by
  rw [call_eq g_nearest_plans]
  have hi := D.hi
  have e1 := plans_in_eq n qs bars D.ok h
  have hg := good_len qs bars (by omega)
  have e2 := far_sums_eq (n + 4) qs (canOf qs bars) B (by omega) (by rw [allowed_can]; omega) hB h
  rw [allowed_can] at e2
  have e3 : seqO (fun (b : Nat) h => (callN pg (n + 5) "Plans.number_of" [.pv (plansV qs (canOf qs bars)), .pv (lotV (planAt qs b))] h).bind fun v h2 => Out.ok (some v) h2) B h = .ok (B.map fun b => RV.pv (.int (b : Nat))) h :=
    seqO_all _ _ fun b mb => by rw [number_of_eq (n + 4) qs _ b (hBm b mb)]; rfl
  have e4 := min_lstF (fun k => far qs.length B k) h0 h
  generalize hA : goodOf qs bars = A at *
  have hA' := allowed_can qs bars
  rw [hA] at hA'
  have ez : (A.map fun k => PV.int (k : Nat)).zip (A.map fun k => PV.int (far qs.length B k)) = A.map fun k => (PV.int (k : Nat), PV.int (far qs.length B k)) := by
    apply List.ext_getElem
    · simp
    · intro i h1 h2
      simp
  have hB2 : B.length ≤ 16777216 := by omega
  simp only [lotV] at e3
  simp [f_nearest_plans, runFn, e1, lookF, Function.comp_def, plansF, e3, e2, e4, hA', ez, hB2]
  rw [seqO_at (fun k => decide (far qs.length B k = minL (A.map fun k => far qs.length B k))) (fun k => RV.pv (lotV (planAt qs k))) _ (fun k mk => ?_)]
  · have hf : (nearL qs.length A B).length ≤ 16777216 := Nat.le_trans (List.length_filter_le _ _) (by omega)
    have e5 := bi1R_tupM (fun k => lotV (planAt qs k)) (nearL qs.length A B) hf false h
    unfold nearL at e5
    rw [Out.nox_ok, Out.bind_ok, e5]
    simp [nearL]
  · have := plan_of_eq (n + 2) qs (canOf qs bars) k (by omega) h
    by_cases c : far qs.length B k = minL (A.map fun k => far qs.length B k)
    · simp [c, this]
    · simp [c]
theorem law_nearest_eq (n : Nat) (qs : List Nm) (nd : qs.Nodup) (hn : qs.length ≤ 100) (A B : List Nat) (hA : A.length ≤ 10000) (hA0 : A ≠ []) (hB : B.length ≤ 1000) (h : AH) :
    callN pg (n + 3) "_law_nearest" [.pv (.lst (A.map fun k => lotV (planAt qs k))), .pv (bsV qs B)] h = .ok (.pv (.lst ((nearL qs.length A B).map fun k => lotV (planAt qs k)))) h := by
  rw [call_eq g__law_nearest]
  have e1 : ∀ (k : Nat) h, callN pg (n + 2) "_law_far" [.pv (lotV (planAt qs k)), .pv (bsV qs B)] h = .ok (.pv (.int (far qs.length B k))) h := fun k h => law_far_eq n qs nd hn k B hB h
  have e4 := min_lstF (fun k => far qs.length B k) hA0 h
  have hA2 : A.length ≤ 16777216 := by omega
  have hf : (A.filter fun k => decide (far qs.length B k = minL (A.map fun k => far qs.length B k))).length ≤ 16777216 := Nat.le_trans (List.length_filter_le _ _) hA2
  simp only [lotV, bsV] at e1
  simp [f__law_nearest, runFn, Function.comp_def, e1, hA2, e4]
  simp [nearL, hf]
end D.k64

set_option Elab.async false
set_option linter.all false
set_option maxRecDepth 100000
set_option maxHeartbeats 1000000
namespace D.k64
open D D.Pl PySem
def yesP (n : Nat) (B : List Nat) (i : Nat) : Nat := (B.filter fun b => decide (bitAt n b i = 1)).length
/-- the majority's plan -/
def majL (qs : List Nm) (B : List Nat) : Lot := (List.range qs.length).map fun i => (qs.getD i [], if 2 * yesP qs.length B i > B.length then 1 else 0)
theorem yes_sum (n : Nat) (B : List Nat) (i : Nat) : (B.map fun b => ((bitAt n b i : Nat) : Int)).sum = yesP n B i := by
  unfold yesP
  rw [← sum_filt']
  congr 1
  apply List.map_congr_left
  intro b _
  have := bitAt_le n b i
  rcases (by omega : bitAt n b i = 0 ∨ bitAt n b i = 1) with e | e <;> rw [e] <;> rfl
theorem lot_at {l : Lot} {i : Nat} (hi : i < l.length) (h : AH) : idxR (.pv (lotV l)) (.pv (.int (i : Nat))) h = .ok (.pv (ansV l[i])) h :=
  idx_at (by simp [hi]) h
theorem plan_at {qs : List Nm} {k i : Nat} (hi : i < qs.length) (h : AH) : idxR (.pv (lotV (planAt qs k))) (.pv (.int (i : Nat))) h = .ok (.pv (ansV (qs.getD i [], (bitAt qs.length k i : Int)))) h := by
  rw [lot_at (by rw [planAt_len]; exact hi)]
  simp [planAt]
theorem majority_eq (n : Nat) (qs : List Nm) (hn : qs.length ≤ 100) (B : List Nat) (hB : B.length ≤ 1000) (h : AH) :
    callN pg (n + 1) "majority_plan" [.pv (bsV qs B)] h = if B.length % 2 = 0 then .exc ⟨"Even", []⟩ h else .ok (.pv (lotV (majL qs B))) h := by
  rw [call_eq g_majority_plan]
  by_cases c : B.length % 2 = 0
  · have c2 : ((B.length : Int) % 2 = 0) := by omega
    simp [f_majority_plan, runFn, c, c2]
  · have c2 : ¬ ((B.length : Int) % 2 = 0) := by omega
    obtain ⟨b0, B', rfl⟩ : ∃ b B', B = b :: B' := by
      cases B with
      | nil => simp at c
      | cons b B => exact ⟨b, B, rfl⟩
    have hp : planAt qs b0 = (List.range qs.length).map fun i => (qs.getD i [], (bitAt qs.length b0 i : Int)) := rfl
    generalize hBB : b0 :: B' = B at *
    have e0 : ∀ h, idxR (.pv (bsV qs B)) (.pv (.int 0)) h = .ok (.pv (lotV (planAt qs b0))) h := fun h => by rw [← hBB]; simp only [bsV, List.map_cons, idx_0]
    have ez : (List.range qs.length).zipIdx = (List.range qs.length).map fun i => (i, i) := by
      apply List.ext_getElem
      · simp
      · intro i h1 h2
        simp
    simp only [bsV, lotV, hp, List.map_map, Function.comp_def] at e0
    simp [f_majority_plan, runFn, c2, e0, ez, Function.comp_def]
    rw [for_st (fun p => [some (.pv (bsV qs B)), some (.ref h.length), p.getLast?.map fun i : Nat => .pv (.int (i : Nat)), p.getLast?.map fun i => .pv (ansV (qs.getD i [], (bitAt qs.length b0 i : Int))), p.getLast?.map fun i => .pv (.int (yesP qs.length B i : Nat)), none])
      (fun p => h ++ [.lst (p.map fun i => .pv (ansV (qs.getD i [], if 2 * yesP qs.length B i > B.length then 1 else 0)))]) ?_ ?_ ?_]
    · have hm : (majL qs B).length ≤ 16777216 := by simp [majL]; omega
      have ef : frzO h.length 1 [some (.pv (bsV qs B)), some (.ref h.length), (List.range qs.length).getLast?.map fun i : Nat => .pv (.int (i : Nat)), (List.range qs.length).getLast?.map fun i => .pv (ansV (qs.getD i [], (bitAt qs.length b0 i : Int))), (List.range qs.length).getLast?.map fun i => .pv (.int (yesP qs.length B i : Nat)), none]
          (h ++ [.lst ((List.range qs.length).map fun i => .pv (ansV (qs.getD i [], if 2 * yesP qs.length B i > B.length then 1 else 0)))]) = some ([some (.pv (bsV qs B)), some (.pv (.lst ((majL qs B).map ansV))), (List.range qs.length).getLast?.map fun i : Nat => .pv (.int (i : Nat)), (List.range qs.length).getLast?.map fun i => .pv (ansV (qs.getD i [], (bitAt qs.length b0 i : Int))), (List.range qs.length).getLast?.map fun i => .pv (.int (yesP qs.length B i : Nat)), none], h ++ [.dead]) := by
        have e1 : allPV ((List.range qs.length).map fun i => .pv (ansV (qs.getD i [], if 2 * yesP qs.length B i > B.length then 1 else 0))) = some ((majL qs B).map ansV) := by
          rw [allPV_mapf]
          simp [majL, Function.comp_def]
        simp only [frzO, getV, List.getElem?_cons_succ, List.getElem?_cons_zero, Option.join_some, List.getElem?_append_right (Nat.le_refl _), Nat.sub_self, e1]
        simp
        simpa using hm
      rw [SO.next_nxt, ef]
      simp [hm, c]
    · rfl
    · rfl
    · intro p i r e
      have hi : i < qs.length := (range_pre e).2
      have hpl : p.length < 16777216 := by
        have := congrArg List.length e
        simp at this
        omega
      refine ⟨_, rfl, .inl ?_⟩
      have e1 : ∀ h, seqO (fun (b : Nat) h => (((idxR (.pv (lotV (planAt qs b))) (.pv (.int (i : Nat))) h).bind fun x h1 => idxR x (.pv (.int 1)) h1).bind fun v h2 => Out.ok (some v) h2)) B h = .ok (B.map fun b => RV.pv (.int ((bitAt qs.length b i : Nat) : Int))) h := fun h =>
        seqO_all _ _ fun b mb => by rw [plan_at hi, Out.bind_ok]; simp
      have e2 : ∀ h, bi1R false "sum" (B.map fun b => RV.pv (.int ((bitAt qs.length b i : Nat) : Int))) h = .ok (.pv (.int (yesP qs.length B i : Nat))) h := fun h => by
        rw [sumG (fun b => ((bitAt qs.length b i : Nat) : Int)) B (by omega), yes_sum]
      simp only [lotV] at e1
      have s2 : small 2 = true := by decide
      by_cases c3 : B.length < 2 * yesP qs.length B i
      · have c4 : (B.length : Int) < 2 * (yesP qs.length B i : Nat) := by omega
        simp [e1, e2, s2, Function.comp_def, hpl, c3, c4]
      · have c4 : ¬ (B.length : Int) < 2 * (yesP qs.length B i : Nat) := by omega
        simp [e1, e2, s2, Function.comp_def, hpl, c3, c4]
end D.k64

set_option Elab.async false
set_option linter.all false
set_option maxRecDepth 100000
set_option maxHeartbeats 1000000
namespace D.k64
open D D.Pl PySem
theorem law_majority_eq (n : Nat) (qs : List Nm) (nd : qs.Nodup) (hn : qs.length ≤ 100) (B : List Nat) (hB0 : B ≠ []) (hB : B.length ≤ 1000) (h : AH) :
    callN pg (n + 1) "_law_majority" [.pv (bsV qs B)] h = .ok (.pv (lotV (majL qs B))) h := by
  rw [call_eq g__law_majority]
  obtain ⟨b0, B', hBB⟩ := List.exists_cons_of_ne_nil hB0
  have e0 : ∀ h, idxR (.pv (bsV qs B)) (.pv (.int 0)) h = .ok (.pv (lotV (planAt qs b0))) h := fun h => by rw [hBB]; simp only [bsV, List.map_cons, idx_0]
  have hpl := planAt_len qs b0
  have r1 := fun h => rng_nat (n := qs.length) (by omega) h
  simp only [bsV, lotV] at e0
  simp [f__law_majority, runFn, e0, hpl, r1, Function.comp_def]
  rw [for_st (fun p => [some (.pv (bsV qs B)), some (.ref h.length), p.getLast?.map fun i : Nat => .pv (.int (i : Nat)), p.getLast?.map fun i => .pv (.str (qs.getD i [])), none])
    (fun p => h ++ [.lst (p.map fun i => .pv (ansV (qs.getD i [], if 2 * yesP qs.length B i > B.length then 1 else 0)))]) ?_ ?_ ?_]
  · have hm : (majL qs B).length ≤ 16777216 := by simp [majL]; omega
    have ef : frzO h.length 1 [some (.pv (bsV qs B)), some (.ref h.length), (List.range qs.length).getLast?.map fun i : Nat => .pv (.int (i : Nat)), (List.range qs.length).getLast?.map fun i => .pv (.str (qs.getD i [])), none]
        (h ++ [.lst ((List.range qs.length).map fun i => .pv (ansV (qs.getD i [], if 2 * yesP qs.length B i > B.length then 1 else 0)))]) = some ([some (.pv (bsV qs B)), some (.pv (.lst ((majL qs B).map ansV))), (List.range qs.length).getLast?.map fun i : Nat => .pv (.int (i : Nat)), (List.range qs.length).getLast?.map fun i => .pv (.str (qs.getD i [])), none], h ++ [.dead]) := by
      have e1 : allPV ((List.range qs.length).map fun i => .pv (ansV (qs.getD i [], if 2 * yesP qs.length B i > B.length then 1 else 0))) = some ((majL qs B).map ansV) := by
        rw [allPV_mapf]
        simp [majL, Function.comp_def]
      simp only [frzO, getV, List.getElem?_cons_succ, List.getElem?_cons_zero, Option.join_some, List.getElem?_append_right (Nat.le_refl _), Nat.sub_self, e1]
      simp
      simpa using hm
    rw [SO.next_nxt, ef]
    simp [hm]
  · rfl
  · rfl
  · intro p i r e
    have hi : i < qs.length := (range_pre e).2
    have hpl : p.length < 16777216 := by
      have := congrArg List.length e
      simp at this
      omega
    refine ⟨_, rfl, .inl ?_⟩
    have e1 := fun h => plan_at (qs := qs) (k := b0) hi h
    have e2 : (B.filter fun b => decide ((qs.getD i [], (1 : Int)) ∈ planAt qs b)) = B.filter fun b => decide (bitAt qs.length b i = 1) := by
      apply List.filter_congr
      intro b _
      have := plan_mem nd b i hi 1
      rw [Bool.eq_iff_iff, decide_eq_true_eq, decide_eq_true_eq, this]
      omega
    have hf : (B.filter fun b => decide (bitAt qs.length b i = 1)).length ≤ 16777216 := Nat.le_trans (List.length_filter_le _ _) (by omega)
    simp only [lotV] at e1
    have s2 : small 2 = true := by decide
    have gd : qs.getD i [] = (qs[i]?.getD []) := by simp [List.getD_eq_getElem?_getD]
    rw [gd] at e2
    by_cases c3 : B.length < 2 * yesP qs.length B i
    · have c4 : (B.length : Int) < 2 * ((B.filter fun b => decide (bitAt qs.length b i = 1)).length : Int) := by unfold yesP at c3; omega
      simp [e0, e1, s2, Function.comp_def, hpl, c3, e2, hf, c4]
    · have c4 : ¬ (B.length : Int) < 2 * ((B.filter fun b => decide (bitAt qs.length b i = 1)).length : Int) := by unfold yesP at c3; omega
      simp [e0, e1, s2, Function.comp_def, hpl, c3, e2, hf, c4]
end D.k64

set_option Elab.async false
set_option linter.all false
set_option maxRecDepth 100000
set_option maxHeartbeats 1000000
namespace D.k64
open D D.Pl PySem
def isNum : PV → Bool
  | .int _ => true
  | _ => false
def tame : PV → Bool
  | .obj _ _ => false
  | .dct _ => false
  | _ => true
theorem is_number_eq (n : Nat) (v : PV) (t : tame v = true) (h : AH) : callN pg (n + 1) "is_number" [.pv v] h = .ok (.pv (.bl (isNum v))) h := by
  rw [call_eq g_is_number]
  cases v <;> simp [tame] at t <;> simp [f_is_number, runFn, varO, getV, isiO, isiR, truO, truth, leave, isNum]
def isBit : PV → Bool
  | .int i => decide (0 ≤ i) && decide (i ≤ 1)
  | _ => false
theorem is_between01_eq (n : Nat) (v : PV) (t : tame v = true) (h : AH) : callN pg (n + 2) "is_between" [.pv v, .pv (.int 0), .pv (.int 1)] h = .ok (.pv (.bl (isBit v))) h := by
  rw [call_eq g_is_between]
  simp [f_is_between, runFn, varO, getV, is_number_eq _ v t]
  cases v with
  | int i =>
    by_cases h1 : (0 : Int) ≤ i <;> by_cases h2 : i ≤ 1 <;> simp [isNum, isBit, truO, truth, cmpR, cmpO, leave, h1, h2]
  | _ => simp [isNum, isBit, truO, truth, leave]
theorem tame_of {n : Nat} {v : PV} (h : plain (n + 1) v = true) : tame v = true := by
  cases v <;> simp [plain, tame] at h ⊢
theorem plains_str (n : Nat) (qs : List (List Nat)) : plains (n + 1) (qs.map .str) = true := by
  induction qs with
  | nil => rfl
  | cons q qs ih => simp [plains, plain, ih]
def isPair : PV → Bool
  | .tup [_, _] => true
  | _ => false
theorem is_pair_eq (n : Nat) (v : PV) (t : tame v = true) (h : AH) : callN pg (n + 1) "is_pair" [.pv v] h = .ok (.pv (.bl (isPair v))) h := by
  rw [call_eq g_is_pair]
  cases v with
  | tup xs =>
    rcases xs with _ | ⟨a, _ | ⟨b, _ | ⟨c, xs⟩⟩⟩ <;> simp [f_is_pair, runFn, varO, getV, isiO, isiR, truO, truth, leave, isPair, biR, viewQ, cmpO, cmpR, eqR, viewP, plain, pyEq]
    omega
  | _ => simp [tame] at t <;> simp [f_is_pair, runFn, varO, getV, isiO, isiR, truO, truth, leave, isPair]
def isQ (qs : List (List Nat)) : PV → Bool
  | .str s => qs.any fun q => q == s
  | _ => false
theorem any_str (qs : List (List Nat)) (s : List Nat) : ((qs.map PV.str).any fun y => pyEq y (.str s)) = qs.any fun q => q == s := by
  induction qs with
  | nil => rfl
  | cons q qs ih => simp [List.any_cons, pyEq, ih]
theorem is_question_eq (n : Nat) (qs : List (List Nat)) (v : PV) (t : tame v = true) (h : AH) : callN pg (n + 1) "is_question" [.pv (.tup (qs.map .str)), .pv v] h = .ok (.pv (.bl (isQ qs v))) h := by
  rw [call_eq g_is_question]
  cases v with
  | str s =>
    have e := any_str qs s
    simp only [f_is_question, runFn, xs_cons, x_ret, e_and, ea_more, ea_one, e_isi, e_cmp, e_var]
    simp [varO, getV, isiO, isiR, truO, truth, leave, isQ, cmpO, cmpR, inR, viewP, plains_str, plain, e]
  | _ => simp [tame] at t <;> simp [f_is_question, runFn, varO, getV, isiO, isiR, truO, truth, leave, isQ]
def isAns (qs : List (List Nat)) : PV → Bool
  | .tup [a, b] => isQ qs a && isBit b
  | _ => false
theorem is_answer_eq (n : Nat) (qs : List (List Nat)) (v : PV) (t : plain 9 v = true) (h : AH) : callN pg (n + 3) "is_answer" [.pv (.tup (qs.map .str)), .pv v] h = .ok (.pv (.bl (isAns qs v))) h := by
  rw [call_eq g_is_answer]
  have tv := tame_of t
  by_cases hp : isPair v = true
  · obtain ⟨a, b, rfl⟩ : ∃ a b, v = .tup [a, b] := by
      unfold isPair at hp
      split at hp
      · exact ⟨_, _, rfl⟩
      · cases hp
    simp only [plain, plains, Bool.and_eq_true, and_true] at t
    have ta := tame_of t.1
    have tb := tame_of t.2
    simp [f_is_answer, runFn, varO, getV, is_pair_eq _ _ tv, isPair, truO, truth, idxR, viewQ, atI, ixN, is_question_eq _ qs a ta, is_between01_eq _ b tb, leave, isAns]
    cases isQ qs a <;> simp [idxR, viewQ, atI, ixN, is_between01_eq _ b tb, leave]
  · have e : isAns qs v = false := by
      unfold isAns
      split
      · exact absurd rfl hp
      · rfl
    simp [f_is_answer, runFn, varO, getV, is_pair_eq _ _ tv, hp, truO, truth, leave, e]
/-- the i-th statement; a loop's suite -/
def isLotL (qs : List (List Nat)) : List Nat → List PV → Bool
  | _, [] => true
  | last, v :: r => isAns qs v && match v with
    | .tup [.str s, _] => ltNat last s && isLotL qs s r
    | _ => false
def isLot (qs : List (List Nat)) : PV → Bool
  | .tup xs => isLotL qs [] xs
  | _ => false
theorem isAns_inv {qs : List (List Nat)} {v : PV} (h : isAns qs v = true) : ∃ s i, v = .tup [.str s, .int i] ∧ qs.any (· == s) = true ∧ 0 ≤ i ∧ i ≤ 1 := by
  unfold isAns at h
  split at h
  · rename_i a b
    obtain ⟨h1, h2⟩ := Bool.and_eq_true_iff.mp h
    cases a <;> simp [isQ] at h1
    cases b <;> simp [isBit] at h2
    exact ⟨_, _, rfl, by simpa using h1, h2.1, h2.2⟩
  · cases h
theorem lot_loop (n lo : Nat) (an : Anc) (qs : List (List Nat)) (V : PV) (h : AH) : ∀ (xs : List PV) (last : List Nat) (a : Option RV), plains 9 xs = true →
    ∃ l' a', forL (.nm 3) (exSs (callN pg (n + 3)) lo an (suite (nth f_is_lot.body 2))) (xs.map .pv) [some (.pv (.tup (qs.map .str))), some (.pv V), some (.pv (.str last)), a] h =
      if isLotL qs last xs then .ok (.nxt [some (.pv (.tup (qs.map .str))), some (.pv V), some (.pv (.str l')), a']) h else .ok (.ret (.pv (.bl false))) h
  | [], last, a, _ => ⟨last, a, by simp [isLotL]⟩
  | v :: xs, last, a, t => by
    simp only [plains, Bool.and_eq_true] at t
    have ea := is_answer_eq n qs v t.1 h
    by_cases ha : isAns qs v = true
    · obtain ⟨s, i, rfl, _, _, _⟩ := isAns_inv ha
      by_cases hl : ltNat last s = true
      · obtain ⟨l', a', ih⟩ := lot_loop n lo an qs V h xs s (some (.pv (.tup [.str s, .int i]))) t.2
        refine ⟨l', a', ?_⟩
        rw [List.map_cons, for_cons]
        simp only [f_is_lot, nth, suite] at ih ⊢
        simp [T.put, varO, getV, ea, ha, truO, truth, cmpO, cmpR, idxR, viewQ, atI, ixN, hl, putO, isLotL]
        exact ih
      · refine ⟨[], none, ?_⟩
        rw [List.map_cons, for_cons]
        simp only [f_is_lot, nth, suite]
        simp [T.put, varO, getV, ea, ha, truO, truth, cmpO, cmpR, idxR, viewQ, atI, ixN, hl, putO, isLotL]
    · refine ⟨[], none, ?_⟩
      rw [List.map_cons, for_cons]
      simp only [f_is_lot, nth, suite]
      simp [T.put, varO, getV, ea, ha, truO, truth, isLotL]
theorem is_lot_eq (n : Nat) (qs : List (List Nat)) (v : PV) (t : plain 10 v = true) (h : AH) : callN pg (n + 4) "is_lot" [.pv (.tup (qs.map .str)), .pv v] h = .ok (.pv (.bl (isLot qs v))) h := by
  rw [call_eq g_is_lot]
  have tv := tame_of t
  cases v with
  | tup xs =>
    obtain ⟨l', a', e⟩ := lot_loop n h.length pg.an qs (.tup xs) h xs [] none (by simpa [plain] using t)
    simp only [f_is_lot, nth, suite] at e
    simp [f_is_lot, runFn, varO, getV, isiO, isiR, truO, truth, putO, T.put, itmO, itemsR, e, isLot]
    cases isLotL qs [] xs <;> simp [leave]
  | _ => simp [tame] at tv <;> simp [f_is_lot, runFn, varO, getV, isiO, isiR, truO, truth, leave, isLot]
theorem isLotL_ok {qs : List Nm} (ne : ∀ q ∈ qs, q ≠ []) : ∀ (l : Lot) (last : Nm), (∀ a ∈ l, a.1 ∈ qs ∧ (a.2 = 0 ∨ a.2 = 1)) → Asc (l.map (·.1)) → (∀ a ∈ l, ltNat last a.1 = true) → isLotL qs last (l.map ansV) = true
  | [], _, _, _, _ => rfl
  | a :: l, last, m, as, lt => by
    have as' := List.pairwise_cons.mp as
    have ma := m a (by simp)
    rw [List.map_cons, isLotL, isLotL_ok ne l a.1 (fun b mb => m b (by simp [mb])) as'.2 fun b mb => as'.1 b.1 (List.mem_map.mpr ⟨b, mb, rfl⟩)]
    have h1 : (qs.any fun q => q == a.1) = true := List.any_eq_true.mpr ⟨a.1, ma.1, by simp⟩
    have h2 : isBit (.int a.2) = true := by rcases ma.2 with h | h <;> rw [h] <;> rfl
    simp [isAns, isQ, h1, h2, lt a (by simp)]
theorem isLot_ok {qs : List Nm} (ne : ∀ q ∈ qs, q ≠ []) {l : Lot} (h : LotOk qs l) : isLot qs (lotV l) = true := by
  have := isLotL_ok ne l [] h.mem h.asc fun a m => lt_nil (ne _ (h.mem a m).1)
  simpa [isLot] using this
theorem plain_lot (n : Nat) (l : Lot) : plain (n + 3) (lotV l) = true := by simp
def isPlan (qs : List Nm) : PV → Bool
  | .tup xs => isLot qs (.tup xs) && decide (xs.length = qs.length)
  | _ => false
theorem is_plan_eq (n : Nat) (qs : List Nm) (v : PV) (t : plain 10 v = true) (h : AH) : callN pg (n + 5) "is_plan" [.pv (qsV qs), .pv v] h = .ok (.pv (.bl (isPlan qs v))) h := by
  rw [call_eq g_is_plan]
  have e := is_lot_eq n qs v t
  have tv := tame_of t
  cases v with
  | tup xs =>
    have b : ((xs.length : Int) == (qs.length : Int)) = decide (xs.length = qs.length) := by
      rw [Bool.eq_iff_iff]; simp
    cases q : isLot qs (.tup xs) <;> simp [f_is_plan, runFn, e, q, isPlan, leave, b]
  | _ => simp [tame] at tv <;> simp [f_is_plan, runFn, e, isLot, isPlan, leave]
theorem isPlan_ok {qs : List Nm} (as : Asc qs) (ne : ∀ q ∈ qs, q ≠ []) {r : Lot} (m : r ∈ rowsP qs) : isPlan qs (lotV r) = true := by
  have h1 := isLot_ok ne (rows_lot as m)
  have h2 := rowsP_mem_len m
  simp only [lotV] at h1 ⊢
  simp [isPlan, h1, h2]
theorem is_allowed_eq (n : Nat) {qs : List Nm} {bars : List Lot} (D : AgD qs bars) (d : Nat) (hd : d < 2 ^ qs.length) (h : AH) :
    callN pg (n + 6) "is_allowed" [.pv (agV qs bars), .pv (lotV (planAt qs d))] h = .ok (.pv (.bl (decide (d ∈ goodOf qs bars)))) h := by
  rw [call_eq g_is_allowed]
  have m : planAt qs d ∈ rowsP qs := by rw [rowsP_eq]; exact List.mem_map.mpr ⟨d, List.mem_range.mpr hd, rfl⟩
  have e1 := is_plan_eq n qs (lotV (planAt qs d)) (plain_lot 7 _) h
  rw [isPlan_ok D.asc D.ne m] at e1
  have h2 := plans_in_eq n qs bars D.ok h
  have e3 := number_of_eq (n + 4) qs (canOf qs bars) d hd h
  have hc : ∀ h, idxR (.pv (.lst ((canOf qs bars).map .bl))) (.pv (.int (d : Nat))) h = .ok (.pv (.bl (decide (d ∈ goodOf qs bars)))) h := fun h => by
    refine idx_atL ?_ h
    simp only [canOf, List.map_map, List.getElem?_map, List.getElem?_range hd, Option.map_some, Function.comp]
    congr 2
    rw [decide_eq_decide]
    unfold goodOf
    simp [hd]
  simp only [qsV, agV, lotV] at e1 h2 e3 ⊢
  simp [f_is_allowed, runFn, e1, h2, e3, hc, lookF, plansF]
end D.k64

set_option Elab.async false
set_option linter.all false
set_option maxRecDepth 100000
set_option maxHeartbeats 1000000
namespace D.k64
open D D.Pl PySem
def costP (n : Nat) (B : List Nat) (k i : Nat) : Int := (B.map fun b => if bitAt n k i = bitAt n b i then (0 : Int) else 1).sum
theorem far_costP (n : Nat) (B : List Nat) (k : Nat) : far n B k = ((List.range n).map fun i => costP n B k i).sum := by
  unfold far costP
  rw [sum_swap]
  congr 1
  apply List.map_congr_left
  intro b _
  unfold dist
  rw [← sum_filt']
  congr 1
  apply List.map_congr_left
  intro i _
  by_cases c : bitAt n k i = bitAt n b i <;> simp [c]
theorem bit01 (n k i : Nat) : bitAt n k i = 0 ∨ bitAt n k i = 1 := by have := bitAt_le n k i; omega
theorem costP_eq (n : Nat) (B : List Nat) (k i : Nat) : costP n B k i = if bitAt n k i = 1 then (B.length : Int) - yesP n B i else yesP n B i := by
  unfold costP yesP
  induction B with
  | nil => simp
  | cons b B ih =>
    simp only [List.map_cons, List.sum_cons, List.length_cons, List.filter_cons]
    rcases bit01 n k i with e | e <;> rw [e] at ih ⊢ <;> rcases bit01 n b i with e2 | e2 <;> rw [e2] <;> simp at ih ⊢ <;> omega
theorem sum_le {α : Type} {f g : α → Int} : ∀ {xs : List α}, (∀ x ∈ xs, f x ≤ g x) → (xs.map f).sum ≤ (xs.map g).sum
  | [], _ => Int.le_refl _
  | x :: xs, h => by
    have := h x (by simp)
    have := sum_le fun y m => h y (List.mem_cons_of_mem _ m)
    simp only [List.map_cons, List.sum_cons]
    omega
theorem sum_lt {α : Type} {f g : α → Int} : ∀ {xs : List α}, (∀ x ∈ xs, f x ≤ g x) → (∃ x ∈ xs, f x < g x) → (xs.map f).sum < (xs.map g).sum
  | [], _, h => by obtain ⟨x, m, _⟩ := h; cases m
  | x :: xs, h, h2 => by
    have h1 := h x (by simp)
    have h3 := sum_le fun y m => h y (List.mem_cons_of_mem _ m)
    simp only [List.map_cons, List.sum_cons]
    obtain ⟨y, m, lt⟩ := h2
    rcases List.mem_cons.mp m with rfl | m
    · omega
    · have := sum_lt (fun y m => h y (List.mem_cons_of_mem _ m)) ⟨y, m, lt⟩
      omega
/-- the majority's bits -/
def Maj (n : Nat) (B : List Nat) (d : Nat) : Prop := ∀ i, i < n → bitAt n d i = if 2 * yesP n B i > B.length then 1 else 0
theorem maj_num {qs : List Nm} (nd : qs.Nodup) (B : List Nat) : ∃ d, d < 2 ^ qs.length ∧ majL qs B = planAt qs d ∧ Maj qs.length B d := by
  have m : majL qs B ∈ rowsP qs := by
    refine mem_rowsP ?_ fun a ma => ?_
    · unfold majL
      rw [List.map_map]
      apply List.ext_getElem
      · simp
      · intro i h1 h2
        simp [h2]
    · obtain ⟨i, _, rfl⟩ := List.mem_map.mp ma
      simp only
      split
      · exact .inr rfl
      · exact .inl rfl
  rw [rowsP_eq] at m
  obtain ⟨d, hd, e⟩ := List.mem_map.mp m
  refine ⟨d, by simpa using hd, e.symm, fun i hi => ?_⟩
  have e2 := congrArg (fun l => l[i]?) e
  simp [planAt, majL, hi] at e2
  split at e2 <;> split <;> omega
theorem bits_eq {n a b : Nat} (ha : a < 2 ^ n) (hb : b < 2 ^ n) (h : ∀ i, i < n → bitAt n a i = bitAt n b i) : a = b := by
  apply Nat.eq_of_testBit_eq
  intro j
  by_cases hj : j < n
  · have := h (n - 1 - j) (by omega)
    rw [bitAt_tb, bitAt_tb, show n - 1 - (n - 1 - j) = j by omega] at this
    cases h1 : a.testBit j <;> cases h2 : b.testBit j <;> rw [h1, h2] at this <;> first | rfl | (simp at this)
  · have hp : 2 ^ n ≤ 2 ^ j := Nat.pow_le_pow_right (by decide) (by omega)
    rw [Nat.testBit_lt_two_pow (Nat.lt_of_lt_of_le ha hp), Nat.testBit_lt_two_pow (Nat.lt_of_lt_of_le hb hp)]
theorem far_lt {n : Nat} {B : List Nat} {d k : Nat} (M : Maj n B d) (odd : B.length % 2 = 1) (hd : d < 2 ^ n) (hk : k < 2 ^ n) (ne : k ≠ d) : far n B d < far n B k := by
  rw [far_costP, far_costP]
  have key : ∀ i, i < n → costP n B d i ≤ costP n B k i ∧ (bitAt n k i ≠ bitAt n d i → costP n B d i < costP n B k i) := fun i hi => by
    have hm := M i hi
    have hy : yesP n B i ≤ B.length := List.length_filter_le _ _
    rw [costP_eq, costP_eq, hm]
    rcases bit01 n k i with e | e <;> rw [e] <;> split <;> simp <;> omega
  refine sum_lt (fun i mi => (key i (by simpa using mi)).1) ?_
  have : ∃ i, i < n ∧ bitAt n k i ≠ bitAt n d i := by
    refine Classical.byContradiction fun z => ne (bits_eq hk hd fun i hi => ?_)
    exact Classical.byContradiction fun w => z ⟨i, hi, w⟩
  obtain ⟨i, hi, h⟩ := this
  exact ⟨i, by simpa using hi, (key i hi).2 h⟩
theorem fold_min : ∀ (is : List Int) (i : Int), (is.foldl (fun a b => if b < a then b else a) i ∈ i :: is) ∧ ∀ y ∈ i :: is, is.foldl (fun a b => if b < a then b else a) i ≤ y
  | [], i => ⟨by simp, by simp⟩
  | j :: is, i => by
    obtain ⟨h1, h2⟩ := fold_min is (if j < i then j else i)
    have h3 := h2 (if j < i then j else i) (by simp)
    simp only [List.foldl_cons]
    refine ⟨?_, fun y m => ?_⟩
    · rcases List.mem_cons.mp h1 with h1 | h1
      · rw [h1]; split <;> simp
      · simp [h1]
    · rcases List.mem_cons.mp m with rfl | m
      · by_cases c : j < y
        · rw [if_pos c] at h3 ⊢; omega
        · rw [if_neg c] at h3 ⊢; omega
      · rcases List.mem_cons.mp m with rfl | m
        · by_cases c : y < i
          · rw [if_pos c] at h3 ⊢; omega
          · rw [if_neg c] at h3 ⊢; omega
        · exact h2 y (by simp [m])
theorem minL_mem {xs : List Int} (h : xs ≠ []) : minL xs ∈ xs := by
  obtain ⟨x, r, rfl⟩ := List.exists_cons_of_ne_nil h
  exact (fold_min r x).1
theorem minL_le {xs : List Int} {y : Int} (m : y ∈ xs) : minL xs ≤ y := by
  obtain ⟨x, r, rfl⟩ := List.exists_cons_of_ne_nil (List.ne_nil_of_mem m)
  exact (fold_min r x).2 y m
theorem near_in {n : Nat} {A B : List Nat} {d : Nat} (M : Maj n B d) (odd : B.length % 2 = 1) (hd : d < 2 ^ n) (hA : ∀ a ∈ A, a < 2 ^ n) (nd : A.Nodup) (m : d ∈ A) : nearL n A B = [d] := by
  have e : minL (A.map fun k => far n B k) = far n B d := by
    have h1 := minL_mem (xs := A.map fun k => far n B k) (by simp; exact List.ne_nil_of_mem m)
    obtain ⟨k, mk, e⟩ := List.mem_map.mp h1
    have h2 : minL (A.map fun k => far n B k) ≤ far n B d := minL_le (List.mem_map.mpr ⟨d, m, rfl⟩)
    by_cases c : k = d
    · rw [← e, c]
    · have := far_lt M odd hd (hA k mk) c
      omega
  unfold nearL
  rw [e]
  have key : ∀ l : List Nat, (∀ a ∈ l, a < 2 ^ n) → l.Nodup → (l.filter fun k => decide (far n B k = far n B d)) = if d ∈ l then [d] else [] := by
    intro l
    induction l with
    | nil => intro _ _; rfl
    | cons a l ih =>
      intro h nd
      have nd := List.nodup_cons.mp nd
      have ih := ih (fun b mb => h b (by simp [mb])) nd.2
      rw [List.filter_cons, ih]
      by_cases c : a = d
      · subst c
        simp [nd.1]
      · have := far_lt M odd hd (h a (by simp)) c
        have c2 : ¬ far n B a = far n B d := by omega
        have c3 : ¬ d = a := fun z => c z.symm
        simp [c2, c3]
  rw [key A hA nd, if_pos m]
theorem near_out {n : Nat} {A B : List Nat} {d : Nat} (M : Maj n B d) (odd : B.length % 2 = 1) (hd : d < 2 ^ n) (hA : ∀ a ∈ A, a < 2 ^ n) (h0 : A ≠ []) (m : d ∉ A) : ∃ k r, nearL n A B = k :: r ∧ far n B d < far n B k := by
  have h1 := minL_mem (xs := A.map fun k => far n B k) (by simpa using h0)
  obtain ⟨k, mk, e⟩ := List.mem_map.mp h1
  have mn : k ∈ nearL n A B := List.mem_filter.mpr ⟨mk, decide_eq_true e⟩
  obtain ⟨j, r, ej⟩ := List.exists_cons_of_ne_nil (List.ne_nil_of_mem mn)
  have mj : j ∈ A := (List.mem_filter.mp (by rw [show A.filter _ = nearL n A B from rfl, ej]; simp : j ∈ A.filter fun k => decide (far n B k = minL (A.map fun k => far n B k)))).1
  exact ⟨j, r, ej, far_lt M odd hd (hA j mj) fun z => m (z ▸ mj)⟩
end D.k64

set_option Elab.async false
set_option linter.all false
set_option maxRecDepth 100000
set_option maxHeartbeats 1000000
namespace D.k64
open D D.Pl PySem
theorem rawL_all {qs : List Nm} : Asc qs → ∀ l, LotOk qs l → l ∈ rawL qs := by
  induction qs using rev_ind with
  | h0 =>
    intro _ l h
    cases l with
    | nil => simp [rawL]
    | cons a l => have := (h.mem a (by simp)).1; simp at this
  | h1 p q ih =>
    intro as l h
    have as' := List.pairwise_append.mp as
    rw [rawL_app]
    by_cases hl : l = []
    · subst hl
      exact List.mem_append_left _ (ih as'.1 [] ⟨by simp, by simp [Asc]⟩)
    obtain ⟨l', a, rfl⟩ : ∃ l' a, l = l' ++ [a] := ⟨l.dropLast, l.getLast hl, (List.dropLast_concat_getLast hl).symm⟩
    have hasc := h.asc
    rw [List.map_append] at hasc
    have hp := List.pairwise_append.mp hasc
    by_cases c : a.1 = q
    · have h' : LotOk p l' := by
        refine ⟨fun b mb => ?_, hp.1⟩
        have hm := h.mem b (by simp [mb])
        have lt := hp.2.2 b.1 (List.mem_map.mpr ⟨b, mb, rfl⟩) a.1 (by simp)
        refine ⟨?_, hm.2⟩
        rcases List.mem_append.mp hm.1 with m | m
        · exact m
        · simp at m
          rw [m, c, lt_irr] at lt; cases lt
      have m' := ih as'.1 l' h'
      refine List.mem_append_right _ ?_
      have ha := (h.mem a (by simp)).2
      obtain ⟨x, y⟩ := a
      simp only at c ha
      subst c
      unfold longer
      rcases ha with rfl | rfl
      · exact List.mem_append_left _ (List.mem_map.mpr ⟨l', m', rfl⟩)
      · exact List.mem_append_right _ (List.mem_map.mpr ⟨l', m', rfl⟩)
    · have ha : a.1 ∈ p := by
        rcases List.mem_append.mp (h.mem a (by simp)).1 with m | m
        · exact m
        · simp at m; exact absurd m c
      have h' : LotOk p (l' ++ [a]) := by
        refine ⟨fun b mb => ?_, h.asc⟩
        refine ⟨?_, (h.mem b mb).2⟩
        rcases List.mem_append.mp mb with m | m
        · rcases List.mem_append.mp (h.mem b mb).1 with m2 | m2
          · exact m2
          · simp at m2
            have lt := hp.2.2 b.1 (List.mem_map.mpr ⟨b, m, rfl⟩) a.1 (by simp)
            have lt2 := as'.2.2 a.1 ha q (by simp)
            rw [m2, lt_asym lt2] at lt; cases lt
        · simp at m; subst m; exact ha
      exact List.mem_append_left _ (ih as'.1 _ h')
theorem lot_filter {qs : List Nm} {l : Lot} (h : LotOk qs l) (p : Ans → Bool) : LotOk qs (l.filter p) :=
  ⟨fun a m => h.mem a (List.mem_filter.mp m).1, List.Pairwise.sublist (List.Sublist.map _ List.filter_sublist) h.asc⟩
theorem two_meet {α : Type} (p q : α → Bool) : ∀ B : List α, B.length < (B.filter p).length + (B.filter q).length → ∃ b ∈ B, p b = true ∧ q b = true
  | [], h => by simp at h
  | b :: B, h => by
    by_cases hp : p b = true
    · by_cases hq : q b = true
      · exact ⟨b, by simp, hp, hq⟩
      · simp [List.filter_cons, hp, hq] at h
        obtain ⟨x, m, hx⟩ := two_meet p q B (by omega)
        exact ⟨x, by simp [m], hx⟩
    · by_cases hq : q b = true
      · simp [List.filter_cons, hp, hq] at h
        obtain ⟨x, m, hx⟩ := two_meet p q B (by omega)
        exact ⟨x, by simp [m], hx⟩
      · simp [List.filter_cons, hp, hq] at h
        obtain ⟨x, m, hx⟩ := two_meet p q B (by omega)
        exact ⟨x, by simp [m], hx⟩
theorem half {n : Nat} {B : List Nat} {d : Nat} (M : Maj n B d) (odd : B.length % 2 = 1) {i : Nat} (hi : i < n) : B.length < 2 * (B.filter fun b => decide (bitAt n d i = bitAt n b i)).length := by
  have hm := M i hi
  have h0 : ∀ L : List Nat, (L.filter fun b => decide (bitAt n b i = 1)).length + (L.filter fun b => decide (bitAt n b i = 0)).length = L.length := fun L => by
    induction L with
    | nil => rfl
    | cons b L ih => rcases bit01 n b i with e | e <;> simp [List.filter_cons, e] <;> omega
  have h1 := h0 B
  unfold yesP at hm
  rw [hm]
  split
  · have : (B.filter fun b => decide (1 = bitAt n b i)) = B.filter fun b => decide (bitAt n b i = 1) := List.filter_congr fun b _ => by simp [eq_comm]
    rw [this]; omega
  · have : (B.filter fun b => decide (0 = bitAt n b i)) = B.filter fun b => decide (bitAt n b i = 0) := List.filter_congr fun b _ => by simp [eq_comm]
    rw [this]; omega
theorem num_inj {qs : List Nm} (nd : qs.Nodup) {j k : Nat} (hj : j < 2 ^ qs.length) (hk : k < 2 ^ qs.length) (e : planAt qs j = planAt qs k) : j = k := by
  refine bits_eq hj hk fun i hi => ?_
  have := (plan_mem nd j i hi (bitAt qs.length j i : Int)).mpr rfl
  rw [e, plan_mem nd k i hi] at this
  omega
theorem good_mem {qs : List Nm} {bars : List Lot} {b : Nat} (m : b ∈ goodOf qs bars) : planAt qs b ∈ goodRows qs bars := by
  rw [goodRows_eq]; exact List.mem_map.mpr ⟨b, m, rfl⟩
theorem clash3 {qs : List Nm} {bars : List Lot} (D : AgD qs bars) {B : List Nat} (hB : ∀ b ∈ B, b ∈ goodOf qs bars) (odd : B.length % 2 = 1) {d : Nat} (M : Maj qs.length B d) (hd : d < 2 ^ qs.length) (out : d ∉ goodOf qs bars) :
    ∃ l ∈ leastOf qs (goodRows qs bars), 3 ≤ l.length := by
  have nd := D.asc.nodup
  have mr : planAt qs d ∈ rowsP qs := by rw [rowsP_eq]; exact List.mem_map.mpr ⟨d, List.mem_range.mpr hd, rfl⟩
  have mc : planAt qs d ∈ clashesAll qs (goodRows qs bars) := by
    refine List.mem_filter.mpr ⟨rawL_all D.asc _ (rows_lot D.asc mr), decide_eq_true fun p mp sub => ?_⟩
    have e : planAt qs d = p := sub_eq (·.1) ((rows_names mr).trans (rows_names (good_sub mp)).symm) (by rw [rows_names mr]; exact nd) sub
    rw [goodRows_eq] at mp
    obtain ⟨k, mk, ek⟩ := List.mem_map.mp mp
    rw [← ek] at e
    exact out (num_inj nd hd (good_lt mk) e ▸ mk)
  have least : ∀ N (l : Lot), l.length ≤ N → l ∈ clashesAll qs (goodRows qs bars) → (∀ a ∈ l, a ∈ planAt qs d) → ∃ m ∈ clashesAll qs (goodRows qs bars), (∀ a ∈ m, a ∈ planAt qs d) ∧ ∀ a ∈ m, m.filter (fun b => decide (b ≠ a)) ∉ clashesAll qs (goodRows qs bars) := by
    intro N
    induction N with
    | zero =>
      intro l hl ml hs
      have : l = [] := List.length_eq_zero_iff.mp (by omega)
      subst this
      exact ⟨[], ml, hs, by simp⟩
    | succ N ih =>
      intro l hl ml hs
      by_cases c : ∃ a ∈ l, l.filter (fun b => decide (b ≠ a)) ∈ clashesAll qs (goodRows qs bars)
      · obtain ⟨a, ma, mf⟩ := c
        have hlt : (l.filter fun b => decide (b ≠ a)).length < l.length := List.length_filter_lt_length_iff_exists.mpr ⟨a, ma, by simp⟩
        exact ih _ (by omega) mf fun b mb => hs b (List.mem_filter.mp mb).1
      · exact ⟨l, ml, hs, fun a ma mf => c ⟨a, ma, mf⟩⟩
  obtain ⟨m, mm, ms, mn⟩ := least _ _ (Nat.le_refl _) mc fun a ma => ma
  have ml : m ∈ leastOf qs (goodRows qs bars) := by
    unfold leastOf leastRaw
    exact (sortB_perm (lt := ltL) _).mem_iff.mpr (List.mem_filter.mpr ⟨mm, decide_eq_true mn⟩)
  refine ⟨m, ml, ?_⟩
  have no := of_decide_eq_true (List.mem_filter.mp mm).2
  have at' : ∀ a ∈ m, ∃ i, i < qs.length ∧ a = (qs.getD i [], (bitAt qs.length d i : Int)) := fun a ma => by
    have := ms a ma
    unfold planAt at this
    obtain ⟨i, mi, e⟩ := List.mem_map.mp this
    exact ⟨i, by simpa using mi, e.symm⟩
  have has : ∀ i b, i < qs.length → bitAt qs.length d i = bitAt qs.length b i → (qs.getD i [], (bitAt qs.length d i : Int)) ∈ planAt qs b := fun i b hi e => by
    rw [plan_mem nd b i hi, e]
  match m, no, at' with
  | [], no, _ =>
    obtain ⟨p, mp⟩ := List.exists_mem_of_ne_nil _ D.good
    exact absurd (by simp) (no p mp)
  | [a], no, at' =>
    obtain ⟨i, hi, rfl⟩ := at' a (by simp)
    have := half M odd hi
    obtain ⟨b, mb⟩ := List.exists_mem_of_length_pos (l := B.filter fun b => decide (bitAt qs.length d i = bitAt qs.length b i)) (by omega)
    obtain ⟨mb1, mb2⟩ := List.mem_filter.mp mb
    exact absurd (fun x mx => by simp at mx; subst mx; exact has i b hi (of_decide_eq_true mb2)) (no _ (good_mem (hB b mb1)))
  | [a, a'], no, at' =>
    obtain ⟨i, hi, rfl⟩ := at' a (by simp)
    obtain ⟨j, hj, rfl⟩ := at' a' (by simp)
    have h1 := half M odd hi
    have h2 := half M odd hj
    obtain ⟨b, mb, p1, p2⟩ := two_meet (fun b => decide (bitAt qs.length d i = bitAt qs.length b i)) (fun b => decide (bitAt qs.length d j = bitAt qs.length b j)) B (by omega)
    exact absurd (fun x mx => by
      simp at mx
      rcases mx with rfl | rfl
      · exact has i b hi (of_decide_eq_true p1)
      · exact has j b hj (of_decide_eq_true p2)) (no _ (good_mem (hB b mb)))
  | _ :: _ :: _ :: _, _, _ => simp
end D.k64

set_option Elab.async false
set_option linter.all false
set_option maxRecDepth 100000
set_option maxHeartbeats 1000000
namespace D.k64
open D D.Pl PySem
theorem sm_lots (L : List Lot) (h1 : L.length ≤ 1000000) (h2 : ∀ l ∈ L, l.length ≤ 1000000) : sm 5 (.tup (L.map lotV)) = true := by
  have hs : ∀ {α : Type} (d : Nat) (f : α → PV) (xs : List α), (∀ x ∈ xs, sm d (f x) = true) → sms d (xs.map f) = true := fun {α} d f xs => by
    induction xs with
    | nil => intro _; rfl
    | cons x xs ih => intro h; simp [sms, h x (by simp), ih fun y m => h y (by simp [m])]
  simp only [sm, List.length_map, h1, decide_true, Bool.and_true]
  refine hs 4 lotV L fun l m => ?_
  simp only [lotV, sm, List.length_map, h2 l m, decide_true, Bool.and_true]
  exact hs 3 (fun a : Ans => PV.tup [.str a.1, .int a.2]) l fun a _ => by simp [sm, sms]
theorem sm_lot (l : Lot) (h : l.length ≤ 1000000) : sm 5 (lotV l) = true := by
  have hs : ∀ {α : Type} (d : Nat) (f : α → PV) (xs : List α), (∀ x ∈ xs, sm d (f x) = true) → sms d (xs.map f) = true := fun {α} d f xs => by
    induction xs with
    | nil => intro _; rfl
    | cons x xs ih => intro h; simp [sms, h x (by simp), ih fun y m => h y (by simp [m])]
  simp only [lotV, sm, List.length_map, h, decide_true, Bool.and_true]
  exact hs 4 (fun a : Ans => PV.tup [.str a.1, .int a.2]) l fun a _ => by simp [sm, sms]
abbrev WB (i : Nat) : S := nth (suite (nth f_law.body 1)) i
theorem ballots_eq (n : Nat) (qs : List Nm) (A : List Nat) (hA : A ≠ []) (hAl : A.length ≤ 1000) (N : Nat) (hN : N ≤ 100) (s : Rl) (t : AH) :
    ∃ (B : List Nat) (s' : Rl), seqO (fun (_ : Nat) h => (callN pg (n + 2) "_law_one" [.ref 1, .pv (.lst (A.map fun k => lotV (planAt qs k)))] h).bind fun v h2 => Out.ok (some v) h2) (List.range N) (rlH t s) = .ok (B.map fun k => RV.pv (lotV (planAt qs k))) (rlH t s') ∧ B.length = N ∧ ∀ b ∈ B, b ∈ A := by
  refine ⟨(mapSt (fun (_ : Nat) s => oneG A s) (List.range N) s).1, (mapSt (fun (_ : Nat) s => oneG A s) (List.range N) s).2, ?_, by simp [mapSt_length], fun b mb => ?_⟩
  · rw [seqO_st (rlH t) (fun (_ : Nat) s => oneG A s) (fun k => RV.pv (lotV (planAt qs k))) s fun k mk s => ?_]
    rw [one_eqG n (fun k => lotV (planAt qs k)) A _ (.inl rfl) hA (by omega)]
    rfl
  · obtain ⟨_, _, s', rfl⟩ := mapSt_mem _ _ _ _ mb
    exact oneG_mem hA s'
theorem any_plan {qs : List Nm} (nd : qs.Nodup) {A : List Nat} (hA : ∀ a ∈ A, a < 2 ^ qs.length) {d : Nat} (hd : d < 2 ^ qs.length) : ((A.map fun k => PV.tup ((planAt qs k).map fun a => PV.tup [.str a.1, .int a.2])).any fun y => pyEq y (.tup ((planAt qs d).map fun a => PV.tup [.str a.1, .int a.2]))) = decide (d ∈ A) := by
  have h := any_lot (A.map (planAt qs)) (planAt qs d)
  rw [List.any_map] at h
  rw [List.any_map]
  simp only [Function.comp_def, eq_tup] at h ⊢
  rw [h, decide_eq_decide, List.mem_map]
  constructor
  · rintro ⟨k, mk, e⟩
    exact num_inj nd (hA k mk) hd e ▸ mk
  · intro m
    exact ⟨d, m, rfl⟩
theorem in_eq {qs : List Nm} (nd : qs.Nodup) {A : List Nat} (hA : ∀ a ∈ A, a < 2 ^ qs.length) {d : Nat} (hd : d < 2 ^ qs.length) (h : AH) : cmpO .in_ (.pv (lotV (planAt qs d))) (.pv (.lst (A.map fun k => lotV (planAt qs k)))) h = .ok (.pv (.bl (decide (d ∈ A)))) h := by
  rw [cmp_inL _ _ _ (by simp) (by simp), any_plan nd hA hd]
theorem notin_eq {qs : List Nm} (nd : qs.Nodup) {A : List Nat} (hA : ∀ a ∈ A, a < 2 ^ qs.length) {d : Nat} (hd : d < 2 ^ qs.length) (h : AH) : cmpO .notIn (.pv (lotV (planAt qs d))) (.pv (.lst (A.map fun k => lotV (planAt qs k)))) h = .ok (.pv (.bl (!decide (d ∈ A)))) h := by
  rw [cmp_niL _ _ _ (by simp) (by simp), any_plan nd hA hd]
def maxL : List Int → Int
  | [] => 0
  | i :: is => is.foldl (fun a b => if b > a then b else a) i
theorem fold_max : ∀ (is : List Int) (i : Int), ∀ y ∈ i :: is, y ≤ is.foldl (fun a b => if b > a then b else a) i
  | [], i => by simp
  | j :: is, i => by
    have h2 := fold_max is (if j > i then j else i)
    have h3 := h2 (if j > i then j else i) (by simp)
    simp only [List.foldl_cons]
    intro y m
    rcases List.mem_cons.mp m with rfl | m
    · by_cases c : j > y
      · rw [if_pos c] at h3 ⊢; omega
      · rw [if_neg c] at h3 ⊢; omega
    · rcases List.mem_cons.mp m with rfl | m
      · by_cases c : y > i
        · rw [if_pos c] at h3 ⊢; omega
        · rw [if_neg c] at h3 ⊢; omega
      · exact h2 y (by simp [m])
theorem maxL_ge {xs : List Int} {y : Int} (m : y ∈ xs) : y ≤ maxL xs := by
  obtain ⟨x, r, rfl⟩ := List.exists_cons_of_ne_nil (List.ne_nil_of_mem m)
  exact fold_max r x y m
theorem max_lstF {α : Type} (f : α → Int) {xs : List α} (h0 : xs ≠ []) (h : AH) : bi1V false "max" (.pv (.lst (xs.map fun a => .int (f a)))) h = .ok (.pv (.int (maxL (xs.map f)))) h := by
  obtain ⟨x, r, rfl⟩ := List.exists_cons_of_ne_nil h0
  simp only [bi1V, viewL, bi1R]
  rw [if_neg (by decide), List.map_map, show (RV.pv ∘ fun a => PV.int (f a)) = fun a => RV.pv (.int (f a)) from rfl, ints_mapf]
  rfl
theorem turn_eq (n lo k : Nat) (sc : RV) (x3 x4 x5 x6 x7 x8 x9 x10 x11 : Option RV) (s : Rl) :
    ∃ (s' : Rl) (y3 y4 y5 y6 y7 y8 y9 y10 y11 : Option RV), exSs (callN pg (n + 8)) lo pg.an (suite (nth f_law.body 1)) [some sc, some (.ref 1), some (.pv (.int (k : Nat))), x3, x4, x5, x6, x7, x8, x9, x10, x11] (rlH [] s) =
      .ok (.nxt [some sc, some (.ref 1), some (.pv (.int (k : Nat))), y3, y4, y5, y6, y7, y8, y9, y10, y11]) (rlH [] s') := by
  have e0 := one_eqG (n + 6) PV.int [4, 8, 16] _ (.inl rfl) (by simp) (by simp) s []
  have hm := oneG_mem (ys := [(4 : Int), 8, 16]) (by simp) s
  generalize oneG [(4 : Int), 8, 16] s = V at *
  obtain ⟨mo, hmo, hmo1, hmo2⟩ : ∃ mo : Nat, V.1 = (mo : Int) ∧ 1 ≤ mo ∧ mo ≤ 16 := ⟨V.1.toNat, by simp at hm; omega, by simp at hm; omega, by simp at hm; omega⟩
  obtain ⟨qs, bars, s1, e1, D⟩ := drawn_eq (n + 1) mo hmo1 hmo2 V.2 []
  have hi := D.hi
  have nd := D.asc.nodup
  have e2 := fun h => plans_eq (n + 5) qs bars D.lo (by omega) (by have := D.bl; omega) (fun b mb => by have := (D.bm b mb).2; omega) h
  rw [goodRows_eq] at e2
  have hA0 : goodOf qs bars ≠ [] := fun z => D.good (by rw [goodRows_eq, z]; rfl)
  have hAl : (goodOf qs bars).length ≤ 16 := by
    have := good_lenD D
    rw [goodRows_eq, List.length_map] at this
    exact this
  have hAm : ∀ b ∈ goodOf qs bars, b < 2 ^ qs.length := fun b mb => good_lt mb
  have hAn : (goodOf qs bars).Nodup := List.Nodup.sublist List.filter_sublist List.nodup_range
  have e4 := one_eqG (n + 6) PV.int [1, 3, 3, 5, 7, 39] _ (.inl rfl) (by simp) (by simp) s1 []
  have hN := oneG_mem (ys := [(1 : Int), 3, 3, 5, 7, 39]) (by simp) s1
  generalize oneG [(1 : Int), 3, 3, 5, 7, 39] s1 = W at *
  obtain ⟨N, hNe, hN1, hN2⟩ : ∃ N : Nat, W.1 = (N : Int) ∧ N % 2 = 1 ∧ N ≤ 40 := ⟨W.1.toNat, by simp at hN; omega, by simp at hN; omega, by simp at hN; omega⟩
  obtain ⟨B, s2, e5, hBl, hBm⟩ := ballots_eq (n + 6) qs (goodOf qs bars) hA0 (by omega) N (by omega) W.2 []
  have hB0 : B ≠ [] := by rintro rfl; simp at hBl; omega
  have odd : B.length % 2 = 1 := by omega
  obtain ⟨d, hd, hmaj, M⟩ := maj_num nd B
  have hb : suite (nth f_law.body 1) = .cons (WB 0) (.cons (WB 1) (.cons (WB 2) (.cons (WB 3) (.cons (WB 4) (.cons (WB 5) (.cons (WB 6) (.cons (WB 7) (.cons (WB 8) (.cons (WB 9) .nil))))))))) := rfl
  let A := goodOf qs bars
  let pls (L : List Nat) : PV := .lst (L.map fun k => lotV (planAt qs k))
  have d3 := fun v hv h => alike_eq 5 v hv (n + 3) h
  have d5 := fun a h => law_far_eq (n + 6) qs nd (by omega) a B (by omega) h
  have d6 := fun h => nearest_plans_eq (n + 2) qs bars D B (by omega) (fun b mb => hAm b (hBm b mb)) hA0 h
  have d7 := fun h => law_nearest_eq (n + 5) qs nd (by omega) A B (by simp only [A]; omega) hA0 (by omega) h
  have hNl : (nearL qs.length A B).length ≤ 16 := Nat.le_trans (List.length_filter_le _ _) hAl
  have d8 := fun h => majority_eq (n + 7) qs (by omega) B (by omega) h
  have d9 := fun h => law_majority_eq (n + 7) qs nd (by omega) B hB0 (by omega) h
  have d10 := fun h => is_allowed_eq (n + 2) D d hd h
  have d11 := fun h => in_eq nd hAm hd h
  have d12 := fun h => notin_eq nd hAm hd h
  have d13 := fun h => clashes_eq (n + 6) qs (goodRows qs bars) D.asc (by omega) (by have := good_lenD D; omega) D.good h
  have hCl := leastOf_len qs (goodRows qs bars) (by omega)
  rw [hmaj] at d8 d9
  simp only [show ¬ B.length % 2 = 0 by omega, if_false] at d8
  have q0 : exS (callN pg (n + 8)) lo pg.an (WB 0) [some sc, some (.ref 1), some (.pv (.int (k : Nat))), x3, x4, x5, x6, x7, x8, x9, x10, x11] (rlH [] s) =
      .ok (.nxt [some sc, some (.ref 1), some (.pv (.int (k : Nat))), some (.pv (agV qs bars)), x4, x5, x6, x7, x8, x9, x10, x11]) (rlH [] s1) := by
    have n3 : ∀ h, newL false [.pv (.int 4), .pv (.int 8), .pv (.int 16)] h = .ok (.pv (.lst [.int 4, .int 8, .int 16])) h := fun h => by simp [newL, allPV]
    simp only [List.map_cons, List.map_nil] at e0
    simp [WB, nth, suite, f_law, n3, e0, hmo, e1]
  have q1 : exS (callN pg (n + 8)) lo pg.an (WB 1) [some sc, some (.ref 1), some (.pv (.int (k : Nat))), some (.pv (agV qs bars)), x4, x5, x6, x7, x8, x9, x10, x11] (rlH [] s1) =
      .ok (.nxt [some sc, some (.ref 1), some (.pv (.int (k : Nat))), some (.pv (agV qs bars)), some (.pv (pls A)), x5, x6, x7, x8, x9, x10, x11]) (rlH [] s1) := by
    simp [WB, nth, suite, f_law, e2, pls, A, Function.comp_def]
  have q2 : exS (callN pg (n + 8)) lo pg.an (WB 2) [some sc, some (.ref 1), some (.pv (.int (k : Nat))), some (.pv (agV qs bars)), some (.pv (pls A)), x5, x6, x7, x8, x9, x10, x11] (rlH [] s1) =
      .ok (.nxt [some sc, some (.ref 1), some (.pv (.int (k : Nat))), some (.pv (agV qs bars)), some (.pv (pls A)), some (.pv (bsV qs B)), x6, x7, x8, x9, x10, x11]) (rlH [] s2) := by
    have n8 : ∀ h, newL false [.pv (.int 1), .pv (.int 3), .pv (.int 3), .pv (.int 5), .pv (.int 7), .pv (.int 39)] h = .ok (.pv (.lst [.int 1, .int 3, .int 3, .int 5, .int 7, .int 39])) h := fun h => by simp [newL, allPV]
    have r1 := fun h => rng_nat (n := N) (by omega) h
    simp only [List.map_cons, List.map_nil] at e4
    have hBl2 : B.length ≤ 16777216 := by omega
    simp only [lotV] at e5
    simp [WB, nth, suite, f_law, n8, e4, hNe, r1, pls, A, e5, hBl2]
  have q3 : exS (callN pg (n + 8)) lo pg.an (WB 3) [some sc, some (.ref 1), some (.pv (.int (k : Nat))), some (.pv (agV qs bars)), some (.pv (pls A)), some (.pv (bsV qs B)), x6, x7, x8, x9, x10, x11] (rlH [] s2) =
      .ok (.nxt [some sc, some (.ref 1), some (.pv (.int (k : Nat))), some (.pv (agV qs bars)), some (.pv (pls A)), some (.pv (bsV qs B)), x6, x7, some (.pv (lotV (planAt qs d))), some (.pv (pls (nearL qs.length A B))), x10, x11]) (rlH [] s2) := by
    simp [WB, nth, suite, f_law, pls, d7, d9]
  have q4 : exS (callN pg (n + 8)) lo pg.an (WB 4) [some sc, some (.ref 1), some (.pv (.int (k : Nat))), some (.pv (agV qs bars)), some (.pv (pls A)), some (.pv (bsV qs B)), x6, x7, some (.pv (lotV (planAt qs d))), some (.pv (pls (nearL qs.length A B))), x10, x11] (rlH [] s2) =
      .ok (.nxt [some sc, some (.ref 1), some (.pv (.int (k : Nat))), some (.pv (agV qs bars)), some (.pv (pls A)), some (.pv (bsV qs B)), x6, x7, some (.pv (lotV (planAt qs d))), some (.pv (pls (nearL qs.length A B))), x10, x11]) (rlH [] s2) := by
    have t1 := d3 _ (sm_lot (planAt qs d) (by rw [planAt_len]; omega))
    have t2 := d3 (.bl (decide (d ∈ A))) (by simp [sm])
    simp only [lotV, agV, qsV, bsV] at d8 d10 d11 t1
    simp [-cmp_inL, WB, nth, suite, f_law, pls, d8, d10, d11, t1, t2, A]
  have q5 : exS (callN pg (n + 8)) lo pg.an (WB 5) [some sc, some (.ref 1), some (.pv (.int (k : Nat))), some (.pv (agV qs bars)), some (.pv (pls A)), some (.pv (bsV qs B)), x6, x7, some (.pv (lotV (planAt qs d))), some (.pv (pls (nearL qs.length A B))), x10, x11] (rlH [] s2) =
      .ok (.nxt [some sc, some (.ref 1), some (.pv (.int (k : Nat))), some (.pv (agV qs bars)), some (.pv (pls A)), some (.pv (bsV qs B)), some (.pv (bsV qs (nearL qs.length A B))), x7, some (.pv (lotV (planAt qs d))), some (.pv (pls (nearL qs.length A B))), x10, x11]) (rlH [] s2) := by
    simp [WB, nth, suite, f_law, d6, A]
  have q6 : exS (callN pg (n + 8)) lo pg.an (WB 6) [some sc, some (.ref 1), some (.pv (.int (k : Nat))), some (.pv (agV qs bars)), some (.pv (pls A)), some (.pv (bsV qs B)), some (.pv (bsV qs (nearL qs.length A B))), x7, some (.pv (lotV (planAt qs d))), some (.pv (pls (nearL qs.length A B))), x10, x11] (rlH [] s2) =
      .ok (.nxt [some sc, some (.ref 1), some (.pv (.int (k : Nat))), some (.pv (agV qs bars)), some (.pv (pls A)), some (.pv (bsV qs B)), some (.pv (bsV qs (nearL qs.length A B))), x7, some (.pv (lotV (planAt qs d))), some (.pv (pls (nearL qs.length A B))), x10, x11]) (rlH [] s2) := by
    have h5 := sm_lots ((nearL qs.length A B).map (planAt qs)) (by simp; omega) (fun l ml => by obtain ⟨j, _, rfl⟩ := List.mem_map.mp ml; rw [planAt_len]; omega)
    rw [List.map_map] at h5
    have := d3 _ h5
    have hl : (nearL qs.length A B).length ≤ 16777216 := by omega
    have this2 : ∀ h, callN pg (n + 8) "_law_alike" [.pv (bsV qs (nearL qs.length A B)), .pv (.tup ((nearL qs.length A B).map fun k => PV.tup ((planAt qs k).map fun a => PV.tup [.str a.1, .int a.2])))] h = .ok (.pv (.bl true)) h := fun h => this h
    simp [WB, nth, suite, f_law, pls, hl, this2]
  have q7 : exS (callN pg (n + 8)) lo pg.an (WB 7) [some sc, some (.ref 1), some (.pv (.int (k : Nat))), some (.pv (agV qs bars)), some (.pv (pls A)), some (.pv (bsV qs B)), some (.pv (bsV qs (nearL qs.length A B))), x7, some (.pv (lotV (planAt qs d))), some (.pv (pls (nearL qs.length A B))), x10, x11] (rlH [] s2) =
      .ok (.nxt [some sc, some (.ref 1), some (.pv (.int (k : Nat))), some (.pv (agV qs bars)), some (.pv (pls A)), some (.pv (bsV qs B)), some (.pv (bsV qs (nearL qs.length A B))), x7, some (.pv (lotV (planAt qs d))), some (.pv (pls (nearL qs.length A B))), x10, x11]) (rlH [] s2) := by
    simp only [lotV, bsV] at d5 d11 d12
    by_cases c : d ∈ A
    · have en := near_in M odd hd hAm hAn c
      rw [show nearL qs.length A B = [d] from en]
      have c' : d ∈ goodOf qs bars := c
      simp [-cmp_inL, -cmp_niL, WB, nth, suite, f_law, pls, d11, d12, c', A]
      intro _
      have := pyEq_lot (planAt qs d) (planAt qs d)
      unfold ansV at this
      rw [this]; simp
    · obtain ⟨j, r, en, lt⟩ := near_out M odd hd hAm hA0 c
      rw [show nearL qs.length A B = j :: r from en]
      have c' : d ∉ goodOf qs bars := c
      have lt2 : ¬ far qs.length B j ≤ far qs.length B d := by omega
      simp [-cmp_inL, -cmp_niL, WB, nth, suite, f_law, pls, d11, d12, c', A, d5, lt2]
  have q8 : exS (callN pg (n + 8)) lo pg.an (WB 8) [some sc, some (.ref 1), some (.pv (.int (k : Nat))), some (.pv (agV qs bars)), some (.pv (pls A)), some (.pv (bsV qs B)), some (.pv (bsV qs (nearL qs.length A B))), x7, some (.pv (lotV (planAt qs d))), some (.pv (pls (nearL qs.length A B))), x10, x11] (rlH [] s2) =
      .ok (.nxt [some sc, some (.ref 1), some (.pv (.int (k : Nat))), some (.pv (agV qs bars)), some (.pv (pls A)), some (.pv (bsV qs B)), some (.pv (bsV qs (nearL qs.length A B))), some (.pv (.int (maxL (0 :: (leastOf qs (goodRows qs bars)).map fun l => (l.length : Int))))), some (.pv (lotV (planAt qs d))), some (.pv (pls (nearL qs.length A B))), x10, x11]) (rlH [] s2) := by
    have hCl2 : (leastOf qs (goodRows qs bars)).length ≤ 16777216 := by omega
    have em := fun h => max_lstF (fun x : Int => x) (xs := 0 :: (leastOf qs (goodRows qs bars)).map fun l => (l.length : Int)) (by simp) h
    have eb := fun h => bop_addL h [.int 0] ((leastOf qs (goodRows qs bars)).map fun l => PV.int (l.length : Int)) (by simp; omega)
    rw [goodRows_eq] at d13
    rw [goodRows_eq] at hCl hCl2 em eb
    simp only [List.map_cons, List.map_map, Function.comp_def, List.map_id'] at em d13
    simp only [List.singleton_append] at eb
    simp only [lotV] at d13
    simp [WB, nth, suite, f_law, pls, A, d13, hCl2, eb, em, goodRows_eq]
  have q9 : exS (callN pg (n + 8)) lo pg.an (WB 9) [some sc, some (.ref 1), some (.pv (.int (k : Nat))), some (.pv (agV qs bars)), some (.pv (pls A)), some (.pv (bsV qs B)), some (.pv (bsV qs (nearL qs.length A B))), some (.pv (.int (maxL (0 :: (leastOf qs (goodRows qs bars)).map fun l => (l.length : Int))))), some (.pv (lotV (planAt qs d))), some (.pv (pls (nearL qs.length A B))), x10, x11] (rlH [] s2) =
      .ok (.nxt [some sc, some (.ref 1), some (.pv (.int (k : Nat))), some (.pv (agV qs bars)), some (.pv (pls A)), some (.pv (bsV qs B)), some (.pv (bsV qs (nearL qs.length A B))), some (.pv (.int (maxL (0 :: (leastOf qs (goodRows qs bars)).map fun l => (l.length : Int))))), some (.pv (lotV (planAt qs d))), some (.pv (pls (nearL qs.length A B))), x10, x11]) (rlH [] s2) := by
    simp only [lotV] at d12
    by_cases c : maxL (0 :: (leastOf qs (goodRows qs bars)).map fun l => (l.length : Int)) ≤ 2
    · have c' : d ∈ goodOf qs bars := by
        refine Classical.byContradiction fun z => ?_
        obtain ⟨l, ml, h3⟩ := clash3 D hBm odd M hd z
        have := maxL_ge (xs := 0 :: (leastOf qs (goodRows qs bars)).map fun l => (l.length : Int)) (List.mem_cons_of_mem _ (List.mem_map.mpr ⟨l, ml, rfl⟩))
        omega
      simp [-cmp_niL, WB, nth, suite, f_law, pls, A, c, d12, c']
    · simp [WB, nth, suite, f_law, c]
  have fin : exSs (callN pg (n + 8)) lo pg.an (suite (nth f_law.body 1)) [some sc, some (.ref 1), some (.pv (.int (k : Nat))), x3, x4, x5, x6, x7, x8, x9, x10, x11] (rlH [] s) =
      .ok (.nxt [some sc, some (.ref 1), some (.pv (.int (k : Nat))), some (.pv (agV qs bars)), some (.pv (pls A)), some (.pv (bsV qs B)), some (.pv (bsV qs (nearL qs.length A B))), some (.pv (.int (maxL (0 :: (leastOf qs (goodRows qs bars)).map fun l => (l.length : Int))))), some (.pv (lotV (planAt qs d))), some (.pv (pls (nearL qs.length A B))), x10, x11]) (rlH [] s2) := by
    rw [hb, xs_cons, q0, SO.next_nxt, xs_cons, q1, SO.next_nxt, xs_cons, q2, SO.next_nxt, xs_cons, q3, SO.next_nxt, xs_cons, q4, SO.next_nxt, xs_cons, q5, SO.next_nxt, xs_cons, q6, SO.next_nxt, xs_cons, q7, SO.next_nxt, xs_cons, q8, SO.next_nxt, xs_cons, q9, SO.next_nxt, xs_nil]
  exact ⟨s2, _, _, _, _, _, _, _, _, _, fin⟩
theorem law_eq (n : Nat) (ns : List Int) (hn : ns.length ≤ 63) : ∃ h', callN pg (n + 9) "law" [.pv (.lst (ns.map PV.int))] [] = .ok (.pv (.bl true)) h' := by
  rw [call_eq g_law]
  obtain ⟨s0, e0⟩ := reel_eq (n + 7) ns hn
  have r3 : ∀ h, rngR [.pv (.int 4)] h = .ok ((List.range 4).map fun (k : Nat) => .pv (.int (k : Nat))) h := rng_nat (n := 4) (by decide)
  have hb : f_law.body = .cons (nth f_law.body 0) (.cons (.for_ (.nm 2) (.rng (.cons (.cst (.int 4)) .nil)) (suite (nth f_law.body 1))) (.cons (.ret (.cst (.bl true))) .nil)) := rfl
  have ha : ([RV.pv (.lst (ns.map PV.int))].map some ++ List.replicate (f_law.ns - f_law.np) none) = [some (.pv (.lst (ns.map PV.int))), none, none, none, none, none, none, none, none, none, none, none] := rfl
  have q0 : exS (callN pg (n + 8)) 0 pg.an (nth f_law.body 0) [some (.pv (.lst (ns.map PV.int))), none, none, none, none, none, none, none, none, none, none, none] [] =
      .ok (.nxt [some (.pv (.lst (ns.map PV.int))), some (.ref 1), none, none, none, none, none, none, none, none, none, none]) (rlH [] s0) := by
    simp [nth, f_law, e0]
  unfold runFn
  rw [hb, ha, if_pos (by rfl), xs_cons]
  show ∃ h', SO.fin f_law.keep 0 (SO.next (exS (callN pg (n + 8)) 0 pg.an _ _ _) _) = _
  rw [q0, SO.next_nxt, xs_cons, x_for]
  simp only [ei_rng, es_cons', es_nil', e_cst, Out.bind_ok, r3, SO.ofE_ok]
  generalize hF : forL _ _ _ _ _ = F
  obtain ⟨ρ', h', ⟨s1, x2, y3, y4, y5, y6, y7, y8, y9, y10, y11, rfl, rfl⟩, rfl⟩ := for_invH hF (fun p ρ h => ∃ (s : Rl) (x2 y3 y4 y5 y6 y7 y8 y9 y10 y11 : Option RV), ρ = [some (.pv (.lst (ns.map PV.int))), some (.ref 1), x2, y3, y4, y5, y6, y7, y8, y9, y10, y11] ∧ h = rlH [] s)
    ⟨s0, none, none, none, none, none, none, none, none, none, none, rfl, rfl⟩ (by
    rintro p k r ρ h e ⟨s, x2, x3, x4, x5, x6, x7, x8, x9, x10, x11, rfl, rfl⟩
    obtain ⟨s', y3, y4, y5, y6, y7, y8, y9, y10, y11, e'⟩ := turn_eq n 0 k (.pv (.lst (ns.map PV.int))) x3 x4 x5 x6 x7 x8 x9 x10 x11 s
    exact ⟨_, _, rlH [] s', rfl, ⟨s', some (.pv (.int (k : Nat))), y3, y4, y5, y6, y7, y8, y9, y10, y11, rfl, rfl⟩, .inl e'⟩)
  simp [f_law]
end D.k64

set_option Elab.async false
set_option linter.all false
set_option maxRecDepth 100000
/-! Fd2: how pure values and the abstract heap lie in the layer's heap. -/
namespace D
open PySem PySem.Spec L2

theorem okS_iff {s : List Nat} : okS s = true ↔ s.length ≤ line ∧ ∀ c ∈ s, c < 0x110000 := by simp [okS]
abbrev sOf (s : List Nat) : Str := ⟨s.toArray⟩

/-- what is fixed through the law -/
structure Gm where
  K : PySem.W.Frag
  cl : String → Option Addr
  tabs : List Addr
  /-- lists that a comprehension is just making -/
  hid : List Addr
/-- without them -/
def Gm.base (G : Gm) : Gm := { G with hid := [] }

/-- W: what may still be written -/
abbrev Wr := Addr → Prop

/-- a tuple's own object, without a dict -/
def TupAt (H : Hp) (a : Addr) (vs : List V) : Prop := ∃ o : Obj, H a = some (.frz o (.tup vs)) ∧ o.dict = none
theorem TupAt.rd {H : Hp} {a : Addr} {vs : List V} (t : TupAt H a vs) : Rd H a (.tup vs) := let ⟨o, e, _⟩ := t; .inr ⟨o, e⟩

/-- a key -/
inductive KRel : PV → Key → Prop
  | int (i : Int) : KRel (.int i) (.inl i)
  | str (s : List Nat) : okS s = true → KRel (.str s) (.inr (sOf s))

mutual
inductive PRel (G : Gm) (H : Hp) (W : Wr) : PV → V → Prop
  | non : PRel G H W .non .non
  | bl (b : Bool) : PRel G H W (.bl b) (.bl b)
  | int (i : Int) : PRel G H W (.int i) (.int i)
  | str (s : List Nat) : okS s = true → PRel G H W (.str s) (.str (sOf s))
  | tup {a : Addr} {xs : List PV} {vs : List V} : TupAt H a vs → ¬ W a → xs.length ≤ line → PRels G H W xs vs → PRel G H W (.tup xs) (.ref a)
  | lst {a : Addr} {xs : List PV} {vs : List V} : Rd H a (.lst vs) → ¬ W a → xs.length ≤ line → PRels G H W xs vs → PRel G H W (.lst xs) (.ref a)
  | obj {a C dx : Addr} {c : String} {fs : List (String × PV)} {gs : List (Str × V)} : G.cl c = some C → H a = some (.ins C dx gs) → ¬ W a → PRelF G H W fs gs → PRel G H W (.obj c fs) (.ref a)
  | dct {a : Addr} {o : Obj} {kvs : List (PV × PV)} {ks : List (Key × V)} : H a = some (.frz o (.dK ks)) → ¬ W a → PRelD G H W kvs ks → PRel G H W (.dct kvs) (.ref a)
inductive PRels (G : Gm) (H : Hp) (W : Wr) : List PV → List V → Prop
  | nil : PRels G H W [] []
  | cons {x : PV} {v : V} {xs : List PV} {vs : List V} : PRel G H W x v → PRels G H W xs vs → PRels G H W (x :: xs) (v :: vs)
inductive PRelF (G : Gm) (H : Hp) (W : Wr) : List (String × PV) → List (Str × V) → Prop
  | nil : PRelF G H W [] []
  | cons {n : String} {x : PV} {v : V} {fs : List (String × PV)} {gs : List (Str × V)} : PRel G H W x v → PRelF G H W fs gs → PRelF G H W ((n, x) :: fs) ((Str.ofString n, v) :: gs)
inductive PRelD (G : Gm) (H : Hp) (W : Wr) : List (PV × PV) → List (Key × V) → Prop
  | nil : PRelD G H W [] []
  | cons {k x : PV} {j : Key} {v : V} {fs : List (PV × PV)} {gs : List (Key × V)} : KRel k j → PRel G H W x v → PRelD G H W fs gs → PRelD G H W ((k, x) :: fs) ((j, v) :: gs)
end

/-- the heap grows: what nobody writes stays -/
structure Grow (H : Hp) (W : Wr) (H' : Hp) (W' : Wr) : Prop where
  kept : ∀ a o, H a = some o → ¬ W a → H' a = some o
  new : ∀ a, W' a → W a ∨ H a = none
theorem Grow.refl {H : Hp} {W : Wr} : Grow H W H W := ⟨fun _ _ e _ => e, fun _ w => .inl w⟩
theorem Grow.trans {H H1 H2 : Hp} {W W1 W2 : Wr} (a : Grow H W H1 W1) (b : Grow H1 W1 H2 W2) : Grow H W H2 W2 := by
  have nw : ∀ x o, H x = some o → ¬ W x → ¬ W1 x := fun x o e w z => by
    rcases a.new x z with q | q
    · exact w q
    · rw [e] at q; cases q
  refine ⟨fun x o e w => b.kept x o (a.kept x o e w) (nw x o e w), fun x z => ?_⟩
  rcases b.new x z with q | q
  · exact a.new x q
  · by_cases w : W x
    · exact .inl w
    · cases e : H x with
      | none => exact .inr rfl
      | some o => rw [a.kept x o e w] at q; cases q
theorem Grow.still {H H' : Hp} {W W' : Wr} (g : Grow H W H' W') {a : Addr} {o : HO} (e : H a = some o) (w : ¬ W a) : ¬ W' a := fun z => by
  rcases g.new a z with q | q
  · exact w q
  · rw [e] at q; cases q
theorem Grow.rd {H H' : Hp} {W W' : Wr} (g : Grow H W H' W') {a : Addr} {u : HO} (r : Rd H a u) (w : ¬ W a) : Rd H' a u ∧ ¬ W' a := by
  rcases r with e | ⟨o, e⟩
  · exact ⟨.inl (g.kept a _ e w), g.still e w⟩
  · exact ⟨.inr ⟨o, g.kept a _ e w⟩, g.still e w⟩
theorem Grow.tup {H H' : Hp} {W W' : Wr} (g : Grow H W H' W') {a : Addr} {vs : List V} (r : TupAt H a vs) (w : ¬ W a) : TupAt H' a vs ∧ ¬ W' a :=
  let ⟨o, e, d⟩ := r; ⟨⟨o, g.kept a _ e w, d⟩, g.still e w⟩

mutual
theorem PRel.grow {G : Gm} {H H' : Hp} {W W' : Wr} (g : Grow H W H' W') : ∀ {x : PV} {v : V}, PRel G H W x v → PRel G H' W' x v
  | _, _, .non => .non
  | _, _, .bl b => .bl b
  | _, _, .int i => .int i
  | _, _, .str s l => .str s l
  | _, _, .tup r w l rs => .tup (g.tup r w).1 (g.tup r w).2 l (PRels.grow g rs)
  | _, _, .lst r w l rs => .lst (g.rd r w).1 (g.rd r w).2 l (PRels.grow g rs)
  | _, _, .obj c e w rs => .obj c (g.kept _ _ e w) (g.still e w) (PRelF.grow g rs)
  | _, _, .dct e w rs => .dct (g.kept _ _ e w) (g.still e w) (PRelD.grow g rs)
theorem PRels.grow {G : Gm} {H H' : Hp} {W W' : Wr} (g : Grow H W H' W') : ∀ {xs : List PV} {vs : List V}, PRels G H W xs vs → PRels G H' W' xs vs
  | _, _, .nil => .nil
  | _, _, .cons r rs => .cons (PRel.grow g r) (PRels.grow g rs)
theorem PRelF.grow {G : Gm} {H H' : Hp} {W W' : Wr} (g : Grow H W H' W') : ∀ {fs : List (String × PV)} {gs : List (Str × V)}, PRelF G H W fs gs → PRelF G H' W' fs gs
  | _, _, .nil => .nil
  | _, _, .cons r rs => .cons (PRel.grow g r) (PRelF.grow g rs)
theorem PRelD.grow {G : Gm} {H H' : Hp} {W W' : Wr} (g : Grow H W H' W') : ∀ {xs : List (PV × PV)} {vs : List (Key × V)}, PRelD G H W xs vs → PRelD G H' W' xs vs
  | _, _, .nil => .nil
  | _, _, .cons k r rs => .cons k (PRel.grow g r) (PRelD.grow g rs)
end

theorem PRels.length {G : Gm} {H : Hp} {W : Wr} : ∀ {xs : List PV} {vs : List V}, PRels G H W xs vs → xs.length = vs.length
  | _, _, .nil => rfl
  | _, _, .cons _ rs => by simp [PRels.length rs]
theorem PRels.get {G : Gm} {H : Hp} {W : Wr} : ∀ {xs : List PV} {vs : List V} {i : Nat} {x : PV}, PRels G H W xs vs → xs[i]? = some x → ∃ v, vs[i]? = some v ∧ PRel G H W x v
  | _, _, _, _, .nil, e => by simp at e
  | _, _, 0, _, .cons r _, e => by simp at e; subst e; exact ⟨_, rfl, r⟩
  | _, _, i + 1, x, .cons _ rs, e => by
    obtain ⟨v, h1, h2⟩ := PRels.get (i := i) (x := x) rs (by simpa using e)
    exact ⟨v, by simpa using h1, h2⟩

/-! ### places -/
/-- a value as it runs: μ, where the places lie -/
inductive RRel (G : Gm) (μ : List Addr) (H : Hp) (W : Wr) : RV → V → Prop
  | pv {x : PV} {v : V} : PRel G H W x v → RRel G μ H W (.pv x) v
  | ref {p : Nat} {a : Addr} : μ[p]? = some a → RRel G μ H W (.ref p) (.ref a)
inductive RRels (G : Gm) (μ : List Addr) (H : Hp) (W : Wr) : List RV → List V → Prop
  | nil : RRels G μ H W [] []
  | cons {x : RV} {v : V} {xs : List RV} {vs : List V} : RRel G μ H W x v → RRels G μ H W xs vs → RRels G μ H W (x :: xs) (v :: vs)
inductive RRelF (G : Gm) (μ : List Addr) (H : Hp) (W : Wr) : List (String × RV) → List (Str × V) → Prop
  | nil : RRelF G μ H W [] []
  | cons {n : String} {x : RV} {v : V} {fs : List (String × RV)} {gs : List (Str × V)} : RRel G μ H W x v → RRelF G μ H W fs gs → RRelF G μ H W ((n, x) :: fs) ((Str.ofString n, v) :: gs)
inductive RRelD (G : Gm) (μ : List Addr) (H : Hp) (W : Wr) : List (PV × RV) → List (Key × V) → Prop
  | nil : RRelD G μ H W [] []
  | cons {k : PV} {x : RV} {j : Key} {v : V} {fs : List (PV × RV)} {gs : List (Key × V)} : KRel k j → RRel G μ H W x v → RRelD G μ H W fs gs → RRelD G μ H W ((k, x) :: fs) ((j, v) :: gs)
/-- the slots -/
inductive ERelS (G : Gm) (μ : List Addr) (H : Hp) (W : Wr) : Env → L2.St → Prop
  | nil : ERelS G μ H W [] []
  | un {ρ : Env} {σ : L2.St} {v : Option V} : ERelS G μ H W ρ σ → ERelS G μ H W (none :: ρ) (v :: σ)
  | ok {x : RV} {v : V} {ρ : Env} {σ : L2.St} : RRel G μ H W x v → ERelS G μ H W ρ σ → ERelS G μ H W (some x :: ρ) (some v :: σ)

section
variable {G : Gm} {μ μ' : List Addr} {H H' : Hp} {W W' : Wr}
theorem RRel.grow (g : Grow H W H' W') (m : μ <+: μ') : ∀ {x : RV} {v : V}, RRel G μ H W x v → RRel G μ' H' W' x v
  | _, _, .pv r => .pv (r.grow g)
  | _, _, .ref e => .ref (by
      obtain ⟨t, rfl⟩ := m
      rw [List.getElem?_append_left (List.getElem?_eq_some_iff.mp e).1]; exact e)
theorem RRels.grow (g : Grow H W H' W') (m : μ <+: μ') : ∀ {xs : List RV} {vs : List V}, RRels G μ H W xs vs → RRels G μ' H' W' xs vs
  | _, _, .nil => .nil
  | _, _, .cons r rs => .cons (r.grow g m) (RRels.grow g m rs)
theorem RRelF.grow (g : Grow H W H' W') (m : μ <+: μ') : ∀ {fs : List (String × RV)} {gs : List (Str × V)}, RRelF G μ H W fs gs → RRelF G μ' H' W' fs gs
  | _, _, .nil => .nil
  | _, _, .cons r rs => .cons (r.grow g m) (RRelF.grow g m rs)
theorem RRelD.grow (g : Grow H W H' W') (m : μ <+: μ') : ∀ {xs : List (PV × RV)} {vs : List (Key × V)}, RRelD G μ H W xs vs → RRelD G μ' H' W' xs vs
  | _, _, .nil => .nil
  | _, _, .cons k r rs => .cons k (r.grow g m) (RRelD.grow g m rs)
theorem ERelS.grow (g : Grow H W H' W') (m : μ <+: μ') : ∀ {ρ : Env} {σ : L2.St}, ERelS G μ H W ρ σ → ERelS G μ' H' W' ρ σ
  | _, _, .nil => .nil
  | _, _, .un rs => .un (ERelS.grow g m rs)
  | _, _, .ok r rs => .ok (r.grow g m) (ERelS.grow g m rs)
theorem RRel.bl_inv {b : Bool} {x : V} (r : RRel G μ H W (.pv (.bl b)) x) : x = .bl b := by
  cases r with
  | pv r => cases r; rfl
theorem RRel.int_inv {b : Int} {x : V} (r : RRel G μ H W (.pv (.int b)) x) : x = .int b := by
  cases r with
  | pv r => cases r; rfl
theorem RRel.non_inv {x : V} (r : RRel G μ H W (.pv .non) x) : x = .non := by
  cases r with
  | pv r => cases r; rfl
theorem RRel.str_inv {s : List Nat} {x : V} (r : RRel G μ H W (.pv (.str s)) x) : x = .str (sOf s) ∧ okS s = true := by
  cases r with
  | pv r => cases r with
    | str _ h => exact ⟨rfl, h⟩
theorem RRels.length : ∀ {xs : List RV} {vs : List V}, RRels G μ H W xs vs → xs.length = vs.length
  | _, _, .nil => rfl
  | _, _, .cons _ rs => by simp [RRels.length rs]
theorem RRels.get : ∀ {xs : List RV} {vs : List V} {i : Nat} {x : RV}, RRels G μ H W xs vs → xs[i]? = some x → ∃ v, vs[i]? = some v ∧ RRel G μ H W x v
  | _, _, _, _, .nil, e => by simp at e
  | _, _, 0, _, .cons r _, e => by simp at e; subst e; exact ⟨_, rfl, r⟩
  | _, _, i + 1, x, .cons _ rs, e => by
    obtain ⟨v, h1, h2⟩ := RRels.get (i := i) (x := x) rs (by simpa using e)
    exact ⟨v, by simpa using h1, h2⟩
theorem RRels.append : ∀ {xs ys : List RV} {vs ws : List V}, RRels G μ H W xs vs → RRels G μ H W ys ws → RRels G μ H W (xs ++ ys) (vs ++ ws)
  | _, _, _, _, .nil, s => s
  | _, _, _, _, .cons r rs, s => .cons r (RRels.append rs s)
theorem RRels.take : ∀ {xs : List RV} {vs : List V} (n : Nat), RRels G μ H W xs vs → RRels G μ H W (xs.take n) (vs.take n)
  | _, _, 0, _ => .nil
  | _, _, _ + 1, .nil => .nil
  | _, _, n + 1, .cons r rs => .cons r (RRels.take n rs)
theorem RRels.drop : ∀ {xs : List RV} {vs : List V} (n : Nat), RRels G μ H W xs vs → RRels G μ H W (xs.drop n) (vs.drop n)
  | _, _, 0, r => r
  | _, _, _ + 1, .nil => .nil
  | _, _, n + 1, .cons _ rs => RRels.drop n rs
theorem RRels.set {x : RV} {v : V} (r : RRel G μ H W x v) : ∀ {xs : List RV} {vs : List V} (i : Nat), RRels G μ H W xs vs → RRels G μ H W (xs.set i x) (vs.set i v)
  | _, _, _, .nil => .nil
  | _, _, 0, .cons _ rs => .cons r rs
  | _, _, i + 1, .cons q rs => .cons q (RRels.set r i rs)
theorem RRels.eraseIdx : ∀ {xs : List RV} {vs : List V} (i : Nat), RRels G μ H W xs vs → RRels G μ H W (xs.eraseIdx i) (vs.eraseIdx i)
  | _, _, _, .nil => .nil
  | _, _, 0, .cons _ rs => rs
  | _, _, i + 1, .cons q rs => .cons q (RRels.eraseIdx i rs)
theorem RRels.dropLast : ∀ {xs : List RV} {vs : List V}, RRels G μ H W xs vs → RRels G μ H W xs.dropLast vs.dropLast
  | _, _, .nil => .nil
  | _, _, .cons _ .nil => .nil
  | _, _, .cons r (.cons q rs) => .cons r (RRels.dropLast (.cons q rs))
theorem RRels.rep {xs : List RV} {vs : List V} (r : RRels G μ H W xs vs) : ∀ n : Nat, RRels G μ H W (rep n xs) (List.replicate n vs).flatten
  | 0 => .nil
  | n + 1 => by
    unfold D.rep
    rw [List.replicate_succ, List.replicate_succ, List.flatten_cons, List.flatten_cons]
    exact r.append (RRels.rep r n)
theorem PRels.toR : ∀ {xs : List PV} {vs : List V}, PRels G H W xs vs → RRels G μ H W (xs.map .pv) vs
  | _, _, .nil => .nil
  | _, _, .cons r rs => .cons (.pv r) (PRels.toR rs)
theorem RRels.toP : ∀ {xs : List PV} {vs : List V}, RRels G μ H W (xs.map .pv) vs → PRels G H W xs vs
  | [], _, r => by cases r; exact .nil
  | x :: xs, _, r => by
    cases r with
    | cons a b => cases a with | pv a => exact .cons a (RRels.toP b)
theorem PRelF.toR : ∀ {fs : List (String × PV)} {gs : List (Str × V)}, PRelF G H W fs gs → RRelF G μ H W (fs.map fun p => (p.1, .pv p.2)) gs
  | _, _, .nil => .nil
  | _, _, .cons r rs => .cons (.pv r) (PRelF.toR rs)
theorem PRelD.toR : ∀ {fs : List (PV × PV)} {gs : List (Key × V)}, PRelD G H W fs gs → RRelD G μ H W (fs.map fun p => (p.1, .pv p.2)) gs
  | _, _, .nil => .nil
  | _, _, .cons k r rs => .cons k (.pv r) (PRelD.toR rs)
theorem RRelD.toP : ∀ {fs : List (PV × RV)} {ys : List (PV × PV)} {gs : List (Key × V)}, dctPV fs = some ys → RRelD G μ H W fs gs → PRelD G H W ys gs
  | _, _, _, e, .nil => by simp [dctPV] at e; subst e; exact .nil
  | (k, .pv x) :: fs, ys, _, e, .cons j r rs => by
    simp only [dctPV, Option.map_eq_some_iff] at e
    obtain ⟨zs, e1, e2⟩ := e
    subst e2
    cases r with
    | pv r => exact .cons j r (RRelD.toP e1 rs)
  | (k, .ref p) :: fs, ys, _, e, .cons j r rs => by simp [dctPV] at e
theorem ERelS.get : ∀ {ρ : Env} {σ : L2.St} {i : Nat} {x : RV}, ERelS G μ H W ρ σ → getV ρ i = some x → ∃ v, σ[i]? = some (some v) ∧ RRel G μ H W x v
  | _, _, _, _, .nil, e => by simp [getV] at e
  | _, _, 0, _, .un _, e => by simp [getV] at e
  | _, _, 0, _, .ok r _, e => by simp [getV] at e; subst e; exact ⟨_, rfl, r⟩
  | _, _, i + 1, x, .un rs, e => by
    obtain ⟨v, h1, h2⟩ := ERelS.get (i := i) (x := x) rs (by simpa [getV] using e)
    exact ⟨v, by simpa using h1, h2⟩
  | _, _, i + 1, x, .ok _ rs, e => by
    obtain ⟨v, h1, h2⟩ := ERelS.get (i := i) (x := x) rs (by simpa [getV] using e)
    exact ⟨v, by simpa using h1, h2⟩
theorem ERelS.set {x : RV} {v : V} (r : RRel G μ H W x v) : ∀ {ρ : Env} {σ : L2.St} (i : Nat), ERelS G μ H W ρ σ → ERelS G μ H W (ρ.set i (some x)) (σ.set i (some v))
  | _, _, _, .nil => .nil
  | _, _, 0, .un rs => .ok r rs
  | _, _, 0, .ok _ rs => .ok r rs
  | _, _, i + 1, .un rs => .un (ERelS.set r i rs)
  | _, _, i + 1, .ok q rs => .ok q (ERelS.set r i rs)
theorem ERelS.unset : ∀ {ρ : Env} {σ : L2.St} (i : Nat) (w : Option V), ERelS G μ H W ρ σ → ERelS G μ H W (ρ.set i none) (σ.set i w)
  | _, _, _, _, .nil => .nil
  | _, _, 0, _, .un rs => .un rs
  | _, _, 0, _, .ok _ rs => .un rs
  | _, _, i + 1, w, .un rs => .un (ERelS.unset i w rs)
  | _, _, i + 1, w, .ok q rs => .ok q (ERelS.unset i w rs)
theorem ERelS.wipe {ρ : Env} {σ : L2.St} (r : ERelS G μ H W ρ σ) : ∀ vs : List Nat, ERelS G μ H W (D.wipe ρ vs) (L2.wipe σ vs)
  | [] => r
  | v :: vs => (ERelS.wipe r vs).unset v none
theorem ERelS.length : ∀ {ρ : Env} {σ : L2.St}, ERelS G μ H W ρ σ → ρ.length = σ.length
  | _, _, .nil => rfl
  | _, _, .un rs => by simp [ERelS.length rs]
  | _, _, .ok _ rs => by simp [ERelS.length rs]
end

/-! ### the heap -/
/-- places that an object names -/
def RV.refs : RV → List Nat
  | .pv _ => []
  | .ref p => [p]
def AO.refs : AO → List Nat
  | .lst xs => xs.flatMap RV.refs
  | .obj _ fs => fs.flatMap fun p => p.2.refs
  | .dct kvs => kvs.flatMap fun p => p.2.refs
  | .dead => []

def ORel (G : Gm) (μ : List Addr) (H : Hp) (W : Wr) : AO → Addr → Prop
  | .lst xs, a => ∃ vs, H a = some (.lst vs) ∧ RRels G μ H W xs vs
  | .obj c fs, a => ∃ C dx gs, G.cl c = some C ∧ H a = some (.ins C dx gs) ∧ RRelF G μ H W fs gs
  | .dct kvs, a => ∃ ks, H a = some (.dK ks) ∧ RRelD G μ H W kvs ks
  | .dead, a => ∃ u, H a = some u

/-- what is still written: the places that live, the tables of code objects -/
def wr (G : Gm) (μ : List Addr) (h : AH) : Wr := fun a => (a ∈ G.tabs ∨ a ∈ G.hid) ∨ ∃ (p : Nat) (o : AO), μ[p]? = some a ∧ h[p]? = some o ∧ o ≠ .dead

/-- the heap of a def that began at h0 with its own places from lo on -/
structure Rep (G : Gm) (lo : Nat) (h0 : AH) (μ : List Addr) (h : AH) (H : Hp) : Prop where
  len : μ.length = h.length
  nd : μ.Nodup
  tab : ∀ t ∈ G.tabs, (∃ ps : Array Value, H t = some (.tbl ps) ∧ TriplesOk ps.toList) ∧ t ∉ μ
  hid : ∀ t ∈ G.hid, (∃ vs, H t = some (.lst vs)) ∧ t ∉ μ
  obj : ∀ (p : Nat) (o : AO) (a : Addr), h[p]? = some o → μ[p]? = some a → ORel G μ H (wr G μ h) o a
  le : lo ≤ h.length
  since : ∀ (p : Nat) (o : AO), p < lo → h[p]? = some o → ∃ o0, h0[p]? = some o0 ∧ ∀ q ∈ o.refs, q ∈ o0.refs
  shut : ∀ (p : Nat) (o : AO), p < lo → h0[p]? = some o → ∀ q ∈ o.refs, q < lo

/-- from one heap to a later one -/
structure Ext (G : Gm) (μ : List Addr) (h : AH) (H : Hp) (μ' : List Addr) (h' : AH) (H' : Hp) : Prop where
  pre : μ <+: μ'
  grow : Grow H (wr G μ h) H' (wr G μ' h')
  hid : ∀ a ∈ G.hid, ∀ o, H a = some o → H' a = some o
theorem Ext.refl {G : Gm} {μ : List Addr} {h : AH} {H : Hp} : Ext G μ h H μ h H := ⟨List.prefix_rfl, .refl, fun _ _ _ e => e⟩
theorem Ext.trans {G : Gm} {μ μ1 μ2 : List Addr} {h h1 h2 : AH} {H H1 H2 : Hp} (a : Ext G μ h H μ1 h1 H1) (b : Ext G μ1 h1 H1 μ2 h2 H2) : Ext G μ h H μ2 h2 H2 :=
  ⟨a.pre.trans b.pre, a.grow.trans b.grow, fun x hx o e => b.hid x hx o (a.hid x hx o e)⟩
/-- what is shut is there -/
theorem Rep.aux {G : Gm} {lo : Nat} {h0 : AH} {μ : List Addr} {h : AH} {H : Hp} (r : Rep G lo h0 μ h H) {a : Addr} (w : a ∈ G.tabs ∨ a ∈ G.hid) : (∃ u, H a = some u) ∧ a ∉ μ := by
  rcases w with w | w
  · obtain ⟨⟨ps, e, _⟩, n⟩ := r.tab a w
    exact ⟨⟨_, e⟩, n⟩
  · obtain ⟨⟨ps, e⟩, n⟩ := r.hid a w
    exact ⟨⟨_, e⟩, n⟩
end D

set_option Elab.async false
set_option linter.all false
set_option maxRecDepth 100000
/-! Fd3: readings of the evaluator's answers; the first rules. -/
namespace D
open PySem PySem.Spec L2


/-- what is fixed through a def's run -/
structure Fx where
  G : Gm
  lo : Nat
  h0 : AH
abbrev Fx.R (F : Fx) : List Addr → AH → Hp → Prop := Rep F.G F.lo F.h0
abbrev Fx.E (F : Fx) : List Addr → AH → Hp → List Addr → AH → Hp → Prop := Ext F.G
abbrev Fx.v1 (F : Fx) (μ : List Addr) (h : AH) (H : Hp) : RV → V → Prop := RRel F.G μ H (wr F.G μ h)
abbrev Fx.v2 (F : Fx) (μ : List Addr) (h : AH) (H : Hp) : List RV → List V → Prop := RRels F.G μ H (wr F.G μ h)
abbrev Fx.s1 (F : Fx) (μ : List Addr) (h : AH) (H : Hp) : Env → L2.St → Prop := ERelS F.G μ H (wr F.G μ h)

/-- how an exception lies -/
def XRel (cx : String → Option Addr) (G : Gm) (H : Hp) (W : Wr) (e : ExcV) (cls : Value) (d : Option Addr) : Prop :=
  ∃ C, cx e.cls = some C ∧ cls = .ref C ∧ ((e.fs = [] ∧ d = none) ∨ ∃ dx gs, e.fs ≠ [] ∧ d = some dx ∧ H dx = some (.xd gs) ∧ ¬ W dx ∧ PRelF G H W e.fs gs)

/-- an answer's reading -/
def Fin {α : Type} (F : Fx) (μ : List Addr) (h : AH) (H : Hp) (o : Out α) (K : α → AH → List Addr → Hp → Prop) (X : ExcV → AH → List Addr → Hp → Prop) : Prop :=
  match o with
  | .ok a h' => ∀ μ' H', F.E μ h H μ' h' H' → F.R μ' h' H' → K a h' μ' H'
  | .exc e h' => ∀ μ' H', F.E μ h H μ' h' H' → F.R μ' h' H' → X e h' μ' H'
  | .bad => False

theorem Fin.bind {α β : Type} {F : Fx} {μ : List Addr} {h : AH} {H : Hp} {o : Out α} {f : α → AH → Out β} {K : β → AH → List Addr → Hp → Prop} {X : ExcV → AH → List Addr → Hp → Prop}
    (x : Fin F μ h H (o.bind f) K X) : Fin F μ h H o (fun a h1 μ1 H1 => Fin F μ1 h1 H1 (f a h1) K X) X := by
  cases o with
  | ok a h1 =>
    intro μ1 H1 e1 r1
    have x : Fin F μ h H (f a h1) K X := x
    show Fin F μ1 h1 H1 (f a h1) K X
    cases q : f a h1 with
    | ok b h2 =>
      rw [q] at x
      intro μ2 H2 e2 r2
      exact x μ2 H2 (e1.trans e2) r2
    | exc e h2 =>
      rw [q] at x
      intro μ2 H2 e2 r2
      exact x μ2 H2 (e1.trans e2) r2
    | bad => rw [q] at x; exact x
  | exc e h1 => exact x
  | bad => exact x
theorem Fin.mono {α : Type} {F : Fx} {μ : List Addr} {h : AH} {H : Hp} {o : Out α} {K K' : α → AH → List Addr → Hp → Prop} {X X' : ExcV → AH → List Addr → Hp → Prop}
    (x : Fin F μ h H o K X) (k : ∀ a h' μ' H', F.E μ h H μ' h' H' → F.R μ' h' H' → K a h' μ' H' → K' a h' μ' H') (kx : ∀ e h' μ' H', F.E μ h H μ' h' H' → F.R μ' h' H' → X e h' μ' H' → X' e h' μ' H') : Fin F μ h H o K' X' := by
  cases o with
  | ok a h1 => intro μ' H' e r; exact k _ _ _ _ e r (x μ' H' e r)
  | exc e h1 => intro μ' H' e r; exact kx _ _ _ _ e r (x μ' H' e r)
  | bad => exact x
theorem Fin.at {α : Type} {F : Fx} {μ : List Addr} {h h' : AH} {H : Hp} {a : α} {K : α → AH → List Addr → Hp → Prop} {X : ExcV → AH → List Addr → Hp → Prop}
    (x : Fin F μ h H (.ok a h') K X) {μ' : List Addr} {H' : Hp} (e : F.E μ h H μ' h' H') (r : F.R μ' h' H') : K a h' μ' H' := x μ' H' e r
theorem Fin.here {α : Type} {F : Fx} {μ : List Addr} {h : AH} {H : Hp} {a : α} {K : α → AH → List Addr → Hp → Prop} {X : ExcV → AH → List Addr → Hp → Prop}
    (x : Fin F μ h H (.ok a h) K X) (r : F.R μ h H) : K a h μ H := x μ H .refl r

section
variable (F : Fx) (cx : String → Option Addr) (Wx : WX)
/-- what is wanted of an exception -/
def xK (σ : L2.St) : ExcV → AH → List Addr → Hp → Prop := fun e h' μ' H' => ∀ cls d, XRel cx F.G H' (wr F.G μ' h') e cls d → Wx cls d σ H'
/-- what is wanted of a value -/
def vK (Q : VK) : RV → AH → List Addr → Hp → Prop := fun v h' μ' H' => ∀ x, F.v1 μ' h' H' v x → Q x H'
def vsK (Q : List V → Hp → Prop) : List RV → AH → List Addr → Hp → Prop := fun v h' μ' H' => ∀ x, F.v2 μ' h' H' v x → Q x H'
def bK (Q : Bool → Hp → Prop) : Bool → AH → List Addr → Hp → Prop := fun b _ _ H' => Q b H'
/-- an expression's reading -/
def tO (f : Env → AH → Out RV) : TE := fun σ H Q => ∃ μ ρ h, F.R μ h H ∧ F.s1 μ h H ρ σ ∧ Fin F μ h H (f ρ h) (vK F Q) (xK F cx Wx σ)
def tOs (f : Env → AH → Out (List RV)) : TA := fun σ H Q => ∃ μ ρ h, F.R μ h H ∧ F.s1 μ h H ρ σ ∧ Fin F μ h H (f ρ h) (vsK F Q) (xK F cx Wx σ)
def tOb (f : Env → AH → Out Bool) : TT := fun σ H Q => ∃ μ ρ h, F.R μ h H ∧ F.s1 μ h H ρ σ ∧ Fin F μ h H (f ρ h) (bK Q) (xK F cx Wx σ)
/-- a statement's answer -/
def sK (D : Ends) : Flow → AH → List Addr → Hp → Prop
  | .nxt ρ, h', μ', H' => ∀ σ', F.s1 μ' h' H' ρ σ' → D.nx σ' H'
  | .ret v, h', μ', H' => ∀ x, F.v1 μ' h' H' v x → D.rt x H'
  | .brk ρ, h', μ', H' => ∀ σ', F.s1 μ' h' H' ρ σ' → D.bk σ' H'
  | .cnt ρ, h', μ', H' => ∀ σ', F.s1 μ' h' H' ρ σ' → D.ct σ' H'
def FinS (μ : List Addr) (h : AH) (H : Hp) (o : SO) (D : Ends) : Prop :=
  match o with
  | .ok a h' => ∀ μ' H', F.E μ h H μ' h' H' → F.R μ' h' H' → sK F D a h' μ' H'
  | .exc e ρ h' => ∀ μ' H', F.E μ h H μ' h' H' → F.R μ' h' H' → ∀ σ', F.s1 μ' h' H' ρ σ' → xK F cx Wx σ' e h' μ' H'
  | .bad => False
def tS (f : Env → AH → SO) : TS := fun D σ H => ∃ μ ρ h, F.R μ h H ∧ F.s1 μ h H ρ σ ∧ FinS F cx Wx μ h H (f ρ h) D
end

section
variable {F : Fx} {cx : String → Option Addr} {Wx : WX}
theorem FinS.ofE {α : Type} {μ : List Addr} {h : AH} {H : Hp} {ρ : Env} {σ : L2.St} {o : Out α} {f : α → AH → SO} {D : Ends} (s : F.s1 μ h H ρ σ) (x : FinS F cx Wx μ h H (SO.ofE ρ o f) D) :
    Fin F μ h H o (fun a h1 μ1 H1 => FinS F cx Wx μ1 h1 H1 (f a h1) D) (xK F cx Wx σ) := by
  cases o with
  | ok a h1 =>
    intro μ1 H1 e1 r1
    have x : FinS F cx Wx μ h H (f a h1) D := x
    show FinS F cx Wx μ1 h1 H1 (f a h1) D
    cases q : f a h1 with
    | ok b h2 =>
      rw [q] at x
      intro μ2 H2 e2 r2
      exact x μ2 H2 (e1.trans e2) r2
    | exc e ρ2 h2 =>
      rw [q] at x
      intro μ2 H2 e2 r2
      exact x μ2 H2 (e1.trans e2) r2
    | bad => rw [q] at x; exact x
  | exc e h1 =>
    intro μ1 H1 e1 r1
    exact x μ1 H1 e1 r1 σ (s.grow e1.grow e1.pre)
  | bad => exact x
theorem FinS.from {μ μ1 : List Addr} {h h1 : AH} {H H1 : Hp} {o : SO} {D : Ends} (e : F.E μ h H μ1 h1 H1) (x : FinS F cx Wx μ h H o D) : FinS F cx Wx μ1 h1 H1 o D := by
  cases o with
  | ok a h2 => intro μ2 H2 e2 r2; exact x μ2 H2 (e.trans e2) r2
  | exc a ρ h2 => intro μ2 H2 e2 r2; exact x μ2 H2 (e.trans e2) r2
  | bad => exact x
theorem Fin.from {α : Type} {μ μ1 : List Addr} {h h1 : AH} {H H1 : Hp} {o : Out α} {K : α → AH → List Addr → Hp → Prop} {X : ExcV → AH → List Addr → Hp → Prop} (e : F.E μ h H μ1 h1 H1) (x : Fin F μ h H o K X) : Fin F μ1 h1 H1 o K X := by
  cases o with
  | ok a h2 => intro μ2 H2 e2 r2; exact x μ2 H2 (e.trans e2) r2
  | exc a h2 => intro μ2 H2 e2 r2; exact x μ2 H2 (e.trans e2) r2
  | bad => exact x
end

theorem pe_imp {X : Cx} {e : Expr} {t t' : TE} (h : PE X e t) (i : ∀ σ H Q, t' σ H Q → t σ H Q) : PE X e t' := ⟨fun pins s σ H Q I q => h.run pins s σ H Q I (i σ H Q q)⟩
theorem pt_imp {X : Cx} {e : Expr} {t t' : TT} (h : PT X e t) (i : ∀ σ H Q, t' σ H Q → t σ H Q) : PT X e t' := ⟨fun pins s σ H Q I q => h.run pins s σ H Q I (i σ H Q q)⟩
theorem pw_imp {X : Cx} {e : Expr} {t t' : TT} (h : PW X e t) (i : ∀ σ H Q, t' σ H Q → t σ H Q) : PW X e t' := ⟨fun wh pins s σ H Q I q => h.run wh pins s σ H Q I (i σ H Q q)⟩
theorem pa_imp {X : Cx} {es : List Expr} {t t' : TA} (h : PA X es t) (i : ∀ σ H Q, t' σ H Q → t σ H Q) : PA X es t' := ⟨fun pos pins s σ H Q I q => h.run pos pins s σ H Q I (i σ H Q q)⟩
theorem ps_imp {X : Cx} {st : Stmt} {t t' : TS} (h : PS X st t) (i : ∀ D σ H, t' D σ H → t D σ H) : PS X st t' := ⟨fun pins s σ H D I q => h.run pins s σ H D I (i D σ H q)⟩
theorem pss_imp {X : Cx} {st : List Stmt} {t t' : TS} (h : PSs X st t) (i : ∀ D σ H, t' D σ H → t D σ H) : PSs X st t' := ⟨fun pins s σ H D I q => h.run pins s σ H D I (i D σ H q)⟩

section
variable {F : Fx} {cx : String → Option Addr} {Wx : WX} {X : Cx} {a b : Expr} {pos : Pos} {fa fb : Env → AH → Out RV}

/-- a place behind one expression -/
theorem tO_bind {g : RV → AH → Out RV} {σ : L2.St} {H : Hp} {Q : VK} (t : tO F cx Wx (fun ρ h => (fa ρ h).bind fun x h1 => g x h1) σ H Q) :
    tO F cx Wx fa σ H fun x H1 => ∃ μ h v, F.R μ h H1 ∧ F.v1 μ h H1 v x ∧ Fin F μ h H1 (g v h) (vK F Q) (xK F cx Wx σ) := by
  obtain ⟨μ, ρ, h, r, s, f⟩ := t
  refine ⟨μ, ρ, h, r, s, f.bind.mono (fun v h1 μ1 H1 e1 r1 k x rx => ?_) fun _ _ _ _ _ _ z => z⟩
  exact ⟨μ1, h1, v, r1, rx, k⟩
/-- .. with the slots -/
theorem tO_bindS {g : Env → RV → AH → Out RV} {σ : L2.St} {H : Hp} {Q : VK} (t : tO F cx Wx (fun ρ h => (fa ρ h).bind fun x h1 => g ρ x h1) σ H Q) :
    tO F cx Wx fa σ H fun x H1 => ∃ μ ρ h v, F.R μ h H1 ∧ F.s1 μ h H1 ρ σ ∧ F.v1 μ h H1 v x ∧ Fin F μ h H1 (g ρ v h) (vK F Q) (xK F cx Wx σ) := by
  obtain ⟨μ, ρ, h, r, s, f⟩ := t
  refine ⟨μ, ρ, h, r, s, f.bind.mono (fun v h1 μ1 H1 e1 r1 k x rx => ?_) fun _ _ _ _ _ _ z => z⟩
  exact ⟨μ1, ρ, h1, v, r1, s.grow e1.grow e1.pre, rx, k⟩
/-- behind two -/
theorem tO_bind2 {g : RV → RV → AH → Out RV} {σ : L2.St} {H : Hp} {Q : VK} (t : tO F cx Wx (fun ρ h => (fa ρ h).bind fun x h1 => (fb ρ h1).bind fun y h2 => g x y h2) σ H Q) :
    tO F cx Wx fa σ H fun x H1 => tO F cx Wx fb σ H1 fun y H2 => ∃ μ h v w, F.R μ h H2 ∧ F.v1 μ h H2 v x ∧ F.v1 μ h H2 w y ∧ Fin F μ h H2 (g v w h) (vK F Q) (xK F cx Wx σ) := by
  obtain ⟨μ, ρ, h, r, s, f⟩ := t
  refine ⟨μ, ρ, h, r, s, f.bind.mono (fun v h1 μ1 H1 e1 r1 k x rx => ?_) fun _ _ _ _ _ _ z => z⟩
  refine ⟨μ1, ρ, h1, r1, s.grow e1.grow e1.pre, k.bind.mono (fun w h2 μ2 H2 e2 r2 k2 y ry => ?_) fun _ _ _ _ _ _ z => z⟩
  exact ⟨μ2, h2, v, w, r2, rx.grow e2.grow e2.pre, ry, k2⟩

/-! ### names, constants -/
theorem r_var {i : Nat} {x : Str} (hN : X.N[i]? = some x) (hv : Vis X.env.scope x) (hd : (x == ("__debug__" : Str)) = false) (hcd : (x == ("__classdict__" : Str)) = false) :
    PE X (.Name x pos) (tO F cx Wx fun ρ h => match getV ρ i with
      | some v => .ok v h
      | none => .bad) := by
  refine pe_imp (pe_var (i := i) hN hv hd hcd) fun σ H Q t => ?_
  obtain ⟨μ, ρ, h, r, s, f⟩ := t
  cases e : getV ρ i with
  | none => simp only [e] at f; exact f.elim
  | some v =>
    simp only [e] at f
    obtain ⟨x, hx, rx⟩ := s.get e
    exact ⟨x, hx, f.here r x rx⟩
theorem r_const {e : Expr} {v : PV} {x : V} (h : PE X e (tC x)) (r : ∀ H W, PRel F.G H W v x) : PE X e (tO F cx Wx fun _ h => .ok (.pv v) h) :=
  pe_imp h fun σ H Q t => by
    obtain ⟨μ, ρ, h, rp, s, f⟩ := t
    exact f.here rp x (.pv (r _ _))
theorem r_int {i : Int} {j : Nat} : PE X (.Constant (.int i) j pos) (tO F cx Wx fun _ h => .ok (.pv (.int i)) h) := r_const pe_int fun _ _ => .int i
theorem r_bl {b : Bool} {j : Nat} : PE X (.Constant (.bool b) j pos) (tO F cx Wx fun _ h => .ok (.pv (.bl b)) h) := r_const pe_bl fun _ _ => .bl b
theorem r_non {j : Nat} : PE X (.Constant .none j pos) (tO F cx Wx fun _ h => .ok (.pv .non) h) := r_const pe_non fun _ _ => .non
theorem r_str {x : Str} {s : List Nat} {j : Nat} (e : x = sOf s) (hl : okS s = true) : PE X (.Constant (.str x) j pos) (tO F cx Wx fun _ h => .ok (.pv (.str s)) h) := by
  subst e
  exact r_const pe_str fun _ _ => .str s hl
theorem r_glob {x : Str} {v : PV} {y : V} {u : Value} (hg : Gl X x) (hm : X.mg x = some u) (q : RelV y u) (r : ∀ H W, PRel F.G H W v y) (hd : (x == ("__debug__" : Str)) = false) : PE X (.Name x pos) (tO F cx Wx fun _ h => .ok (.pv v) h) :=
  r_const (pe_glob hg hm q hd) r

/-! ### operators by values -/
/-- two values in, one out; nothing is raised -/
def rV2 (F : Fx) (g : RV → RV → AH → Out RV) : R2 := fun x y H Q => ∃ μ h v w, F.R μ h H ∧ F.v1 μ h H v x ∧ F.v1 μ h H w y ∧ Fin F μ h H (g v w h) (vK F Q) (fun _ _ _ _ => False)
def noexc {α : Type} (o : Out α) : Prop := ∀ e h, o ≠ .exc e h
theorem Fin.nox {α : Type} {μ : List Addr} {h : AH} {H : Hp} {o : Out α} {K : α → AH → List Addr → Hp → Prop} {X X' : ExcV → AH → List Addr → Hp → Prop} (x : Fin F μ h H o K X) (n : noexc o) : Fin F μ h H o K X' := by
  cases o with
  | ok a h1 => exact x
  | exc e h1 => exact (n e h1 rfl).elim
  | bad => exact x
theorem r_bin {o : Operator} {g : RV → RV → AH → Out RV} (n : ∀ x y h, noexc (g x y h)) (ho : OpR X (binaryOp o) (rV2 F g)) (ha : PE X a (tO F cx Wx fa)) (hb : PE X b (tO F cx Wx fb)) :
    PE X (.BinOp a o b pos) (tO F cx Wx fun ρ h => (fa ρ h).bind fun x h1 => (fb ρ h1).bind fun y h2 => g x y h2) := by
  refine pe_imp (pe_op ho ha hb) fun σ H Q t => ?_
  obtain ⟨μ, ρ, h, r, s, f⟩ := tO_bind2 t
  refine ⟨μ, ρ, h, r, s, f.mono (fun v h1 μ1 H1 e1 r1 k x rx => ?_) fun _ _ _ _ _ _ z => z⟩
  obtain ⟨μ2, ρ2, h2, r2, s2, f2⟩ := k x rx
  refine ⟨μ2, ρ2, h2, r2, s2, f2.mono (fun w h3 μ3 H3 e3 r3 k3 y ry => ?_) fun _ _ _ _ _ _ z => z⟩
  obtain ⟨μ4, h4, v4, w4, r4, rx4, ry4, f4⟩ := k3 y ry
  exact ⟨μ4, h4, v4, w4, r4, rx4, ry4, f4.nox (n _ _ _)⟩
end
end D

set_option Elab.async false
set_option linter.all false
set_option maxRecDepth 100000
/-! Fd4: how the heap moves. -/
namespace D
open PySem PySem.Spec L2

section
variable {G : Gm} {lo : Nat} {h0 : AH} {μ : List Addr} {h : AH} {H : Hp}

theorem wr_lt {a : Addr} (r : Rep G lo h0 μ h H) (w : wr G μ h a) : (a ∈ G.tabs ∨ a ∈ G.hid) ∨ a ∈ μ := by
  rcases w with w | ⟨p, o, e, _, _⟩
  · exact .inl w
  · exact .inr (List.mem_of_getElem? e)
theorem Rep.at (r : Rep G lo h0 μ h H) {p : Nat} {a : Addr} (e : μ[p]? = some a) : ∃ o, h[p]? = some o := by
  have h1 := (List.getElem?_eq_some_iff.mp e).1
  rw [r.len] at h1
  exact ⟨_, List.getElem?_eq_getElem h1⟩
theorem Rep.addr (r : Rep G lo h0 μ h H) {p : Nat} {o : AO} (e : h[p]? = some o) : ∃ a, μ[p]? = some a := by
  have h1 := (List.getElem?_eq_some_iff.mp e).1
  rw [← r.len] at h1
  exact ⟨_, List.getElem?_eq_getElem h1⟩
theorem Rep.live (r : Rep G lo h0 μ h H) {p : Nat} {o : AO} {a : Addr} (e : μ[p]? = some a) (eo : h[p]? = some o) (n : o ≠ .dead) : wr G μ h a := .inr ⟨p, o, e, eo, n⟩
/-- where an object stands, something is tracked -/
theorem ORel.there {W : Wr} {o : AO} {a : Addr} (x : ORel G μ H W o a) : ∃ u, H a = some u := by
  cases o with
  | lst xs => obtain ⟨vs, e, _⟩ := x; exact ⟨_, e⟩
  | obj c fs => obtain ⟨C, dx, gs, _, e, _⟩ := x; exact ⟨_, e⟩
  | dct _ => obtain ⟨ks, e, _⟩ := x; exact ⟨_, e⟩
  | dead => exact x
theorem ORel.grow {H' : Hp} {W W' : Wr} {μ' : List Addr} {o : AO} {a : Addr} (g : Grow H W H' W') (m : μ <+: μ') (k : ∀ u, H a = some u → H' a = some u) (x : ORel G μ H W o a) : ORel G μ' H' W' o a := by
  cases o with
  | lst xs =>
    obtain ⟨vs, e, rs⟩ := x
    exact ⟨vs, k _ e, rs.grow g m⟩
  | obj c fs =>
    obtain ⟨C, dx, gs, ec, e, rs⟩ := x
    exact ⟨C, dx, gs, ec, k _ e, rs.grow g m⟩
  | dct _ =>
    obtain ⟨vs, e, rs⟩ := x
    exact ⟨vs, k _ e, rs.grow g m⟩
  | dead => obtain ⟨u, e⟩ := x; exact ⟨u, k _ e⟩

/-- something new is tracked, that nobody writes -/
theorem Grow.fresh {p : Addr} {o : HO} {W : Wr} (hp : H p = none) : Grow H W (upd H p o) W :=
  ⟨fun a u e _ => by rw [upd_ne (ne_of_none e hp)]; exact e, fun _ w => .inl w⟩
theorem Rep.fresh {p : Addr} {o : HO} (r : Rep G lo h0 μ h H) (hp : H p = none) : Rep G lo h0 μ h (upd H p o) := by
  refine ⟨r.len, r.nd, fun t ht => ?_, fun t ht => ?_, fun q u a e1 e2 => ?_, r.le, r.since, r.shut⟩
  · obtain ⟨⟨ps, e, k⟩, n⟩ := r.tab t ht
    exact ⟨⟨ps, by rw [upd_ne (ne_of_none e hp)]; exact e, k⟩, n⟩
  · obtain ⟨⟨ps, e⟩, n⟩ := r.hid t ht
    exact ⟨⟨ps, by rw [upd_ne (ne_of_none e hp)]; exact e⟩, n⟩
  · exact ORel.grow (.fresh hp) List.prefix_rfl (fun v e => by rw [upd_ne (ne_of_none e hp)]; exact e) (r.obj q u a e1 e2)
theorem Ext.fresh {p : Addr} {o : HO} (hp : H p = none) : Ext G μ h H μ h (upd H p o) := ⟨List.prefix_rfl, .fresh hp, fun a _ o e => by rw [upd_ne (ne_of_none e hp)]; exact e⟩
theorem wr_not {p : Addr} (r : Rep G lo h0 μ h H) (hp : H p = none) : ¬ wr G μ h p := by
  rintro (w | ⟨q, o, e, eo, n⟩)
  · obtain ⟨⟨ps, e⟩, _⟩ := r.aux w
    rw [hp] at e; cases e
  · obtain ⟨u, e'⟩ := ORel.there (r.obj q o p eo e)
    rw [hp] at e'; cases e'

/-- a new place -/
theorem wr_push {p : Addr} {o : AO} (hl : μ.length = h.length) : ∀ a, wr G (μ ++ [p]) (h ++ [o]) a ↔ wr G μ h a ∨ (a = p ∧ o ≠ .dead) := by
  intro a
  constructor
  · rintro (w | ⟨q, u, e, eo, n⟩)
    · exact .inl (.inl w)
    · by_cases hq : q < μ.length
      · rw [List.getElem?_append_left hq] at e
        rw [List.getElem?_append_left (by omega)] at eo
        exact .inl (.inr ⟨q, u, e, eo, n⟩)
      · rw [List.getElem?_append_right (by omega)] at e eo
        have hq' : q - μ.length = 0 := by
          have := (List.getElem?_eq_some_iff.mp e).1
          simpa using this
        rw [hq'] at e
        rw [← hl, hq'] at eo
        simp at e eo
        subst e eo
        exact .inr ⟨rfl, n⟩
  · rintro ((w | ⟨q, u, e, eo, n⟩) | ⟨rfl, n⟩)
    · exact .inl w
    · refine .inr ⟨q, u, ?_, ?_, n⟩
      · rw [List.getElem?_append_left (List.getElem?_eq_some_iff.mp e).1]; exact e
      · rw [List.getElem?_append_left (List.getElem?_eq_some_iff.mp eo).1]; exact eo
    · refine .inr ⟨μ.length, o, ?_, ?_, n⟩
      · simp
      · rw [hl]; simp
theorem Grow.push {p : Addr} {o : AO} {u : HO} (r : Rep G lo h0 μ h H) (hp : H p = none) : Grow H (wr G μ h) (upd H p u) (wr G (μ ++ [p]) (h ++ [o])) :=
  ⟨fun a v e _ => by rw [upd_ne (ne_of_none e hp)]; exact e, fun a w => by
    rcases (wr_push r.len a).mp w with w | ⟨rfl, _⟩
    · exact .inl w
    · exact .inr hp⟩
theorem Ext.push {p : Addr} {o : AO} {u : HO} (r : Rep G lo h0 μ h H) (hp : H p = none) : Ext G μ h H (μ ++ [p]) (h ++ [o]) (upd H p u) := ⟨⟨[p], rfl⟩, .push r hp, fun a _ o e => by rw [upd_ne (ne_of_none e hp)]; exact e⟩
theorem Rep.notin {p : Addr} (r : Rep G lo h0 μ h H) (hp : H p = none) : p ∉ μ := fun hm => by
  obtain ⟨q, hq, e⟩ := List.getElem_of_mem hm
  have e' : μ[q]? = some p := by rw [List.getElem?_eq_getElem hq, e]
  obtain ⟨o, eo⟩ := r.at e'
  obtain ⟨u, e2⟩ := ORel.there (r.obj q o p eo e')
  rw [hp] at e2; cases e2
theorem Rep.push {p : Addr} {o : AO} {u : HO} (r : Rep G lo h0 μ h H) (hp : H p = none) (x : ORel G (μ ++ [p]) (upd H p u) (wr G (μ ++ [p]) (h ++ [o])) o p) :
    Rep G lo h0 (μ ++ [p]) (h ++ [o]) (upd H p u) := by
  have g : Grow H (wr G μ h) (upd H p u) (wr G (μ ++ [p]) (h ++ [o])) := .push r hp
  refine ⟨by simp [r.len], ?_, fun t ht => ?_, fun t ht => ?_, fun q v a e1 e2 => ?_, by have := r.le; simp; omega, fun q v hq e => ?_, r.shut⟩
  · refine List.nodup_append.mpr ⟨r.nd, by simp, fun a ha b hb => ?_⟩
    simp at hb; subst hb
    rintro rfl
    exact r.notin hp ha
  · obtain ⟨⟨ps, e, k⟩, n⟩ := r.tab t ht
    refine ⟨⟨ps, by rw [upd_ne (ne_of_none e hp)]; exact e, k⟩, ?_⟩
    simp only [List.mem_append, List.mem_singleton, not_or]
    exact ⟨n, ne_of_none e hp⟩
  · obtain ⟨⟨ps, e⟩, n⟩ := r.hid t ht
    refine ⟨⟨ps, by rw [upd_ne (ne_of_none e hp)]; exact e⟩, ?_⟩
    simp only [List.mem_append, List.mem_singleton, not_or]
    exact ⟨n, ne_of_none e hp⟩
  · by_cases hq : q < h.length
    · rw [List.getElem?_append_left hq] at e1
      rw [List.getElem?_append_left (by rw [r.len]; exact hq)] at e2
      exact ORel.grow g ⟨[p], rfl⟩ (fun w e => by rw [upd_ne (ne_of_none e hp)]; exact e) (r.obj q v a e1 e2)
    · rw [List.getElem?_append_right (by omega)] at e1
      rw [List.getElem?_append_right (by rw [r.len]; omega)] at e2
      have hq' : q - h.length = 0 := by
        have := (List.getElem?_eq_some_iff.mp e1).1
        simpa using this
      rw [hq'] at e1
      rw [r.len, hq'] at e2
      simp at e1 e2
      subst e1 e2
      exact x
  · refine r.since q v hq ?_
    have := r.le
    rw [List.getElem?_append_left (by omega)] at e
    exact e

/-- an object is written -/
theorem wr_set {q : Nat} {o o' : AO} (e : h[q]? = some o) (n : o ≠ .dead) (n' : o' ≠ .dead) : ∀ a, wr G μ (h.set q o') a ↔ wr G μ h a := by
  intro a
  constructor
  · rintro (w | ⟨p, u, e1, e2, k⟩)
    · exact .inl w
    · by_cases hp : p = q
      · subst hp; exact .inr ⟨p, o, e1, e, n⟩
      · rw [List.getElem?_set_ne (Ne.symm hp)] at e2
        exact .inr ⟨p, u, e1, e2, k⟩
  · rintro (w | ⟨p, u, e1, e2, k⟩)
    · exact .inl w
    · by_cases hp : p = q
      · subst hp
        exact .inr ⟨p, o', e1, List.getElem?_set_self (List.getElem?_eq_some_iff.mp e).1, n'⟩
      · exact .inr ⟨p, u, e1, by rw [List.getElem?_set_ne (Ne.symm hp)]; exact e2, k⟩
theorem Grow.write {q : Nat} {a : Addr} {o o' : AO} {u : HO} (e : h[q]? = some o) (ea : μ[q]? = some a) (n : o ≠ .dead) (n' : o' ≠ .dead) : Grow H (wr G μ h) (upd H a u) (wr G μ (h.set q o')) := by
  refine ⟨fun b v eb w => ?_, fun b w => .inl ((wr_set e n n' b).mp w)⟩
  rw [upd_ne]
  · exact eb
  · rintro rfl
    exact w (.inr ⟨q, o, ea, e, n⟩)
theorem Ext.write {q : Nat} {a : Addr} {o o' : AO} {u : HO} (r : Rep G lo h0 μ h H) (e : h[q]? = some o) (ea : μ[q]? = some a) (n : o ≠ .dead) (n' : o' ≠ .dead) : Ext G μ h H μ (h.set q o') (upd H a u) :=
  ⟨List.prefix_rfl, .write e ea n n', fun b hb o e => by
    rw [upd_ne]
    · exact e
    · rintro rfl
      exact (r.hid _ hb).2 (List.mem_of_getElem? ea)⟩
theorem nd_ix {l : List Addr} (nd : l.Nodup) {i j : Nat} {x : Addr} (a : l[i]? = some x) (b : l[j]? = some x) : i = j := by
  obtain ⟨h1, e1⟩ := List.getElem?_eq_some_iff.mp a
  obtain ⟨h2, e2⟩ := List.getElem?_eq_some_iff.mp b
  exact (List.getElem_inj nd).mp (e1.trans e2.symm)
theorem Rep.write {q : Nat} {a : Addr} {o o' : AO} {u : HO} (r : Rep G lo h0 μ h H) (e : h[q]? = some o) (ea : μ[q]? = some a) (n : o ≠ .dead) (n' : o' ≠ .dead)
    (x : ORel G μ (upd H a u) (wr G μ (h.set q o')) o' a) (k : q < lo → ∀ p ∈ o'.refs, p ∈ o.refs) : Rep G lo h0 μ (h.set q o') (upd H a u) := by
  have g : Grow H (wr G μ h) (upd H a u) (wr G μ (h.set q o')) := .write e ea n n'
  refine ⟨by simp [r.len], r.nd, fun t ht => ?_, fun t ht => ?_, fun p v b e1 e2 => ?_, by have := r.le; simp; omega, fun p v hp e1 => ?_, r.shut⟩
  · obtain ⟨⟨ps, e', k'⟩, nt⟩ := r.tab t ht
    refine ⟨⟨ps, ?_, k'⟩, nt⟩
    rw [upd_ne]
    · exact e'
    · rintro rfl; exact nt (List.mem_of_getElem? ea)
  · obtain ⟨⟨ps, e'⟩, nt⟩ := r.hid t ht
    refine ⟨⟨ps, ?_⟩, nt⟩
    rw [upd_ne]
    · exact e'
    · rintro rfl; exact nt (List.mem_of_getElem? ea)
  · by_cases hp : p = q
    · subst hp
      rw [List.getElem?_set_self (List.getElem?_eq_some_iff.mp e).1] at e1
      cases e1
      rw [ea] at e2; cases e2
      exact x
    · rw [List.getElem?_set_ne (Ne.symm hp)] at e1
      refine ORel.grow g List.prefix_rfl (fun w ew => ?_) (r.obj p v b e1 e2)
      rw [upd_ne]
      · exact ew
      · rintro rfl
        exact hp (nd_ix r.nd e2 ea)
  · by_cases hpq : p = q
    · subst hpq
      rw [List.getElem?_set_self (List.getElem?_eq_some_iff.mp e).1] at e1
      cases e1
      obtain ⟨o0, e0, k0⟩ := r.since p o hp e
      exact ⟨o0, e0, fun z hz => k0 z (k hp z hz)⟩
    · rw [List.getElem?_set_ne (Ne.symm hpq)] at e1
      exact r.since p v hp e1

/-- an object is written no more -/
theorem wr_kill {q : Nat} {a : Addr} (r : Rep G lo h0 μ h H) (ea : μ[q]? = some a) : ∀ b, wr G μ (h.set q .dead) b → wr G μ h b ∧ b ≠ a := by
  rintro b (w | ⟨p, u, e1, e2, k⟩)
  · exact ⟨.inl w, fun z => by subst z; exact (r.aux w).2 (List.mem_of_getElem? ea)⟩
  · by_cases hp : p = q
    · subst hp
      have hl := (List.getElem?_eq_some_iff.mp e2).1
      rw [List.length_set] at hl
      rw [List.getElem?_set_self hl] at e2
      cases e2; exact (k rfl).elim
    · rw [List.getElem?_set_ne (Ne.symm hp)] at e2
      exact ⟨.inr ⟨p, u, e1, e2, k⟩, fun z => by subst z; exact hp (nd_ix r.nd e1 ea)⟩
theorem Grow.kill {q : Nat} {a : Addr} (r : Rep G lo h0 μ h H) (ea : μ[q]? = some a) : Grow H (wr G μ h) H (wr G μ (h.set q .dead)) := ⟨fun _ _ e _ => e, fun b w => .inl (wr_kill r ea b w).1⟩
theorem Ext.kill {q : Nat} {a : Addr} (r : Rep G lo h0 μ h H) (ea : μ[q]? = some a) : Ext G μ h H μ (h.set q .dead) H := ⟨List.prefix_rfl, .kill r ea, fun _ _ _ e => e⟩
theorem Rep.kill {q : Nat} {a : Addr} {o : AO} (r : Rep G lo h0 μ h H) (e : h[q]? = some o) (ea : μ[q]? = some a) : Rep G lo h0 μ (h.set q .dead) H := by
  refine ⟨by simp [r.len], r.nd, r.tab, r.hid, fun p v b e1 e2 => ?_, by have := r.le; simp; omega, fun p v hp e1 => ?_, r.shut⟩
  · by_cases hp : p = q
    · subst hp
      rw [List.getElem?_set_self (List.getElem?_eq_some_iff.mp e).1] at e1
      cases e1
      rw [ea] at e2; cases e2
      exact ORel.there (r.obj p o a e ea)
    · rw [List.getElem?_set_ne (Ne.symm hp)] at e1
      exact ORel.grow (.kill r ea) List.prefix_rfl (fun _ e => e) (r.obj p v b e1 e2)
  · by_cases hpq : p = q
    · subst hpq
      rw [List.getElem?_set_self (List.getElem?_eq_some_iff.mp e).1] at e1
      cases e1
      obtain ⟨o0, e0, _⟩ := r.since p o hp e
      exact ⟨o0, e0, fun z hz => by cases hz⟩
    · rw [List.getElem?_set_ne (Ne.symm hpq)] at e1
      exact r.since p v hp e1
/-- what is written no more may be locked -/
theorem Grow.lock {q : Nat} {a : Addr} {u : HO} (r : Rep G lo h0 μ h H) (e : ∃ o, h[q]? = some o ∧ o ≠ .dead) (ea : μ[q]? = some a) : Grow H (wr G μ h) (upd H a u) (wr G μ (h.set q .dead)) :=
  ⟨fun b o eb w => by
    obtain ⟨o', e1, e2⟩ := e
    rw [upd_ne (fun z => w (by rw [z]; exact .inr ⟨q, o', ea, e1, e2⟩))]
    exact eb, fun b w => .inl (wr_kill r ea b w).1⟩
theorem Ext.lock {q : Nat} {a : Addr} {u : HO} (r : Rep G lo h0 μ h H) (e : ∃ o, h[q]? = some o ∧ o ≠ .dead) (ea : μ[q]? = some a) : Ext G μ h H μ (h.set q .dead) (upd H a u) :=
  ⟨List.prefix_rfl, .lock r e ea, fun b hb o eb => by
    rw [upd_ne (fun z => (r.aux (.inr hb)).2 (by rw [z]; exact List.mem_of_getElem? ea))]
    exact eb⟩
theorem Rep.lock {q : Nat} {a : Addr} {o : AO} {u : HO} (r : Rep G lo h0 μ h H) (e : h[q]? = some o) (n : o ≠ .dead) (ea : μ[q]? = some a) : Rep G lo h0 μ (h.set q .dead) (upd H a u) := by
  have nm : ∀ b, b ∉ μ → upd H a u b = H b := fun b hb => upd_ne (fun z => hb (by rw [z]; exact List.mem_of_getElem? ea))
  refine ⟨by simp [r.len], r.nd, fun t ht => ?_, fun t ht => ?_, fun p v b e1 e2 => ?_, by have := r.le; simp; omega, fun p v hp e1 => ?_, r.shut⟩
  · obtain ⟨x, y⟩ := r.tab t ht
    exact ⟨by rw [nm t y]; exact x, y⟩
  · obtain ⟨x, y⟩ := r.hid t ht
    exact ⟨by rw [nm t y]; exact x, y⟩
  · by_cases hp : p = q
    · subst hp
      rw [List.getElem?_set_self (List.getElem?_eq_some_iff.mp e).1] at e1
      cases e1
      rw [ea] at e2; cases e2
      exact ⟨u, upd_same⟩
    · rw [List.getElem?_set_ne (Ne.symm hp)] at e1
      have hb : b ≠ a := fun z => by subst z; exact hp (nd_ix r.nd e2 ea)
      exact ORel.grow (.lock r ⟨o, e, n⟩ ea) List.prefix_rfl (fun _ e => by rw [upd_ne hb]; exact e) (r.obj p v b e1 e2)
  · by_cases hpq : p = q
    · subst hpq
      rw [List.getElem?_set_self (List.getElem?_eq_some_iff.mp e).1] at e1
      cases e1
      obtain ⟨o0, e0, _⟩ := r.since p o hp e
      exact ⟨o0, e0, fun z hz => by cases hz⟩
    · rw [List.getElem?_set_ne (Ne.symm hpq)] at e1
      exact r.since p v hp e1
end
end D

set_option Elab.async false
set_option linter.all false
set_option maxRecDepth 100000
/-! Fd4b: tuples whose object is known to have no dict. -/
namespace D
open PySem PySem.Spec L2 PyProof.Rows

abbrev tupO (us : List Value) : Obj := { cls := .type "tuple", data := .seq us.toArray }
section
variable {X : Cx} {pins : List (Addr × Obj)} {σ : L2.St} {H : Hp} {s : Shared}
/-- a new tuple is wished for -/
def NewT (xs : List V) (H : Hp) (Q : VK) : Prop := ∀ p o, o.dict = none → H p = none → Q (.ref p) (upd H p (.frz o (.tup xs)))
theorem Inv.ltup {xs : List V} {us : List Value} {h' : Heap} {t' : Nat} (I : Inv X pins σ H s) (k : ∀ b u, s.heap.get? b = some u → h'.get? b = some u) (r : Vals xs us) (z : xs.length ≤ sizeLine) :
    Inv X pins σ (upd H h'.objs.size (.frz (tupO us) (.tup xs))) { s with heap := h'.push (tupO us), toks := t' } :=
  (I.kept (h' := h') (t' := t') k).laid (a := h'.objs.size) (o := .frz (tupO us) (.tup xs)) (h' := h'.push (tupO us)) (t' := t') (fun b u e => Heap.get?_push_of_some _ e) (Nat.le_refl _)
    ⟨Heap.get?_push_size _ rfl, z, us, r, ⟨_, Heap.get?_push_size _ rfl, rfl, _, rfl⟩⟩
theorem ep_tup {xs : List V} {us : List Value} {h' : Heap} {t' : Nat} {Q : VK} (I : Inv X pins σ H s) (k : ∀ b u, s.heap.get? b = some u → h'.get? b = some u) (r : Vals xs us) (z : xs.length ≤ sizeLine) (q : NewT xs H Q) :
    EP X pins σ Q (.ref h'.objs.size) { s with heap := h'.push (tupO us), toks := t' } :=
  ⟨.ref h'.objs.size, _, Inv.ltup I k r z, rfl, q _ _ rfl ((I.kept (h' := h') (t' := t') k).hok.fresh (Nat.le_refl _))⟩

/-- (e, ..) -/
def tTupD (t : TA) : TE := fun σ H Q => t σ H fun xs H1 => xs.length ≤ sizeLine ∧ NewT xs H1 Q
theorem pe_tupD {es : List Expr} {t : TA} {k : Nat} {pos : Pos} (h : PA X es t) : PE X (.Tuple es k pos) (tTupD t) := by
  refine ⟨fun pins s σ H Q I hq => ?_⟩
  exact wpAny_Tuple_spliced (thn (h.run pos pins s σ H _ I hq) fun us s1 ⟨xs, H1, I1, r, z, q⟩ => ⟨by rw [← r.length]; exact z, ep_tup (h' := s1.heap) (t' := s1.toks) I1 (fun _ _ e => e) r z q⟩)

/-- t + u -/
def rCatD (K : PySem.W.Frag) : R2 := fun x y H Q => ∃ a b xs ys, x = .ref a ∧ y = .ref b ∧ SqT K H a xs ∧ SqT K H b ys ∧ xs.length + ys.length ≤ sizeLine ∧
  (xs = [] → Q (.ref b) H) ∧ (ys = [] → Q (.ref a) H) ∧ NewT (xs ++ ys) H Q
theorem op_catD : OpR X (binaryOp .Add) (rCatD X.K) := by
  intro pins s σ H x y v u Q I rx ry h
  obtain ⟨a, b, xs, ys, rfl, rfl, ha, hb, hz, q0, q1, q2⟩ := h
  cases rx
  cases ry
  obtain ⟨its, r1, p1, _⟩ := I.tuple ha
  obtain ⟨its2, r2, p2, _⟩ := I.tuple hb
  by_cases hx : xs = []
  · subst hx
    cases r1
    exact cat_tup0 p1 p2 ⟨.ref b, H, I, rfl, q0 rfl⟩
  · refine HT.cat_tup p1 p2 (fun z => hx (r1.nil_iff.mp z)) (fun z => ⟨.ref a, H, I, rfl, q1 (r2.nil_iff.mp z)⟩) (fun z => ?_) (by rw [← r1.length, ← r2.length]; exact hz)
    exact ep_tup (h' := s.heap) (t' := s.toks) I (fun _ _ e => e) (r1.append r2) (by rw [List.length_append]; exact hz) q2

/-- t[lo:hi] -/
def rSlD (K : PySem.W.Frag) : V → Option Int → Option Int → Hp → VK → Prop := fun x lo hi H Q => ∃ a xs, x = .ref a ∧ SqT K H a xs ∧
  (HT.sIx xs.length 0 lo = 0 ∧ HT.sIx xs.length xs.length hi = xs.length → Q (.ref a) H) ∧ NewT (cutV xs lo hi) H Q
theorem sl_tupD : SlR X (rSlD X.K) := by
  intro pins s σ H x v vl vu lo hi sl Q I rx hs pl pu h
  obtain ⟨a, xs, rfl, hx, q1, q2⟩ := h
  cases rx
  obtain ⟨its, r, ht, hz⟩ := I.tuple hx
  have hlen : its.toArray.size = xs.length := by rw [List.size_toArray]; exact r.length.symm
  refine ⟨"tuple", _, PyProof.Rows.slot_tuple_getitem.lookup, ht.typeIs, ?_⟩
  by_cases hw : HT.sIx xs.length 0 lo = 0 ∧ HT.sIx xs.length xs.length hi = xs.length
  · exact getItem_tuple_whole ht hs pl pu (by rw [hlen]; exact hw) ⟨.ref a, H, I, rfl, q1 hw⟩
  · refine HT.getItem_tuple_cut ht hs pl pu (by rw [hlen]; exact hw) ?_ (by rw [hlen]; exact hz)
    rw [hlen]
    exact ep_tup (h' := s.heap) (t' := s.toks) I (fun _ _ e => e) ((r.drop (HT.sIx xs.length 0 lo)).take (HT.sIx xs.length xs.length hi - HT.sIx xs.length 0 lo)) (Nat.le_trans (cutV_length xs lo hi) hz) q2

/-- tuple(x) of a list, a tuple -/
def rTupD (K : PySem.W.Frag) : List V → Hp → VK → Prop := fun xs H Q => ∃ p ys, xs = [.ref p] ∧ ((SqL K H p ys ∧ NewT ys H Q) ∨ (SqT K H p ys ∧ Q (.ref p) H))
theorem call_tupleD : CallR X (.type "tuple") (rTupD X.K) := by
  intro pins s σ H xs us Q I r h
  obtain ⟨p, ys, rfl, h⟩ := h
  obtain ⟨u, rfl, rx⟩ := vals1 r
  cases rx
  rcases h with ⟨hq, q⟩ | ⟨hq, q⟩
  · obtain ⟨its, r', pl, hz⟩ := I.list hq
    have hlen := r'.length
    exact call_tuple_list pl.isList (fun h' kp => ep_tup (t' := s.toks) I kp r' hz q) (by simp only [List.size_toArray] <;> omega)
  · obtain ⟨its, r', pl, hz⟩ := I.tuple hq
    exact call_tuple_same pl ⟨.ref p, H, I, rfl, q⟩
/-- tuple(range(..)) -/
def tTupRgD (te : L2.St → Hp → (Int → Int → Hp → Prop) → Prop) : TE := fun σ H Q => te σ H fun a b H1 => RgOk a b ∧ NewT (rgV a b) H1 Q
theorem pe_tupRgD {e : Expr} {te : L2.St → Hp → (Int → Int → Hp → Prop) → Prop} {p pos : Pos} (hc : X.calm = true) (hg : Gl X "tuple") (hm : X.mg "tuple" = none) (he : PRg X e te) (na : starEach [e] X.env = (false, eval e X.env) :: starEach [] X.env) :
    PE X (.Call (.Name "tuple" p) [e] [] pos) (tTupRgD te) := by
  refine ⟨fun pins s σ H Q I h => ?_⟩
  refine Call_ (ld_blt I hg hm boot_tuple (PyProof.Rows.callWith_type1 (args_cons (thn (he pins s σ H _ I h) fun x s1 ⟨r, a, b, t, u, v, H1, ex, hr, I1, ok, q⟩ => args_nil ?_) na) na))
  subst ex
  obtain ⟨b1, b2, b3, b4, b5⟩ := ok
  refine call_tuple_range (n := (b - a).toNat) (I1.ok.hd hc) hr (small_one b1 b2 b3 b4) (rangeSize_nat a b) b5 fun h' tk acc hk hi => ?_
  have e := ep_tup (h' := h') (t' := tk) (us := acc.toList) I1 hk (vals_rg hi) (by rw [rgV_length, sizeLine_eq]; omega) q
  simpa only [tupO, Array.toArray_toList] using e
end
end D

set_option Elab.async false
set_option linter.all false
set_option maxRecDepth 100000
set_option maxHeartbeats 1000000
/-! Fd5: operators, comparisons, items, slices, displays. -/
namespace D
open PySem PySem.Spec L2 PyProof.Rows

theorem line_eq : sizeLine = line := sizeLine_eq

section
variable {F : Fx} {cx : String → Option Addr} {Wx : WX} {X : Cx} {μ : List Addr} {h : AH} {H : Hp}

/-! ### what a view tells -/
theorem view_L {v : RV} {x : V} {xs : List RV} (r : F.R μ h H) (rv : F.v1 μ h H v x) (e : viewL h v = some xs) : ∃ a vs, x = .ref a ∧ Rd H a (.lst vs) ∧ F.v2 μ h H xs vs := by
  cases rv with
  | pv p =>
    cases p with
    | lst rd _ _ rs =>
      simp only [viewL, Option.some.injEq] at e
      subst e
      exact ⟨_, _, rfl, rd, rs.toR⟩
    | _ => simp [viewL] at e
  | ref ea =>
    rename_i p a
    simp only [viewL] at e
    split at e
    · rename_i ys eo
      cases e
      obtain ⟨vs, e1, rs⟩ := r.obj p _ a eo ea
      exact ⟨a, vs, rfl, .inl e1, rs⟩
    · cases e
theorem view_Q {K : PySem.W.Frag} {v : RV} {x : V} {xs : List RV} (r : F.R μ h H) (rv : F.v1 μ h H v x) (e : viewQ h v = some xs) : ∃ a vs, x = .ref a ∧ (SqL K H a vs ∨ SqT K H a vs) ∧ F.v2 μ h H xs vs := by
  cases rv with
  | pv p =>
    cases p with
    | lst rd _ _ rs =>
      simp only [viewQ, Option.some.injEq] at e
      subst e
      exact ⟨_, _, rfl, .inl (.inl rd), rs.toR⟩
    | tup rd _ _ rs =>
      simp only [viewQ, Option.some.injEq] at e
      subst e
      exact ⟨_, _, rfl, .inr (.inl rd.rd), rs.toR⟩
    | _ => simp [viewQ] at e
  | ref ea =>
    rename_i p a
    simp only [viewQ] at e
    split at e
    · rename_i ys eo
      cases e
      obtain ⟨vs, e1, rs⟩ := r.obj p _ a eo ea
      exact ⟨a, vs, rfl, .inl (.inl (.inl e1)), rs⟩
    · cases e
/-! ### dicts -/
theorem view_D {v : RV} {x : V} {kvs : List (PV × RV)} (r : F.R μ h H) (rv : F.v1 μ h H v x) (e : viewD h v = some kvs) : ∃ a ks, x = .ref a ∧ Rd H a (.dK ks) ∧ RRelD F.G μ H (wr F.G μ h) kvs ks := by
  cases rv with
  | pv p =>
    cases p with
    | dct rd _ rs =>
      simp only [viewD, Option.some.injEq] at e
      subst e
      exact ⟨_, _, rfl, .inr ⟨_, rd⟩, rs.toR⟩
    | _ => simp [viewD] at e
  | ref ea =>
    rename_i p a
    simp only [viewD] at e
    split at e
    · rename_i ys eo
      cases e
      obtain ⟨vs, e1, rs⟩ := r.obj p _ a eo ea
      exact ⟨a, vs, rfl, .inl e1, rs⟩
    · cases e
theorem sOf_inj {s t : List Nat} : sOf s = sOf t ↔ s = t := by simp [sOf]
theorem keyEq_rel {k l : PV} {j i : Key} (a : KRel k j) (b : KRel l i) : keyEq k l = decide (j = i) := by
  cases a <;> cases b <;> simp [keyEq, sOf_inj]
theorem isKey_rel {k : PV} {y : V} (hk : isKey k = true) (r : PRel F.G H W k y) : ∃ j, y = kV j ∧ KRel k j := by
  cases r <;> first
    | exact ⟨_, rfl, .int _⟩
    | (rename_i s hs; exact ⟨.inr (sOf s), rfl, .str s hs⟩)
    | simp [isKey] at hk
theorem KRel.key {k : PV} {j : Key} (a : KRel k j) : isKey k = true := by cases a <;> rfl
theorem KRel.rel {k : PV} {j : Key} (a : KRel k j) : PRel F.G H W k (kV j) := by
  cases a with
  | int i => exact .int i
  | str s h => exact .str s h
theorem dget_cons {α : Type} (k k' : PV) (x : α) (r : List (PV × α)) : dget k ((k', x) :: r) = if keyEq k' k then some x else dget k r := by
  unfold dget
  rw [List.find?_cons]
  cases keyEq k' k <;> rfl
theorem dget_some {k : PV} {j : Key} (a : KRel k j) : ∀ {kvs : List (PV × RV)} {ks : List (Key × V)} {x : RV}, RRelD F.G μ H W kvs ks → dget k kvs = some x → ∃ v, valV ks j = some v ∧ RRel F.G μ H W x v
  | _, _, _, .nil, e => by simp [dget] at e
  | _, _, _, .cons (k := k') (j := j') b r rs, e => by
    have ke := keyEq_rel b a
    rw [dget_cons, ke] at e
    by_cases q : j' = j
    · rw [if_pos (decide_eq_true q)] at e
      cases e
      exact ⟨_, valV_pos q, r⟩
    · rw [if_neg (by simpa using q)] at e
      rw [valV_neg q]
      exact dget_some a rs e
theorem dget_none {k : PV} {j : Key} (a : KRel k j) : ∀ {kvs : List (PV × RV)} {ks : List (Key × V)}, RRelD F.G μ H W kvs ks → dget k kvs = none → valV ks j = none
  | _, _, .nil, e => valV_nil
  | _, _, .cons (k := k') (j := j') b r rs, e => by
    have ke := keyEq_rel b a
    rw [dget_cons, ke] at e
    by_cases q : j' = j
    · rw [if_pos (decide_eq_true q)] at e; cases e
    · rw [if_neg (by simpa using q)] at e
      rw [valV_neg q]
      exact dget_none a rs e
theorem dget_isSome {k : PV} {j : Key} (a : KRel k j) {kvs : List (PV × RV)} {ks : List (Key × V)} (rs : RRelD F.G μ H W kvs ks) : (dget k kvs).isSome = (valV ks j).isSome := by
  cases e : dget k kvs with
  | none => rw [dget_none a rs e]; rfl
  | some x =>
    obtain ⟨v, e1, _⟩ := dget_some a rs e
    rw [e1]; rfl
theorem RRelD.any {k : PV} {j : Key} (a : KRel k j) : ∀ {kvs : List (PV × RV)} {ks : List (Key × V)}, RRelD F.G μ H W kvs ks → (kvs.any fun p => keyEq p.1 k) = (ks.any fun p => decide (p.1 = j))
  | _, _, .nil => rfl
  | _, _, .cons b r rs => by rw [List.any_cons, List.any_cons, keyEq_rel b a, RRelD.any a rs]
theorem RRelD.length : ∀ {kvs : List (PV × RV)} {ks : List (Key × V)}, RRelD F.G μ H W kvs ks → kvs.length = ks.length
  | _, _, .nil => rfl
  | _, _, .cons _ _ rs => by simp [RRelD.length rs]
theorem RRelD.repl {k : PV} {j : Key} {x : RV} {v : V} (a : KRel k j) (rx : RRel F.G μ H W x v) : ∀ {kvs : List (PV × RV)} {ks : List (Key × V)}, RRelD F.G μ H W kvs ks →
    RRelD F.G μ H W (kvs.map fun p => if keyEq p.1 k then (p.1, x) else p) (ks.map fun p => if p.1 = j then (p.1, v) else p)
  | _, _, .nil => .nil
  | _, _, .cons (k := k') (j := j') b r rs => by
    have ih := RRelD.repl a rx rs
    have ke := keyEq_rel b a
    rw [List.map_cons, List.map_cons]
    by_cases q : j' = j
    · simp only [ke, q, decide_true, if_true]
      exact .cons (by rw [← q]; exact b) rx ih
    · simp only [ke, q, decide_false, if_false, Bool.false_eq_true]
      exact .cons b r ih
theorem RRelD.snoc {k : PV} {j : Key} {x : RV} {v : V} (a : KRel k j) (rx : RRel F.G μ H W x v) : ∀ {kvs : List (PV × RV)} {ks : List (Key × V)}, RRelD F.G μ H W kvs ks → RRelD F.G μ H W (kvs ++ [(k, x)]) (ks ++ [(j, v)])
  | _, _, .nil => .cons a rx .nil
  | _, _, .cons b r rs => .cons b r (RRelD.snoc a rx rs)
theorem RRelD.put {k : PV} {j : Key} {x : RV} {v : V} (a : KRel k j) (rx : RRel F.G μ H W x v) {kvs : List (PV × RV)} {ks : List (Key × V)} (rs : RRelD F.G μ H W kvs ks) : RRelD F.G μ H W (dput k x kvs) (putK ks j v) := by
  unfold dput putK
  rw [rs.any a]
  by_cases q : (ks.any fun p => decide (p.1 = j)) = true
  · rw [if_pos q, if_pos q]; exact rs.repl a rx
  · rw [if_neg q, if_neg q]; exact rs.snoc a rx
theorem RRelD.merge : ∀ (more : List (PV × RV)) {ms : List (Key × V)} {kvs : List (PV × RV)} {ks : List (Key × V)}, RRelD F.G μ H W more ms → RRelD F.G μ H W kvs ks → RRelD F.G μ H W (dmerge kvs more) (mergeK ks ms)
  | [], _, _, _, s, r => by cases s; exact r
  | _ :: more, _, _, _, s, r => by
    cases s with
    | cons b rx rs =>
      have h := RRelD.merge more rs (r.put b rx)
      exact h
theorem RRelD.get : ∀ {kvs : List (PV × RV)} {ks : List (Key × V)} {i : Nat} {k : PV} {x : RV}, RRelD F.G μ H W kvs ks → kvs[i]? = some (k, x) → ∃ j v, ks[i]? = some (j, v) ∧ KRel k j ∧ RRel F.G μ H W x v
  | _, _, _, _, _, .nil, e => by simp at e
  | _, _, 0, _, _, .cons b r _, e => by simp at e; obtain ⟨rfl, rfl⟩ := e; exact ⟨_, _, rfl, b, r⟩
  | _, _, i + 1, k, x, .cons _ _ rs, e => by
    obtain ⟨j, v, h1, h2⟩ := RRelD.get (i := i) (k := k) (x := x) rs (by simpa using e)
    exact ⟨j, v, by simpa using h1, h2⟩
/-- what d[k] finds -/
theorem DGet_of {a : Addr} {k : PV} {y : V} {kvs : List (PV × RV)} {ks : List (Key × V)} {x : RV} (hk : isKey k = true) (ry : PRel F.G H W k y) (rd : Rd H a (.dK ks)) (rs : RRelD F.G μ H W kvs ks) (e : dget k kvs = some x) :
    ∃ v, DGet H a y (some v) ∧ RRel F.G μ H W x v := by
  obtain ⟨j, ey, kr⟩ := isKey_rel (F := F) hk ry
  obtain ⟨v, e1, rv⟩ := dget_some kr rs e
  exact ⟨v, .inl ⟨ks, j, rd, ey, e1.symm⟩, rv⟩
theorem DGet_opt {a : Addr} {k : PV} {y : V} {kvs : List (PV × RV)} {ks : List (Key × V)} (hk : isKey k = true) (ry : PRel F.G H W k y) (rd : Rd H a (.dK ks)) (rs : RRelD F.G μ H W kvs ks) :
    ∃ o, DGet H a y o ∧ (dget k kvs).isSome = o.isSome ∧ ∀ d w, RRel F.G μ H W d w → RRel F.G μ H W ((dget k kvs).getD d) (o.getD w) := by
  obtain ⟨j, ey, kr⟩ := isKey_rel (F := F) hk ry
  refine ⟨valV ks j, .inl ⟨ks, j, rd, ey, rfl⟩, dget_isSome kr rs, fun d w rd => ?_⟩
  cases e : dget k kvs with
  | none => rw [dget_none kr rs e]; exact rd
  | some x =>
    obtain ⟨v, e1, rv⟩ := dget_some kr rs e
    rw [e1]; exact rv
theorem inD_rel {a b : RV} {x y : V} {k : Bool} (r : F.R μ h H) (ra : F.v1 μ h H a x) (rb : F.v1 μ h H b y) (e : inD h a b = some k) : ∃ p o, y = .ref p ∧ DGet H p x o ∧ k = o.isSome := by
  unfold inD at e
  split at e
  · rename_i kk kvs e1
    split at e
    · rename_i hk
      cases e
      obtain ⟨p, ks, ey, rd, rs⟩ := view_D r rb e1
      cases ra with | pv ra =>
      obtain ⟨o, g, e2, _⟩ := DGet_opt hk ra rd rs
      exact ⟨p, o, ey, g, e2⟩
    · cases e
  · cases e
theorem rd_list {pins : List (Addr × Obj)} {σ : L2.St} {s : Shared} {l : Addr} {xs : List V} (I : Inv X pins σ H s) (r : Rd H l (.lst xs)) :
    xs.length ≤ sizeLine ∧ ∃ (its : List Value) (n : Nat), Vals xs its ∧ xs.length = its.length ∧ s.heap.get? l = some { cls := .type "list", data := .seq its.toArray n } := by
  obtain ⟨z, its, n, r, e⟩ := r.ok I.hok
  exact ⟨z, its, n, r, r.length, e⟩

/-! ### new objects -/
theorem new_tup {xs : List RV} {vs : List V} {Q : VK} {Xk : ExcV → AH → List Addr → Hp → Prop} (r : F.R μ h H) (rs : F.v2 μ h H xs vs) (f : Fin F μ h H (newT xs h) (vK F Q) Xk) :
    vs.length ≤ sizeLine ∧ NewT vs H Q := by
  unfold newT at f
  split at f
  · rename_i hl
    split at f
    · rename_i ys ey
      have := allPV_some ey
      subst this
      rw [line_eq, ← rs.length]
      refine ⟨hl, fun p o ho hp => ?_⟩
      have g : Grow H (wr F.G μ h) (upd H p (.frz o (.tup vs))) (wr F.G μ h) := .fresh hp
      exact f.at (Ext.fresh hp) (r.fresh hp) _ (.pv (.tup ⟨o, upd_same, ho⟩ (wr_not r hp) (by simpa using hl) (rs.toP.grow g)))
    · exact f.elim
  · exact f.elim
theorem newT_ok {xs : List PV} {K : RV → AH → List Addr → Hp → Prop} {Xk : ExcV → AH → List Addr → Hp → Prop} (f : Fin F μ h H (newT (xs.map .pv) h) K Xk) : Fin F μ h H (.ok (.pv (.tup xs)) h) K Xk := by
  unfold newT at f
  split at f
  · rw [allPV_map] at f
    exact f
  · exact f.elim
theorem new_lst {m : Bool} {xs : List RV} {vs : List V} {Q : VK} {Xk : ExcV → AH → List Addr → Hp → Prop} (r : F.R μ h H) (rs : F.v2 μ h H xs vs) (f : Fin F μ h H (newL m xs h) (vK F Q) Xk) :
    vs.length ≤ sizeLine ∧ ∀ p, H p = none → Q (.ref p) (upd H p (.lst vs)) := by
  unfold newL at f
  split at f
  · rename_i hl
    rw [line_eq, ← rs.length]
    refine ⟨hl, fun p hp => ?_⟩
    cases m with
    | true =>
      have g : Grow H (wr F.G μ h) (upd H p (.lst vs)) (wr F.G (μ ++ [p]) (h ++ [.lst xs])) := .push r hp
      refine f.at (Ext.push r hp) (r.push hp ⟨vs, upd_same, rs.grow g ⟨[p], rfl⟩⟩) _ (.ref ?_)
      rw [← r.len]; simp
    | false =>
      simp only [Bool.false_eq_true, if_false] at f
      split at f
      · rename_i ys ey
        have := allPV_some ey
        subst this
        have g : Grow H (wr F.G μ h) (upd H p (.lst vs)) (wr F.G μ h) := .fresh hp
        exact f.at (Ext.fresh hp) (r.fresh hp) _ (.pv (.lst (.inl upd_same) (wr_not r hp) (by simpa using hl) (rs.toP.grow g)))
      · exact f.elim
  · exact f.elim
theorem new_str {s : List Nat} {Q : VK} {Xk : ExcV → AH → List Addr → Hp → Prop} (r : F.R μ h H) (hs : ∀ c ∈ s, c < 0x110000) (f : Fin F μ h H (newS s h) (vK F Q) Xk) : s.length ≤ line ∧ Q (.str (sOf s)) H := by
  unfold newS at f
  split at f
  · rename_i hl
    exact ⟨hl, f.here r _ (.pv (.str s (okS_iff.mpr ⟨hl, hs⟩)))⟩
  · exact f.elim
theorem sOf_len (s : List Nat) : (sOf s).length = s.length := by simp [sOf, Str.length]
theorem sOf_app (s t : List Nat) : sOf s ++ sOf t = sOf (s ++ t) := by
  show Str.append _ _ = _
  simp [Str.append, sOf]

/-! ### binary operators -/
def Op2.toOp : Op2 → Operator
  | .add => .Add | .sub => .Sub | .mul => .Mult | .fdiv => .FloorDiv | .mod => .Mod | .pow => .Pow | .shl => .LShift | .shr => .RShift | .band => .BitAnd | .bor => .BitOr | .bxor => .BitXor

theorem small_iff {i : Int} : small i = true ↔ -(2 ^ 64) < i ∧ i < 2 ^ 64 := by simp [small]
theorem powOk_iff {i j : Int} : powOk i j = true ↔ CPow i j := by simp [powOk, CPow, and_assoc]

/-- the ints' rule of each operator -/
theorem op_ints (o : Op2) {i j k : Int} (e : bopI o i j = some k) {pins : List (Addr × Obj)} {s : Shared} {σ : L2.St} {H : Hp} {v u : Value} {Q : VK} (I : Inv X pins σ H s) (rv : RelV (.int i) v) (ru : RelV (.int j) u) (q : Q (.int k) H) :
    wpAny (model X.prog X.w) X.A (binaryOp o.toOp v u) (EP X pins σ Q) X.xe s := by
  have r2 : ∀ {r : R2}, OpR X (binaryOp o.toOp) r → r (.int i) (.int j) H Q → wpAny (model X.prog X.w) X.A (binaryOp o.toOp v u) (EP X pins σ Q) X.xe s := fun ho hr => ho pins s σ H _ _ v u Q I rv ru hr
  cases o with
  | add => simp only [bopI, Option.some.injEq] at e; subst e; exact r2 op_add ⟨i, j, rfl, rfl, q⟩
  | sub => simp only [bopI, Option.some.injEq] at e; subst e; exact r2 op_sub ⟨i, j, rfl, rfl, q⟩
  | mul =>
    simp only [bopI] at e
    split at e
    · rename_i c
      cases e
      refine r2 op_mul ⟨i, j, rfl, rfl, ?_, q⟩
      simp only [Bool.or_eq_true, small_iff] at c
      exact c
    · cases e
  | fdiv =>
    simp only [bopI] at e
    split at e
    · rename_i c
      cases e
      refine r2 op_fdiv ⟨i, j, rfl, rfl, ?_, q⟩
      simpa [CDiv] using c
    · cases e
  | mod =>
    simp only [bopI] at e
    split at e
    · rename_i c
      cases e
      exact r2 op_mod ⟨i, j, rfl, rfl, c, q⟩
    · cases e
  | pow =>
    simp only [bopI] at e
    split at e
    · rename_i c
      cases e
      exact r2 op_pow ⟨i, j, rfl, rfl, powOk_iff.mp c, q⟩
    · cases e
  | shl =>
    simp only [bopI] at e
    split at e
    · rename_i c
      cases e
      exact r2 op_shl ⟨i, j, rfl, rfl, powOk_iff.mp c, q⟩
    · cases e
  | shr =>
    simp only [bopI] at e
    split at e
    · rename_i c
      cases e
      exact r2 op_shr ⟨i, j, rfl, rfl, c, q⟩
    · cases e
  | band => simp only [bopI, Option.some.injEq] at e; subst e; exact r2 op_and ⟨i, j, rfl, rfl, q⟩
  | bor => simp only [bopI, Option.some.injEq] at e; subst e; exact r2 op_or ⟨i, j, rfl, rfl, q⟩
  | bxor => simp only [bopI, Option.some.injEq] at e; subst e; exact r2 op_xor ⟨i, j, rfl, rfl, q⟩

/-- list + list, list * int over anything that may be read -/
theorem cat_rd {pins : List (Addr × Obj)} {s : Shared} {σ : L2.St} {l b : Addr} {xs zs : List V} {Q : VK} (I : Inv X pins σ H s) (hH : Rd H l (.lst xs)) (hB : Rd H b (.lst zs)) (hz : xs.length + zs.length ≤ sizeLine)
    (q : ∀ p, H p = none → Q (.ref p) (upd H p (.lst (xs ++ zs)))) : wpAny (model X.prog X.w) X.A (binaryOp .Add (.ref l) (.ref b)) (EP X pins σ Q) X.xe s := by
  obtain ⟨z, its, n, r, hl, e⟩ := rd_list I hH
  obtain ⟨z2, its2, n2, r2, hl2, e2⟩ := rd_list I hB
  refine PySem.P.add_list e e2 ?_ (by rw [List.size_toArray, List.size_toArray]; omega)
  have ea : its.toArray ++ its2.toArray = (its ++ its2).toArray := by simp
  rw [ea]
  exact ⟨.ref _, _, I.lnew (t' := s.toks) (r.append r2) (by rw [List.length_append]; omega), rfl, q _ I.fresh⟩
theorem rep_rd {pins : List (Addr × Obj)} {s : Shared} {σ : L2.St} {l : Addr} {k : Int} {t : Tok} {xs : List V} {Q : VK} (I : Inv X pins σ H s) (hH : Rd H l (.lst xs)) (h1 : -(2 ^ 63) ≤ k) (h2 : k < 2 ^ 63) (hz : xs.length * k.toNat ≤ sizeLine)
    (q : ∀ p, H p = none → Q (.ref p) (upd H p (.lst (List.replicate k.toNat xs).flatten))) : wpAny (model X.prog X.w) X.A (binaryOp .Mult (.ref l) (.int k t)) (EP X pins σ Q) X.xe s := by
  obtain ⟨z, its, n, r, hl, e⟩ := rd_list I hH
  have hlen : its.toArray.size * k.toNat ≤ sizeLine := by rw [List.size_toArray, ← hl]; exact hz
  have hcap : ¬ its.toArray.size * k.toNat > (2 ^ 63 - 1) / 8 := by
    have : (sizeLine : Nat) ≤ (2 ^ 63 - 1) / 8 := by decide
    omega
  have hfit : ¬ (!Builtin.List.listFitsIndex k) = true := by
    rw [fitsIndex_both h1 h2]
    exact Bool.false_ne_true
  have hlong : ¬ Builtin.List.listTooLong (its.toArray.size * k.toNat) = true := by
    rw [notLongL hlen]
    exact Bool.false_ne_true
  have hnew : List.foldl (fun x1 x2 => x1 ++ x2) #[] (List.replicate (if its.toArray.isEmpty = true then 0 else k.toNat) its.toArray) = (List.replicate k.toNat its).flatten.toArray := by
    have f0 : ∀ m : Nat, List.foldl (fun x1 x2 => x1 ++ x2) #[] (List.replicate m its.toArray) = (List.replicate m its).flatten.toArray := fun m => by
      have := foldl_rep its m []
      rw [List.nil_append] at this
      exact this
    rw [f0]
    cases its with
    | nil => simp
    | cons a r' => rw [if_neg (by simp)]
  refine wpAny_binaryOp_repeat_ref (T := "list") (U := "int") (by decide) ⟨_, e, rfl⟩ (fun s' => typeIs_int s' k t) noFill_list_mul F.fills_int_mul F.slot_int_rmul repeat_list F.slot_int_index.lookup
    (call_meets F.slot_int_rmul (typeIs_int s k t) F.entry_int_rmul (F.args_int_rmul_2 _ _) (int___rmul___int_list k t l its.toArray n)
      ⟨e, rfl, ⟨_, e, rfl⟩, call_meets F.slot_list_mul ⟨_, e, rfl⟩ F.entry_list_mul (F.args_list_mul_2 _ _) (AutoListH.list___mul___list_int_3 l its.toArray n k t hfit hcap hlong) ⟨e, ?_⟩⟩)
  rw [hnew]
  exact ⟨.ref _, _, I.lnew (t' := s.toks) (r.rep k.toNat) (by rw [lm_len_rep_flat, Nat.mul_comm]; exact hz), rfl, q _ I.fresh⟩

theorem foldl_arr (xs : Array Nat) : ∀ (n : Nat) (acc : Array Nat), (List.replicate n xs).foldl (· ++ ·) acc = acc ++ ((List.replicate n xs.toList).flatten).toArray
  | 0, acc => by simp
  | n + 1, acc => by
    rw [List.replicate_succ, List.foldl_cons, foldl_arr xs n, List.replicate_succ, List.flatten_cons]
    apply Array.toList_inj.mp
    simp
theorem mem_rep {α : Type} {n : Nat} {xs : List α} {c : α} (h : c ∈ rep n xs) : c ∈ xs := by
  unfold rep at h
  rw [List.mem_flatten] at h
  obtain ⟨l, hl, hc⟩ := h
  rw [List.eq_of_mem_replicate hl] at hc
  exact hc
theorem fitsI_iff {i : Int} : fitsI i = true ↔ -(2 ^ 63) ≤ i ∧ i < 2 ^ 63 := by simp [fitsI]
theorem rep_one {α : Type} (xs : List α) : rep 1 xs = xs := by simp [rep]
theorem rep_nil {α : Type} (n : Nat) : rep n ([] : List α) = [] := by induction n <;> simp [rep, List.replicate_succ]
theorem rep_str {pins : List (Addr × Obj)} {s : Shared} {σ : L2.St} {x : List Nat} {t u : Tok} {k : Int} {Q : VK} (I : Inv X pins σ H s) (h1 : fitsI k = true) (hz : x.length * k.toNat ≤ line)
    (q : Q (.str (sOf (rep k.toNat x))) H) : wpAny (model X.prog X.w) X.A (binaryOp .Mult (.str (sOf x) t) (.int k u)) (EP X pins σ Q) X.xe s := by
  obtain ⟨hlo, hhi⟩ := fitsI_iff.mp h1
  have hl : (sOf x).length = x.length := sOf_len x
  by_cases h0 : k < 1
  · refine PySem.P.mul_str_none h0 (by omega) ⟨.str (sOf (rep k.toNat x)), H, I.tok _, ⟨s.toks, ?_⟩, q⟩
    have : k.toNat = 0 := by omega
    rw [this]
    rfl
  · have hpos : 0 < k := by omega
    have e : ((x.length * k.toNat : Nat) : Int) = (x.length : Int) * k := by
      rw [Int.natCast_mul, Int.toNat_of_nonneg (by omega)]
    have hm : (line : Nat) = 16777216 := rfl
    refine PySem.P.mul_str (by rw [decide_eq_false (by omega : ¬ k < -(2 ^ 63 : Int)), decide_eq_false (by omega : ¬ k ≥ (2 ^ 63 : Int))]; rfl) (fun _ _ => ?_) (fun _ _ => ?_) ?_
    · have h3 : (x.length : Int) * k ≤ 2 ^ 63 - 1 := by rw [← e]; omega
      have h4 : (x.length : Int) ≤ (2 ^ 63 - 1) / k := (Int.le_ediv_iff_mul_le hpos).mpr h3
      rw [hl]; omega
    · unfold Builtin.Str.tooLong
      rw [hl, line_eq]
      exact decide_eq_false (by omega)
    · rw [if_neg h0]
      split
      · rename_i c
        refine ⟨.str (sOf x), H, I.tok _, ⟨t, rfl⟩, ?_⟩
        simp only [Bool.or_eq_true, beq_iff_eq] at c
        rcases c with c | c
        · subst c
          simpa [rep_one] using q
        · rw [hl] at c
          have : x = [] := List.length_eq_zero_iff.mp c
          subst this
          simpa [rep_nil] using q
      · have ef : (⟨(List.replicate k.toNat (sOf x).cps).foldl (· ++ ·) #[]⟩ : Str) = sOf (rep k.toNat x) := by
          rw [foldl_arr]
          simp [rep, sOf]
        rw [ef]
        refine ⟨?_, .str (sOf (rep k.toNat x)), H, I.tok _, ⟨s.toks, rfl⟩, q⟩
        rw [sOf_len, line_eq]
        simpa [rep, Nat.mul_comm] using hz
theorem op_bopL (m : Bool) (o : Op2) {pins : List (Addr × Obj)} {s : Shared} {σ : L2.St} {x y : V} {v u : Value} {Q : VK} {a b : RV} {Xk : ExcV → AH → List Addr → Hp → Prop} (I : Inv X pins σ H s) (rx : RelV x v) (ry : RelV y u)
    (r : F.R μ h H) (ra : F.v1 μ h H a x) (rb : F.v1 μ h H b y) (f : Fin F μ h H (bopL m o a b h) (vK F Q) Xk) : wpAny (model X.prog X.w) X.A (binaryOp o.toOp v u) (EP X pins σ Q) X.xe s := by
  unfold bopL at f
  split at f
  · rename_i xs ys e1 e2
    obtain ⟨a1, vs, rfl, rd1, rs1⟩ := view_L r ra e1
    obtain ⟨a2, ws, rfl, rd2, rs2⟩ := view_L r rb e2
    have q := new_lst r (rs1.append rs2) f
    cases rx; cases ry
    exact cat_rd I rd1 rd2 (by simpa using q.1) q.2
  · rename_i xs k e1
    obtain ⟨a1, vs, rfl, rd1, rs1⟩ := view_L r ra e1
    cases rb with | pv rb =>
    cases rb
    split at f
    · rename_i c
      simp only [Bool.and_eq_true, decide_eq_true_eq] at c
      cases rx
      obtain ⟨ty, rfl⟩ := ry
      have q := new_lst r (rs1.rep k.toNat) f
      obtain ⟨c1, c2⟩ := fitsI_iff.mp c.1
      exact rep_rd I rd1 c1 c2 (by rw [line_eq, ← rs1.length]; exact c.2) q.2
    · exact f.elim
  · exact f.elim
theorem op_bop (m : Bool) (o : Op2) : OpR X (binaryOp o.toOp) (rV2 F (bop m o)) := by
  intro pins s σ H x y v u Q I rx ry hr
  obtain ⟨μ, h, a, b, r, ra, rb, f⟩ := hr
  unfold bop at f
  split at f
  · rename_i i j
    cases ra with | pv ra => cases rb with | pv rb =>
    cases ra; cases rb
    split at f
    · rename_i k ek
      exact op_ints o ek I rx ry (f.here r _ (.pv (.int k)))
    · exact f.elim
  · rename_i z t
    cases ra with | pv ra => cases rb with | pv rb =>
    cases ra with | str _ hz => cases rb with | str _ ht =>
    split at f
    · have q := new_str r (fun c hc => (List.mem_append.mp hc).elim ((okS_iff.mp hz).2 c) ((okS_iff.mp ht).2 c)) f
      refine op_add_str pins s σ H _ _ v u Q I rx ry ⟨_, _, rfl, rfl, ?_, ?_⟩
      · rw [sOf_len, sOf_len, line_eq, ← List.length_append]; exact q.1
      · rw [sOf_app]; exact q.2
    · exact f.elim
  · rename_i z k
    cases ra with | pv ra => cases rb with | pv rb =>
    cases ra with | str _ hz =>
    cases rb
    split at f
    · split at f
      · rename_i c
        simp only [Bool.and_eq_true, decide_eq_true_eq] at c
        obtain ⟨tx, rfl⟩ := rx
        obtain ⟨ty, rfl⟩ := ry
        refine rep_str I c.1 c.2 (f.here r _ (.pv (.str _ (okS_iff.mpr ⟨?_, fun c hc => (okS_iff.mp hz).2 c (mem_rep hc)⟩))))
        rw [Nat.mul_comm] at c
        simpa [rep] using c.2
      · exact f.elim
    · exact f.elim
  · rename_i xs ys
    cases ra with | pv ra => cases rb with | pv rb =>
    cases ra with | tup rda wa la rsa => cases rb with | tup rdb wb lb rsb =>
    split at f
    · have q := new_tup (μ := μ) r (by rw [List.map_append]; exact (rsa.toR).append rsb.toR) f
      have f2 := newT_ok f
      refine op_catD pins s σ H _ _ v u Q I rx ry ⟨_, _, _, _, rfl, rfl, .inl rda.rd, .inl rdb.rd, by simpa using q.1, fun e => ?_, fun e2 => ?_, q.2⟩
      · subst e
        cases rsa
        exact f2.here r _ (.pv (.tup rdb wb lb rsb))
      · subst e2
        cases rsb
        rw [List.append_nil] at f2
        exact f2.here r _ (.pv (.tup rda wa la rsa))
    · exact f.elim
  · exact op_bopL m o I rx ry r ra rb f

/-! ### comparisons -/
mutual
def toPD : PV → PyData
  | .non => .none
  | .bl b => .bool b
  | .int i => .int i
  | .str s => .str (sOf s)
  | .tup xs => .tuple (toPDs xs)
  | .lst xs => .list (toPDs xs)
  | .obj _ _ => .none
  | .dct _ => .none
def toPDs : List PV → List PyData
  | [] => []
  | x :: xs => toPD x :: toPDs xs
end
theorem sOf_beq (s t : List Nat) : (sOf s == sOf t) = (s == t) := by
  rw [Bool.eq_iff_iff, beq_iff_eq, beq_iff_eq, sOf_inj]
theorem toPDs_eq (xs : List PV) : toPDs xs = xs.map toPD := by
  induction xs with
  | nil => rfl
  | cons x xs ih => simp [toPDs, ih]
mutual
theorem eqv_toPD : ∀ {n m : Nat} {x y : PV}, plain n x = true → plain m y = true → PyData.eqv (toPD x) (toPD y) = pyEq x y
  | 0, _, _, _, h, _ => by simp [plain] at h
  | _, 0, _, _, _, h => by simp [plain] at h
  | n + 1, m + 1, x, y, h1, h2 => by
    cases x <;> cases y <;> simp only [plain] at h1 h2 <;> first
      | (cases h1; done)
      | (cases h2; done)
      | (simp only [toPD, PyData.eqv, pyEq]; done)
      | (simp only [toPD, PyData.eqv, pyEq, sOf_beq]; done)
      | (simp only [toPD, PyData.eqv, pyEq]; exact eqv_toPDs h1 h2)
theorem eqv_toPDs : ∀ {n m : Nat} {xs ys : List PV}, plains n xs = true → plains m ys = true → PyData.eqvAll (toPDs xs) (toPDs ys) = pyEqs xs ys
  | _, _, [], [], _, _ => by simp [toPDs, PyData.eqvAll, pyEqs]
  | _, _, [], _ :: _, _, _ => by simp [toPDs, PyData.eqvAll, pyEqs]
  | _, _, _ :: _, [], _, _ => by simp [toPDs, PyData.eqvAll, pyEqs]
  | _, _, x :: xs, y :: ys, h1, h2 => by
    simp only [plains, Bool.and_eq_true] at h1 h2
    simp only [toPDs, PyData.eqvAll, pyEqs]
    rw [eqv_toPD h1.1 h2.1, eqv_toPDs h1.2 h2.2]
end
mutual
theorem lay_toPD {G : Gm} {H : Hp} {W : Wr} : ∀ {n : Nat} {x : PV} {v : V}, plain n x = true → PRel G H W x v → (toPD x).canLay0 = true ∧ (toPD x).depth ≤ n
  | 0, _, _, h, _ => by simp [plain] at h
  | _ + 1, _, _, _, .non => by simp [toPD, PyData.canLay0, PyData.depth]
  | _ + 1, _, _, _, .bl _ => by simp [toPD, PyData.canLay0, PyData.depth]
  | _ + 1, _, _, _, .int _ => by simp [toPD, PyData.canLay0, PyData.depth]
  | _ + 1, _, _, _, .str s hs => by
    have := (okS_iff.mp hs).2
    simp only [toPD, PyData.canLay0, PyData.depth, PyData.strOk, Nat.zero_le, and_true, sOf]
    simpa using this
  | n + 1, _, _, h, .tup _ _ _ rs => by
    simp only [plain] at h
    have := lay_toPDs h rs
    simp only [toPD, PyData.canLay0, PyData.depth]
    exact ⟨this.1, by omega⟩
  | n + 1, _, _, h, .lst _ _ _ rs => by
    simp only [plain] at h
    have := lay_toPDs h rs
    simp only [toPD, PyData.canLay0, PyData.depth]
    exact ⟨this.1, by omega⟩
  | _ + 1, _, _, h, .obj _ _ _ _ => by simp [plain] at h
  | _ + 1, _, _, h, .dct _ _ _ => by simp [plain] at h
theorem lay_toPDs {G : Gm} {H : Hp} {W : Wr} : ∀ {n : Nat} {xs : List PV} {vs : List V}, plains n xs = true → PRels G H W xs vs → PyData.canLayAll0 (toPDs xs) = true ∧ PyData.depthAll (toPDs xs) ≤ n
  | _, _, _, _, .nil => by simp [toPDs, PyData.canLayAll0, PyData.depthAll]
  | n, _, _, h, .cons r rs => by
    simp only [plains, Bool.and_eq_true] at h
    have h1 := lay_toPD h.1 r
    have h2 := lay_toPDs h.2 rs
    simp only [toPDs, PyData.canLayAll0, PyData.depthAll, Bool.and_eq_true]
    exact ⟨⟨h1.1, h2.1⟩, by omega⟩
end
mutual
theorem dp_toPD {G : Gm} {K : PySem.W.Frag} {H : Hp} {W : Wr} : ∀ {n : Nat} {x : PV} {v : V}, plain n x = true → PRel G H W x v → Dp K H v (toPD x)
  | 0, _, _, h, _ => by simp [plain] at h
  | _ + 1, _, _, _, .non => .non
  | _ + 1, _, _, _, .bl b => .bl b
  | _ + 1, _, _, _, .int i => .int i
  | _ + 1, _, _, _, .str s _ => .str _
  | n + 1, _, _, h, .tup rd _ _ rs => by
    simp only [plain] at h
    exact .tup (.inl rd.rd) (dp_toPDs h rs)
  | n + 1, _, _, h, .lst rd _ _ rs => by
    simp only [plain] at h
    exact .lst (.inl rd) (dp_toPDs h rs)
  | _ + 1, _, _, h, .obj _ _ _ _ => by simp [plain] at h
  | _ + 1, _, _, h, .dct _ _ _ => by simp [plain] at h
theorem dp_toPDs {G : Gm} {K : PySem.W.Frag} {H : Hp} {W : Wr} : ∀ {n : Nat} {xs : List PV} {vs : List V}, plains n xs = true → PRels G H W xs vs → DpAll K H vs (toPDs xs)
  | _, _, _, _, .nil => .nil
  | n, _, _, h, .cons r rs => by
    simp only [plains, Bool.and_eq_true] at h
    exact .cons (dp_toPD h.1 r) (dp_toPDs h.2 rs)
end
/-- a view as a pure value -/
theorem view_P {K : PySem.W.Frag} {v : RV} {x : V} {p : PV} {n : Nat} (r : F.R μ h H) (rv : F.v1 μ h H v x) (e : viewP h v = some p) (hp : plain n p = true) (hn : n ≤ 64) : Dp K H x (toPD p) ∧ SeqAt.shaped (toPD p) = true := by
  have sh : ∀ {q : PyData}, q.canLay0 = true → q.depth ≤ n → SeqAt.shaped q = true := fun {q} h1 h2 => by
    unfold SeqAt.shaped
    rw [h1, decide_eq_true (by omega)]; rfl
  cases rv with
  | pv q =>
    simp only [viewP, Option.some.injEq] at e
    subst e
    have l := lay_toPD hp q
    exact ⟨dp_toPD hp q, sh l.1 l.2⟩
  | ref ea =>
    rename_i pl a
    simp only [viewP] at e
    split at e
    · rename_i ys eo
      simp only [Option.map_eq_some_iff] at e
      obtain ⟨zs, e1, e2⟩ := e
      have := allPV_some e1
      subst this e2
      obtain ⟨vs, e3, rs⟩ := r.obj pl _ a eo ea
      cases n with
      | zero => simp [plain] at hp
      | succ n =>
        simp only [plain] at hp
        have l := lay_toPDs hp rs.toP
        refine ⟨.lst (.inl (.inl e3)) (dp_toPDs hp rs.toP), sh ?_ ?_⟩
        · simp only [toPD, PyData.canLay0]; exact l.1
        · simp only [toPD, PyData.depth]; omega
    · cases e

def Cmp.toOp : Cmp → CmpOp
  | .eq => .Eq | .ne => .NotEq | .lt => .Lt | .le => .LtE | .gt => .Gt | .ge => .GtE | .isN => .Is | .notN => .IsNot | .in_ => .In | .notIn => .NotIn
theorem ltNat_iff : ∀ {s t : List Nat}, ltNat s t = decide (s < t)
  | [], [] => by simp [ltNat]
  | [], _ :: _ => by simp [ltNat]
  | _ :: _, [] => by simp [ltNat]
  | x :: xs, y :: ys => by
    simp only [ltNat]
    split
    · rename_i e
      subst e
      rw [ltNat_iff]
      simp [List.cons_lt_cons_iff]
    · rename_i e
      simp [List.cons_lt_cons_iff, e]
theorem any_toPD {n m : Nat} {x : PV} (hx : plain n x = true) : ∀ {ys : List PV}, plains m ys = true → ((toPDs ys).any fun z => PyData.eqv z (toPD x)) = ys.any fun y => pyEq y x
  | [], _ => rfl
  | y :: ys, h => by
    simp only [plains, Bool.and_eq_true] at h
    simp only [toPDs, List.any_cons]
    rw [eqv_toPD h.1 hx, any_toPD hx h.2]
def rInT (K : PySem.W.Frag) : R2 := fun x y H Q => ∃ d ds, Dp K H x d ∧ Dp K H y (.tuple ds) ∧ SeqAt.shaped d = true ∧ SeqAt.shaped (.tuple ds) = true ∧ Q (.bl (ds.any fun z => PyData.eqv z d)) H
def rNotInT (K : PySem.W.Frag) : R2 := fun x y H Q => ∃ d ds, Dp K H x d ∧ Dp K H y (.tuple ds) ∧ SeqAt.shaped d = true ∧ SeqAt.shaped (.tuple ds) = true ∧ Q (.bl (!ds.any fun z => PyData.eqv z d)) H
theorem op_inT (hu : X.A.units + 65 < cLine) : OpR X (compareOp .In) (rInT X.K) := by
  intro pins s σ H x y v u Q I rx ry h
  obtain ⟨d, ds, hd, he, sd, se, q⟩ := h
  obtain ⟨as, r1⟩ := Dp.reads I d x v hd rx
  obtain ⟨bs, r2⟩ := Dp.reads I (.tuple ds) y u he ry
  exact SeqAt.in_tuple_reads r2 r1 (SeqAt.canLay_of_shaped se) (SeqAt.canLay_of_shaped sd) (room_in_shaped sd hu) ⟨.bl _, H, I, rfl, q⟩
theorem op_notInT (hu : X.A.units + 65 < cLine) : OpR X (compareOp .NotIn) (rNotInT X.K) := by
  intro pins s σ H x y v u Q I rx ry h
  obtain ⟨d, ds, hd, he, sd, se, q⟩ := h
  obtain ⟨as, r1⟩ := Dp.reads I d x v hd rx
  obtain ⟨bs, r2⟩ := Dp.reads I (.tuple ds) y u he ry
  exact SeqAt.notIn_tuple_reads r2 r1 (SeqAt.canLay_of_shaped se) (SeqAt.canLay_of_shaped sd) (room_in_shaped sd hu) ⟨.bl _, H, I, rfl, q⟩
/-! ### order -/
mutual
theorem alike_toPD : ∀ {x y : PV}, ordP x y = true → PySem.W.alike (toPD x) (toPD y) = true
  | .int _, y, h => by cases y <;> first | rfl | cases h
  | .str _, y, h => by cases y <;> first | rfl | cases h
  | .tup xs, y, h => by
    cases y <;> try cases h
    simp only [ordP] at h
    simp only [toPD, PySem.W.alike]
    exact alikes_toPD h
  | .non, _, h => by cases h
  | .bl _, _, h => by cases h
  | .lst _, _, h => by cases h
  | .obj _ _, _, h => by cases h
  | .dct _, _, h => by cases h
theorem alikes_toPD : ∀ {xs ys : List PV}, ordPs xs ys = true → PySem.W.alikeAll (toPDs xs) (toPDs ys) = true
  | [], ys, _ => by simp [toPDs, PySem.W.alikeAll]
  | _ :: _, [], _ => by simp [toPDs, PySem.W.alikeAll]
  | x :: xs, y :: ys, h => by
    simp only [ordPs, Bool.and_eq_true] at h
    simp only [toPDs, PySem.W.alikeAll, Bool.and_eq_true]
    exact ⟨alike_toPD h.1, alikes_toPD h.2⟩
end
mutual
theorem dataLt_toPD : ∀ {n m : Nat} {x y : PV}, ordP x y = true → plain n x = true → plain m y = true → PySem.W.dataLt (toPD x) (toPD y) = pyLt x y
  | _, _, .int i, y, h, _, _ => by
    cases y <;> try cases h
    simp only [toPD, pyLt]
    exact PySem.W.dataLt_int _ _
  | _, _, .str s, y, h, _, _ => by
    cases y <;> try cases h
    simp only [toPD, pyLt]
    rw [PySem.W.dataLt_str, ltNat_iff]
  | 0, _, .tup _, _, _, h, _ => by simp [plain] at h
  | _ + 1, 0, .tup _, _, _, _, h => by simp [plain] at h
  | n + 1, m + 1, .tup xs, y, h, h1, h2 => by
    cases y <;> try cases h
    simp only [ordP] at h
    simp only [plain] at h1 h2
    simp only [toPD, pyLt]
    rw [PySem.W.dataLt_tuple]
    exact dataLts_toPD h h1 h2
  | _, _, .non, _, h, _, _ => by cases h
  | _, _, .bl _, _, h, _, _ => by cases h
  | _, _, .lst _, _, h, _, _ => by cases h
  | _, _, .obj _ _, _, h, _, _ => by cases h
  | _, _, .dct _, _, h, _, _ => by cases h
theorem dataLts_toPD : ∀ {n m : Nat} {xs ys : List PV}, ordPs xs ys = true → plains n xs = true → plains m ys = true → PyProof.Rows.lexLt PyProof.Rows.itemOrd (PySem.W.keyToksAll (toPDs xs)) (PySem.W.keyToksAll (toPDs ys)) = pyLts xs ys
  | _, _, [], [], _, _, _ => by simp only [toPDs, pyLts, PySem.W.keyToksAll]; decide
  | _, _, [], _ :: _, _, _, _ => by
    simp only [toPDs, pyLts, PySem.W.keyToksAll]
    rfl
  | _, _, _ :: _, [], _, _, _ => by
    simp only [toPDs, pyLts, PySem.W.keyToksAll]
    rfl
  | n, m, x :: xs, y :: ys, h, h1, h2 => by
    simp only [ordPs, Bool.and_eq_true] at h
    simp only [plains, Bool.and_eq_true] at h1 h2
    simp only [toPDs, pyLts]
    rw [PySem.W.dataLt_cons (alike_toPD h.1), eqv_toPD h1.1 h2.1, dataLt_toPD h.1 h1.1 h2.1, dataLts_toPD h.2 h1.2 h2.2]
end
def rLtT (K : PySem.W.Frag) : R2 := fun x y H Q => ∃ d e, Dp K H x d ∧ Dp K H y e ∧ PySem.W.alike d e = true ∧ d ≠ .none ∧ d.depth ≤ 64 ∧ Q (.bl (PySem.W.dataLt d e)) H
theorem op_ltT (hu : X.A.units + 65 < cLine) : OpR X (compareOp .Lt) (rLtT X.K) := by
  intro pins s σ H x y v u Q I rx ry h
  obtain ⟨d, e, hd, he, al, hn, hp, q⟩ := h
  obtain ⟨as, r1⟩ := Dp.reads I d x v hd rx
  obtain ⟨bs, r2⟩ := Dp.reads I e y u he ry
  exact PySem.W.rcLt_alike d e X.A s v u as bs r1 r2 al hn (by omega) X.prog X.w _ _ ⟨.bl _, H, I, rfl, q⟩
theorem op_cmp (o : Cmp) (hu : X.A.units + 70 < cLine) : OpR X (compareOp o.toOp) (rV2 F (cmpO o)) := by
  intro pins s σ H x y v u Q I rx ry hr
  obtain ⟨μ, h, a, b, r, ra, rb, f⟩ := hr
  unfold cmpO at f
  split at f
  · rename_i k ek
    have q : Q (.bl k) H := f.here r _ (.pv (.bl k))
    clear f
    cases o with
    | eq =>
      simp only [cmpR, eqR] at ek
      split at ek
      · rename_i p1 p2 e1 e2
        split at ek
        · rename_i c
          simp only [Bool.and_eq_true] at c
          have d1 := view_P (K := X.K) r ra e1 c.1 (by decide)
          have d2 := view_P (K := X.K) r rb e2 c.2 (by decide)
          refine op_eqD (by omega) pins s σ H x y v u Q I rx ry ⟨_, _, d1.1, d2.1, d1.2, d2.2, ?_⟩
          rw [eqv_toPD c.1 c.2]
          cases ek; exact q
        · cases ek
      · cases ek
    | ne =>
      simp only [cmpR, eqR, Option.map_eq_some_iff] at ek
      obtain ⟨k', ek, rfl⟩ := ek
      split at ek
      · rename_i p1 p2 e1 e2
        split at ek
        · rename_i c
          simp only [Bool.and_eq_true] at c
          have d1 := view_P (K := X.K) r ra e1 c.1 (by decide)
          have d2 := view_P (K := X.K) r rb e2 c.2 (by decide)
          refine op_neD (by omega) pins s σ H x y v u Q I rx ry ⟨_, _, d1.1, d2.1, d1.2, d2.2, ?_⟩
          rw [eqv_toPD c.1 c.2]
          cases ek; exact q
        · cases ek
      · cases ek
    | lt =>
      simp only [cmpR] at ek
      split at ek
      · cases ra with | pv ra => cases rb with | pv rb =>
        cases ra; cases rb
        cases ek
        exact op_lt pins s σ H _ _ v u Q I rx ry ⟨_, _, rfl, rfl, q⟩
      · cases ra with | pv ra => cases rb with | pv rb =>
        cases ra; cases rb
        cases ek
        refine op_lt_str pins s σ H _ _ v u Q I rx ry ⟨_, _, rfl, rfl, ?_⟩
        rw [ltNat_iff] at q
        simpa [sOf] using q
      · rename_i xs ys
        split at ek
        · rename_i c
          simp only [Bool.and_eq_true] at c
          obtain ⟨c1, c2, c3⟩ := c
          cases ek
          have p1 : plain 51 (.tup xs) = true := by simp only [plain]; exact c2
          have p2 : plain 51 (.tup ys) = true := by simp only [plain]; exact c3
          have o : ordP (.tup xs) (.tup ys) = true := by simp only [ordP]; exact c1
          cases ra with | pv ra => cases rb with | pv rb =>
          refine op_ltT (by omega) pins s σ H _ _ v u Q I rx ry ⟨_, _, dp_toPD p1 ra, dp_toPD p2 rb, alike_toPD o, by simp [toPD], Nat.le_trans (lay_toPD p1 ra).2 (by decide), ?_⟩
          rw [dataLt_toPD o p1 p2]
          simpa [pyLt] using q
        · cases ek
      · cases ek
    | le =>
      simp only [cmpR] at ek
      split at ek
      · cases ra with | pv ra => cases rb with | pv rb =>
        cases ra; cases rb
        cases ek
        exact op_le pins s σ H _ _ v u Q I rx ry ⟨_, _, rfl, rfl, q⟩
      · cases ek
    | gt =>
      simp only [cmpR] at ek
      split at ek
      · cases ra with | pv ra => cases rb with | pv rb =>
        cases ra; cases rb
        cases ek
        exact op_gt pins s σ H _ _ v u Q I rx ry ⟨_, _, rfl, rfl, q⟩
      · cases ek
    | ge =>
      simp only [cmpR] at ek
      split at ek
      · cases ra with | pv ra => cases rb with | pv rb =>
        cases ra; cases rb
        cases ek
        exact op_ge pins s σ H _ _ v u Q I rx ry ⟨_, _, rfl, rfl, q⟩
      · cases ek
    | isN =>
      simp only [cmpR] at ek
      split at ek
      · cases ra with | pv ra => cases rb with | pv rb =>
        cases ra; cases rb
        rename_i k1 k2
        cases ek
        exact op_is_bl pins s σ H _ _ v u Q I rx ry ⟨_, _, rfl, rfl, by simpa [Bool.beq_eq_decide_eq] using q⟩
      · cases ra with | pv ra => cases rb with | pv rb =>
        cases ra; cases rb
        cases ek
        exact op_isN pins s σ H _ _ v u Q I rx ry ⟨rfl, by simpa using q⟩
      · rename_i p hne
        cases rb with | pv rb =>
        cases rb
        cases ek
        refine op_isN pins s σ H _ _ v u Q I rx ry ⟨rfl, ?_⟩
        have : x ≠ .non := by
          rintro rfl
          cases ra with | pv ra => cases ra; exact hne rfl
        simpa [this] using q
      · cases rb with | pv rb =>
        cases rb
        cases ek
        refine op_isN pins s σ H _ _ v u Q I rx ry ⟨rfl, ?_⟩
        have : x ≠ .non := by rintro rfl; cases ra
        simpa [this] using q
      · cases ek
    | notN =>
      simp only [cmpR] at ek
      split at ek
      · cases ra with | pv ra => cases rb with | pv rb =>
        cases ra; cases rb
        rename_i k1 k2
        cases ek
        exact op_isnot_bl pins s σ H _ _ v u Q I rx ry ⟨_, _, rfl, rfl, by simpa [Bool.beq_eq_decide_eq] using q⟩
      · cases ra with | pv ra => cases rb with | pv rb =>
        cases ra; cases rb
        cases ek
        exact op_notN pins s σ H _ _ v u Q I rx ry ⟨rfl, by simpa using q⟩
      · rename_i p hne
        cases rb with | pv rb =>
        cases rb
        cases ek
        refine op_notN pins s σ H _ _ v u Q I rx ry ⟨rfl, ?_⟩
        have : x ≠ .non := by
          rintro rfl
          cases ra with | pv ra => cases ra; exact hne rfl
        simpa [this] using q
      · cases rb with | pv rb =>
        cases rb
        cases ek
        refine op_notN pins s σ H _ _ v u Q I rx ry ⟨rfl, ?_⟩
        have : x ≠ .non := by rintro rfl; cases ra
        simpa [this] using q
      · cases ek
    | in_ =>
      simp only [cmpR, inR] at ek
      split at ek
      · rename_i p1 ys e1 e2
        split at ek
        · rename_i c
          simp only [Bool.and_eq_true] at c
          have d1 := view_P (K := X.K) r ra e1 c.1 (by decide)
          have d2 := view_P (K := X.K) (n := 61) r rb e2 (by simpa [plain] using c.2) (by decide)
          refine op_inD (by omega) pins s σ H x y v u Q I rx ry ⟨_, _, d1.1, d2.1, d1.2, d2.2, ?_⟩
          rw [any_toPD c.1 c.2]
          cases ek; exact q
        · cases ek
      · rename_i p1 ys e1 e2
        split at ek
        · rename_i c
          simp only [Bool.and_eq_true] at c
          have d1 := view_P (K := X.K) r ra e1 c.1 (by decide)
          have d2 := view_P (K := X.K) (n := 61) r rb e2 (by simpa [plain] using c.2) (by decide)
          refine op_inT (by omega) pins s σ H x y v u Q I rx ry ⟨_, _, d1.1, d2.1, d1.2, d2.2, ?_⟩
          rw [any_toPD c.1 c.2]
          cases ek; exact q
        · cases ek
      · obtain ⟨p, o, rfl, g, rfl⟩ := inD_rel r ra rb ek
        obtain rfl : u = Value.ref p := ry
        exact d_in (by omega) I g rx fun s' I' => ⟨.bl _, _, I', rfl, q⟩
    | notIn =>
      simp only [cmpR, inR, Option.map_eq_some_iff] at ek
      obtain ⟨k', ek, rfl⟩ := ek
      split at ek
      · rename_i p1 ys e1 e2
        split at ek
        · rename_i c
          simp only [Bool.and_eq_true] at c
          have d1 := view_P (K := X.K) r ra e1 c.1 (by decide)
          have d2 := view_P (K := X.K) (n := 61) r rb e2 (by simpa [plain] using c.2) (by decide)
          refine op_notInD (by omega) pins s σ H x y v u Q I rx ry ⟨_, _, d1.1, d2.1, d1.2, d2.2, ?_⟩
          rw [any_toPD c.1 c.2]
          cases ek; exact q
        · cases ek
      · rename_i p1 ys e1 e2
        split at ek
        · rename_i c
          simp only [Bool.and_eq_true] at c
          have d1 := view_P (K := X.K) r ra e1 c.1 (by decide)
          have d2 := view_P (K := X.K) (n := 61) r rb e2 (by simpa [plain] using c.2) (by decide)
          refine op_notInT (by omega) pins s σ H x y v u Q I rx ry ⟨_, _, d1.1, d2.1, d1.2, d2.2, ?_⟩
          rw [any_toPD c.1 c.2]
          cases ek; exact q
        · cases ek
      · obtain ⟨p, o, rfl, g, rfl⟩ := inD_rel r ra rb ek
        obtain rfl : u = Value.ref p := ry
        exact d_notIn (by omega) I g rx fun s' I' => ⟨.bl _, _, I', rfl, q⟩
  · exact f.elim
end
end D

set_option Elab.async false
set_option linter.all false
set_option maxRecDepth 100000
set_option maxHeartbeats 1000000
/-! Fd6: rules of expressions. -/
namespace D
open PySem PySem.Spec L2 PyProof.Rows

section
variable {F : Fx} {cx : String → Option Addr} {Wx : WX} {X : Cx} {a b c e : Expr} {es : List Expr} {pos : Pos} {fa fb fc : Env → AH → Out RV} {fs : Env → AH → Out (List RV)}

/-! ### truth -/
theorem truth_V {K : PySem.W.Frag} {μ : List Addr} {h : AH} {H : Hp} {v : RV} {x : V} {k : Bool} (r : F.R μ h H) (rv : F.v1 μ h H v x) (e : truth h v = some k) : TruV K x H k := by
  cases rv with
  | pv p =>
    cases p with
    | non => simp [truth] at e; subst e; rfl
    | bl b => simp [truth] at e; subst e; rfl
    | int i => simp [truth] at e; subst e; rfl
    | str s hs =>
      simp only [truth, Option.some.injEq] at e; subst e
      refine ⟨by rw [sOf_len, line_eq]; exact (okS_iff.mp hs).1, ?_⟩
      rw [sOf_len]
      cases s with
      | nil => rfl
      | cons a t => simp only [List.isEmpty_cons, Bool.not_false, List.length_cons]; exact (bne_iff_ne.mpr (by omega)).symm
    | tup rd _ _ rs =>
      simp only [truth, Option.some.injEq] at e; subst e
      refine .inr (.inl ⟨_, .inl rd.rd, ?_⟩)
      cases rs <;> simp
    | lst rd _ _ rs =>
      simp only [truth, Option.some.injEq] at e; subst e
      refine .inl ⟨_, .inl rd, ?_⟩
      cases rs <;> simp
    | obj _ _ _ _ => simp [truth] at e
    | dct _ _ _ => simp [truth] at e
  | ref ea =>
    rename_i p a
    simp only [truth] at e
    split at e
    · rename_i ys eo
      cases e
      obtain ⟨vs, e1, rs⟩ := r.obj p _ a eo ea
      refine .inl ⟨vs, .inl (.inl e1), ?_⟩
      cases rs <;> simp
    · cases e

/-- a test -/
def tru (f : Env → AH → Out RV) : Env → AH → Out Bool := fun ρ h => (f ρ h).bind truO
theorem tO_tru {σ : L2.St} {H : Hp} {Q : Bool → Hp → Prop} {K : PySem.W.Frag} (t : tOb F cx Wx (tru fa) σ H Q) : tO F cx Wx fa σ H fun x H1 => ∃ k, TruV K x H1 k ∧ Q k H1 := by
  obtain ⟨μ, ρ, h, r, s, f⟩ := t
  refine ⟨μ, ρ, h, r, s, f.bind.mono (fun v h1 μ1 H1 e1 r1 k x rx => ?_) fun _ _ _ _ _ _ z => z⟩
  unfold truO at k
  split at k
  · rename_i b eb
    exact ⟨b, truth_V r1 rx eb, k.here r1⟩
  · exact k.elim
theorem rt_plain (ha : PE X a (tO F cx Wx fa)) (he : ∀ whole, isTrue a X.env whole = (do let v ← whole; standAt a.pos; holding [v] (truthy v))) : PT X a (tOb F cx Wx (tru fa)) :=
  pt_imp (pt_truth ha he) fun _ _ _ t => tO_tru t

/-! ### comparisons -/
theorem cmpO_nx (o : Cmp) (x y : RV) (h : AH) : noexc (cmpO o x y h) := by
  intro e h' q
  unfold cmpO at q
  split at q <;> cases q
theorem tO_two {g : RV → RV → AH → Out RV} (n : ∀ x y h, noexc (g x y h)) {σ : L2.St} {H : Hp} {Q : VK} (t : tO F cx Wx (fun ρ h => (fa ρ h).bind fun x h1 => (fb ρ h1).bind fun y h2 => g x y h2) σ H Q) :
    tOp (rV2 F g) (tO F cx Wx fa) (tO F cx Wx fb) σ H Q := by
  obtain ⟨μ, ρ, h, r, s, f⟩ := tO_bind2 t
  refine ⟨μ, ρ, h, r, s, f.mono (fun v h1 μ1 H1 e1 r1 k x rx => ?_) fun _ _ _ _ _ _ z => z⟩
  obtain ⟨μ2, ρ2, h2, r2, s2, f2⟩ := k x rx
  refine ⟨μ2, ρ2, h2, r2, s2, f2.mono (fun w h3 μ3 H3 e3 r3 k3 y ry => ?_) fun _ _ _ _ _ _ z => z⟩
  obtain ⟨μ4, h4, v4, w4, r4, rx4, ry4, f4⟩ := k3 y ry
  exact ⟨μ4, h4, v4, w4, r4, rx4, ry4, f4.nox (n _ _ _)⟩
theorem r_cmp (o : Cmp) (hu : X.A.units + 70 < cLine) (ha : PE X a (tO F cx Wx fa)) (hb : PE X b (tO F cx Wx fb)) (hm : behindInMarks o.toOp b = false) :
    PE X (.Compare a [o.toOp] [b] pos) (tO F cx Wx fun ρ h => (fa ρ h).bind fun x h1 => (fb ρ h1).bind fun y h2 => cmpO o x y h2) :=
  pe_imp (pe_cmpR (op_cmp o hu) ha hb hm) fun _ _ _ t => tO_two (cmpO_nx o) t
/-- the answer of a test that is a bool -/
theorem tO_bool {f : Env → AH → Out RV} {σ : L2.St} {H : Hp} {Q : Bool → Hp → Prop} (t : tOb F cx Wx (tru f) σ H Q) (bl : ∀ ρ h v h', f ρ h = .ok v h' → ∃ k, v = .pv (.bl k)) :
    tO F cx Wx f σ H fun x H' => ∃ k, x = .bl k ∧ Q k H' := by
  obtain ⟨μ, ρ, h, r, s, q⟩ := t
  refine ⟨μ, ρ, h, r, s, ?_⟩
  have q' := q.bind
  cases e : f ρ h with
  | ok v h' =>
    rw [e] at q'
    intro μ1 H1 e1 r1 x rx
    obtain ⟨k, rfl⟩ := bl ρ h v h' e
    have z : Fin F μ1 h' H1 (truO (.pv (.bl k)) h') (bK Q) (xK F cx Wx σ) := q' μ1 H1 e1 r1
    obtain rfl := rx.bl_inv
    exact ⟨k, rfl, Fin.here (show Fin F μ1 h' H1 (.ok k h') (bK Q) (xK F cx Wx σ) from z) r1⟩
  | exc e' h' => rw [e] at q'; exact q'
  | bad => rw [e] at q'; exact q'
theorem bind_ok_inv {α β : Type} {o : Out α} {f : α → AH → Out β} {v : β} {h' : AH} (e : o.bind f = .ok v h') : ∃ a h1, o = .ok a h1 ∧ f a h1 = .ok v h' := by
  cases o with
  | ok a h1 => exact ⟨a, h1, rfl, e⟩
  | exc _ _ => cases e
  | bad => cases e
theorem cmpO_bl {o : Cmp} {x y v : RV} {h h' : AH} (e : cmpO o x y h = .ok v h') : ∃ k, v = .pv (.bl k) := by
  unfold cmpO at e
  split at e
  · cases e; exact ⟨_, rfl⟩
  · cases e
theorem rt_cmp (o : Cmp) (hu : X.A.units + 70 < cLine) (ha : PE X a (tO F cx Wx fa)) (hb : PE X b (tO F cx Wx fb)) (hm : behindInMarks o.toOp b = false) :
    PT X (.Compare a [o.toOp] [b] pos) (tOb F cx Wx (tru fun ρ h => (fa ρ h).bind fun x h1 => (fb ρ h1).bind fun y h2 => cmpO o x y h2)) :=
  pt_imp (pt_cmpR (op_cmp o hu) ha hb hm) fun _ _ _ t => tO_two (cmpO_nx o) (tO_bool t fun ρ h v h' e => by
    obtain ⟨x, h1, _, e⟩ := bind_ok_inv e
    obtain ⟨y, h2, _, e⟩ := bind_ok_inv e
    exact cmpO_bl e)
/-- a o b p c -/
def chainO (o p : Cmp) (fa fb fc : Env → AH → Out RV) : Env → AH → Out RV := fun ρ h => (fa ρ h).bind fun x h1 => (fb ρ h1).bind fun y h2 => (optO (cmpR o x y h2) h2).bind fun k h3 =>
  if k then (fc ρ h3).bind fun z h4 => cmpO p y z h4 else .ok (.pv (.bl false)) h3
theorem tO_chain {o p : Cmp} {σ : L2.St} {H : Hp} {Q : VK} (t : tO F cx Wx (chainO o p fa fb fc) σ H Q) :
    tChain (rV2 F (cmpO o)) (rV2 F (cmpO p)) (tO F cx Wx fa) (tO F cx Wx fb) (tO F cx Wx fc) σ H Q := by
  obtain ⟨μ, ρ, h, r, s, f⟩ := t
  refine ⟨μ, ρ, h, r, s, f.bind.mono (fun v h1 μ1 H1 e1 r1 k x rx => ?_) fun _ _ _ _ _ _ z => z⟩
  refine ⟨μ1, ρ, h1, r1, s.grow e1.grow e1.pre, k.bind.mono (fun w h2 μ2 H2 e2 r2 k2 y ry => ?_) fun _ _ _ _ _ _ z => z⟩
  refine ⟨μ2, h2, v, w, r2, rx.grow e2.grow e2.pre, ry, ?_⟩
  unfold cmpO
  cases ec : cmpR o v w h2 with
  | none => rw [ec] at k2; exact k2.elim
  | some d =>
    rw [ec] at k2
    intro μ3 H3 e3 r3 z rz
    obtain rfl := rz.bl_inv
    refine ⟨d, rfl, ?_⟩
    have k3 := Fin.from e3 k2
    cases d with
    | false => exact k3.here r3 _ (.pv (.bl false))
    | true =>
      have k4 : Fin F μ3 h2 H3 ((fc ρ h2).bind fun z h4 => cmpO p w z h4) (vK F Q) (xK F cx Wx σ) := k3
      have sg := (e1.trans e2).trans e3
      refine ⟨μ3, ρ, h2, r3, s.grow sg.grow sg.pre, k4.bind.mono (fun z h4 μ4 H4 e4 r4 k5 zz rzz => ?_) fun _ _ _ _ _ _ z => z⟩
      have rw' := ry.grow (e3.trans e4).grow (e3.trans e4).pre
      exact ⟨μ4, h4, w, z, r4, rw', rzz, k5.nox (cmpO_nx p _ _ _)⟩
theorem r_chain (o p : Cmp) (hu : X.A.units + 70 < cLine) (ha : PE X a (tO F cx Wx fa)) (hb : PE X b (tO F cx Wx fb)) (hc : PE X c (tO F cx Wx fc)) (hm : lastMarks [o.toOp, p.toOp] [b, c] = false) :
    PE X (.Compare a [o.toOp, p.toOp] [b, c] pos) (tO F cx Wx (chainO o p fa fb fc)) :=
  pe_imp (pe_chain (op_cmp o hu) (op_cmp p hu) ha hb hc hm) fun _ _ _ t => tO_chain t
theorem chainO_bl {o p : Cmp} {ρ : Env} {h h' : AH} {v : RV} (e : chainO o p fa fb fc ρ h = .ok v h') : ∃ k, v = .pv (.bl k) := by
  obtain ⟨x, h1, _, e⟩ := bind_ok_inv e
  obtain ⟨y, h2, _, e⟩ := bind_ok_inv e
  obtain ⟨k, h3, _, e⟩ := bind_ok_inv e
  cases k with
  | true =>
    obtain ⟨z, h4, _, e⟩ := bind_ok_inv (show (fc ρ h3).bind (fun z h4 => cmpO p y z h4) = .ok v h' from e)
    exact cmpO_bl e
  | false => cases e; exact ⟨_, rfl⟩
theorem rt_chain (o p : Cmp) (hu : X.A.units + 70 < cLine) (ha : PE X a (tO F cx Wx fa)) (hb : PE X b (tO F cx Wx fb)) (hc : PE X c (tO F cx Wx fc)) (hm : lastMarks [o.toOp, p.toOp] [b, c] = false) :
    PT X (.Compare a [o.toOp, p.toOp] [b, c] pos) (tOb F cx Wx (tru (chainO o p fa fb fc))) :=
  pt_imp (pt_chain (op_cmp o hu) (op_cmp p hu) ha hb hc hm) fun _ _ _ t => tO_chain (tO_bool t fun ρ h v h' e => chainO_bl e)

/-! ### and, or, not, if -/
def notO (f : Env → AH → Out RV) : Env → AH → Out RV := fun ρ h => (tru f ρ h).bind fun k h1 => .ok (.pv (.bl (!k))) h1
theorem r_not (ha : PE X a (tO F cx Wx fa)) : PE X (.UnaryOp .Not a pos) (tO F cx Wx (notO fa)) :=
  pe_imp (pe_notT ha) fun σ H Q t => by
    have t' : tOb F cx Wx (tru fa) σ H fun k H1 => Q (.bl (!k)) H1 := by
      obtain ⟨μ, ρ, h, r, s, f⟩ := t
      refine ⟨μ, ρ, h, r, s, Fin.mono (Fin.bind f) (fun k h1 μ1 H1 e1 r1 z => ?_) fun _ _ _ _ _ _ z => z⟩
      exact z.here r1 _ (.pv (.bl _))
    exact tO_tru t'
theorem rt_not (ha : PT X a (tOb F cx Wx (tru fa))) : PT X (.UnaryOp .Not a pos) (tOb F cx Wx (tru (notO fa))) :=
  pt_imp (pt_not ha) fun σ H Q t => by
    obtain ⟨μ, ρ, h, r, s, f⟩ := t
    refine ⟨μ, ρ, h, r, s, ?_⟩
    have f2 := Fin.bind f
    have f3 := Fin.bind f2
    refine f3.mono (fun k h1 μ1 H1 e1 r1 z => ?_) fun _ _ _ _ _ _ z => z
    have z2 := (z.here r1)
    exact z2.here r1
def ifO (fc fa fb : Env → AH → Out RV) : Env → AH → Out RV := fun ρ h => (tru fc ρ h).bind fun k h1 => if k then fa ρ h1 else fb ρ h1
theorem r_if (hc : PT X c (tOb F cx Wx (tru fc))) (ha : PE X a (tO F cx Wx fa)) (hb : PE X b (tO F cx Wx fb)) : PE X (.IfExp c a b pos) (tO F cx Wx (ifO fc fa fb)) :=
  pe_imp (pe_ifExp hc ha hb) fun σ H Q t => by
    obtain ⟨μ, ρ, h, r, s, f⟩ := t
    refine ⟨μ, ρ, h, r, s, Fin.mono (Fin.bind f) (fun k h1 μ1 H1 e1 r1 z => ?_) fun _ _ _ _ _ _ z => z⟩
    have s1 := s.grow e1.grow e1.pre
    cases k with
    | true => exact ⟨μ1, ρ, h1, r1, s1, z⟩
    | false => exact ⟨μ1, ρ, h1, r1, s1, z⟩
theorem tru_ifO {ρ : Env} {h : AH} : tru (ifO fc fa fb) ρ h = (tru fc ρ h).bind fun k h1 => if k then tru fa ρ h1 else tru fb ρ h1 := by
  unfold tru ifO
  rw [Out.bind_assoc]
  congr 1
  funext k h1
  cases k <;> rfl
theorem rt_if (hc : PT X c (tOb F cx Wx (tru fc))) (ha : PT X a (tOb F cx Wx (tru fa))) (hb : PT X b (tOb F cx Wx (tru fb)))
    (he : ∀ whole, isTrue (.IfExp c a b pos) X.env whole = (do if ← isTrue c X.env (eval c X.env) then isTrue a X.env (eval a X.env) else isTrue b X.env (eval b X.env)) := by intro _; rfl) :
    PT X (.IfExp c a b pos) (tOb F cx Wx (tru (ifO fc fa fb))) := by
  refine ⟨fun pins s σ H Q I t => ?_⟩
  obtain ⟨μ, ρ, h, r, sr, f⟩ := t
  rw [he]
  refine PySem.wpAny_bind (thn (hc.run pins s σ H (fun k H1 => if k = true then tOb F cx Wx (tru fa) σ H1 Q else tOb F cx Wx (tru fb) σ H1 Q) I ⟨μ, ρ, h, r, sr, ?_⟩) fun k s1 ⟨H1, I1, q1⟩ => ?_)
  · rw [tru_ifO] at f
    refine f.bind.mono (fun k h1 μ1 H1 e1 r1 z => ?_) fun _ _ _ _ _ _ z => z
    have s1 := sr.grow e1.grow e1.pre
    cases k with
    | true => exact ⟨μ1, ρ, h1, r1, s1, z⟩
    | false => exact ⟨μ1, ρ, h1, r1, s1, z⟩
  · cases k with
    | true => exact ha.run pins s1 σ H1 Q I1 q1
    | false => exact hb.run pins s1 σ H1 Q I1 q1

/-! ### and, or of several -/
def andO (fa fb : Env → AH → Out RV) : Env → AH → Out RV := fun ρ h => (fa ρ h).bind fun x h1 => (truO x h1).bind fun k h2 => if k then fb ρ h2 else .ok x h2
def orO (fa fb : Env → AH → Out RV) : Env → AH → Out RV := fun ρ h => (fa ρ h).bind fun x h1 => (truO x h1).bind fun k h2 => if k then .ok x h2 else fb ρ h2
theorem truO_cases (x : RV) (h : AH) : (∃ k, truth h x = some k ∧ truO x h = .ok k h) ∨ truO x h = .bad := by
  unfold truO
  cases truth h x with
  | none => exact .inr rfl
  | some k => exact .inl ⟨k, rfl, rfl⟩
theorem tru_andO {ρ : Env} {h : AH} : tru (andO fa fb) ρ h = (tru fa ρ h).bind fun k h1 => if k then tru fb ρ h1 else .ok false h1 := by
  unfold tru andO
  rw [Out.bind_assoc, Out.bind_assoc]
  congr 1
  funext x h1
  rcases truO_cases x h1 with ⟨k, ek, e⟩ | e
  · rw [e]
    cases k with
    | true => rfl
    | false => simp [e]
  · rw [e]; rfl
theorem tru_orO {ρ : Env} {h : AH} : tru (orO fa fb) ρ h = (tru fa ρ h).bind fun k h1 => if k then .ok true h1 else tru fb ρ h1 := by
  unfold tru orO
  rw [Out.bind_assoc, Out.bind_assoc]
  congr 1
  funext x h1
  rcases truO_cases x h1 with ⟨k, ek, e⟩ | e
  · rw [e]
    cases k with
    | true => simp [e]
    | false => rfl
  · rw [e]; rfl
variable {rest : List Expr}
theorem r_and (ha : PE X a (tO F cx Wx fa)) (hb : PE X (.BoolOp .And (b :: rest) pos) (tO F cx Wx fb)) : PE X (.BoolOp .And (a :: b :: rest) pos) (tO F cx Wx (andO fa fb)) :=
  pe_imp (pe_andT ha hb) fun σ H Q t => by
    obtain ⟨μ, ρ, h, r, s, f⟩ := t
    refine ⟨μ, ρ, h, r, s, Fin.mono (Fin.bind f) (fun v h1 μ1 H1 e1 r1 z x rx => ?_) fun _ _ _ _ _ _ z => z⟩
    rcases truO_cases v h1 with ⟨k, ek, e⟩ | e
    · rw [e] at z
      refine ⟨k, truth_V r1 rx ek, ?_⟩
      cases k with
      | true => exact ⟨μ1, ρ, h1, r1, s.grow e1.grow e1.pre, z⟩
      | false => exact Fin.here (show Fin F μ1 h1 H1 (.ok v h1) (vK F Q) (xK F cx Wx σ) from z) r1 x rx
    · rw [e] at z; exact z.elim
theorem r_or (ha : PE X a (tO F cx Wx fa)) (hb : PE X (.BoolOp .Or (b :: rest) pos) (tO F cx Wx fb)) : PE X (.BoolOp .Or (a :: b :: rest) pos) (tO F cx Wx (orO fa fb)) :=
  pe_imp (pe_orT ha hb) fun σ H Q t => by
    obtain ⟨μ, ρ, h, r, s, f⟩ := t
    refine ⟨μ, ρ, h, r, s, Fin.mono (Fin.bind f) (fun v h1 μ1 H1 e1 r1 z x rx => ?_) fun _ _ _ _ _ _ z => z⟩
    rcases truO_cases v h1 with ⟨k, ek, e⟩ | e
    · rw [e] at z
      refine ⟨k, truth_V r1 rx ek, ?_⟩
      cases k with
      | true => exact Fin.here (show Fin F μ1 h1 H1 (.ok v h1) (vK F Q) (xK F cx Wx σ) from z) r1 x rx
      | false => exact ⟨μ1, ρ, h1, r1, s.grow e1.grow e1.pre, z⟩
    · rw [e] at z; exact z.elim
theorem rt_and (ha : PT X a (tOb F cx Wx (tru fa))) (hb : PW X (.BoolOp .And (b :: rest) pos) (tOb F cx Wx (tru fb))) : PW X (.BoolOp .And (a :: b :: rest) pos) (tOb F cx Wx (tru (andO fa fb))) :=
  pw_imp (pw_and ha hb) fun σ H Q t => by
    obtain ⟨μ, ρ, h, r, s, f⟩ := t
    rw [tru_andO] at f
    refine ⟨μ, ρ, h, r, s, Fin.mono (Fin.bind f) (fun k h1 μ1 H1 e1 r1 z => ?_) fun _ _ _ _ _ _ z => z⟩
    cases k with
    | true => exact ⟨μ1, ρ, h1, r1, s.grow e1.grow e1.pre, z⟩
    | false =>
      have z' : Fin F μ1 h1 H1 (.ok false h1) (bK Q) (xK F cx Wx σ) := z
      exact z'.here r1
theorem rt_or (ha : PT X a (tOb F cx Wx (tru fa))) (hb : PW X (.BoolOp .Or (b :: rest) pos) (tOb F cx Wx (tru fb))) : PW X (.BoolOp .Or (a :: b :: rest) pos) (tOb F cx Wx (tru (orO fa fb))) :=
  pw_imp (pw_or ha hb) fun σ H Q t => by
    obtain ⟨μ, ρ, h, r, s, f⟩ := t
    rw [tru_orO] at f
    refine ⟨μ, ρ, h, r, s, Fin.mono (Fin.bind f) (fun k h1 μ1 H1 e1 r1 z => ?_) fun _ _ _ _ _ _ z => z⟩
    cases k with
    | true =>
      have z' : Fin F μ1 h1 H1 (.ok true h1) (bK Q) (xK F cx Wx σ) := z
      exact z'.here r1
    | false => exact ⟨μ1, ρ, h1, r1, s.grow e1.grow e1.pre, z⟩

/-! ### unary -/
theorem r_neg (ha : PE X a (tO F cx Wx fa)) : PE X (.UnaryOp .USub a pos) (tO F cx Wx fun ρ h => (fa ρ h).bind negO) :=
  pe_imp (pe_un un_neg ha) fun σ H Q t => by
    obtain ⟨μ, ρ, h, r, s, f⟩ := t
    refine ⟨μ, ρ, h, r, s, Fin.mono (Fin.bind f) (fun v h1 μ1 H1 e1 r1 z x rx => ?_) fun _ _ _ _ _ _ z => z⟩
    unfold negO at z
    split at z
    · obtain rfl := rx.int_inv
      exact ⟨_, rfl, z.here r1 _ (.pv (.int _))⟩
    · exact z.elim
theorem r_inv (ha : PE X a (tO F cx Wx fa)) : PE X (.UnaryOp .Invert a pos) (tO F cx Wx fun ρ h => (fa ρ h).bind invO) :=
  pe_imp (pe_un un_inv ha) fun σ H Q t => by
    obtain ⟨μ, ρ, h, r, s, f⟩ := t
    refine ⟨μ, ρ, h, r, s, Fin.mono (Fin.bind f) (fun v h1 μ1 H1 e1 r1 z x rx => ?_) fun _ _ _ _ _ _ z => z⟩
    unfold invO at z
    split at z
    · obtain rfl := rx.int_inv
      exact ⟨_, rfl, z.here r1 _ (.pv (.int _))⟩
    · exact z.elim
theorem bop_nx (m : Bool) (o : Op2) (x y : RV) (h : AH) : noexc (bop m o x y h) := by
  intro e h' q
  unfold bop bopL newT newL newS at q
  repeat' split at q
  all_goals (first | cases q | contradiction)
theorem r_bop (m : Bool) (o : Op2) (ha : PE X a (tO F cx Wx fa)) (hb : PE X b (tO F cx Wx fb)) : PE X (.BinOp a o.toOp b pos) (tO F cx Wx fun ρ h => (fa ρ h).bind fun x h1 => (fb ρ h1).bind fun y h2 => bop m o x y h2) :=
  r_bin (bop_nx m o) (op_bop m o) ha hb

/-! ### argument lists, displays -/
theorem r_nil : PA X [] (tOs F cx Wx fun _ h => .ok [] h) := pa_imp pa_nil fun σ H Q t => by
  obtain ⟨μ, ρ, h, r, s, f⟩ := t
  exact f.here r [] .nil
def consO (fa : Env → AH → Out RV) (fs : Env → AH → Out (List RV)) : Env → AH → Out (List RV) := fun ρ h => (fa ρ h).bind fun x h1 => (fs ρ h1).bind fun xs h2 => .ok (x :: xs) h2
theorem r_cons (ha : PE X e (tO F cx Wx fa)) (hs : PA X es (tOs F cx Wx fs)) (hst : starEach (e :: es) X.env = (false, eval e X.env) :: starEach es X.env) : PA X (e :: es) (tOs F cx Wx (consO fa fs)) :=
  pa_imp (pa_cons ha hs hst) fun σ H Q t => by
    obtain ⟨μ, ρ, h, r, s, f⟩ := t
    refine ⟨μ, ρ, h, r, s, Fin.mono (Fin.bind f) (fun v h1 μ1 H1 e1 r1 z x rx => ?_) fun _ _ _ _ _ _ z => z⟩
    refine ⟨μ1, ρ, h1, r1, s.grow e1.grow e1.pre, Fin.mono (Fin.bind z) (fun vs h2 μ2 H2 e2 r2 z2 xs rxs => ?_) fun _ _ _ _ _ _ z => z⟩
    exact Fin.here z2 r2 _ (.cons (rx.grow e2.grow e2.pre) rxs)
/-- values behind an argument list -/
theorem tOs_bind {g : List RV → AH → Out RV} {σ : L2.St} {H : Hp} {Q : VK} (t : tO F cx Wx (fun ρ h => (fs ρ h).bind g) σ H Q) :
    tOs F cx Wx fs σ H fun xs H1 => ∃ μ h vs, F.R μ h H1 ∧ F.v2 μ h H1 vs xs ∧ Fin F μ h H1 (g vs h) (vK F Q) (xK F cx Wx σ) := by
  obtain ⟨μ, ρ, h, r, s, f⟩ := t
  refine ⟨μ, ρ, h, r, s, Fin.mono (Fin.bind f) (fun vs h1 μ1 H1 e1 r1 z xs rxs => ?_) fun _ _ _ _ _ _ z => z⟩
  exact ⟨μ1, h1, vs, r1, rxs, z⟩
theorem tOs_mono {σ : L2.St} {H : Hp} {Q Q' : List V → Hp → Prop} (t : tOs F cx Wx fs σ H Q) (k : ∀ xs H, Q xs H → Q' xs H) : tOs F cx Wx fs σ H Q' := by
  obtain ⟨μ, ρ, h, r, s, f⟩ := t
  exact ⟨μ, ρ, h, r, s, f.mono (fun vs h1 μ1 H1 e1 r1 z xs rxs => k _ _ (z xs rxs)) fun _ _ _ _ _ _ z => z⟩
theorem tO_mono {σ : L2.St} {H : Hp} {Q Q' : VK} (t : tO F cx Wx fa σ H Q) (k : ∀ xs H, Q xs H → Q' xs H) : tO F cx Wx fa σ H Q' := by
  obtain ⟨μ, ρ, h, r, s, f⟩ := t
  exact ⟨μ, ρ, h, r, s, f.mono (fun vs h1 μ1 H1 e1 r1 z xs rxs => k _ _ (z xs rxs)) fun _ _ _ _ _ _ z => z⟩
theorem r_tup {k : Nat} (hs : PA X es (tOs F cx Wx fs)) : PE X (.Tuple es k pos) (tO F cx Wx fun ρ h => (fs ρ h).bind newT) :=
  pe_imp (pe_tupD hs) fun σ H Q t => tOs_mono (tOs_bind t) fun xs H1 ⟨μ, h, vs, r, rxs, f⟩ => new_tup r rxs f
theorem r_lst (m : Bool) (hs : PA X es (tOs F cx Wx fs)) : PE X (.List es pos) (tO F cx Wx fun ρ h => (fs ρ h).bind (newL m)) :=
  pe_imp (pe_lst hs) fun σ H Q t => tOs_mono (tOs_bind t) fun xs H1 ⟨μ, h, vs, r, rxs, f⟩ => new_lst r rxs f

/-! ### items -/
theorem ixN_eq (n : Nat) (i : Int) : D.ixN n i = L2.ixN n i := rfl
theorem atI_rel {μ : List Addr} {h : AH} {H : Hp} {xs : List RV} {vs : List V} {i : Int} {x : RV} (rs : F.v2 μ h H xs vs) (e : D.atI xs i = some x) : ∃ v, L2.atI vs i = some v ∧ F.v1 μ h H x v := by
  unfold D.atI at e
  unfold L2.atI
  rw [← rs.length]
  cases q : D.ixN xs.length i with
  | none => rw [q] at e; cases e
  | some j =>
    rw [q] at e
    rw [← ixN_eq, q]
    exact rs.get e
/-- of a dict -/
def rIxG : R2 := fun x y H Q => ∃ (a : Addr) (ks : List (Key × V)) (j : Key) (v : V), x = .ref a ∧ y = kV j ∧ Rd H a (.dK ks) ∧ valV ks j = some v ∧ Q v H
theorem ix_dct : IxR X rIxG := by
  intro value slice pins s σ H x y v u Q I rx ry h hs
  obtain ⟨p, ks, j, z, rfl, rfl, e, l, q⟩ := h
  obtain rfl : v = Value.ref p := rx
  obtain ⟨z1, hd, vs, rel, dd⟩ := dk_rd I.hok e
  obtain ⟨w', hw, rw'⟩ := RelO.some_of (v := z) (o := valueAt vs j) (by have h := rel.val j; rw [l] at h; exact h)
  exact tail_any dd.typeIs PySem.F.slot_dict_getitem.lookup (wpAny_getItem_of (kV_is ry) dd.mapOf hw ⟨z, H, I.tok _, rw', q⟩) hs
theorem dgetO_rel {μ : List Addr} {h : AH} {H : Hp} {v : RV} {k : PV} {x y : V} {Q : VK} {Xk : ExcV → AH → List Addr → Hp → Prop} (r : F.R μ h H) (rv : F.v1 μ h H v x) (rk : PRel F.G H (wr F.G μ h) k y)
    (f : Fin F μ h H (dgetO h v k) (vK F Q) Xk) : rIxG x y H Q := by
  unfold dgetO at f
  split at f
  · rename_i kvs e
    split at f
    · rename_i hk
      obtain ⟨a, ks, rfl, rd, rs⟩ := view_D r rv e
      obtain ⟨j, rfl, kr⟩ := isKey_rel (F := F) hk rk
      cases e1 : dget k kvs with
      | none => rw [e1] at f; exact f.elim
      | some z =>
        rw [e1] at f
        obtain ⟨w, e2, rw'⟩ := dget_some kr rs e1
        exact ⟨a, ks, j, w, rfl, rfl, rd, e2, f.here r _ rw'⟩
    · exact f.elim
  · exact f.elim
theorem r_idx (ha : PE X a (tO F cx Wx fa)) (hb : PE X b (tO F cx Wx fb)) (hs : PlainIx b) : PE X (.Subscript a b pos) (tO F cx Wx fun ρ h => (fa ρ h).bind fun x h1 => (fb ρ h1).bind fun y h2 => idxR x y h2) :=
  pe_imp (pe_ix (ix_seq.or ix_dct) ha hb hs) fun σ H Q t => by
    refine tO_mono (tO_bind2 t) fun x H1 q => tO_mono q fun y H2 ⟨μ, h, v, w, r, rv, rw', f⟩ => ?_
    unfold idxR at f
    split at f
    · rename_i s i
      obtain ⟨rfl, hs⟩ := rv.str_inv
      obtain rfl := rw'.int_inv
      split at f
      · rename_i c ec
        refine .inl (.inr (.inr ⟨_, _, c, rfl, rfl, ?_, ?_, ?_⟩))
        · rw [sOf_len, line_eq]; exact (okS_iff.mp hs).1
        · show L2.atI (sOf s).cps.toList i = some c
          simp only [sOf]
          exact ec
        · refine f.here r _ (.pv (.str [c] (okS_iff.mpr ⟨by simp [line], fun d hd => ?_⟩)))
          have hc : c ∈ s := by
            unfold D.atI at ec
            cases q : D.ixN s.length i with
            | none => rw [q] at ec; cases ec
            | some j => rw [q] at ec; exact List.mem_of_getElem? ec
          simp only [List.mem_singleton] at hd
          subst hd
          exact (okS_iff.mp hs).2 _ hc
      · exact f.elim
    · rename_i i hne
      obtain rfl := rw'.int_inv
      split at f
      · rename_i xs ex
        obtain ⟨p, vs, rfl, hq, rs⟩ := view_Q (K := X.K) r rv ex
        split at f
        · rename_i z ez
          obtain ⟨u, eu, ru⟩ := atI_rel rs ez
          rcases hq with hq | hq
          · exact .inl (.inl ⟨p, vs, _, u, rfl, rfl, hq, eu, f.here r _ ru⟩)
          · exact .inl (.inr (.inl ⟨p, vs, _, u, rfl, rfl, hq, eu, f.here r _ ru⟩))
        · exact f.elim
      · exact .inr (dgetO_rel r rv (.int i) f)
    · cases rw' with | pv rw' => exact .inr (dgetO_rel r rv rw' f)
    · exact f.elim
end
end D

set_option Elab.async false
set_option linter.all false
set_option maxRecDepth 100000
set_option maxHeartbeats 1000000
/-! Fd7: slices, fields, isinstance, built-in functions and methods. -/
/-! ### t[::-1] of a tuple -/
namespace D.TR
open PySem PySem.Spec PyProof.Rows L2 HT
section
variable {prog : Program} {w : World} {A : Around} {E : Value → Shared → Prop} {s : Shared}
theorem adjust_rev (n : Nat) : Builtin.Slice.sliceAdjust none none (-1) (n : Int) = ((n : Int) - 1, -1) := rfl
theorem places_rev (n : Nat) : Builtin.Slice.slicePlaces ((n : Int) - 1) (-1) (-1) = n := by
  unfold Builtin.Slice.slicePlaces
  have h1 : ¬ ((-1 : Int) > 0) := by decide
  have h2 : (-(-1) : Int) = 1 := by decide
  simp only [h1, if_false, h2, Int.ediv_one]
  split <;> omega
theorem sliceApplied_rev {sl : Addr} {vl vu vs : Value} {n : Nat} {Q : Int × Int × Nat → Shared → Prop} (hs : s.heap.IsSliceOf sl vl vu vs) (pl : IsPart vl none) (pu : IsPart vu none) (ps : IsPart vs (some (-1)))
    (h : Q ((n : Int) - 1, -1, n) s) : wpAny (model prog w) A (Builtin.Slice.sliceApplied (.ref sl) (pure (n : Int))) Q E s := by
  obtain ⟨os, hos, hcs, hds⟩ := id hs
  unfold Builtin.Slice.sliceApplied Builtin.Slice.sliceFields
  refine wpAny_bind (wpAny_bind (wpAny_field hos hds (x := vl) rfl (wpAny_bind (wpAny_field hos hds (x := vu) rfl (wpAny_bind (wpAny_field hos hds (x := vs) rfl (wpAny_pure ?_)))))))
  refine wpAny_bind (slicePart_ ps ?_)
  show wpAny _ _ (if ((-1 : Int) == 0) = true then _ else _) _ _ s
  rw [if_neg (by decide)]
  refine wpAny_bind (slicePart_ pl (wpAny_bind (slicePart_ pu (wpAny_bind (wpAny_pure ?_)))))
  show wpAny _ _ (match Builtin.Slice.sliceAdjust none none (-1) (n : Int) with | (lo, hi) => pure (lo, (-1 : Int), Builtin.Slice.slicePlaces lo hi (-1))) _ _ s
  rw [adjust_rev n]
  show wpAny _ _ (pure ((n : Int) - 1, (-1 : Int), Builtin.Slice.slicePlaces ((n : Int) - 1) (-1) (-1))) _ _ s
  rw [places_rev]
  exact wpAny_pure h
theorem fm_congr {α β : Type} {f g : α → Option β} : ∀ {l : List α}, (∀ x ∈ l, f x = g x) → l.filterMap f = l.filterMap g
  | [], _ => rfl
  | x :: l, h => by
    rw [List.filterMap_cons, List.filterMap_cons, h x List.mem_cons_self, fm_congr fun y hy => h y (List.mem_cons_of_mem _ hy)]
theorem pick_rev (xs : Array Value) : ((List.range xs.size).filterMap fun (m : Nat) => xs[(((xs.size : Int) - 1) + (m : Int) * (-1)).toNat]?).toArray = xs.toList.reverse.toArray := by
  congr 1
  have e : (List.range xs.size).filterMap (fun (m : Nat) => xs[(((xs.size : Int) - 1) + (m : Int) * (-1)).toNat]?) = ((List.range xs.size).map fun k => xs.size - 1 - k).filterMap (xs[·]?) := by
    rw [List.filterMap_map]
    refine fm_congr fun m hm => ?_
    have := List.mem_range.mp hm
    have q : (((xs.size : Int) - 1) + (m : Int) * (-1)).toNat = xs.size - 1 - m := by omega
    simp only [Function.comp, q]
  rw [e, PySem.W.krv_range, List.filterMap_reverse, PySem.W.krv_all]
theorem getItem_tuple_rev {t sl : Addr} {items : Array Value} {vl vu vs : Value} {Q : Value → Shared → Prop} (ht : IsTup s.heap t items) (hs : s.heap.IsSliceOf sl vl vu vs) (pl : IsPart vl none) (pu : IsPart vu none) (ps : IsPart vs (some (-1)))
    (h : Q (.ref s.heap.objs.size) { s with heap := s.heap.push { cls := .type "tuple", data := .seq items.toList.reverse.toArray } })
    (hsz : items.size ≤ sizeLine) : wpAny (model prog w) A (getItem (.ref t) (.ref sl)) Q E s := by
  have htake : sizeOk (.seq items.toList.reverse.toArray) := by
    show items.toList.reverse.toArray.size ≤ sizeLine
    rw [List.size_toArray, List.length_reverse, Array.length_toList]
    exact hsz
  obtain ⟨os, hos, hcs, hds⟩ := id hs
  have hTs : s.TypeIs (.ref sl) "slice" := ⟨os, hos, hcs⟩
  unfold getItem
  try with_reducible refine wpAny_holding ?_
  first | refine wpAny_bind (wpAny_pure ?_) | skip
  refine wpAny_bind (wpAny_sequenceKey ht.typeIs (by decide) ?_)
  refine wpAny_bind (wpAny_callSpecial?_slot (name := Str.ofString "__getitem__") ht.typeIs PyProof.Rows.slot_tuple_getitem
    (wpAny_call_entry PyProof.Rows.slot_tuple_getitem ht.typeIs entry_tuple_getitem ?_ (args_tuple_getitem _ _)))
  show wpAny _ _ (Builtin.Tuple.tupleItemsOf (.ref t) >>= _) _ _ s
  refine wpAny_bind (tupleItemsOf_ ht ?_)
  refine wpAny_bind (wpAny_typeOf hTs ?_)
  rw [if_pos (by decide)]
  refine wpAny_bind (sliceApplied_rev (n := items.size) hs pl pu ps ?_)
  have hno : ¬ ((((items.size : Int) - 1) == 0 && (-1 : Int) == 1 && items.size == items.size) = true) := by
    intro q
    rw [Bool.and_eq_true, Bool.and_eq_true] at q
    exact absurd q.1.2 (by decide)
  show wpAny _ _ (if (((items.size : Int) - 1) == 0 && (-1 : Int) == 1 && items.size == items.size) = true then _ else _) _ _ s
  rw [if_neg hno, pick_rev]
  first
    | exact wpAny_bind (m := Builtin.Tuple.tupleExact _) (wpAny_newObj_type (wpAny_pure ⟨_, rfl, wpAny_pure h⟩) htake)
    | exact wpAny_bind (m := Builtin.Tuple.tupleExact _) (wpAny_newObj_type (wpAny_bind (wpAny_pure (wpAny_pure ⟨_, rfl, wpAny_pure h⟩))) htake)
    | exact wpAny_bind (wpAny_bind (m := Builtin.Tuple.tupleExact _) (wpAny_newObj_type (wpAny_pure (wpAny_pure ⟨_, rfl, wpAny_pure h⟩)) htake))
    | exact wpAny_bind (wpAny_bind (m := Builtin.Tuple.tupleExact _) (wpAny_newObj_type (wpAny_pure ⟨_, rfl, wpAny_pure h⟩) htake))
end
end D.TR
namespace D
open PySem PySem.Spec L2 PyProof.Rows

section
variable {F : Fx} {cx : String → Option Addr} {Wx : WX} {X : Cx} {a b c e : Expr} {es : List Expr} {pos p2 : Pos} {fa fb fc : Env → AH → Out RV} {fs : Env → AH → Out (List RV)}

/-! ### slices -/
/-- a part of a slice -/
def tP (F : Fx) (cx : String → Option Addr) (Wx : WX) (f : Env → AH → Out (Option Int)) : TO := fun σ H Q => ∃ μ ρ h, F.R μ h H ∧ F.s1 μ h H ρ σ ∧ Fin F μ h H (f ρ h) (fun o _ _ H' => Q o H') (xK F cx Wx σ)
theorem po_non : PO X none (tP F cx Wx fun _ h => .ok none h) := ⟨fun pins s σ H Q I t => by
  obtain ⟨μ, ρ, h, r, _, f⟩ := t
  exact po_none.run pins s σ H Q I (f.here r)⟩
theorem po_val (ha : PE X a (tO F cx Wx fa)) : PO X (some a) (tP F cx Wx fun ρ h => (fa ρ h).bind (prtO false)) := ⟨fun pins s σ H Q I t => by
  refine (po_some ha).run pins s σ H Q I ?_
  obtain ⟨μ, ρ, h, r, s', f⟩ := t
  refine ⟨μ, ρ, h, r, s', Fin.mono (Fin.bind f) (fun v h1 μ1 H1 e1 r1 z x rx => ?_) fun _ _ _ _ _ _ z => z⟩
  unfold prtO at z
  simp only [Bool.false_eq_true, if_false] at z
  split at z
  · obtain rfl := rx.int_inv
    exact ⟨_, rfl, z.here r1⟩
  · exact z.elim⟩
theorem sIx_eq (n d : Nat) (o : Option Int) : D.sIx n d o = HT.sIx n d o := by
  cases o with
  | none => rfl
  | some v => rfl
theorem cut_map {α β : Type} (f : α → β) (xs : List α) (lo hi : Option Int) : cut (xs.map f) lo hi = (cut xs lo hi).map f := by simp [cut, List.map_take, List.map_drop]
theorem cut_rel {μ : List Addr} {h : AH} {H : Hp} {xs : List RV} {vs : List V} (rs : F.v2 μ h H xs vs) (lo hi : Option Int) : F.v2 μ h H (cut xs lo hi) (cutV vs lo hi) := by
  unfold cut cutV
  rw [sIx_eq, sIx_eq, rs.length]
  exact (rs.drop _).take _
theorem mem_cut {α : Type} {xs : List α} {lo hi : Option Int} {c : α} (hc : c ∈ cut xs lo hi) : c ∈ xs := List.mem_of_mem_drop (List.mem_of_mem_take hc)
theorem cut_le {α : Type} (xs : List α) (lo hi : Option Int) : (cut xs lo hi).length ≤ xs.length := by
  unfold cut; rw [List.length_take, List.length_drop]; omega
theorem cut_all {α : Type} {xs : List α} {lo hi : Option Int} (h1 : D.sIx xs.length 0 lo = 0) (h2 : D.sIx xs.length xs.length hi = xs.length) : cut xs lo hi = xs := by
  unfold cut; rw [h1, h2]; simp
def rSlc (F : Fx) (m : Bool) : V → Option Int → Option Int → Hp → VK → Prop := fun x lo hi H Q => ∃ μ h v, F.R μ h H ∧ F.v1 μ h H v x ∧ Fin F μ h H (slcR m v lo hi h) (vK F Q) (fun _ _ _ _ => False)
theorem sl_all (m : Bool) : SlR X (rSlc F m) := by
  intro pins s σ H x v vl vu lo hi sl Q I rx hs pl pu q
  obtain ⟨μ, h, w, r, rv, f⟩ := q
  unfold slcR at f
  split at f
  · rename_i z
    obtain ⟨rfl, hz⟩ := rv.str_inv
    refine sl_str pins s σ H _ v vl vu lo hi sl Q I rx hs pl pu ⟨_, rfl, by rw [sOf_len, line_eq]; exact (okS_iff.mp hz).1, ?_⟩
    have e : cutS (sOf z) lo hi = sOf (cut z lo hi) := by
      unfold cutS cut
      rw [sOf_len, sIx_eq, sIx_eq]
    rw [e]
    exact f.here r _ (.pv (.str _ (okS_iff.mpr ⟨Nat.le_trans (cut_le _ _ _) (okS_iff.mp hz).1, fun c hc => (okS_iff.mp hz).2 c (mem_cut hc)⟩)))
  · rename_i xs
    cases rv with
    | pv rv => cases rv with
      | tup rd wr' hl rs =>
        rename_i p vs
        refine sl_tupD pins s σ H _ v vl vu lo hi sl Q I rx hs pl pu ⟨p, vs, rfl, .inl rd.rd, fun hw => ?_, ?_⟩
        · have hlen := rs.length
          have ec : cut xs lo hi = xs := cut_all (by rw [sIx_eq, hlen]; exact hw.1) (by rw [sIx_eq, hlen]; exact hw.2)
          rw [ec] at f
          exact f.here r _ (.pv (.tup rd wr' hl rs))
        · intro q o ho hq
          have g : Grow H (wr F.G μ h) (upd H q (.frz o (.tup (cutV vs lo hi)))) (wr F.G μ h) := .fresh hq
          have rc : F.v2 μ h H ((cut xs lo hi).map .pv) (cutV vs lo hi) := by
            rw [← cut_map]; exact cut_rel rs.toR lo hi
          exact f.at (Ext.fresh hq) (r.fresh hq) _ (.pv (.tup ⟨o, upd_same, ho⟩ (wr_not r hq) (Nat.le_trans (cut_le _ _ _) hl) (rc.toP.grow g)))
  · rename_i hn1 hn2
    split at f
    · rename_i xs ex
      obtain ⟨p, vs, rfl, rd, rs⟩ := view_L r rv ex
      have nl := new_lst r (cut_rel rs lo hi) f
      exact sl_list pins s σ H _ v vl vu lo hi sl Q I rx hs pl pu ⟨p, vs, rfl, .inl rd, nl.2⟩
    · exact f.elim
theorem slcR_nx (m : Bool) (v : RV) (lo hi : Option Int) (h : AH) : noexc (slcR m v lo hi h) := by
  intro e h' q
  unfold slcR newL at q
  repeat' split at q
  all_goals (first | cases q | contradiction)
theorem r_slc (m : Bool) {lo hi : Option Expr} {fl fu : Env → AH → Out (Option Int)} (ha : PE X a (tO F cx Wx fa)) (hl : PO X lo (tP F cx Wx fl)) (hu : PO X hi (tP F cx Wx fu)) :
    PE X (.Subscript a (.Slice lo hi none p2) pos) (tO F cx Wx fun ρ h => (fa ρ h).bind fun x h1 => (fl ρ h1).bind fun y h2 => (fu ρ h2).bind fun z h3 => slcR m x y z h3) :=
  pe_imp (pe_slice (sl_all m) ha hl hu) fun σ H Q t => by
    obtain ⟨μ, ρ, h, r, s, f⟩ := t
    refine ⟨μ, ρ, h, r, s, Fin.mono (Fin.bind f) (fun v h1 μ1 H1 e1 r1 z x rx => ?_) fun _ _ _ _ _ _ z => z⟩
    refine ⟨μ1, ρ, h1, r1, s.grow e1.grow e1.pre, Fin.mono (Fin.bind z) (fun lo' h2 μ2 H2 e2 r2 z2 => ?_) fun _ _ _ _ _ _ z => z⟩
    refine ⟨μ2, ρ, h2, r2, (s.grow e1.grow e1.pre).grow e2.grow e2.pre, Fin.mono (Fin.bind z2) (fun hi' h3 μ3 H3 e3 r3 z3 => ?_) fun _ _ _ _ _ _ z => z⟩
    exact ⟨μ3, h3, v, r3, (rx.grow e2.grow e2.pre).grow e3.grow e3.pre, z3.nox (slcR_nx _ _ _ _ _)⟩

/-! ### x[::-1] -/
theorem RRels.reverse {μ : List Addr} {h : AH} {H : Hp} : ∀ {xs : List RV} {vs : List V}, F.v2 μ h H xs vs → F.v2 μ h H xs.reverse vs.reverse
  | _, _, .nil => .nil
  | _, _, .cons r rs => by
    simp only [List.reverse_cons]
    exact (RRels.reverse rs).append (.cons r .nil)
theorem revR_nx (m : Bool) (v : RV) (h : AH) : noexc (revR m v h) := by
  intro e h' q
  unfold revR newL at q
  repeat' split at q
  all_goals (first | cases q | contradiction)
theorem r_rev (m : Bool) {k : Nat} {p1 p2 p3 : Pos} (he : PE X e (tO F cx Wx fa)) :
    PE X (.Subscript e (.Slice none none (some (.UnaryOp .USub (.Constant (.int 1) k p1) p2)) p3) pos) (tO F cx Wx fun ρ h => (fa ρ h).bind (revR m)) := by
  refine ⟨fun pins s σ H Q I t => ?_⟩
  refine Subscript_ (thn (he.run pins s σ H _ I (tO_bind t)) fun v s1 ⟨x, H1, I1, r1, q1⟩ => ?_)
  obtain ⟨μ, h, w, r, rv, f⟩ := q1
  have hst : PO X (some (.UnaryOp .USub (.Constant (.int 1) k p1) p2)) (tPart (tUn (rU fun i => .int (-i)) (tC (.int 1)))) := po_some (pe_un un_neg pe_int)
  refine wpAny_Slice (thn (po_none.run pins s1 σ H1 (fun o H2 => o = none ∧ H2 = H1) I1 ⟨rfl, rfl⟩) fun vl s2 ⟨l, H2, I2, pl, el, e2⟩ => ?_)
  subst el e2
  refine thn (po_none.run pins s2 σ H2 (fun o H3 => o = none ∧ H3 = H2) I2 ⟨rfl, rfl⟩) fun vu s3 ⟨u, H3, I3, pu, eu, e3⟩ => ?_
  subst eu e3
  refine thn (hst.run pins s3 σ H3 (fun o H4 => o = some (-1) ∧ H4 = H3) I3 ⟨1, rfl, -1, rfl, rfl, rfl⟩) fun vs s4 ⟨o, H4, I4, ps, eo, e4⟩ => ?_
  subst eo e4
  have I5 : Inv X pins σ H4 { s4 with heap := s4.heap.push { cls := .type "slice", data := .fields #[vl, vu, vs] } } := I4.kept (t' := s4.toks) fun b ob q => Heap.get?_push_of_some _ q
  show wpAny (model X.prog X.w) X.A (subscriptTail e (.Slice none none (some (.UnaryOp .USub (.Constant (.int 1) k p1) p2)) p3) v (.ref s4.heap.objs.size)) (EP X pins σ Q) X.xe { s4 with heap := s4.heap.push { cls := .type "slice", data := .fields #[vl, vu, vs] } }
  unfold revR at f
  split at f
  · rename_i xs
    cases rv with
    | pv rv => cases rv with
      | tup rd wr' hl rs =>
        rename_i a zs
        cases r1
        obtain ⟨its, rr, ht, hz⟩ := I5.tuple (a := a) (.inl rd.rd)
        have hlen := rr.length
        have hrl := rs.length
        refine tail_any (ops := [.ref a, .ref s4.heap.objs.size]) ht.typeIs (PyProof.Rows.slot_tuple_getitem.lookup) ?_ (by with_unfolding_all rfl)
        refine D.TR.getItem_tuple_rev ht (Heap.IsSliceOf.new _ vl vu vs) pl pu ps ?_ (by rw [List.size_toArray]; omega)
        refine ep_tup (H := H4) (s := { s4 with heap := s4.heap.push { cls := .type "slice", data := .fields #[vl, vu, vs] } }) (h' := s4.heap.push { cls := .type "slice", data := .fields #[vl, vu, vs] }) (t' := s4.toks) I5 (fun _ _ e => e) rr.reverse (by rw [List.length_reverse]; omega) ?_
        intro q o ho hq
        have g : Grow H4 (wr F.G μ h) (upd H4 q (.frz o (.tup zs.reverse))) (wr F.G μ h) := .fresh hq
        have rc : F.v2 μ h H4 (xs.reverse.map .pv) zs.reverse := by
          rw [List.map_reverse]; exact RRels.reverse rs.toR
        exact f.at (Ext.fresh hq) (r.fresh hq) _ (.pv (.tup ⟨o, upd_same, ho⟩ (wr_not r hq) (by rw [List.length_reverse]; exact hl) (rc.toP.grow g)))
  · split at f
    · rename_i xs ex
      obtain ⟨a, zs, rfl, rd, rs⟩ := view_L r rv ex
      cases r1
      obtain ⟨hz, its, n, rr, hlen, ho⟩ := rd_list I5 rd
      have ht : (s4.heap.push { cls := .type "slice", data := .fields #[vl, vu, vs] }).IsList a its.toArray := ⟨_, ho, rfl, n, rfl⟩
      have nl := new_lst r (RRels.reverse rs) f
      refine tail_any (ops := [.ref a, .ref s4.heap.objs.size]) ht.typeIs (PySem.slot_list_getitem.lookup) ?_ (by with_unfolding_all rfl)
      refine wpAny_getItem_list_slice ht (Heap.IsSliceOf.new _ vl vu vs) pl pu ps (by decide) ?_ (by rw [List.size_toArray, ← hlen]; exact hz)
      rw [PySem.W.krv_pick]
      refine ⟨.ref _, _, I5.laid (t' := s4.toks) (o := .lst zs.reverse) (fun b ob q => Heap.get?_push_of_some _ q) (Nat.le_refl _) ?_, rfl, nl.2 _ (I5.hok.fresh (Nat.le_refl _))⟩
      exact ⟨by rw [List.length_reverse]; exact hz, _, 0, rr.reverse, Heap.get?_push_size _ rfl⟩
    · exact f.elim

/-! ### fields -/
theorem toNat_inj {a b : Char} (h : a.toNat = b.toNat) : a = b := Char.ext (UInt32.toNat.inj h)
theorem ofStr_inj {s t : String} (h : Str.ofString s = Str.ofString t) : s = t := by
  rw [Str.ofString_eq_toList, Str.ofString_eq_toList] at h
  have h1 : s.toList.map Char.toNat = t.toList.map Char.toNat := by
    have := congrArg (fun z : Str => z.cps.toList) h
    simpa using this
  have h2 : s.toList = t.toList := List.map_inj_right (fun a b => toNat_inj) |>.mp h1
  exact String.toList_inj.mp h2
theorem ofStr_ne {s t : String} (h : s ≠ t) : (Str.ofString s == Str.ofString t) = false := beq_eq_false_iff_ne.mpr fun z => h (ofStr_inj z)
theorem lookF_rel {μ : List Addr} {h : AH} {H : Hp} {fs : List (String × RV)} {gs : List (Str × V)} {f : String} (rs : RRelF F.G μ H (wr F.G μ h) fs gs) :
    (∀ v, lookF f fs = some v → ∃ x, gs.lookup (Str.ofString f) = some x ∧ F.v1 μ h H v x) ∧ (lookF f fs = none → gs.lookup (Str.ofString f) = none) := by
  induction rs with
  | nil => exact ⟨fun v e => (nomatch e), fun _ => rfl⟩
  | cons r rs ih =>
    rename_i n x w fs' gs'
    simp only [lookF]
    by_cases q : f = n
    · subst q
      simp only [if_true]
      refine ⟨fun v e => ?_, fun e => (nomatch e)⟩
      cases e
      exact ⟨w, by simp [List.lookup], r⟩
    · rw [if_neg q]
      simp only [List.lookup, ofStr_ne q]
      exact ih
/-- an instance is seen -/
theorem view_O {v : RV} {x : V} {μ : List Addr} {h : AH} {H : Hp} (r : F.R μ h H) (rv : F.v1 μ h H v x) :
    (∀ c fs, v = .pv (.obj c fs) → ∃ a C dx gs, x = .ref a ∧ F.G.cl c = some C ∧ H a = some (.ins C dx gs) ∧ RRelF F.G μ H (wr F.G μ h) (fs.map fun p => (p.1, .pv p.2)) gs) ∧
    (∀ p c fs, v = .ref p → h[p]? = some (.obj c fs) → ∃ a C dx gs, x = .ref a ∧ μ[p]? = some a ∧ F.G.cl c = some C ∧ H a = some (.ins C dx gs) ∧ RRelF F.G μ H (wr F.G μ h) fs gs) := by
  refine ⟨fun c fs e => ?_, fun p c fs e eo => ?_⟩
  · subst e
    cases rv with
    | pv rv => cases rv with
      | obj ec e _ rs => exact ⟨_, _, _, _, rfl, ec, e, rs.toR⟩
  · subst e
    cases rv with
    | ref ea =>
      obtain ⟨C, dx, gs, ec, e, rs⟩ := r.obj p _ _ eo ea
      exact ⟨_, C, dx, gs, rfl, ea, ec, e, rs⟩
theorem lookF_map (f : String) (fs : List (String × PV)) : lookF f (fs.map fun p => (p.1, RV.pv p.2)) = (lookF f fs).map RV.pv := by
  induction fs with
  | nil => rfl
  | cons p fs ih =>
    simp only [List.map_cons, lookF]
    split
    · rfl
    · exact ih
theorem r_attr {f : String} {cs : List String} (hf : ∀ c ∈ cs, ∀ C, F.G.cl c = some C → Cls X.K C ∧ NoAttr X.K C (Str.ofString f)) (ha : PE X a (tO F cx Wx fa)) (hb : attributeBase a (Str.ofString f) X.env (eval a X.env) = eval a X.env) :
    PE X (.Attribute a (Str.ofString f) pos) (tO F cx Wx fun ρ h => (fa ρ h).bind (attrR cs f)) :=
  pe_imp (pe_fld ha hb) fun σ H Q t => by
    obtain ⟨μ, ρ, h, r, s, g⟩ := t
    refine ⟨μ, ρ, h, r, s, Fin.mono (Fin.bind g) (fun v h1 μ1 H1 e1 r1 z x rx => ?_) fun _ _ _ _ _ _ z => z⟩
    unfold attrR at z
    split at z
    · rename_i c fs
      obtain ⟨a, C, dx, gs, rfl, ec, e, rs⟩ := (view_O r1 rx).1 c fs rfl
      split at z
      · rename_i hc
        cases q : lookF f fs with
        | none => rw [q] at z; exact z.elim
        | some y =>
          rw [q] at z
          obtain ⟨u, eu, ru⟩ := (lookF_rel rs).1 (.pv y) (by rw [lookF_map, q]; rfl)
          exact ⟨a, C, dx, gs, u, rfl, e, (hf c hc C ec).1, (hf c hc C ec).2, eu, z.here r1 _ ru⟩
      · exact z.elim
    · rename_i p
      split at z
      · rename_i c fs eo
        obtain ⟨a, C, dx, gs, rfl, _, ec, e, rs⟩ := (view_O r1 rx).2 p c fs rfl eo
        split at z
        · rename_i hc
          cases q : lookF f fs with
          | none => rw [q] at z; exact z.elim
          | some y =>
            rw [q] at z
            obtain ⟨u, eu, ru⟩ := (lookF_rel rs).1 y q
            exact ⟨a, C, dx, gs, u, rfl, e, (hf c hc C ec).1, (hf c hc C ec).2, eu, z.here r1 _ ru⟩
        · exact z.elim
      · exact z.elim
    · exact z.elim

/-! ### isinstance -/
/-- one of the built-in types that are asked -/
def isTy (T : String) : Bool := T == "bool" || T == "int" || T == "str" || T == "tuple" || T == "list"
theorem isTy_cases {T : String} (h : isTy T = true) : T = "bool" ∨ T = "int" ∨ T = "str" ∨ T = "tuple" ∨ T = "list" := by
  simpa [isTy, or_assoc] using h
theorem kit_non (K : PySem.W.Frag) {T : String} (h : isTy T = true) : PySem.W.kitOne K (.type "NoneType") (.type T) = some false := by
  rcases isTy_cases h with rfl | rfl | rfl | rfl | rfl <;> rfl
theorem kit_bl (K : PySem.W.Frag) {T : String} (h : isTy T = true) : PySem.W.kitOne K (.type "bool") (.type T) = some (T == "bool" || T == "int") := by
  rcases isTy_cases h with rfl | rfl | rfl | rfl | rfl <;> rfl
theorem kit_int (K : PySem.W.Frag) {T : String} (h : isTy T = true) : PySem.W.kitOne K (.type "int") (.type T) = some (T == "int") := by
  rcases isTy_cases h with rfl | rfl | rfl | rfl | rfl <;> rfl
theorem kit_str (K : PySem.W.Frag) {T : String} (h : isTy T = true) : PySem.W.kitOne K (.type "str") (.type T) = some (T == "str") := by
  rcases isTy_cases h with rfl | rfl | rfl | rfl | rfl <;> rfl
theorem kit_tup (K : PySem.W.Frag) {T : String} (h : isTy T = true) : PySem.W.kitOne K (.type "tuple") (.type T) = some (T == "tuple") := by
  rcases isTy_cases h with rfl | rfl | rfl | rfl | rfl <;> rfl
theorem kit_lst (K : PySem.W.Frag) {T : String} (h : isTy T = true) : PySem.W.kitOne K (.type "list") (.type T) = some (T == "list") := by
  rcases isTy_cases h with rfl | rfl | rfl | rfl | rfl <;> rfl
theorem isi_ty {μ : List Addr} {h : AH} {H : Hp} {v : RV} {x : V} {T : String} {k : Bool} (K : PySem.W.Frag) (r : F.R μ h H) (rv : F.v1 μ h H v x) (hT : isTy T = true) (e : isiR h v T = some k) :
    ∃ t, TyX K H x t ∧ PySem.W.kitOne K t (.type T) = some k := by
  cases rv with
  | pv rv =>
    cases rv with
    | non => simp only [isiR, Option.some.injEq] at e; subst e; exact ⟨_, .base .non, kit_non K hT⟩
    | bl b => simp only [isiR, Option.some.injEq] at e; subst e; exact ⟨_, .base (.bl b), kit_bl K hT⟩
    | int i => simp only [isiR, Option.some.injEq] at e; subst e; exact ⟨_, .base (.int i), kit_int K hT⟩
    | str s _ => simp only [isiR, Option.some.injEq] at e; subst e; exact ⟨_, .base (.str _), kit_str K hT⟩
    | tup rd _ _ _ =>
      simp only [isiR, Option.some.injEq] at e; subst e
      obtain ⟨o, e, _⟩ := rd
      exact ⟨_, .fTuple e, kit_tup K hT⟩
    | lst rd _ _ _ =>
      simp only [isiR, Option.some.injEq] at e; subst e
      rcases rd with e | ⟨o, e⟩
      · exact ⟨_, .base (.lst e), kit_lst K hT⟩
      · exact ⟨_, .base (.frz e), kit_lst K hT⟩
    | obj _ _ _ _ => simp [isiR] at e
    | dct _ _ _ => simp [isiR] at e
  | ref ea =>
    simp only [isiR] at e
    split at e
    · rename_i ys eo
      simp only [Option.some.injEq] at e; subst e
      obtain ⟨vs, e1, _⟩ := r.obj _ _ _ eo ea
      exact ⟨_, .base (.lst e1), kit_lst K hT⟩
    · cases e
theorem isiO_nx (T : String) (x : RV) (h : AH) : noexc (isiO T x h) := by
  intro e h' q
  unfold isiO at q
  split at q <;> cases q
/-- e, not starred -/
def notStar : Expr → Bool
  | .Starred _ _ => false
  | _ => true
theorem star_cons {e : Expr} {es : List Expr} {env : PySem.Env} (h : notStar e = true) : starEach (e :: es) env = (false, eval e env) :: starEach es env := by
  cases e <;> first | rfl | cases h
theorem star_all {es : List Expr} {env : PySem.Env} (h : es.all notStar = true) (pos : Pos) : (backTo pos (starEach es env)).any (·.1) = false := by
  induction es with
  | nil => rfl
  | cons e es ih =>
    simp only [List.all_cons, Bool.and_eq_true] at h
    rw [star_cons h.1]
    exact ih h.2
/-- what stands as a built-in name -/
def Bn (X : Cx) (x : Str) (u : Value) : Prop := Gl X x ∧ X.mg x = none ∧ bootBuiltins x = some u ∧ x ≠ "__name__" ∧ (x == ("__debug__" : Str)) = false
theorem r_isi {T : String} {p p3 : Pos} (hT : isTy T = true) (hn : Bn X "isinstance" (.builtin "isinstance")) (ht : Bn X (Str.ofString T) (.type T)) (ha : PE X a (tO F cx Wx fa)) (hs : notStar a = true) :
    PE X (.Call (.Name "isinstance" p) [a, .Name (Str.ofString T) p3] [] pos) (tO F cx Wx fun ρ h => (fa ρ h).bind (isiO T)) := by
  have hty : PE X (.Name (Str.ofString T) p3) (tC (.ty T)) := pe_bltn ht.1 ht.2.1 ht.2.2.1 rfl ht.2.2.2.1 ht.2.2.2.2
  have hp : PA X [a, .Name (Str.ofString T) p3] _ := pa_cons ha (pa_cons hty pa_nil) (star_cons hs)
  refine pe_imp (pe_callB call_isi hn.1 hn.2.1 hn.2.2.1 hp hn.2.2.2.1 hn.2.2.2.2 (star_cons hs)) fun σ H Q t => ?_
  obtain ⟨μ, ρ, h, r, s, g⟩ := t
  refine ⟨μ, ρ, h, r, s, Fin.mono (Fin.bind g) (fun v h1 μ1 H1 e1 r1 z x rx => ?_) fun _ _ _ _ _ _ z => z⟩
  show ∃ (x1 c : V) (t u : Value) (b : Bool), [x, V.ty T] = [x1, c] ∧ _
  unfold isiO at z
  split at z
  · rename_i k ek
    obtain ⟨t, ty, kt⟩ := isi_ty X.K r1 rx hT ek
    exact ⟨x, _, t, _, k, rfl, .ty T, ty, kt, z.here r1 _ (.pv (.bl k))⟩
  · exact z.elim

/-! ### built-in functions by values -/
def rBi (F : Fx) (b : String) : List V → Hp → VK → Prop := fun xs H Q => ∃ μ h vs, F.R μ h H ∧ F.v2 μ h H vs xs ∧ Fin F μ h H (biR b vs h) (vK F Q) (fun _ _ _ _ => False)
theorem RRels.one {μ : List Addr} {h : AH} {H : Hp} {v : RV} {xs : List V} (r : F.v2 μ h H [v] xs) : ∃ x, xs = [x] ∧ F.v1 μ h H v x := by
  cases r with
  | cons a b => cases b; exact ⟨_, rfl, a⟩
theorem RRels.two {μ : List Addr} {h : AH} {H : Hp} {v w : RV} {xs : List V} (r : F.v2 μ h H [v, w] xs) : ∃ x y, xs = [x, y] ∧ F.v1 μ h H v x ∧ F.v1 μ h H w y := by
  cases r with
  | cons a b => cases b with
    | cons b c => cases c; exact ⟨_, _, rfl, a, b⟩
theorem cr_len : CallR X (.builtin "len") (rBi F "len") := by
  intro pins s σ H xs us Q I rx q
  obtain ⟨μ, h, vs, r, rv, f⟩ := q
  unfold biR at f
  split at f
  · obtain ⟨x, rfl, rx1⟩ := RRels.one rv
    obtain ⟨rfl, hz⟩ := rx1.str_inv
    exact call_len pins s σ H _ us Q I rx ⟨_, _, rfl, ⟨by rw [sOf_len, line_eq]; exact (okS_iff.mp hz).1, rfl⟩, by rw [sOf_len]; exact f.here r _ (.pv (.int _))⟩
  · split at f
    · rename_i ys ey
      obtain ⟨x, rfl, rx1⟩ := RRels.one rv
      obtain ⟨p, zs, rfl, hq, rs⟩ := view_Q (K := X.K) r rx1 ey
      refine call_len pins s σ H _ us Q I rx ⟨_, zs.length, rfl, ?_, by rw [← rs.length]; exact f.here r _ (.pv (.int _))⟩
      rcases hq with hq | hq
      · exact .inl ⟨_, hq, rfl⟩
      · exact .inr ⟨_, hq, rfl⟩
    · split at f
      · rename_i kvs ed
        obtain ⟨x, rfl, rx1⟩ := RRels.one rv
        obtain ⟨p, ks, rfl, rd, rs⟩ := view_D r rx1 ed
        obtain ⟨u, rfl, ru⟩ := vals1 rx
        obtain rfl : u = Value.ref p := ru
        exact d_len I rd fun t s' I' => ⟨.int kvs.length, _, I', ⟨t, by rw [rs.length]⟩, f.here r _ (.pv (.int _))⟩
      · exact f.elim
  all_goals first | exact f.elim | (rename_i h1; exact absurd h1 (by decide))
theorem cr_abs : CallR X (.builtin "abs") (rBi F "abs") := by
  intro pins s σ H xs us Q I rx q
  obtain ⟨μ, h, vs, r, rv, f⟩ := q
  unfold biR at f
  split at f
  all_goals first
    | exact f.elim
    | (obtain ⟨x, rfl, rx1⟩ := RRels.one rv
       obtain rfl := rx1.int_inv
       exact call_abs pins s σ H _ us Q I rx ⟨_, rfl, f.here r _ (.pv (.int _))⟩)
    | (rename_i h1; exact absurd h1 (by decide))
theorem cr_int : CallR X (.type "int") (rBi F "int") := by
  intro pins s σ H xs us Q I rx q
  obtain ⟨μ, h, vs, r, rv, f⟩ := q
  unfold biR at f
  split at f
  all_goals first
    | exact f.elim
    | (obtain ⟨x, rfl, rx1⟩ := RRels.one rv
       obtain rfl := rx1.int_inv
       exact call_int1 pins s σ H _ us Q I rx (.inl ⟨_, rfl, f.here r _ (.pv (.int _))⟩))
    | (obtain ⟨x, rfl, rx1⟩ := RRels.one rv
       obtain rfl := rx1.bl_inv
       exact call_int1 pins s σ H _ us Q I rx (.inr ⟨_, rfl, f.here r _ (.pv (.int _))⟩))
    | (rename_i h1; exact absurd h1 (by decide))
theorem strI_eq (i : Int) : (toString i : Str) = sOf (strI i) := by
  rw [Str.ofString_eq_toList]
  unfold strI sOf
  rfl
theorem cr_str : CallR X (.type "str") (rBi F "str") := by
  intro pins s σ H xs us Q I rx q
  obtain ⟨μ, h, vs, r, rv, f⟩ := q
  unfold biR at f
  split at f
  all_goals first
    | exact f.elim
    | (rename_i h1; exact absurd h1 (by decide))
    | (split at f
       · rename_i c
         simp only [Bool.and_eq_true, decide_eq_true_eq] at c
         obtain ⟨x, rfl, rx1⟩ := RRels.one rv
         obtain rfl := rx1.int_inv
         refine call_str_int pins s σ H _ us Q I rx ⟨_, rfl, c.1, ?_⟩
         rw [strI_eq]
         exact f.here r _ (.pv (.str _ c.2))
       · exact f.elim)
    | (obtain ⟨x, rfl, rx1⟩ := RRels.one rv
       obtain ⟨rfl, hs⟩ := rx1.str_inv
       exact SkE.call_str_str pins s σ H _ us Q I rx ⟨_, rfl, f.here r _ (.pv (.str _ hs))⟩)
theorem cr_min2 (hc : X.calm = true) : CallR X (.builtin "min") (rBi F "min") := by
  intro pins s σ H xs us Q I rx q
  obtain ⟨μ, h, vs, r, rv, f⟩ := q
  unfold biR at f
  split at f
  all_goals first
    | exact f.elim
    | (obtain ⟨x, y, rfl, rx1, rx2⟩ := RRels.two rv
       obtain rfl := rx1.int_inv
       obtain rfl := rx2.int_inv
       exact call_min2 hc pins s σ H _ us Q I rx ⟨_, _, rfl, f.here r _ (.pv (.int _))⟩)
    | (rename_i h1; exact absurd h1 (by decide))
theorem cr_max2 (hc : X.calm = true) : CallR X (.builtin "max") (rBi F "max") := by
  intro pins s σ H xs us Q I rx q
  obtain ⟨μ, h, vs, r, rv, f⟩ := q
  unfold biR at f
  split at f
  all_goals first
    | exact f.elim
    | (obtain ⟨x, y, rfl, rx1, rx2⟩ := RRels.two rv
       obtain rfl := rx1.int_inv
       obtain rfl := rx2.int_inv
       exact call_max2 hc pins s σ H _ us Q I rx ⟨_, _, rfl, f.here r _ (.pv (.int _))⟩)
    | (rename_i h1; exact absurd h1 (by decide))
theorem biR_nx (b : String) (xs : List RV) (h : AH) : noexc (biR b xs h) := by
  intro e h' q
  unfold biR at q
  repeat' split at q
  all_goals (first | cases q | contradiction)
/-- the value of a built-in's name -/
def biV (b : String) : Value := if b = "int" ∨ b = "str" then .type b else .builtin b
def isBi (b : String) : Bool := b == "len" || b == "abs" || b == "int" || b == "min" || b == "max" || b == "str"
theorem r_bi {b : String} {p : Pos} (hc : X.calm = true) (hb : isBi b = true) (hn : Bn X (Str.ofString b) (biV b)) (ha : PA X (e :: es) (tOs F cx Wx fs)) (hs : notStar e = true) (hss : es.all notStar = true) :
    PE X (.Call (.Name (Str.ofString b) p) (e :: es) [] pos) (tO F cx Wx fun ρ h => (fs ρ h).bind (biR b)) := by
  have key : ∀ {r : PE X (.Call (.Name (Str.ofString b) p) (e :: es) [] pos) (tCB (rBi F b) (tOs F cx Wx fs))}, PE X (.Call (.Name (Str.ofString b) p) (e :: es) [] pos) (tO F cx Wx fun ρ h => (fs ρ h).bind (biR b)) := fun {r} =>
    pe_imp r fun σ H Q t => tOs_mono (tOs_bind t) fun xs H1 ⟨μ, h, vs, r, rxs, f⟩ => ⟨μ, h, vs, r, rxs, f.nox (biR_nx _ _ _)⟩
  have hb' : b = "len" ∨ b = "abs" ∨ b = "int" ∨ b = "min" ∨ b = "max" ∨ b = "str" := by simpa [isBi, or_assoc] using hb
  obtain ⟨h1, h2, h3, h4, h5⟩ := hn
  rcases hb' with rfl | rfl | rfl | rfl | rfl | rfl
  · exact key (r := pe_callB cr_len h1 h2 h3 ha h4 h5 (star_cons hs) (star_all hss pos))
  · exact key (r := pe_callB cr_abs h1 h2 h3 ha h4 h5 (star_cons hs) (star_all hss pos))
  · exact key (r := pe_callTy cr_int h1 h2 h3 ha h4 h5 (star_cons hs) (star_all hss pos))
  · exact key (r := pe_callB (cr_min2 hc) h1 h2 h3 ha h4 h5 (star_cons hs) (star_all hss pos))
  · exact key (r := pe_callB (cr_max2 hc) h1 h2 h3 ha h4 h5 (star_cons hs) (star_all hss pos))
  · exact key (r := pe_callTy cr_str h1 h2 h3 ha h4 h5 (star_cons hs) (star_all hss pos))
end
end D

set_option Elab.async false
set_option linter.all false
set_option maxRecDepth 100000
set_option maxHeartbeats 1000000
/-! Fd8: methods of built-in types; list(x), tuple(x), sum, sorted, min, max, join of a value. -/
namespace D
open PySem PySem.Spec L2 PyProof.Rows

section
variable {F : Fx} {cx : String → Option Addr} {Wx : WX} {X : Cx} {a b c e : Expr} {es : List Expr} {pos p2 : Pos} {fa fb fc : Env → AH → Out RV} {fs : Env → AH → Out (List RV)}

/-! ### a list is written -/
theorem write_lst {μ : List Addr} {h : AH} {H : Hp} {p : Nat} {a : Addr} {ys zs : List RV} {ws : List V} (r : F.R μ h H) (e : h[p]? = some (.lst ys)) (ea : μ[p]? = some a) (rs : F.v2 μ h H zs ws)
    (k : p < F.lo → ∀ q ∈ (AO.lst zs).refs, q ∈ (AO.lst ys).refs) : F.E μ h H μ (h.set p (.lst zs)) (upd H a (.lst ws)) ∧ F.R μ (h.set p (.lst zs)) (upd H a (.lst ws)) := by
  have g : Grow H (wr F.G μ h) (upd H a (.lst ws)) (wr F.G μ (h.set p (.lst zs))) := .write e ea (by simp) (by simp)
  exact ⟨Ext.write r e ea (by simp) (by simp), r.write e ea (by simp) (by simp) ⟨ws, upd_same, rs.grow g List.prefix_rfl⟩ k⟩
theorem lst_at {μ : List Addr} {h : AH} {H : Hp} {p : Nat} {x : V} {ys : List RV} (r : F.R μ h H) (rv : F.v1 μ h H (.ref p) x) (e : h[p]? = some (.lst ys)) : ∃ a vs, x = .ref a ∧ μ[p]? = some a ∧ H a = some (.lst vs) ∧ F.v2 μ h H ys vs := by
  cases rv with
  | ref ea =>
    obtain ⟨vs, e1, rs⟩ := r.obj p _ _ e ea
    exact ⟨_, vs, rfl, ea, e1, rs⟩
theorem refs_lst {xs : List RV} {q : Nat} : q ∈ (AO.lst xs).refs ↔ RV.ref q ∈ xs := by
  simp only [AO.refs, List.mem_flatMap]
  constructor
  · rintro ⟨x, hx, hq⟩
    cases x with
    | pv v => simp [RV.refs] at hq
    | ref p => simp [RV.refs] at hq; subst hq; exact hx
  · intro h
    exact ⟨_, h, by simp [RV.refs]⟩

/-! ### methods -/
def rBm (F : Fx) (m : String) : V → List V → Hp → VK → Prop := fun x xs H Q => ∃ μ h v vs, F.R μ h H ∧ F.v1 μ h H v x ∧ F.v2 μ h H vs xs ∧ Fin F μ h H (bmR F.lo m v vs h) (vK F Q) (fun _ _ _ _ => False)
theorem mr_append : MtR X "list.append" (rBm F "list.append") := by
  intro pins s σ H x xs v us Q I rx rxs q
  obtain ⟨μ, h, w, vs, r, rv, rvs, f⟩ := q
  unfold bmR at f
  split at f
  · rename_i p y
    split at f
    · rename_i ys ey
      split at f
      · rename_i c
        simp only [Bool.and_eq_true, decide_eq_true_eq] at c
        obtain ⟨a, ws, rfl, ea, eH, rs⟩ := lst_at r rv ey
        obtain ⟨z, rfl, rz⟩ := RRels.one rvs
        have wl := write_lst (F := F) r ey ea (rs.append (.cons rz .nil)) fun hp q hq => by
          rw [refs_lst] at hq ⊢
          rcases List.mem_append.mp hq with hq | hq
          · exact hq
          · simp only [List.mem_singleton] at hq
            subst hq
            simp [mayStore] at c
            omega
        exact mt_append pins s σ H _ _ v us Q I rx rxs ⟨a, ws, z, rfl, rfl, eH, by rw [line_eq, ← rs.length]; exact c.2, f.at wl.1 wl.2 _ (.pv .non)⟩
      · exact f.elim
    · exact f.elim
  all_goals first | exact f.elim | (rename_i h1; exact absurd h1 (by decide))
theorem mr_pop : MtR X "list.pop" (rBm F "list.pop") := by
  intro pins s σ H x xs v us Q I rx rxs q
  obtain ⟨μ, h, w, vs, r, rv, rvs, f⟩ := q
  unfold bmR at f
  split at f
  · rename_i h1; first | exact f.elim | exact absurd h1 (by decide)
  · rename_i p
    split at f
    · rename_i ys ey
      obtain ⟨a, ws, rfl, ea, eH, rs⟩ := lst_at r rv ey
      split at f
      · rename_i y hy
        have hlen := rs.length
        have wl := write_lst (F := F) r ey ea rs.dropLast fun hp q hq => by
          rw [refs_lst] at hq ⊢
          exact List.dropLast_subset _ hq
        have hy2 : ys[ys.length - 1]? = some y := by rw [← List.getLast?_eq_getElem?]; exact hy
        obtain ⟨z, ez, rz⟩ := rs.get hy2
        have rxs0 : xs = [] := by cases rvs; rfl
        subst rxs0
        have rz' := rz.grow wl.1.grow wl.1.pre
        exact mt_pop pins s σ H _ _ v us Q I rx rxs ⟨a, ws, z, rfl, rfl, eH, by rw [← hlen]; exact ez, f.at wl.1 wl.2 _ rz'⟩
      · exact f.elim
    · exact f.elim
  · rename_i p k
    split at f
    · rename_i ys ey
      obtain ⟨a, ws, rfl, ea, eH, rs⟩ := lst_at r rv ey
      split at f
      · rename_i j hj
        split at f
        · rename_i y hy
          have hlen := rs.length
          have wl := write_lst (F := F) r ey ea (rs.eraseIdx j) fun hp q hq => by
            rw [refs_lst] at hq ⊢
            exact List.mem_of_mem_eraseIdx hq
          obtain ⟨z, ez, rz⟩ := rs.get hy
          obtain ⟨u, rfl, ru⟩ := RRels.one rvs
          obtain rfl := ru.int_inv
          obtain ⟨h1, h2, h3, h4⟩ := ixN_seq (by rw [ixN_eq] at hj; exact hj)
          have hz := (I.hok a _ eH).1
          rw [sizeLine_eq] at hz
          have rz' := rz.grow wl.1.grow wl.1.pre
          exact mt_popAt pins s σ H _ _ v us Q I rx rxs ⟨a, ws, _, j, z, rfl, rfl, eH, by omega, by omega, by rw [← hlen]; exact h1, ez, f.at wl.1 wl.2 _ rz'⟩
        · exact f.elim
      · exact f.elim
    · exact f.elim
  all_goals first | exact f.elim | (rename_i h1; exact absurd h1 (by decide))
theorem strs?_some : ∀ {rs : List RV} {ts : List (List Nat)}, strs? rs = some ts → rs = ts.map fun s => RV.pv (.str s)
  | [], ts, h => by simp at h; subst h; rfl
  | .pv (.str s) :: r, ts, h => by
    simp only [strs?, Option.map_eq_some_iff] at h
    obtain ⟨us, h1, h2⟩ := h
    subst h2
    rw [strs?_some h1]; rfl
  | .ref _ :: _, ts, h => by simp [strs?] at h
  | .pv .non :: _, ts, h => by simp [strs?] at h
  | .pv (.bl _) :: _, ts, h => by simp [strs?] at h
  | .pv (.int _) :: _, ts, h => by simp [strs?] at h
  | .pv (.tup _) :: _, ts, h => by simp [strs?] at h
  | .pv (.lst _) :: _, ts, h => by simp [strs?] at h
  | .pv (.obj _ _) :: _, ts, h => by simp [strs?] at h
  | .pv (.dct _) :: _, ts, h => by simp [strs?] at h
theorem ints?_some : ∀ {rs : List RV} {ts : List Int}, ints? rs = some ts → rs = ts.map fun s => RV.pv (.int s)
  | [], ts, h => by simp at h; subst h; rfl
  | .pv (.int s) :: r, ts, h => by
    simp only [ints?, Option.map_eq_some_iff] at h
    obtain ⟨us, h1, h2⟩ := h
    subst h2
    rw [ints?_some h1]; rfl
  | .ref _ :: _, ts, h => by simp [ints?] at h
  | .pv .non :: _, ts, h => by simp [ints?] at h
  | .pv (.bl _) :: _, ts, h => by simp [ints?] at h
  | .pv (.str _) :: _, ts, h => by simp [ints?] at h
  | .pv (.tup _) :: _, ts, h => by simp [ints?] at h
  | .pv (.lst _) :: _, ts, h => by simp [ints?] at h
  | .pv (.obj _ _) :: _, ts, h => by simp [ints?] at h
  | .pv (.dct _) :: _, ts, h => by simp [ints?] at h
theorem strs_V {μ : List Addr} {h : AH} {H : Hp} {ts : List (List Nat)} : ∀ {ws : List V}, F.v2 μ h H (ts.map fun s => RV.pv (.str s)) ws → ws = ts.map (fun s => V.str (sOf s)) ∧ ∀ s ∈ ts, okS s = true := by
  induction ts with
  | nil => intro ws r; cases r; exact ⟨rfl, fun _ h => by cases h⟩
  | cons t ts ih =>
    intro ws r
    cases r with
    | cons a b =>
      obtain ⟨rfl, ht⟩ := a.str_inv
      obtain ⟨e, hs⟩ := ih b
      subst e
      refine ⟨rfl, fun s hs' => ?_⟩
      rcases List.mem_cons.mp hs' with rfl | hs'
      · exact ht
      · exact hs s hs'
theorem ints_V {μ : List Addr} {h : AH} {H : Hp} {ts : List Int} : ∀ {ws : List V}, F.v2 μ h H (ts.map fun s => RV.pv (.int s)) ws → ws = ts.map V.int := by
  induction ts with
  | nil => intro ws r; cases r; rfl
  | cons t ts ih =>
    intro ws r
    cases r with
    | cons a b =>
      obtain rfl := a.int_inv
      rw [ih b]; rfl
theorem mr_index : MtR X "tuple.index" (rBm F "tuple.index") := by
  intro pins s σ H x xs v us Q I rx rxs q
  obtain ⟨μ, h, w, vs, r, rv, rvs, f⟩ := q
  unfold bmR at f
  split at f
  all_goals first
    | exact f.elim
    | (rename_i h1; exact absurd h1 (by decide))
    | skip
  · rename_i ys z _
    split at f
    · rename_i zs ezs
      split at f
      · rename_i j hj
        cases rv with
        | pv rv => cases rv with
          | tup rd nw hl rs =>
            rename_i p ws
            have es := strs?_some ezs
            have rs2 : F.v2 μ h H (ys.map .pv) ws := rs.toR
            rw [es] at rs2
            obtain ⟨e1, _⟩ := strs_V rs2
            obtain ⟨u, rfl, ru⟩ := RRels.one rvs
            obtain ⟨rfl, _⟩ := ru.str_inv
            rw [List.findIdx?_eq_some_iff_getElem] at hj
            obtain ⟨hlt, hz, hno⟩ := hj
            have ez : zs[j] = z := by simpa using hz
            refine mt_tup_index pins s σ H _ _ v us Q I rx rxs ⟨p, zs.map sOf, sOf z, j, rfl, rfl, .inl ?_, ?_, fun m hm => ?_, f.here r _ (.pv (.int _))⟩
            · rw [List.map_map]
              have : (V.str ∘ sOf) = fun s => V.str (sOf s) := rfl
              rw [this, ← e1]; exact rd.rd
            · rw [List.getElem?_map, List.getElem?_eq_getElem hlt, ez]; rfl
            · have hm' : m < zs.length := by omega
              rw [List.getElem?_map, List.getElem?_eq_getElem hm']
              intro q
              have q' : sOf zs[m] = sOf z := Option.some.inj q
              have := hno m hm
              rw [sOf_inj] at q'
              simp [q'] at this
      · exact f.elim
    · exact f.elim
theorem bmR_nx (lo : Nat) (m : String) (v : RV) (xs : List RV) (h : AH) : noexc (bmR lo m v xs h) := by
  intro e h' q
  unfold bmR at q
  repeat' split at q
  all_goals (first | cases q | contradiction)
/-- a receiver's type in the model -/
def idT (id : String) : String := if id = "tuple.index" then "tuple" else if id = "dict.get" then "dict" else "list"
theorem mr_reverse : MtR X "list.reverse" (rBm F "list.reverse") := by
  intro pins s σ H x xs v us Q I rx rxs q
  obtain ⟨μ, h, w, vs, r, rv, rvs, f⟩ := q
  unfold bmR at f
  split at f
  all_goals first
    | exact f.elim
    | (rename_i h1; exact absurd h1 (by decide))
    | skip
  · split at f
    · rename_i ys ey
      obtain ⟨a, ws, rfl, ea, eH, rs⟩ := lst_at r rv ey
      have wl := write_lst (F := F) r ey ea (RRels.reverse rs) fun hp q hq => by
        rw [refs_lst] at hq ⊢
        exact List.mem_reverse.mp hq
      have rxs0 : xs = [] := by cases rvs; rfl
      subst rxs0
      exact mt_reverse pins s σ H _ _ v us Q I rx rxs ⟨a, ws, rfl, rfl, eH, f.at wl.1 wl.2 _ (.pv .non)⟩
    · exact f.elim
theorem mr_insert : MtR X "list.insert" (rBm F "list.insert") := by
  intro pins s σ H x xs v us Q I rx rxs q
  obtain ⟨μ, h, w, vs, r, rv, rvs, f⟩ := q
  unfold bmR at f
  split at f
  all_goals first
    | exact f.elim
    | (rename_i h1; exact absurd h1 (by decide))
    | skip
  · rename_i p k y _
    split at f
    · rename_i ys ey
      split at f
      · rename_i c
        simp only [Bool.and_eq_true, decide_eq_true_eq] at c
        obtain ⟨a, ws, rfl, ea, eH, rs⟩ := lst_at r rv ey
        obtain ⟨u, z, rfl, ru, rz⟩ := RRels.two rvs
        obtain rfl := ru.int_inv
        have wl := write_lst (F := F) r ey ea (((rs.take k.toNat).append (.cons rz .nil)).append (rs.drop k.toNat)) fun hp q hq => by
          rw [refs_lst] at hq ⊢
          rcases List.mem_append.mp hq with hq | hq
          · rcases List.mem_append.mp hq with hq | hq
            · exact List.mem_of_mem_take hq
            · simp only [List.mem_singleton] at hq
              subst hq
              simp [mayStore] at c
              omega
          · exact List.mem_of_mem_drop hq
        exact mt_insert pins s σ H _ _ v us Q I rx rxs ⟨a, ws, k, z, rfl, rfl, eH, by rw [line_eq, ← rs.length]; exact c.2.1, c.2.2.1, c.2.2.2, f.at wl.1 wl.2 _ (.pv .non)⟩
      · exact f.elim
    · exact f.elim
theorem getD_toPDs {ys : List PV} {j : Nat} (h : j < ys.length) : (toPDs ys)[j]? = some (toPD ys[j]) := by
  rw [toPDs_eq, List.getElem?_map, List.getElem?_eq_getElem h]; rfl
theorem plains_mem : ∀ {n : Nat} {ys : List PV}, plains n ys = true → ∀ y ∈ ys, plain n y = true
  | _, [], _, y, h => by cases h
  | n, x :: ys, h, y, hy => by
    simp only [plains, Bool.and_eq_true] at h
    rcases List.mem_cons.mp hy with rfl | hy
    · exact h.1
    · exact plains_mem h.2 y hy
theorem mr_lindex (hu : X.A.units + 70 < cLine) : MtR X "list.index" (rBm F "list.index") := by
  intro pins s σ H x xs v us Q I rx rxs q
  obtain ⟨μ, h, w, vs, r, rv, rvs, f⟩ := q
  unfold bmR at f
  split at f
  all_goals first
    | exact f.elim
    | (rename_i h1; exact absurd h1 (by decide))
    | skip
  · rename_i z _
    split at f
    · rename_i ys ey
      split at f
      · rename_i c
        simp only [Bool.and_eq_true] at c
        split at f
        · rename_i j hj
          have p60 : plain 60 (.lst ys) = true := by simp only [plain]; exact c.1
          have d1 := view_P (K := X.K) r rv ey p60 (by decide)
          obtain ⟨u, rfl, ru⟩ := RRels.one rvs
          have d2 := view_P (K := X.K) r ru (show viewP h (.pv z) = some z from rfl) c.2 (by decide)
          have hx : ∃ a, x = .ref a := by
            obtain ⟨dd, _⟩ := d1
            cases dd; exact ⟨_, rfl⟩
          obtain ⟨a, rfl⟩ := hx
          rw [List.findIdx?_eq_some_iff_getElem] at hj
          obtain ⟨hlt, hz, hno⟩ := hj
          refine mt_indexD (by omega) pins s σ H _ _ v us Q I rx rxs ⟨a, u, toPD z, toPDs ys, j, toPD ys[j], rfl, rfl, d1.1, d2.1, d1.2, d2.2, getD_toPDs hlt, ?_, fun m z' hm hz' => ?_, f.here r _ (.pv (.int _))⟩
          · rw [eqv_toPD (plains_mem c.1 _ (List.getElem_mem hlt)) c.2]; exact hz
          · have hm' : m < ys.length := by omega
            rw [getD_toPDs hm'] at hz'
            cases hz'
            rw [eqv_toPD (plains_mem c.1 _ (List.getElem_mem hm')) c.2]
            simpa using hno m hm
        · exact f.elim
      · exact f.elim
    · exact f.elim
theorem mr_get : MtR X "dict.get" (rBm F "dict.get") := by
  intro pins s σ H x xs v us Q I rx rxs q
  obtain ⟨μ, h, w, vs, r, rw', rvs, f⟩ := q
  unfold bmR at f
  split at f
  all_goals first
    | (exfalso; rename_i h1; exact absurd h1 (by decide))
    | skip
  · rename_i k
    split at f
    · rename_i kvs e
      split at f
      · rename_i hk
        obtain ⟨a, ks, rfl, rd, rs⟩ := view_D r rw' e
        obtain ⟨y, rfl, ry⟩ := RRels.one rvs
        cases ry with | pv ry =>
        obtain ⟨j, rfl, kr⟩ := isKey_rel (F := F) hk ry
        obtain ⟨o, g, _, e2⟩ := DGet_opt hk ry rd rs
        obtain ⟨u, rfl, ru⟩ := vals1 rxs
        obtain rfl : v = Value.ref a := rx
        rcases g with ⟨kvs', k', e', ey, l⟩ | ⟨kvs', k', b, e', ey, eb, l⟩
        · obtain ⟨z, hd, vs', rel, dd⟩ := dk_rd I.hok e'
          rw [ey] at ru
          refine call_meetsIn PySem.F.slot_dict_get dd.typeIs PySem.F.entry_dict_get (PySem.F.args_dict_get_2 _ _) (meets_dict_get (mixKind X.prog X.w) a (kV_is ru) hd) ⟨_, dd.mapOf, ?_⟩
          refine ⟨o.getD .non, H, I.tok _, ?_, f.here r _ (e2 _ _ (.pv .non))⟩
          rw [l]
          exact (rel.val k').getD rfl
        · cases j <;> cases ey
      · exact f.elim
    · exact f.elim
  · rename_i k d
    split at f
    · rename_i kvs e
      split at f
      · rename_i hk
        obtain ⟨a, ks, rfl, rd, rs⟩ := view_D r rw' e
        obtain ⟨y, y2, rfl, ry, ry2⟩ := RRels.two rvs
        cases ry with | pv ry =>
        obtain ⟨j, rfl, kr⟩ := isKey_rel (F := F) hk ry
        obtain ⟨o, g, _, e2⟩ := DGet_opt hk ry rd rs
        obtain ⟨u, u2, rfl, ru, ru2⟩ := rxs.two
        obtain rfl : v = Value.ref a := rx
        rcases g with ⟨kvs', k', e', ey, l⟩ | ⟨kvs', k', b, e', ey, eb, l⟩
        · obtain ⟨z, hd, vs', rel, dd⟩ := dk_rd I.hok e'
          rw [ey] at ru
          refine call_meetsIn PySem.F.slot_dict_get dd.typeIs PySem.F.entry_dict_get (PySem.F.args_dict_get_3 _ _ _) (meets_dict_get_default (mixKind X.prog X.w) a (kV_is ru) hd _) ⟨_, dd.mapOf, ?_⟩
          refine ⟨o.getD y2, H, I.tok _, ?_, f.here r _ (e2 _ _ ry2)⟩
          rw [l]
          exact (rel.val k').getD ru2
        · cases j <;> cases ey
      · exact f.elim
    · exact f.elim
  all_goals first | exact f.elim | skip
theorem bmK_cases {m : String} {v : RV} {h : AH} {id : String} (e : bmK m v h = some id) : (m = "index" ∧ id = "tuple.index" ∧ ∃ xs, v = .pv (.tup xs)) ∨
    ((viewL h v).isSome = true ∧ ((m = "append" ∧ id = "list.append") ∨ (m = "pop" ∧ id = "list.pop") ∨ (m = "index" ∧ id = "list.index") ∨ (m = "reverse" ∧ id = "list.reverse") ∨ (m = "insert" ∧ id = "list.insert"))) ∨
    ((viewD h v).isSome = true ∧ m = "get" ∧ id = "dict.get") := by
  unfold bmK at e
  split at e
  · split at e
    · rename_i hm
      cases e
      exact .inl ⟨hm, rfl, _, rfl⟩
    · cases e
  · split at e
    · rename_i hv
      refine .inr (.inl ⟨hv, ?_⟩)
      simp only [lookF] at e
      split at e
      · cases e; rename_i q; exact .inl ⟨q, rfl⟩
      · split at e
        · cases e; rename_i q; exact .inr (.inl ⟨q, rfl⟩)
        · split at e
          · cases e; rename_i q; exact .inr (.inr (.inl ⟨q, rfl⟩))
          · split at e
            · cases e; rename_i q; exact .inr (.inr (.inr (.inl ⟨q, rfl⟩)))
            · split at e
              · cases e; rename_i q; exact .inr (.inr (.inr (.inr ⟨q, rfl⟩)))
              · cases e
    · split at e
      · rename_i hv
        split at e
        · cases e; rename_i q; exact .inr (.inr ⟨hv, q, rfl⟩)
        · cases e
      · cases e
theorem bmK_is {μ : List Addr} {h : AH} {H : Hp} {v : RV} {x : V} {u : Value} {m id : String} {pins : List (Addr × Obj)} {σ : L2.St} {s : Shared} (I : Inv X pins σ H s) (r : F.R μ h H) (rv : F.v1 μ h H v x) (ru : RelV x u)
    (e : bmK m v h = some id) : s.TypeIs u (idT id) ∧ ∀ a, u = .ref a → ∃ ob, s.heap.get? a = some ob ∧ ob.dict = none := by
  rcases bmK_cases e with ⟨rfl, rfl, xs, rfl⟩ | ⟨hv, hc⟩ | ⟨hv, rfl, rfl⟩
  · cases rv with
    | pv rv => cases rv with
      | tup rd nw hl rs =>
        rename_i p vs
        obtain rfl : u = Value.ref p := ru
        obtain ⟨o, eo, ed⟩ := rd
        obtain ⟨eg, _, its, rr, ob, e1, e2, _⟩ := I.hok p _ eo
        refine ⟨⟨ob, e1, e2⟩, fun a ea => ?_⟩
        cases ea
        exact ⟨o, eg, ed⟩
  · obtain ⟨ys, ey⟩ := Option.isSome_iff_exists.mp hv
    obtain ⟨a, vs, rfl, rd, _⟩ := view_L r rv ey
    have q := tyV_is I ru (show tyV X.K "list" (.ref a) H from .inl ⟨rfl, vs, .inl rd⟩)
    rcases hc with ⟨_, rfl⟩ | ⟨_, rfl⟩ | ⟨_, rfl⟩ | ⟨_, rfl⟩ | ⟨_, rfl⟩ <;> exact q
  · obtain ⟨ys, ey⟩ := Option.isSome_iff_exists.mp hv
    obtain ⟨a, ks, rfl, rd, _⟩ := view_D r rv ey
    obtain rfl : u = Value.ref a := ru
    obtain ⟨h1, h2, _⟩ := isD_at I (.inl ⟨ks, rd⟩)
    exact ⟨h1, h2⟩
/-- what is known of a method -/
structure BmF (X : Cx) (F : Fx) (m id : String) : Prop where
  pa : PlainAttrs (idT id)
  slot : Slot (idT id) (Str.ofString m) id
  ty : typeOf (.builtin id) = pure (.type "method_descriptor")
  run : MtR X id (rBm F id)
theorem bm_fact {μ : List Addr} {h : AH} {m id : String} {v : RV} (hu : m = "index" → X.A.units + 70 < cLine) (e : bmK m v h = some id) : BmF X F m id := by
  rcases bmK_cases e with ⟨rfl, rfl, xs, rfl⟩ | ⟨_, hc⟩ | ⟨_, rfl, rfl⟩
  · exact ⟨PySem.F.plainAttrs_tuple, PySem.F.slot_tuple_index, PySem.F.type_tuple_index, mr_index⟩
  · rcases hc with ⟨rfl, rfl⟩ | ⟨rfl, rfl⟩ | ⟨rfl, rfl⟩ | ⟨rfl, rfl⟩ | ⟨rfl, rfl⟩
    · exact ⟨PySem.F.plainAttrs_list, PySem.F.slot_list_append, PySem.F.type_list_append, mr_append⟩
    · exact ⟨PySem.F.plainAttrs_list, PySem.F.slot_list_pop, PySem.F.type_list_pop, mr_pop⟩
    · exact ⟨PySem.F.plainAttrs_list, PySem.F.slot_list_index, PySem.F.type_list_index, mr_lindex (hu rfl)⟩
    · exact ⟨PySem.F.plainAttrs_list, PySem.F.slot_list_reverse, PySem.F.type_list_reverse, mr_reverse⟩
    · exact ⟨PySem.F.plainAttrs_list, PySem.F.slot_list_insert, PySem.F.type_list_insert, mr_insert⟩
  · exact ⟨PySem.F.plainAttrs_dict, PySem.F.slot_dict_get, PySem.F.type_dict_get, mr_get⟩
theorem few_all {es : List Expr} {env : PySem.Env} (hs : es.all notStar = true) (hl : es.length < 30) (cpos : Pos) : ((backTo cpos (starEach es env)).all (fun x => !x.1) && (backToKw cpos (keywordEach [] env)).all (fun x => x.1.isSome)
      && decide (es.length + ([] : List Keyword).length + (if ([] : List Keyword).isEmpty then 0 else 1) < 30)) = true := by
  have h1 : (backTo cpos (starEach es env)).all (fun x => !x.1) = true := by
    have := star_all (env := env) hs cpos
    rw [List.any_eq_false] at this
    exact List.all_eq_true.mpr fun x hx => by simpa using this x hx
  have h2 : (backToKw cpos (keywordEach [] env)).all (fun x => x.1.isSome) = true := rfl
  rw [h1, h2]
  have h3 : es.length + ([] : List Keyword).length + (if ([] : List Keyword).isEmpty then 0 else 1) < 30 := by simpa using hl
  rw [decide_eq_true h3]; rfl
/-- a method of a built-in type, of values -/
def tBmT (F : Fx) (m : String) (ta : TE) (Q : String → V → L2.St → Hp → Prop) : L2.St → Hp → Prop := fun σ H => ta σ H fun x H1 => ∃ id, (∃ μ h v, F.R μ h H1 ∧ F.v1 μ h H1 v x ∧ bmK m v h = some id) ∧ Q id x σ H1
def tBmD (F : Fx) (m : String) (ta : TE) (t : TA) : TE := fun σ H Q => tBmT F m ta (fun id x σ H1 => t σ H1 fun xs H2 => rBm F id x xs H2 Q) σ H
def tBmD0 (F : Fx) (m : String) (ta : TE) : TE := fun σ H Q => tBmT F m ta (fun id x σ H1 => rBm F id x [] H1 Q) σ H
theorem pe_bmD {m : String} {t : TA} {ta : TE} {apos cpos : Pos} (hu : m = "index" → X.A.units + 70 < cLine)
    (ho : PE X a ta) (ha : PA X (e :: es) t) (hbase : attributeBase a (Str.ofString m) X.env (eval a X.env) = eval a X.env) (hs : (e :: es).all notStar = true) (hl : (e :: es).length < 30) (hline : (apos.endLine == cpos.line) = true) :
    PE X (.Call (.Attribute a (Str.ofString m) apos) (e :: es) [] cpos) (tBmD F m ta t) := by
  refine ⟨fun pins s σ H Q I h => ?_⟩
  refine wpAny_Call_method_late hbase (few_all hs hl cpos) hline rfl (thn (ho.run pins s σ H _ I h) fun v s1 ⟨x, H1, I1, r1, id, ⟨μ, h, w, r, rv, ty⟩, q1⟩ => ?_)
  obtain ⟨h1, h2⟩ := bmK_is I1 r rv r1 ty
  have bf : BmF X F m id := bm_fact (μ := μ) hu ty
  refine ⟨idT id, id, bf.pa, bf.slot, bf.ty, h1, h2, ?_⟩
  have hA := ha.run cpos pins s1 σ H1 _ I1 q1
  have hse := star_all (env := X.env) hs cpos
  simp only [List.all_cons, Bool.and_eq_true] at hs
  rw [star_cons hs.1] at hA hse ⊢
  refine Calls.callWith_builtin hse (Calls.evalArgs_plain ?_)
  exact thn hA fun us s2 ⟨vs, H2, I2, r2, q2⟩ => bf.run pins s2 σ H2 x vs v us Q I2 r1 r2 q2
theorem pe_bmD0 {m : String} {ta : TE} {apos cpos : Pos} (hu : m = "index" → X.A.units + 70 < cLine)
    (ho : PE X a ta) (hbase : attributeBase a (Str.ofString m) X.env (eval a X.env) = eval a X.env) (hline : (apos.endLine == cpos.line) = true) :
    PE X (.Call (.Attribute a (Str.ofString m) apos) [] [] cpos) (tBmD0 F m ta) := by
  refine ⟨fun pins s σ H Q I h => ?_⟩
  refine wpAny_Call_method_late hbase (few_all rfl (by simp) cpos) hline rfl (thn (ho.run pins s σ H _ I h) fun v s1 ⟨x, H1, I1, r1, id, ⟨μ, h, w, r, rv, ty⟩, q1⟩ => ?_)
  obtain ⟨h1, h2⟩ := bmK_is I1 r rv r1 ty
  have bf : BmF X F m id := bm_fact (μ := μ) hu ty
  refine ⟨idT id, id, bf.pa, bf.slot, bf.ty, h1, h2, ?_⟩
  exact Calls.callWith_builtin rfl (PySem.evalArgs_none (bf.run pins s1 σ H1 x [] v [] Q I1 r1 .nil q1))
def bmO (F : Fx) (m : String) (fa : Env → AH → Out RV) (fs : Env → AH → Out (List RV)) : Env → AH → Out RV := fun ρ h => (fa ρ h).bind fun x h1 => (optO (bmK m x h1) h1).bind fun id h2 => (fs ρ h2).bind fun xs h3 => bmR F.lo id x xs h3
theorem tO_bm {m : String} {σ : L2.St} {H : Hp} {Q : VK} (t : tO F cx Wx (bmO F m fa fs) σ H Q) : tBmT F m (tO F cx Wx fa) (fun id x σ H1 => ∃ μ ρ h v, F.R μ h H1 ∧ F.s1 μ h H1 ρ σ ∧ F.v1 μ h H1 v x ∧ Fin F μ h H1 ((fs ρ h).bind fun xs h2 => bmR F.lo id v xs h2) (vK F Q) (xK F cx Wx σ)) σ H := by
  obtain ⟨μ, ρ, h, r, s, g⟩ := t
  refine ⟨μ, ρ, h, r, s, Fin.mono (Fin.bind g) (fun v h1 μ1 H1 e1 r1 z x rx => ?_) fun _ _ _ _ _ _ z => z⟩
  cases hb : bmK m v h1 with
  | none => rw [hb] at z; exact z.elim
  | some id =>
    rw [hb] at z
    exact ⟨id, ⟨μ1, h1, v, r1, rx, hb⟩, μ1, ρ, h1, v, r1, s.grow e1.grow e1.pre, rx, z⟩
theorem r_bm {m : String} {apos cpos : Pos} (hu : m = "index" → X.A.units + 70 < cLine) (ho : PE X a (tO F cx Wx fa)) (ha : PA X (e :: es) (tOs F cx Wx fs)) (hbase : attributeBase a (Str.ofString m) X.env (eval a X.env) = eval a X.env) (hs : (e :: es).all notStar = true)
    (hl : (e :: es).length < 30) (hline : (apos.endLine == cpos.line) = true) : PE X (.Call (.Attribute a (Str.ofString m) apos) (e :: es) [] cpos) (tO F cx Wx (bmO F m fa fs)) :=
  pe_imp (pe_bmD (F := F) hu ho ha hbase hs hl hline) fun σ H Q t => by
    refine tO_mono (tO_bm t) fun x H1 ⟨id, h1, μ, ρ, h, v, r, s, rv, g⟩ => ⟨id, h1, μ, ρ, h, r, s, Fin.mono (Fin.bind g) (fun vs h2 μ2 H2 e2 r2 z xs rxs => ?_) fun _ _ _ _ _ _ z => z⟩
    exact ⟨μ2, h2, v, vs, r2, rv.grow e2.grow e2.pre, rxs, z.nox (bmR_nx _ _ _ _ _)⟩
theorem r_bm0 {m : String} {apos cpos : Pos} (hu : m = "index" → X.A.units + 70 < cLine) (ho : PE X a (tO F cx Wx fa)) (hbase : attributeBase a (Str.ofString m) X.env (eval a X.env) = eval a X.env) (hline : (apos.endLine == cpos.line) = true) :
    PE X (.Call (.Attribute a (Str.ofString m) apos) [] [] cpos) (tO F cx Wx (bmO F m fa fun _ h => .ok [] h)) :=
  pe_imp (pe_bmD0 (F := F) hu ho hbase hline) fun σ H Q t => by
    refine tO_mono (tO_bm t) fun x H1 ⟨id, h1, μ, ρ, h, v, r, s, rv, g⟩ => ⟨id, h1, μ, h, v, [], r, rv, .nil, Fin.nox g (bmR_nx _ _ _ _ _)⟩
end
end D

set_option Elab.async false
set_option linter.all false
set_option maxRecDepth 100000
set_option maxHeartbeats 1000000
/-! Fd9: list(x), tuple(x), sum, sorted, min, max, join of a value; of a range. -/
namespace D
open PySem PySem.Spec L2 PyProof.Rows

section
variable {F : Fx} {cx : String → Option Addr} {Wx : WX} {X : Cx} {a b c e : Expr} {es : List Expr} {pos p2 : Pos} {fa fb fc : Env → AH → Out RV} {fs : Env → AH → Out (List RV)}

/-- by values -/
def rBv (F : Fx) (m : Bool) (b : String) : List V → Hp → VK → Prop := fun xs H Q => ∃ μ h v x, xs = [x] ∧ F.R μ h H ∧ F.v1 μ h H v x ∧ Fin F μ h H (bi1V m b v h) (vK F Q) (fun _ _ _ _ => False)
theorem bi1_q {μ : List Addr} {h : AH} {H : Hp} {m : Bool} {b : String} {v : RV} {K : RV → AH → List Addr → Hp → Prop} {Xk : ExcV → AH → List Addr → Hp → Prop} (hb : b = "list" ∨ b = "tuple") (f : Fin F μ h H (bi1V m b v h) K Xk) :
    (∃ xs, viewQ h v = some xs ∧ ((b = "tuple" ∧ ∃ ys, v = .pv (.tup ys) ∧ Fin F μ h H (.ok (.pv (.tup ys)) h) K Xk) ∨ ((∀ ys, v ≠ .pv (.tup ys) ∨ b ≠ "tuple") ∧ Fin F μ h H (bi1R m b xs h) K Xk))) ∨
    (b = "list" ∧ ∃ xs, listR h v = some xs ∧ Fin F μ h H (newL m xs h) K Xk) := by
  unfold bi1V at f
  rw [if_pos hb] at f
  split at f
  · rename_i xs ex
    refine .inl ⟨xs, ex, ?_⟩
    split at f
    · exact .inl ⟨rfl, _, rfl, f⟩
    · rename_i hn
      refine .inr ⟨fun ys => ?_, f⟩
      by_cases q : b = "tuple"
      · exact .inl fun z => hn ys q z
      · exact .inr q
  · split at f
    · rename_i hb'
      split at f
      · rename_i xs ex
        exact .inr ⟨hb', xs, ex, f⟩
      · exact f.elim
    · exact f.elim
theorem bi1_l {μ : List Addr} {h : AH} {H : Hp} {m : Bool} {b : String} {v : RV} {K : RV → AH → List Addr → Hp → Prop} {Xk : ExcV → AH → List Addr → Hp → Prop} (hb : ¬ (b = "list" ∨ b = "tuple")) (f : Fin F μ h H (bi1V m b v h) K Xk) :
    ∃ xs, viewL h v = some xs ∧ Fin F μ h H (bi1R m b xs h) K Xk := by
  unfold bi1V at f
  rw [if_neg hb] at f
  split at f
  · rename_i xs ex
    exact ⟨xs, ex, f⟩
  · exact f.elim
theorem strs_get {s : List Nat} {acc : Array Value} : ∀ {n : Nat} {ys : List Value}, (∀ j v, ys[j]? = some v → ∃ c u, s[n + j]? = some c ∧ v = .str ⟨#[c]⟩ u) → ys.length = s.length - n → Vals ((s.drop n).map fun c => V.str (sOf [c])) ys
  | n, [], _, hl => by
    have : s.drop n = [] := List.drop_eq_nil_of_le (by simp at hl; omega)
    rw [this]; exact .nil
  | n, y :: ys, h, hl => by
    simp only [List.length_cons] at hl
    have hn : n < s.length := by omega
    obtain ⟨c, u, e1, e2⟩ := h 0 y rfl
    rw [List.drop_eq_getElem_cons hn, List.map_cons]
    refine .cons ?_ (strs_get (n := n + 1) (acc := acc) (fun j v e => ?_) (by omega))
    · rw [Nat.add_zero, List.getElem?_eq_getElem hn] at e1
      cases e1
      exact ⟨u, e2⟩
    · obtain ⟨c, u, e1, e2⟩ := h (j + 1) v (by simpa using e)
      exact ⟨c, u, by rw [← e1]; congr 1; omega, e2⟩
theorem cv_listS (hc : X.calm = true) {pins : List (Addr × Obj)} {σ : L2.St} {s : Shared} {H : Hp} {z : List Nat} {us : List Value} {Q : VK} (I : Inv X pins σ H s) (hz : okS z = true) (rx : Vals [.str (sOf z)] us)
    (q : ∀ p, H p = none → Q (.ref p) (upd H p (.lst (z.map fun c => V.str (sOf [c]))))) : wpAny (model X.prog X.w) X.A (call (.type "list") us) (EP X pins σ Q) X.xe s := by
  obtain ⟨u, rfl, t, rfl⟩ := vals1 rx
  have hz1 : z.length ≤ sizeLine := by rw [line_eq]; exact (okS_iff.mp hz).1
  refine call_list_str (hn := by simpa [sOf] using hz1) (I.ok.hd hc) (sOf z) t fun h' tk acc c' hk hS hacc => ?_
  have hv : Vals (z.map fun c => V.str (sOf [c])) acc.toList := by
    have := strs_get (s := z) (acc := acc) (n := 0) (ys := acc.toList) (fun j v e => ?_) ?_
    · simpa using this
    · obtain ⟨c, u, e1, e2⟩ := hacc.2 j v (by rw [← Array.getElem?_toList]; exact e)
      exact ⟨c, u, by simpa [sOf] using e1, e2⟩
    · rw [Array.length_toList, hacc.1]; simp [sOf]
  exact ⟨.ref s.heap.objs.size, upd H s.heap.objs.size (.lst (z.map fun c => V.str (sOf [c]))), I.laid (t' := tk) hk (Nat.le_refl _)
    (show ObjOk X.prog X.w _ _ _ (.lst (z.map fun c => V.str (sOf [c]))) from ⟨by rw [List.length_map]; exact hz1, acc.toList, c', hv, by rw [Array.toArray_toList]; exact hS⟩), rfl, q _ (I.hok.fresh (Nat.le_refl _))⟩
theorem chars_V {μ : List Addr} {h : AH} {H : Hp} : ∀ {z : List Nat}, okS z = true → F.v2 μ h H (z.map fun c => .pv (.str [c])) (z.map fun c => V.str (sOf [c])) := by
  intro z hz
  have hc := (okS_iff.mp hz).2
  clear hz
  induction z with
  | nil => exact .nil
  | cons c z ih =>
    refine .cons (.pv (.str [c] (okS_iff.mpr ⟨by simp [line], fun d hd => ?_⟩))) (ih fun d m => hc d (by simp [m]))
    simp at hd; subst hd; exact hc _ (by simp)
theorem keys_V {μ : List Addr} {h : AH} {H : Hp} : ∀ {kvs : List (PV × RV)} {ks : List (Key × V)}, RRelD F.G μ H (wr F.G μ h) kvs ks → F.v2 μ h H (kvs.map fun p => .pv p.1) (ks.map fun kv => kV kv.1)
  | _, _, .nil => .nil
  | _, _, .cons k _ rs => .cons (.pv k.rel) (keys_V rs)
theorem cv_list (hc : X.calm = true) (m : Bool) : CallR X (.type "list") (rBv F m "list") := by
  intro pins s σ H xs us Q I rx q
  obtain ⟨μ, h, v, x, rfl, r, rv, f⟩ := q
  rcases bi1_q (.inl rfl) f with ⟨ys, ey, q⟩ | ⟨_, ys, ey, f⟩
  rotate_left
  · unfold listR at ey
    split at ey
    · cases ey
      obtain ⟨rfl, hz⟩ := rv.str_inv
      exact cv_listS hc I hz rx (new_lst r (chars_V hz) f).2
    · simp only [Option.map_eq_some_iff] at ey
      obtain ⟨kvs, e1, rfl⟩ := ey
      obtain ⟨a, ks, rfl, rd, rs⟩ := view_D r rv e1
      exact call_listD hc pins s σ H _ us Q I rx ⟨a, ks, rfl, rd, (new_lst r (keys_V rs) f).2⟩
  obtain ⟨p, zs, rfl, hq, rs⟩ := view_Q (K := X.K) r rv ey
  rcases q with ⟨q, _⟩ | ⟨_, f⟩
  · exact absurd q (by decide)
  · exact call_list_of pins s σ H _ us Q I rx ⟨p, zs, rfl, hq, (new_lst r rs f).2⟩
theorem cv_tuple (m : Bool) : CallR X (.type "tuple") (rBv F m "tuple") := by
  intro pins s σ H xs us Q I rx q
  obtain ⟨μ, h, v, x, rfl, r, rv, f⟩ := q
  rcases bi1_q (.inr rfl) f with ⟨ys, ey, q⟩ | ⟨z, _⟩
  rotate_left
  · exact absurd z (by decide)
  rcases q with ⟨_, zs, rfl, f⟩ | ⟨hn, f⟩
  · cases rv with
    | pv rv =>
      have rv0 := rv
      cases rv with
      | tup rd nw hl rs =>
        exact call_tupleD pins s σ H _ us Q I rx ⟨_, _, rfl, .inr ⟨.inl rd.rd, f.here r _ (.pv rv0)⟩⟩
  · have hl : viewL h v = some ys := by
      unfold viewQ at ey
      unfold viewL
      split at ey
      · exact ey
      · rename_i zs
        rcases hn zs with z | z <;> exact absurd rfl z
      · exact ey
      · cases ey
    obtain ⟨p, zs, rfl, rd, rs⟩ := view_L r rv hl
    exact call_tupleD pins s σ H _ us Q I rx ⟨p, zs, rfl, .inl ⟨.inl rd, (new_tup r rs f).2⟩⟩
theorem cv_sum (hc : X.calm = true) (m : Bool) : CallR X (.builtin "sum") (rBv F m "sum") := by
  intro pins s σ H xs us Q I rx q
  obtain ⟨μ, h, v, x, rfl, r, rv, f⟩ := q
  obtain ⟨ys, ey, f⟩ := bi1_l (by decide) f
  obtain ⟨p, zs, rfl, rd, rs⟩ := view_L r rv ey
  simp only [bi1R] at f
  split at f
  · rename_i is ei
    have e := ints?_some ei
    subst e
    have := ints_V rs
    subst this
    split at f
    · exact cr_sum hc pins s σ H _ us Q I rx ⟨p, is, rfl, .inl rd, f.here r _ (.pv (.int _))⟩
    · exact f.elim
  · exact f.elim
theorem foldl_min : ∀ (is : List Int) (i : Int), (is.foldl (fun a b => if b < a then b else a) i ∈ i :: is) ∧ ∀ y ∈ i :: is, is.foldl (fun a b => if b < a then b else a) i ≤ y
  | [], i => by simp
  | j :: is, i => by
    obtain ⟨h1, h2⟩ := foldl_min is (if j < i then j else i)
    simp only [List.foldl_cons]
    refine ⟨?_, fun y hy => ?_⟩
    · rcases List.mem_cons.mp h1 with h | h
      · rw [h]; split <;> simp
      · exact List.mem_cons_of_mem _ (List.mem_cons_of_mem _ h)
    · have h3 := h2 _ List.mem_cons_self
      rcases List.mem_cons.mp hy with rfl | hy
      · exact Int.le_trans h3 (by split <;> omega)
      · rcases List.mem_cons.mp hy with rfl | hy
        · exact Int.le_trans h3 (by split <;> omega)
        · exact h2 _ (List.mem_cons_of_mem _ hy)
theorem foldl_max : ∀ (is : List Int) (i : Int), (is.foldl (fun a b => if b > a then b else a) i ∈ i :: is) ∧ ∀ y ∈ i :: is, y ≤ is.foldl (fun a b => if b > a then b else a) i
  | [], i => by simp
  | j :: is, i => by
    obtain ⟨h1, h2⟩ := foldl_max is (if j > i then j else i)
    simp only [List.foldl_cons]
    refine ⟨?_, fun y hy => ?_⟩
    · rcases List.mem_cons.mp h1 with h | h
      · rw [h]; split <;> simp
      · exact List.mem_cons_of_mem _ (List.mem_cons_of_mem _ h)
    · have h3 := h2 _ List.mem_cons_self
      rcases List.mem_cons.mp hy with rfl | hy
      · exact Int.le_trans (by split <;> omega) h3
      · rcases List.mem_cons.mp hy with rfl | hy
        · exact Int.le_trans (by split <;> omega) h3
        · exact h2 _ (List.mem_cons_of_mem _ hy)
theorem cv_min (hc : X.calm = true) (m : Bool) : CallR X (.builtin "min") (rBv F m "min") := by
  intro pins s σ H xs us Q I rx q
  obtain ⟨μ, h, v, x, rfl, r, rv, f⟩ := q
  obtain ⟨ys, ey, f⟩ := bi1_l (by decide) f
  obtain ⟨p, zs, rfl, rd, rs⟩ := view_L r rv ey
  simp only [bi1R] at f
  split at f
  · rename_i i is ei
    have e := ints?_some ei
    subst e
    have := ints_V rs
    subst this
    refine cr_min hc pins s σ H _ us Q I rx ⟨p, i :: is, rfl, .inl rd, by simp, fun n hn hl => ?_⟩
    have hh := foldl_min is i
    have e : is.foldl (fun a b => if b < a then b else a) i = n := Int.le_antisymm (hh.2 n hn) (hl _ hh.1)
    rw [← e]
    exact f.here r _ (.pv (.int _))
  · exact f.elim
theorem cv_max (hc : X.calm = true) (m : Bool) : CallR X (.builtin "max") (rBv F m "max") := by
  intro pins s σ H xs us Q I rx q
  obtain ⟨μ, h, v, x, rfl, r, rv, f⟩ := q
  obtain ⟨ys, ey, f⟩ := bi1_l (by decide) f
  obtain ⟨p, zs, rfl, rd, rs⟩ := view_L r rv ey
  simp only [bi1R] at f
  split at f
  · rename_i i is ei
    have e := ints?_some ei
    subst e
    have := ints_V rs
    subst this
    refine cr_max hc pins s σ H _ us Q I rx ⟨p, i :: is, rfl, .inl rd, by simp, fun n hn hl => ?_⟩
    have hh := foldl_max is i
    have e : is.foldl (fun a b => if b > a then b else a) i = n := Int.le_antisymm (hl _ hh.1) (hh.2 n hn)
    rw [← e]
    exact f.here r _ (.pv (.int _))
  · exact f.elim
theorem all_isInt {xs : List PV} (h : xs.all isInt = true) : ∃ is : List Int, xs = is.map .int := by
  induction xs with
  | nil => exact ⟨[], rfl⟩
  | cons x xs ih =>
    simp only [List.all_cons, Bool.and_eq_true] at h
    obtain ⟨is, rfl⟩ := ih h.2
    cases x with
    | int i => exact ⟨i :: is, rfl⟩
    | _ => cases h.1
theorem all_isStr {xs : List PV} (h : xs.all isStr = true) : ∃ is : List (List Nat), xs = is.map .str := by
  induction xs with
  | nil => exact ⟨[], rfl⟩
  | cons x xs ih =>
    simp only [List.all_cons, Bool.and_eq_true] at h
    obtain ⟨is, rfl⟩ := ih h.2
    cases x with
    | str i => exact ⟨i :: is, rfl⟩
    | _ => cases h.1
theorem ltCps_eq : ∀ s t : List Nat, ltCps s t = ltNat s t
  | [], [] => rfl
  | [], _ :: _ => rfl
  | _ :: _, [] => rfl
  | x :: xs, y :: ys => by
    simp only [ltCps, ltNat, ltCps_eq xs ys]
    by_cases h : x = y
    · subst h; simp
    · simp [h]
theorem rising_pw : ∀ {ss : List (List Nat)} {p : List Nat}, risingS (sOf p) (ss.map sOf) = true → (p :: ss).Pairwise (fun a b => ltNat b a = false)
  | [], p, _ => by simp
  | x :: ss, p, h => by
    simp only [List.map_cons, risingS, Bool.and_eq_true, Bool.not_eq_true', ltCps_eq] at h
    have h1 : ltNat x p = false := h.1
    have h2 := rising_pw h.2
    refine List.pairwise_cons.mpr ⟨fun y hy => ?_, h2⟩
    rcases List.mem_cons.mp hy with rfl | hy
    · exact h1
    · exact lin_str.le_tr h1 ((List.pairwise_cons.mp h2).1 y hy)
theorem perm_map_sOf {ys : List Str} {ss : List (List Nat)} (h : ys.Perm (ss.map sOf)) : ∃ ts : List (List Nat), ys = ts.map sOf ∧ ts.Perm ss := by
  refine ⟨ys.map fun y => y.cps.toList, ?_, ?_⟩
  · rw [List.map_map]
    have : ∀ y ∈ ys, (sOf ∘ fun y : Str => y.cps.toList) y = y := fun y _ => by simp [sOf]
    rw [List.map_congr_left this, List.map_id'']
    intro y; rfl
  · have := h.map fun y => y.cps.toList
    rw [List.map_map] at this
    have e : ss.map ((fun y : Str => y.cps.toList) ∘ sOf) = ss := by
      have : ∀ y ∈ ss, ((fun y : Str => y.cps.toList) ∘ sOf) y = y := fun y _ => by simp [sOf]
      rw [List.map_congr_left this, List.map_id'']
      intro y; rfl
    rwa [e] at this
/-! ### sorted -/
section
variable {α : Type} {le : α → α → Bool}
def insG (le : α → α → Bool) (x : α) : List α → List α
  | [] => [x]
  | y :: ys => if le x y then x :: y :: ys else y :: insG le x ys
def sortG (le : α → α → Bool) : List α → List α
  | [] => []
  | x :: xs => insG le x (sortG le xs)
theorem insG_mem {x y : α} : ∀ {xs : List α}, y ∈ insG le x xs ↔ y = x ∨ y ∈ xs
  | [] => by simp [insG]
  | z :: xs => by
    simp only [insG]
    split
    · simp
    · simp only [List.mem_cons, insG_mem (xs := xs)]
      constructor
      · rintro (h | h | h) <;> simp [h]
      · rintro (h | h | h) <;> simp [h]
theorem sortG_mem {y : α} : ∀ {xs : List α}, y ∈ sortG le xs ↔ y ∈ xs
  | [] => by simp [sortG]
  | x :: xs => by simp only [sortG, insG_mem, sortG_mem (xs := xs), List.mem_cons]
theorem insG_pw (T : PySem.W.TotalLe le) {x : α} : ∀ {xs : List α}, xs.Pairwise (fun a b => le a b = true) → (insG le x xs).Pairwise (fun a b => le a b = true)
  | [], _ => by simp [insG]
  | y :: ys, h => by
    rw [List.pairwise_cons] at h
    simp only [insG]
    split
    · rename_i c
      refine List.pairwise_cons.mpr ⟨fun z hz => ?_, List.pairwise_cons.mpr h⟩
      rcases List.mem_cons.mp hz with rfl | hz
      · exact c
      · exact T.trans _ _ _ c (h.1 z hz)
    · rename_i c
      refine List.pairwise_cons.mpr ⟨fun z hz => ?_, insG_pw T h.2⟩
      rcases insG_mem.mp hz with rfl | hz
      · exact (T.total y z).resolve_right c
      · exact h.1 z hz
theorem sortG_pw (T : PySem.W.TotalLe le) : ∀ xs : List α, (sortG le xs).Pairwise (fun a b => le a b = true)
  | [] => .nil
  | x :: xs => insG_pw T (sortG_pw T xs)
theorem insG_fil (T : PySem.W.TotalLe le) (c x : α) : ∀ {xs : List α}, (insG le x xs).filter (PySem.W.sameRank le c) = (x :: xs).filter (PySem.W.sameRank le c)
  | [] => rfl
  | y :: ys => by
    simp only [insG]
    split
    · rfl
    · rename_i h
      rw [List.filter_cons, insG_fil T c x (xs := ys), List.filter_cons, List.filter_cons (x := x) (xs := y :: ys), List.filter_cons (x := y) (xs := ys)]
      by_cases h1 : PySem.W.sameRank le c x = true
      · by_cases h2 : PySem.W.sameRank le c y = true
        · exfalso
          simp only [PySem.W.sameRank, Bool.and_eq_true] at h1 h2
          exact h (T.trans _ _ _ h1.2 h2.1)
        · simp [h1, h2]
      · simp [h1]
theorem sortG_fil (T : PySem.W.TotalLe le) (c : α) : ∀ xs : List α, (sortG le xs).filter (PySem.W.sameRank le c) = xs.filter (PySem.W.sameRank le c)
  | [] => rfl
  | x :: xs => by
    simp only [sortG]
    rw [insG_fil T, List.filter_cons, sortG_fil T c xs, List.filter_cons]
theorem sortG_merge (T : PySem.W.TotalLe le) (xs : List α) : sortG le xs = xs.mergeSort le := PySem.W.sort_unique T (sortG_pw T xs) (fun c => sortG_fil T c xs)
end
theorem insP_G {le : PV → PV → Bool} {x : PV} : ∀ {ys : List PV}, (∀ y ∈ ys, le x y = !pyLt y x) → insP x ys = insG le x ys
  | [], _ => rfl
  | y :: ys, h => by
    simp only [insP, insG]
    rw [h y List.mem_cons_self, insP_G fun z hz => h z (List.mem_cons_of_mem _ hz)]
    cases pyLt y x <;> rfl
theorem sortP_G {le : PV → PV → Bool} : ∀ {xs : List PV}, (∀ x ∈ xs, ∀ y ∈ xs, le x y = !pyLt y x) → sortP xs = sortG le xs
  | [], _ => rfl
  | x :: xs, h => by
    simp only [sortP, sortG]
    rw [sortP_G fun a ha b hb => h a (List.mem_cons_of_mem _ ha) b (List.mem_cons_of_mem _ hb)]
    exact insP_G fun y hy => h x List.mem_cons_self y (List.mem_cons_of_mem _ (sortG_mem.mp hy))
theorem sortP_data {ps : List PV} (ho : ∀ x ∈ ps, ∀ y ∈ ps, ordP x y = true) (hp : ∀ x ∈ ps, plain 51 x = true) : sortP ps = ps.mergeSort (PySem.W.dataLe false toPD) := by
  rw [← sortG_merge (le := PySem.W.dataLe false toPD) (PySem.W.sortLe_total _ false _)]
  refine sortP_G fun x hx y hy => ?_
  rw [PySem.W.dataLe_eq]
  simp only [cond]
  rw [dataLt_toPD (ho y hy x hx) (hp y hy) (hp x hx)]
mutual
theorem plain_up : ∀ {n : Nat} {x : PV}, plain n x = true → plain (n + 1) x = true
  | 0, _, h => by simp [plain] at h
  | _ + 1, .non, _ => rfl
  | _ + 1, .bl _, _ => rfl
  | _ + 1, .int _, _ => rfl
  | _ + 1, .str _, _ => rfl
  | n + 1, .tup xs, h => by
    simp only [plain] at h ⊢
    exact plains_up h
  | n + 1, .lst xs, h => by
    simp only [plain] at h ⊢
    exact plains_up h
  | _ + 1, .obj _ _, h => by simp [plain] at h
  | _ + 1, .dct _, h => by simp [plain] at h
theorem plains_up : ∀ {n : Nat} {xs : List PV}, plains n xs = true → plains (n + 1) xs = true
  | _, [], _ => by simp [plains]
  | _, x :: xs, h => by
    simp only [plains, Bool.and_eq_true] at h ⊢
    exact ⟨plain_up h.1, plains_up h.2⟩
end
theorem sortable_ok {ps : List PV} (h : sortable ps = true) : (∀ x ∈ ps, ∀ y ∈ ps, ordP x y = true) ∧ (∀ x ∈ ps, plain 51 x = true) ∧ PySem.W.Sortable (ps.map toPD) := by
  simp only [sortable, Bool.or_eq_true, Bool.and_eq_true] at h
  rcases h with h | h | ⟨h, h2, h3⟩
  · obtain ⟨is, rfl⟩ := all_isInt h
    refine ⟨fun x hx y hy => ?_, fun x hx => ?_, .inr fun d hd => ?_⟩
    · obtain ⟨i, _, rfl⟩ := List.mem_map.mp hx
      obtain ⟨j, _, rfl⟩ := List.mem_map.mp hy
      rfl
    · obtain ⟨i, _, rfl⟩ := List.mem_map.mp hx
      rfl
    · simp only [List.map_map, List.mem_map] at hd
      obtain ⟨i, _, rfl⟩ := hd
      simp [toPD]
  · obtain ⟨is, rfl⟩ := all_isStr h
    refine ⟨fun x hx y hy => ?_, fun x hx => ?_, .inr fun d hd => ?_⟩
    · obtain ⟨i, _, rfl⟩ := List.mem_map.mp hx
      obtain ⟨j, _, rfl⟩ := List.mem_map.mp hy
      rfl
    · obtain ⟨i, _, rfl⟩ := List.mem_map.mp hx
      rfl
    · simp only [List.map_map, List.mem_map] at hd
      obtain ⟨i, _, rfl⟩ := hd
      simp [toPD]
  · simp only [List.all_eq_true] at h h2
    refine ⟨h2, fun x hx => plain_up (plains_mem h3 x hx), .inl fun d hd => ?_⟩
    obtain ⟨x, hx, rfl⟩ := List.mem_map.mp hd
    have q := h x hx
    unfold isTup1 at q
    split at q
    · exact ⟨_, _, rfl⟩
    · cases q
theorem each_R {μ : List Addr} {h : AH} {H : Hp} : ∀ {ps : List PV} {zs : List V} {its : List Value}, F.v2 μ h H (ps.map .pv) zs → Vals zs its → PySem.W.EachIs (fun v b => ∃ z, RelV z v ∧ F.v1 μ h H (.pv b) z) its ps
  | [], _, _, r, rv => by
    cases r; cases rv; exact .nil
  | p :: ps, _, _, r, rv => by
    cases r with
    | cons a b => cases rv with
      | cons c d => exact .cons ⟨_, c, a⟩ (each_R b d)
theorem R_each {μ : List Addr} {h : AH} {H : Hp} : ∀ {ps : List PV} {out : List Value}, PySem.W.EachIs (fun v b => ∃ z, RelV z v ∧ F.v1 μ h H (.pv b) z) out ps → ∃ zs, F.v2 μ h H (ps.map .pv) zs ∧ Vals zs out
  | _, _, .nil => ⟨[], .nil, .nil⟩
  | _, _, .cons ⟨z, h1, h2⟩ t => by
    obtain ⟨zs, r1, r2⟩ := R_each t
    exact ⟨z :: zs, .cons h2 r1, .cons h1 r2⟩
theorem each_reads {μ : List Addr} {h : AH} {H : Hp} {pins : List (Addr × Obj)} {σ : L2.St} {s : Shared} (I : Inv X pins σ H s) : ∀ {ps : List PV} {its : List Value}, (∀ x ∈ ps, plain 51 x = true) → PySem.W.EachIs (fun v b => ∃ z, RelV z v ∧ F.v1 μ h H (.pv b) z) its ps → PySem.W.EachIs (fun v b => ∃ as, Reads s.heap v (toPD b) as) its ps
  | _, _, _, .nil => .nil
  | _, _, hp, .cons ⟨z, h1, h2⟩ t => by
    refine .cons ?_ (each_reads I (fun x hx => hp x (List.mem_cons_of_mem _ hx)) t)
    cases h2 with
    | pv q => exact Dp.reads I _ z _ (dp_toPD (hp _ List.mem_cons_self) q) h1
theorem each_some {μ : List Addr} {h : AH} {H : Hp} : ∀ {ps : List PV} {out : List Value}, PySem.W.EachIs (fun v b => ∃ z, RelV z v ∧ F.v1 μ h H (.pv b) z) out ps → ∀ b ∈ ps, ∃ z, F.v1 μ h H (.pv b) z
  | _, _, .nil, b, hb => by cases hb
  | _, _, .cons ⟨z, h1, h2⟩ t, b, hb => by
    rcases List.mem_cons.mp hb with rfl | hb
    · exact ⟨z, h2⟩
    · exact each_some t b hb
theorem cv_sorted (hu : X.A.units + 70 < cLine) (m : Bool) : CallR X (.builtin "sorted") (rBv F m "sorted") := by
  intro pins s σ H xs us Q I rx q
  obtain ⟨μ, h, v, x, rfl, r, rv, f⟩ := q
  obtain ⟨ys, ey, f⟩ := bi1_l (by decide) f
  obtain ⟨p, zs, rfl, rd, rs⟩ := view_L r rv ey
  simp only [bi1R] at f
  split at f
  · rename_i ps ep
    have e := allPV_some ep
    subst e
    split at f
    · rename_i hs
      obtain ⟨ho, hp, hk⟩ := sortable_ok hs
      obtain ⟨hz, its, n, rvs, hlen, hob⟩ := rd_list I rd
      obtain ⟨u, rfl, ru⟩ := vals1 rx
      obtain rfl : u = Value.ref p := ru
      have hl : s.heap.IsList p its.toArray := ⟨_, hob, rfl, n, rfl⟩
      have eR := each_R (F := F) rs rvs
      have hal : PySem.W.AllAlike (ps.map toPD) := fun d hd d' hd' => by
        obtain ⟨x, hx, rfl⟩ := List.mem_map.mp hd
        obtain ⟨y, hy, rfl⟩ := List.mem_map.mp hd'
        exact alike_toPD (ho x hx y hy)
      have hL : ps.length ≤ sizeLine := by
        have := rs.length
        simp only [List.length_map] at this
        omega
      have hdep : ∀ b ∈ ps, X.A.units + 2 + (toPD b).depth < cLine := fun b hb => by
        obtain ⟨v', hv⟩ := each_some eR b hb
        cases hv with
        | pv q =>
          have := (lay_toPD (hp b hb) q).2
          omega
      refine PySem.W.sorted_data hl eR (each_reads I hp eR) hal hk hL hdep fun out hout hE => ?_
      rw [← sortP_data ho hp] at hE
      obtain ⟨ws, r1, r2⟩ := R_each hE
      obtain ⟨ep2, he'⟩ := PyProof.Rows.sortedAll_at s.heap its out.toArray
      have hws : ws.length ≤ sizeLine := by
        rw [r2.length, hout]; exact hL
      exact ⟨.ref _, upd H (s.heap.objs.size + 1) (.lst ws), I.laid (t' := s.toks) (fun _ _ => PyProof.Rows.sortedAll_old) (Nat.le_succ _) ⟨hws, out, ep2, r2, he'⟩, rfl, (new_lst r r1 f).2 _ (I.hok.fresh (Nat.le_succ _))⟩
    · exact f.elim
  · exact f.elim
theorem bi1R_nx (m : Bool) (b : String) (xs : List RV) (h : AH) : noexc (bi1R m b xs h) := by
  intro e h' q
  unfold bi1R newL newT at q
  repeat' split at q
  all_goals (first | cases q | contradiction)
theorem bi1V_nx (m : Bool) (b : String) (x : RV) (h : AH) : noexc (bi1V m b x h) := by
  intro e h' q
  unfold bi1V at q
  repeat' split at q
  all_goals (first | cases q | exact bi1R_nx _ _ _ _ _ _ q | exact bi1R_nx _ "list" _ _ _ _ q)
def bvV (b : String) : Value := if b = "list" ∨ b = "tuple" then .type b else .builtin b
def isBv (b : String) : Bool := b == "list" || b == "tuple" || b == "sum" || b == "sorted" || b == "min" || b == "max"
theorem r_bv (m : Bool) {b : String} {p : Pos} (hu : X.A.units + 70 < cLine) (hc : X.calm = true) (hb : isBv b = true) (hn : Bn X (Str.ofString b) (bvV b)) (ha : PE X e (tO F cx Wx fa)) (hs : notStar e = true) :
    PE X (.Call (.Name (Str.ofString b) p) [e] [] pos) (tO F cx Wx fun ρ h => (fa ρ h).bind (bi1V m b)) := by
  have hp : PA X [e] (tCons (tO F cx Wx fa) tNil) := pa_cons ha pa_nil (star_cons hs)
  have key : ∀ {r : PE X (.Call (.Name (Str.ofString b) p) [e] [] pos) (tCB (rBv F m b) (tCons (tO F cx Wx fa) tNil))}, PE X (.Call (.Name (Str.ofString b) p) [e] [] pos) (tO F cx Wx fun ρ h => (fa ρ h).bind (bi1V m b)) := fun {r} =>
    pe_imp r fun σ H Q t => by
      refine tO_mono (tO_bind t) fun x H1 ⟨μ, h, v, r, rv, f⟩ => ?_
      exact ⟨μ, h, v, x, rfl, r, rv, f.nox (bi1V_nx _ _ _ _)⟩
  have hb' : b = "list" ∨ b = "tuple" ∨ b = "sum" ∨ b = "sorted" ∨ b = "min" ∨ b = "max" := by simpa [isBv, or_assoc] using hb
  obtain ⟨h1, h2, h3, h4, h5⟩ := hn
  rcases hb' with rfl | rfl | rfl | rfl | rfl | rfl
  · exact key (r := pe_callTy (cv_list hc m) h1 h2 h3 hp h4 h5 (star_cons hs))
  · exact key (r := pe_callTy (cv_tuple m) h1 h2 h3 hp h4 h5 (star_cons hs))
  · exact key (r := pe_callB (cv_sum hc m) h1 h2 h3 hp h4 h5 (star_cons hs))
  · exact key (r := pe_callB (cv_sorted hu m) h1 h2 h3 hp h4 h5 (star_cons hs))
  · exact key (r := pe_callB (cv_min hc m) h1 h2 h3 hp h4 h5 (star_cons hs))
  · exact key (r := pe_callB (cv_max hc m) h1 h2 h3 hp h4 h5 (star_cons hs))
end
end D

set_option Elab.async false
set_option linter.all false
set_option maxRecDepth 100000
set_option maxHeartbeats 1000000
/-! Fd10: lists of ranges; calls of defs, of methods; new instances. -/
namespace D
open PySem PySem.Spec L2 PyProof.Rows

section
variable {F : Fx} {cx : String → Option Addr} {Wx : WX} {X : Cx} {a b c e : Expr} {es : List Expr} {pos p2 : Pos} {fa fb fc : Env → AH → Out RV} {fs : Env → AH → Out (List RV)}

/-! ### list(range(..)), tuple(range(..)) -/
theorem rngL_V {μ : List Addr} {h : AH} {H : Hp} (i j : Int) : F.v2 μ h H (rngL i j) (rgV i j) := by
  unfold rngL rgV
  generalize List.range (j - i).toNat = l
  induction l with
  | nil => exact .nil
  | cons k l ih => exact .cons (.pv (.int _)) ih
theorem rngOk_iff {i : Int} : rngOk i = true ↔ -(2 ^ 62) ≤ i ∧ i < 2 ^ 62 := by simp [rngOk]
theorem rngL_len (i j : Int) : (rngL i j).length = (j - i).toNat := by simp [rngL]
/-- what a range's bounds are -/
theorem tO_rg1 {σ : L2.St} {H : Hp} {Q : VK} {g : List RV → AH → Out RV} (t : tO F cx Wx (fun ρ h => ((consO fa (fun _ h => .ok [] h) ρ h).bind rngR).bind g) σ H Q) :
    tRg1 (tO F cx Wx fa) σ H fun i j H1 => ∃ μ h, F.R μ h H1 ∧ rngOk i = true ∧ rngOk j = true ∧ Fin F μ h H1 (g (rngL i j) h) (vK F Q) (xK F cx Wx σ) := by
  obtain ⟨μ, ρ, h, r, s, f⟩ := t
  simp only [consO, Out.bind_assoc, Out.bind_ok] at f
  refine ⟨μ, ρ, h, r, s, Fin.mono (Fin.bind f) (fun v h1 μ1 H1 e1 r1 z x rx => ?_) fun _ _ _ _ _ _ z => z⟩
  unfold rngR at z
  split at z
  · rename_i j heq
    injection heq with h1 h2
    subst h1
    obtain rfl := rx.int_inv
    split at z
    · rename_i hk
      exact ⟨j, rfl, μ1, h1, r1, by decide, hk, z⟩
    · exact z.elim
  · rename_i heq
    injection heq with h1 h2
    cases h2
  · exact z.elim
theorem tO_rg2 {σ : L2.St} {H : Hp} {Q : VK} {g : List RV → AH → Out RV} (t : tO F cx Wx (fun ρ h => ((consO fa (consO fb (fun _ h => .ok [] h)) ρ h).bind rngR).bind g) σ H Q) :
    tRg2 (tO F cx Wx fa) (tO F cx Wx fb) σ H fun i j H1 => ∃ μ h, F.R μ h H1 ∧ rngOk i = true ∧ rngOk j = true ∧ Fin F μ h H1 (g (rngL i j) h) (vK F Q) (xK F cx Wx σ) := by
  obtain ⟨μ, ρ, h, r, s, f⟩ := t
  simp only [consO, Out.bind_assoc, Out.bind_ok] at f
  refine ⟨μ, ρ, h, r, s, Fin.mono (Fin.bind f) (fun v h1 μ1 H1 e1 r1 z x rx => ?_) fun _ _ _ _ _ _ z => z⟩
  refine ⟨μ1, ρ, h1, r1, s.grow e1.grow e1.pre, Fin.mono (Fin.bind z) (fun w h2 μ2 H2 e2 r2 z2 y ry => ?_) fun _ _ _ _ _ _ z => z⟩
  unfold rngR at z2
  split at z2
  · rename_i heq
    cases heq
  · rename_i i j heq
    cases heq
    obtain rfl := rx.int_inv
    obtain rfl := ry.int_inv
    split at z2
    · rename_i hk
      simp only [Bool.and_eq_true] at hk
      exact ⟨i, j, rfl, rfl, μ2, h2, r2, hk.1, hk.2, z2⟩
    · exact z2.elim
  · exact z2.elim
theorem newL_len {μ : List Addr} {h h' : AH} {H : Hp} {m : Bool} {xs : List RV} {K : RV → AH → List Addr → Hp → Prop} {Xk : ExcV → AH → List Addr → Hp → Prop} (f : Fin F μ h H (newL m xs h') K Xk) : xs.length ≤ line := by
  unfold newL at f
  split at f
  · rename_i hl; exact hl
  · exact f.elim
theorem newT_len {μ : List Addr} {h h' : AH} {H : Hp} {xs : List RV} {K : RV → AH → List Addr → Hp → Prop} {Xk : ExcV → AH → List Addr → Hp → Prop} (f : Fin F μ h H (newT xs h') K Xk) : xs.length ≤ line := by
  unfold newT at f
  split at f
  · rename_i hl; exact hl
  · exact f.elim
theorem rg_list {m : Bool} {μ : List Addr} {h : AH} {H : Hp} {i j : Int} {Q : VK} {Xk : ExcV → AH → List Addr → Hp → Prop} (r : F.R μ h H) (hi : rngOk i = true) (hj : rngOk j = true) (f : Fin F μ h H (newL m (rngL i j) h) (vK F Q) Xk) : RgOk i j ∧ ∀ q, H q = none → Q (.ref q) (upd H q (.lst (rgV i j))) := by
  have hl := newL_len f
  rw [rngL_len] at hl
  have a := rngOk_iff.mp hi
  have b := rngOk_iff.mp hj
  exact ⟨⟨a.1, a.2, b.1, b.2, hl⟩, (new_lst r (rngL_V i j) f).2⟩
theorem rg_tup {μ : List Addr} {h : AH} {H : Hp} {i j : Int} {Q : VK} {Xk : ExcV → AH → List Addr → Hp → Prop} (r : F.R μ h H) (hi : rngOk i = true) (hj : rngOk j = true) (f : Fin F μ h H (newT (rngL i j) h) (vK F Q) Xk) : RgOk i j ∧ NewT (rgV i j) H Q := by
  have hl := newT_len f
  rw [rngL_len] at hl
  have a := rngOk_iff.mp hi
  have b := rngOk_iff.mp hj
  exact ⟨⟨a.1, a.2, b.1, b.2, hl⟩, (new_tup r (rngL_V i j) f).2⟩
theorem r_lstRg1 (m : Bool) {p p3 pos3 : Pos} (hc : X.calm = true) (hl : Bn X "list" (.type "list")) (hr : Bn X "range" (.type "range")) (ha : PE X a (tO F cx Wx fa)) (hs : notStar a = true) :
    PE X (.Call (.Name "list" p) [.Call (.Name "range" p3) [a] [] pos3] [] pos) (tO F cx Wx fun ρ h => ((consO fa (fun _ h => .ok [] h) ρ h).bind rngR).bind (bi1R m "list")) :=
  pe_imp (pe_listRg hc hl.1 hl.2.1 (prg_1 hr.1 hr.2.1 ha (star_cons hs)) (star_cons rfl)) fun σ H Q t => by
    have q := tO_rg1 t
    refine tO_mono q fun x H1 ⟨n, e, μ, h, r, h1, h2, f⟩ => ⟨n, e, ?_⟩
    exact rg_list (m := m) r h1 h2 f
theorem r_lstRg2 (m : Bool) {p p3 pos3 : Pos} (hc : X.calm = true) (hl : Bn X "list" (.type "list")) (hr : Bn X "range" (.type "range")) (ha : PE X a (tO F cx Wx fa)) (hb : PE X b (tO F cx Wx fb)) (hs : notStar a = true) (hs2 : notStar b = true) :
    PE X (.Call (.Name "list" p) [.Call (.Name "range" p3) [a, b] [] pos3] [] pos) (tO F cx Wx fun ρ h => ((consO fa (consO fb (fun _ h => .ok [] h)) ρ h).bind rngR).bind (bi1R m "list")) :=
  pe_imp (pe_listRg hc hl.1 hl.2.1 (prg_2 hr.1 hr.2.1 ha hb (star_cons hs) (star_cons hs2) (by rw [star_cons hs2]; rfl)) (star_cons rfl)) fun σ H Q t => by
    have q := tO_rg2 t
    refine tO_mono q fun x H1 q => tO_mono q fun y H2 ⟨n, k, e, e2, μ, h, r, h1, h2, f⟩ => ⟨n, k, e, e2, ?_⟩
    exact rg_list (m := m) r h1 h2 f
theorem r_tupRg1 (m : Bool) {p p3 pos3 : Pos} (hc : X.calm = true) (hl : Bn X "tuple" (.type "tuple")) (hr : Bn X "range" (.type "range")) (ha : PE X a (tO F cx Wx fa)) (hs : notStar a = true) :
    PE X (.Call (.Name "tuple" p) [.Call (.Name "range" p3) [a] [] pos3] [] pos) (tO F cx Wx fun ρ h => ((consO fa (fun _ h => .ok [] h) ρ h).bind rngR).bind (bi1R m "tuple")) :=
  pe_imp (pe_tupRgD hc hl.1 hl.2.1 (prg_1 hr.1 hr.2.1 ha (star_cons hs)) (star_cons rfl)) fun σ H Q t => by
    have q := tO_rg1 t
    refine tO_mono q fun x H1 ⟨n, e, μ, h, r, h1, h2, f⟩ => ⟨n, e, ?_⟩
    exact rg_tup r h1 h2 f
theorem r_tupRg2 (m : Bool) {p p3 pos3 : Pos} (hc : X.calm = true) (hl : Bn X "tuple" (.type "tuple")) (hr : Bn X "range" (.type "range")) (ha : PE X a (tO F cx Wx fa)) (hb : PE X b (tO F cx Wx fb)) (hs : notStar a = true) (hs2 : notStar b = true) :
    PE X (.Call (.Name "tuple" p) [.Call (.Name "range" p3) [a, b] [] pos3] [] pos) (tO F cx Wx fun ρ h => ((consO fa (consO fb (fun _ h => .ok [] h)) ρ h).bind rngR).bind (bi1R m "tuple")) :=
  pe_imp (pe_tupRgD hc hl.1 hl.2.1 (prg_2 hr.1 hr.2.1 ha hb (star_cons hs) (star_cons hs2) (by rw [star_cons hs2]; rfl)) (star_cons rfl)) fun σ H Q t => by
    have q := tO_rg2 t
    refine tO_mono q fun x H1 q => tO_mono q fun y H2 ⟨n, k, e, e2, μ, h, r, h1, h2, f⟩ => ⟨n, k, e, e2, ?_⟩
    exact rg_tup r h1 h2 f

/-! ### calls of defs -/
/-- what is wanted of a callee's exception -/
def xE (cx : String → Option Addr) (F : Fx) (E : XK) : ExcV → AH → List Addr → Hp → Prop := fun e h' μ' H' => ∀ cls d, XRel cx F.G H' (wr F.G μ' h') e cls d → E cls d H'
/-- what a def promises: what the evaluator says -/
def spC (G : Gm) (cx : String → Option Addr) (C : Calls) (f : String) : Sp := fun vs H Q E => ∃ (F : Fx) (μ : List Addr) (h : AH) (args : List RV), F.G.base = G.base ∧ F.R μ h H ∧ F.v2 μ h H args vs ∧ Fin F μ h H (C f args h) (vK F Q) (xE cx F E)
/-- the def f at g -/
structure FnK (P : Program) (w : World) (K : PySem.W.Frag) (mg : Str → Option Value) (base : Heap) (G : Gm) (cx : String → Option Addr) (C : Calls) (k : Nat) (f : String) (g : Addr) : Prop where
  ok : ∃ fd ps, FnOk P w K mg base (L2.CX P w) k g fd ps (spC G cx C f) ∧ Binds K fd ps []
  kp : PySem.W.keepIn K (.ref g) = true
abbrev FnX (X : Cx) (F : Fx) (cx : String → Option Addr) (C : Calls) (k : Nat) (f : String) (g : Addr) : Prop := FnK X.prog X.w X.K X.mg X.base F.G.base cx C k f g
variable {C : Calls} {k : Nat} {f : String} {g : Addr}
theorem r_call {x : Str} {p : Pos} (hf : FnX X F cx C k f g) (hr : Room k X.A) (hg : Gl X x) (hm : X.mg x = some (.ref g)) (tk : Takes X Wx) (ha : PA X (e :: es) (tOs F cx Wx fs)) (hdb : (x == ("__debug__" : Str)) = false) (hs : (e :: es).all notStar = true) :
    PE X (.Call (.Name x p) (e :: es) [] pos) (tO F cx Wx fun ρ h => (fs ρ h).bind (C f)) := by
  obtain ⟨fd, ps, ok, hb⟩ := hf.ok
  have hst := star_all (env := X.env) hs pos
  simp only [List.all_cons, Bool.and_eq_true] at hs
  refine pe_imp (pe_callSD (E := WE Wx) (dvs := []) ok hr hg hm hf.kp hb .nil (passAt tk) ha hdb (star_cons hs.1) (star_all hs.2 pos)) fun σ H Q t => ?_
  refine tOs_mono (tOs_bind t) fun xs H1 ⟨μ, h, vs, r, rxs, f⟩ => ?_
  rw [List.append_nil]
  exact ⟨F, μ, h, vs, rfl, r, rxs, f⟩
theorem r_call0 {x : Str} {p : Pos} (hf : FnX X F cx C k f g) (hr : Room k X.A) (hg : Gl X x) (hm : X.mg x = some (.ref g)) (tk : Takes X Wx) (hdb : (x == ("__debug__" : Str)) = false) :
    PE X (.Call (.Name x p) [] [] pos) (tO F cx Wx fun ρ h => C f [] h) := by
  obtain ⟨fd, ps, ok, hb⟩ := hf.ok
  refine ⟨fun pins s σ H Q I t => ?_⟩
  obtain ⟨μ, ρ, h, r, _, z⟩ := t
  refine wpAny_Call_Name_kw (ld_glob I hg hm ?_ hdb)
  exact PySem.W.callWith_K0 I.kIn hf.kp (run_fnSD (E := WE Wx) (us := []) (dvs := []) ok hr hb .nil (passAt tk σ) I .nil ⟨F, μ, h, [], rfl, r, .nil, z⟩)

/-! ### calls of methods -/
theorem eval_meth {o : Expr} {name : Str} {apos pos : Pos} {args : List Expr} {env : PySem.Env} (hbase : attributeBase o name env (eval o env) = eval o env) (hs : args.all notStar = true) (hl : args.length < 30) (hline : (apos.endLine == pos.line) = true) :
    eval (.Call (.Attribute o name apos) args [] pos) env = (do
      let ov ← eval o env
      standAt apos.atName
      let (f, first) ← holding [ov] (getMethod ov name (do return (← importBound o env).getD true))
      callWith pos f first (backTo pos (starEach args env)) (backToKw pos (keywordEach [] env))) := by
  rw [arm_eval_Call, hbase]
  have hform : methodCallForm (args.length + ([] : List Keyword).length) (backTo pos (starEach args env)) (backToKw pos (keywordEach [] env)) = true := few_all hs hl pos
  have hpos : methodCallPos true o env apos pos = pure pos := by unfold methodCallPos; simp [hline]
  unfold methodCall
  rw [hform, hpos]
  rfl
/-- a class with its methods' def -/
structure MtOk (X : Cx) (F : Fx) (cx : String → Option Addr) (C : Calls) (k : Nat) (m : Str) (c f : String) : Prop where
  at_ : ∀ A, F.G.cl c = some A → Cls X.K A ∧ ∃ g, Meth X.K A m g ∧ FnX X F cx C k f g
theorem clsR_rel {μ : List Addr} {h : AH} {H : Hp} {v : RV} {x : V} {m c : String} (r : F.R μ h H) (rv : F.v1 μ h H v x) (e : clsR v m h = some c) :
    ∃ a A dx gs, x = .ref a ∧ F.G.cl c = some A ∧ H a = some (.ins A dx gs) ∧ gs.lookup (Str.ofString m) = none := by
  unfold clsR at e
  split at e
  · rename_i c' fs'
    obtain ⟨a, A, dx, gs, rfl, ec, eH, rs⟩ := (view_O r rv).1 _ _ rfl
    split at e
    · rename_i q
      cases e
      exact ⟨a, A, dx, gs, rfl, ec, eH, (lookF_rel rs).2 (by rw [lookF_map, q]; rfl)⟩
    · cases e
  · split at e
    · rename_i c' fs' eo
      obtain ⟨a, A, dx, gs, rfl, _, ec, eH, rs⟩ := (view_O r rv).2 _ _ _ rfl eo
      split at e
      · rename_i q
        cases e
        exact ⟨a, A, dx, gs, rfl, ec, eH, (lookF_rel rs).2 q⟩
      · cases e
    · cases e
  · cases e
theorem lookF_mem {α : Type} {f : String} {v : α} : ∀ {xs : List (String × α)}, lookF f xs = some v → (f, v) ∈ xs
  | [], h => by cases h
  | (n, u) :: r, h => by
    simp only [lookF] at h
    split at h
    · rename_i q; cases h; subst q; exact List.mem_cons_self
    · exact List.mem_cons_of_mem _ (lookF_mem h)
def methO (C : Calls) (m : String) (tb : List (String × String)) (fa : Env → AH → Out RV) (fs : Env → AH → Out (List RV)) : Env → AH → Out RV := fun ρ h =>
  (fa ρ h).bind fun x h1 => (optO ((clsR x m h1).bind fun c => lookF c tb) h1).bind fun f h2 => (fs ρ h2).bind fun xs h3 => C f (x :: xs) h3
/-- the receiver is looked at -/
def tMt (X : Cx) (F : Fx) (cx : String → Option Addr) (C : Calls) (k : Nat) (m : Str) (ta : TE) (Q : V → String → L2.St → Hp → Prop) : L2.St → Hp → Prop := fun σ H => ta σ H fun x H1 => ∃ a A dx fs g f, x = .ref a ∧ H1 a = some (.ins A dx fs) ∧ Cls X.K A ∧ fs.lookup m = none ∧
  Meth X.K A m g ∧ FnX X F cx C k f g ∧ Q x f σ H1
theorem tO_mt {m : String} {tb : List (String × String)} (ht : ∀ q ∈ tb, MtOk X F cx C k (Str.ofString m) q.1 q.2) {σ : L2.St} {H : Hp} {Q : VK} (t : tO F cx Wx (methO C m tb fa fs) σ H Q) :
    tMt X F cx C k (Str.ofString m) (tO F cx Wx fa) (fun x f σ H1 => ∃ μ ρ h v, F.R μ h H1 ∧ F.s1 μ h H1 ρ σ ∧ F.v1 μ h H1 v x ∧ Fin F μ h H1 ((fs ρ h).bind fun xs h2 => C f (v :: xs) h2) (vK F Q) (xK F cx Wx σ)) σ H := by
  obtain ⟨μ, ρ, h, r, s, z⟩ := t
  refine ⟨μ, ρ, h, r, s, Fin.mono (Fin.bind z) (fun v h1 μ1 H1 e1 r1 z x rx => ?_) fun _ _ _ _ _ _ z => z⟩
  cases q : clsR v m h1 with
  | none => rw [q] at z; exact z.elim
  | some c =>
    rw [q] at z
    simp only [Option.bind_some] at z
    cases q2 : lookF c tb with
    | none => rw [q2] at z; exact z.elim
    | some f =>
      rw [q2] at z
      obtain ⟨a, A, dx, gs, rfl, ec, eH, hl⟩ := clsR_rel r1 rx q
      obtain ⟨cl, g, mt, fn⟩ := (ht _ (lookF_mem q2)).at_ A ec
      exact ⟨a, A, dx, gs, g, f, rfl, eH, cl, hl, mt, fn, μ1, ρ, h1, v, r1, s.grow e1.grow e1.pre, rx, z⟩
theorem r_meth {m : String} {tb : List (String × String)} {apos : Pos} (ht : ∀ q ∈ tb, MtOk X F cx C k (Str.ofString m) q.1 q.2) (hr : Room k X.A) (tk : Takes X Wx) (ho : PE X a (tO F cx Wx fa)) (ha : PA X (e :: es) (tOs F cx Wx fs))
    (hbase : attributeBase a (Str.ofString m) X.env (eval a X.env) = eval a X.env) (hs : (e :: es).all notStar = true) (hl : (e :: es).length < 30) (hline : (apos.endLine == pos.line) = true) :
    PE X (.Call (.Attribute a (Str.ofString m) apos) (e :: es) [] pos) (tO F cx Wx (methO C m tb fa fs)) := by
  refine ⟨fun pins s σ H Q I t => ?_⟩
  refine PySem.W.methodCall_KW (thn (ho.run pins s σ H _ I (tO_mt ht t)) fun u s1 ⟨x, H1, I1, rx, ad, A, dx, gs, g, f, ex, ea, cl, l, mt, fn, μ, ρ, h, v, r, sl, rv, q⟩ => ?_) (eval_meth hbase hs hl hline)
  subst ex
  obtain rfl : u = Value.ref ad := rx
  refine getmeth_ok I1 ea cl mt l ?_
  obtain ⟨fd, ps, ok, hb⟩ := fn.ok
  simp only [List.all_cons, Bool.and_eq_true] at hs
  have t2 : tOs F cx Wx fs σ H1 fun xs H2 => spC F.G cx C f (.ref ad :: xs) H2 Q (WE Wx σ) := by
    refine ⟨μ, ρ, h, r, sl, Fin.mono (Fin.bind q) (fun vs h2 μ2 H2 e2 r2 z2 xs rxs => ?_) fun _ _ _ _ _ _ z => z⟩
    exact ⟨F, μ2, h2, v :: vs, rfl, r2, .cons (rv.grow e2.grow e2.pre) rxs, z2⟩
  refine PySem.W.callWith_K (first := [.ref ad]) (h₀ := X.base) I.ok.mod.kin mt.kp (thn (ha.run pos pins s1 σ H1 _ I1 t2) fun us s2 ⟨vs, H2, I2, r2, q2⟩ => ⟨I2.kIn, ?_⟩) (star_cons hs.1) (star_all hs.2 pos)
  exact run_fnSD (E := WE Wx) (us := .ref ad :: us) (vs := .ref ad :: vs) (dvs := []) ok hr hb .nil (passAt tk σ) I2 (.cons rfl r2) (by rw [List.append_nil]; exact q2)
theorem r_meth0 {m : String} {tb : List (String × String)} {apos : Pos} (ht : ∀ q ∈ tb, MtOk X F cx C k (Str.ofString m) q.1 q.2) (hr : Room k X.A) (tk : Takes X Wx) (ho : PE X a (tO F cx Wx fa))
    (hbase : attributeBase a (Str.ofString m) X.env (eval a X.env) = eval a X.env) (hline : (apos.endLine == pos.line) = true) :
    PE X (.Call (.Attribute a (Str.ofString m) apos) [] [] pos) (tO F cx Wx (methO C m tb fa fun _ h => .ok [] h)) := by
  refine ⟨fun pins s σ H Q I t => ?_⟩
  refine PySem.W.methodCall_KW (thn (ho.run pins s σ H _ I (tO_mt ht t)) fun u s1 ⟨x, H1, I1, rx, ad, A, dx, gs, g, f, ex, ea, cl, l, mt, fn, μ, ρ, h, v, r, sl, rv, q⟩ => ?_) (eval_meth hbase rfl (by simp) hline)
  subst ex
  obtain rfl : u = Value.ref ad := rx
  refine getmeth_ok I1 ea cl mt l ?_
  obtain ⟨fd, ps, ok, hb⟩ := fn.ok
  exact PySem.W.callWith_K0 (first := [.ref ad]) I1.kIn mt.kp (run_fnSD (E := WE Wx) (us := [.ref ad]) (vs := [.ref ad]) (dvs := []) ok hr hb .nil (passAt tk σ) I1 (.cons rfl .nil) ⟨F, μ, h, [v], rfl, r, .cons rv .nil, q⟩)
end
end D

set_option Elab.async false
set_option linter.all false
set_option maxRecDepth 100000
set_option maxHeartbeats 1000000
/-! Fd11: new instances; fields stored. -/
namespace D
open PySem PySem.Spec L2 PyProof.Rows

section
variable {F : Fx} {cx : String → Option Addr} {Wx : WX} {X : Cx} {a b c e : Expr} {es : List Expr} {pos p2 : Pos} {fa fb fc : Env → AH → Out RV} {fs : Env → AH → Out (List RV)}
variable {C : Calls} {k : Nat} {f : String} {g : Addr}

theorem run_makeS {A : Addr} {fd : FuncData} {ps : List Str} {sp : Sp} {E : L2.St → XK} {pins : List (Addr × Obj)} {σ : L2.St} {H : Hp} {s : Shared} {Q : VK} {us : List Value} {vs : List V} (M : Mk X.K A g) (ok : FnOk X.prog X.w X.K X.mg X.base (L2.CX X.prog X.w) k g fd ps sp) (hr : Room (k + 1) X.A)
    (hb : Binds X.K fd ps []) (hx : PassesAt (L2.CX X.prog X.w) X σ (E σ)) (I : Inv X pins σ H s) (r : Vals vs us)
    (h : ∀ x dx, H x = none → H dx = none → dx ≠ x → sp (.ref x :: vs) (upd (upd H dx (.own x)) x (.ins A dx [])) (fun v H2 => v = .non ∧ Q (.ref x) H2) (E σ)) :
    wpAny (model X.prog X.w) X.A (call (.ref A) us) (EP X pins σ Q) X.xe s := by
  have hq := h (s.heap.objs.size + 1) s.heap.objs.size (I.hok.fresh (Nat.le_succ _)) (I.hok.fresh (Nat.le_refl _)) (Nat.ne_of_lt (Nat.lt_succ_self _))
  have I2 := Inv.made (C := A) I
  have r2 : Vals (V.ref (s.heap.objs.size + 1) :: vs) (Value.ref (s.heap.objs.size + 1) :: us) := .cons rfl r
  have hl : (Value.ref (s.heap.objs.size + 1) :: us).length = ps.length := by rw [← ok.len _ _ _ _ hq]; exact r2.length.symm
  have bd := hb _ (Value.ref (s.heap.objs.size + 1) :: us) I2.kIn (by rw [List.append_nil]; exact hl)
  rw [List.append_nil] at bd
  refine wpAny_call (make_map (f := g) I.kIn M.makes M.init (beq_iff_eq.mp M.fn) (codeAny_mono (ok.run _ X.stack _ _ ⟨Value.ref (s.heap.objs.size + 1) :: us, []⟩ (Value.ref (s.heap.objs.size + 1) :: us) _ _ (E σ) (hr.make A us [])
    (I2.env0.make A us []) bd r2 hq) fun r s' hq' => ?_))
  cases r with
  | error e => exact hx pins _ _ e s' I2 hq'
  | ok fl =>
    cases fl with
    | ret u =>
      obtain ⟨v, H', I3, rv, ev, q3⟩ := I2.after hq'
      subst ev
      exact ⟨rv, ⟨V.ref (s.heap.objs.size + 1), H', I3, rfl, q3⟩⟩
    | next => exact False.elim hq'
    | brk => exact False.elim hq'
    | cont => exact False.elim hq'

/-- a new instance's places -/
theorem push_ins {μ : List Addr} {h : AH} {H : Hp} {c : String} {A x dx : Addr} (r : F.R μ h H) (ec : F.G.cl c = some A) (hx : H x = none) (hd : H dx = none) (ne : dx ≠ x) :
    F.E μ h H (μ ++ [x]) (h ++ [.obj c []]) (upd (upd H dx (.own x)) x (.ins A dx [])) ∧ F.R (μ ++ [x]) (h ++ [.obj c []]) (upd (upd H dx (.own x)) x (.ins A dx [])) := by
  have r1 : F.R μ h (upd H dx (.own x)) := r.fresh hd
  have hx' : (upd H dx (.own x)) x = none := by rw [upd_ne (Ne.symm ne)]; exact hx
  exact ⟨(Ext.fresh hd).trans (Ext.push r1 hx'), r1.push hx' ⟨A, dx, [], ec, upd_same, .nil⟩⟩
theorem PRelF.zip {G : Gm} {H : Hp} {W : Wr} {μ : List Addr} : ∀ {fs : List (String × RV)} {gs : List (Str × V)} {vs : List PV}, RRelF G μ H W fs gs → allPV (fs.map (·.2)) = some vs → PRelF G H W ((fs.map (·.1)).zip vs) gs
  | _, _, vs, .nil, e => by simp at e; subst e; exact .nil
  | _, _, vs, .cons r rs, e => by
    cases r with
    | pv r =>
      simp only [List.map_cons, allPV_cons, Option.map_eq_some_iff] at e
      obtain ⟨ws, e1, e2⟩ := e
      subst e2
      exact .cons r (PRelF.zip rs e1)
    | ref _ => simp [allPV] at e
/-- behind __init__ -/
theorem made_ok {m : Bool} {μ : List Addr} {h : AH} {H : Hp} {p : Nat} {x : Addr} {Q : VK} {Xk : ExcV → AH → List Addr → Hp → Prop} (r : F.R μ h H) (ex : μ[p]? = some x) (z : Fin F μ h H (madeR m p h) (vK F Q) Xk) : Q (.ref x) H := by
  unfold madeR at z
  cases m with
  | true =>
    simp only [if_true] at z
    exact z.here r _ (.ref ex)
  | false =>
    simp only [Bool.false_eq_true, if_false] at z
    split at z
    · rename_i c fs eo
      split at z
      · rename_i vs ev
        obtain ⟨A, dx, gs, ec, eH, rs⟩ := r.obj p _ x eo ex
        have e1 : F.E μ h H μ (h.set p .dead) H := Ext.kill r ex
        refine z.at e1 (r.kill eo ex) _ (.pv (.obj ec eH (fun w => (wr_kill r ex _ w).2 rfl) ?_))
        exact (PRelF.zip rs ev).grow e1.grow
      · exact z.elim
    · exact z.elim
def makeO (C : Calls) (m : Bool) (c f : String) (fs : Env → AH → Out (List RV)) : Env → AH → Out RV := fun ρ h =>
  (fs ρ h).bind fun xs h1 => (C f (.ref h1.length :: xs) (h1 ++ [.obj c []])).bind fun v h2 => match v with
    | .pv .non => madeR m h1.length h2
    | _ => .bad
/-- what __init__ is to do -/
theorem make_sp {m : Bool} {c : String} {A : Addr} {μ : List Addr} {h : AH} {H : Hp} {vs : List RV} {xs : List V} {Q : VK} {σ : L2.St} (ec : F.G.cl c = some A) (r : F.R μ h H) (rs : F.v2 μ h H vs xs)
    (z : Fin F μ h H ((C f (.ref h.length :: vs) (h ++ [.obj c []])).bind fun v h2 => match v with
      | .pv .non => madeR m h.length h2
      | _ => .bad) (vK F Q) (xK F cx Wx σ)) (x dx : Addr) (hx : H x = none) (hd : H dx = none) (ne : dx ≠ x) :
    spC F.G cx C f (.ref x :: xs) (upd (upd H dx (.own x)) x (.ins A dx [])) (fun v H2 => v = .non ∧ Q (.ref x) H2) (WE Wx σ) := by
  obtain ⟨e1, r1⟩ := push_ins (F := F) r ec hx hd ne
  refine ⟨F, μ ++ [x], h ++ [.obj c []], .ref h.length :: vs, rfl, r1, .cons (.ref (by rw [← r.len]; simp)) (rs.grow e1.grow e1.pre), ?_⟩
  refine (Fin.from e1 (Fin.bind z)).mono (fun v h2 μ2 H2 e2 r2 z2 y ry => ?_) fun _ _ _ _ _ _ z => z
  split at z2
  · obtain rfl := ry.non_inv
    refine ⟨rfl, made_ok (p := h.length) r2 ?_ z2⟩
    obtain ⟨t, ht⟩ := e2.pre
    rw [← ht, ← r.len]
    simp
  · exact z2.elim
theorem r_make {x c : String} {A : Addr} {m : Bool} {p : Pos} (ec : F.G.cl c = some A) (M : Mk X.K A g) (hf : FnX X F cx C k f g) (hr : Room (k + 1) X.A) (hg : Gl X (Str.ofString x)) (hm : X.mg (Str.ofString x) = some (.ref A)) (tk : Takes X Wx) (ha : PA X (e :: es) (tOs F cx Wx fs))
    (hdb : (Str.ofString x == ("__debug__" : Str)) = false) (hs : (e :: es).all notStar = true) : PE X (.Call (.Name (Str.ofString x) p) (e :: es) [] pos) (tO F cx Wx (makeO C m c f fs)) := by
  obtain ⟨fd, ps, ok, hb⟩ := hf.ok
  simp only [List.all_cons, Bool.and_eq_true] at hs
  refine ⟨fun pins s σ H Q I t => ?_⟩
  refine wpAny_Call_Name_kw (ld_glob I hg hm ?_ hdb)
  have t2 : tOs F cx Wx fs σ H fun xs H1 => ∀ x dx, H1 x = none → H1 dx = none → dx ≠ x → spC F.G cx C f (.ref x :: xs) (upd (upd H1 dx (.own x)) x (.ins A dx [])) (fun v H2 => v = .non ∧ Q (.ref x) H2) (WE Wx σ) := by
    obtain ⟨μ, ρ, h, r, s, z⟩ := t
    refine ⟨μ, ρ, h, r, s, Fin.mono (Fin.bind z) (fun vs h1 μ1 H1 e1 r1 z xs rxs => ?_) fun _ _ _ _ _ _ z => z⟩
    exact make_sp ec r1 rxs z
  refine PySem.W.callWith_K (h₀ := X.base) I.ok.mod.kin M.kp (thn (ha.run pos pins s σ H _ I t2) fun us s1 ⟨vs, H1, I1, r, q⟩ => ⟨I1.kIn, ?_⟩) (star_cons hs.1) (star_all hs.2 pos)
  exact run_makeS (E := WE Wx) M ok hr hb (passAt tk σ) I1 r q
theorem r_make0 {x c : String} {A : Addr} {m : Bool} {p : Pos} (ec : F.G.cl c = some A) (M : Mk X.K A g) (hf : FnX X F cx C k f g) (hr : Room (k + 1) X.A) (hg : Gl X (Str.ofString x)) (hm : X.mg (Str.ofString x) = some (.ref A)) (tk : Takes X Wx)
    (hdb : (Str.ofString x == ("__debug__" : Str)) = false) : PE X (.Call (.Name (Str.ofString x) p) [] [] pos) (tO F cx Wx (makeO C m c f fun _ h => .ok [] h)) := by
  obtain ⟨fd, ps, ok, hb⟩ := hf.ok
  refine ⟨fun pins s σ H Q I t => ?_⟩
  refine wpAny_Call_Name_kw (ld_glob I hg hm ?_ hdb)
  obtain ⟨μ, ρ, h, r, _, z⟩ := t
  exact PySem.W.callWith_K0 I.kIn M.kp (run_makeS (E := WE Wx) (us := []) M ok hr hb (passAt tk σ) I .nil (make_sp ec r .nil z))
end
end D

set_option Elab.async false
set_option linter.all false
set_option maxRecDepth 100000
set_option maxHeartbeats 1000000
/-! Fd12: statements. -/
namespace D
open PySem PySem.Spec L2 PyProof.Rows

section
variable {F : Fx} {cx : String → Option Addr} {Wx : WX} {X : Cx} {a b c e : Expr} {es : List Expr} {pos p2 : Pos} {fa fb fc : Env → AH → Out RV} {fs : Env → AH → Out (List RV)}
variable {st : Stmt} {sts : List Stmt} {g u : Env → AH → SO}

/-! ### one after another -/
theorem FinS.next {μ : List Addr} {h : AH} {H : Hp} {o : SO} {k : Env → AH → SO} {D : Ends} (x : FinS F cx Wx μ h H (o.next k) D) : FinS F cx Wx μ h H o { D with nx := tS F cx Wx k D } := by
  cases o with
  | ok f h1 =>
    cases f with
    | nxt ρ =>
      intro μ1 H1 e1 r1 σ s
      exact ⟨μ1, ρ, h1, r1, s, FinS.from e1 x⟩
    | ret v => exact x
    | brk ρ => exact x
    | cnt ρ => exact x
  | exc e ρ h1 => exact x
  | bad => exact x
theorem FinS.turn {μ : List Addr} {h : AH} {H : Hp} {o : SO} {k : Env → AH → SO} {D : Ends} (x : FinS F cx Wx μ h H (o.turn k) D) :
    FinS F cx Wx μ h H o { D with nx := tS F cx Wx k D, ct := tS F cx Wx k D, bk := D.nx } := by
  cases o with
  | ok f h1 =>
    cases f with
    | nxt ρ =>
      intro μ1 H1 e1 r1 σ s
      exact ⟨μ1, ρ, h1, r1, s, FinS.from e1 x⟩
    | ret v => exact x
    | brk ρ => exact x
    | cnt ρ =>
      intro μ1 H1 e1 r1 σ s
      exact ⟨μ1, ρ, h1, r1, s, FinS.from e1 x⟩
  | exc e ρ h1 => exact x
  | bad => exact x
theorem FinS.ok_nx {μ : List Addr} {h h' : AH} {H H' : Hp} {μ' : List Addr} {ρ : Env} {D : Ends} {σ : L2.St} (x : FinS F cx Wx μ h H (.ok (.nxt ρ) h') D) (e : F.E μ h H μ' h' H') (r : F.R μ' h' H') (s : F.s1 μ' h' H' ρ σ) : D.nx σ H' := x μ' H' e r σ s
/-- behind an expression -/
theorem tS_ofE {k : Env → RV → AH → SO} {D : Ends} {σ : L2.St} {H : Hp} (t : tS F cx Wx (fun ρ h => SO.ofE ρ (fa ρ h) fun v h1 => k ρ v h1) D σ H) :
    tO F cx Wx fa σ H fun x H1 => ∃ μ ρ h v, F.R μ h H1 ∧ F.s1 μ h H1 ρ σ ∧ F.v1 μ h H1 v x ∧ FinS F cx Wx μ h H1 (k ρ v h) D := by
  obtain ⟨μ, ρ, h, r, s, f⟩ := t
  refine ⟨μ, ρ, h, r, s, (FinS.ofE s f).mono (fun v h1 μ1 H1 e1 r1 z x rx => ?_) fun _ _ _ _ _ _ z => z⟩
  exact ⟨μ1, ρ, h1, v, r1, s.grow e1.grow e1.pre, rx, z⟩
theorem tS_ofEs {k : Env → List RV → AH → SO} {D : Ends} {σ : L2.St} {H : Hp} (t : tS F cx Wx (fun ρ h => SO.ofE ρ (fs ρ h) fun v h1 => k ρ v h1) D σ H) :
    tOs F cx Wx fs σ H fun x H1 => ∃ μ ρ h v, F.R μ h H1 ∧ F.s1 μ h H1 ρ σ ∧ F.v2 μ h H1 v x ∧ FinS F cx Wx μ h H1 (k ρ v h) D := by
  obtain ⟨μ, ρ, h, r, s, f⟩ := t
  refine ⟨μ, ρ, h, r, s, (FinS.ofE s f).mono (fun v h1 μ1 H1 e1 r1 z x rx => ?_) fun _ _ _ _ _ _ z => z⟩
  exact ⟨μ1, ρ, h1, v, r1, s.grow e1.grow e1.pre, rx, z⟩
theorem tS_ofEb {f : Env → AH → Out Bool} {k : Env → Bool → AH → SO} {D : Ends} {σ : L2.St} {H : Hp} (t : tS F cx Wx (fun ρ h => SO.ofE ρ (f ρ h) fun v h1 => k ρ v h1) D σ H) :
    tOb F cx Wx f σ H fun b H1 => ∃ μ ρ h, F.R μ h H1 ∧ F.s1 μ h H1 ρ σ ∧ FinS F cx Wx μ h H1 (k ρ b h) D := by
  obtain ⟨μ, ρ, h, r, s, f⟩ := t
  refine ⟨μ, ρ, h, r, s, (FinS.ofE s f).mono (fun v h1 μ1 H1 e1 r1 z => ?_) fun _ _ _ _ _ _ z => z⟩
  exact ⟨μ1, ρ, h1, r1, s.grow e1.grow e1.pre, z⟩
def seqO (g u : Env → AH → SO) : Env → AH → SO := fun ρ h => (g ρ h).next fun ρ1 h1 => u ρ1 h1
theorem s_nil : PSs X [] (tS F cx Wx fun ρ h => .ok (.nxt ρ) h) := pss_imp pss_nil fun D σ H t => by
  obtain ⟨μ, ρ, h, r, s, f⟩ := t
  exact f.ok_nx .refl r s
theorem s_cons (h1 : PS X st (tS F cx Wx g)) (h2 : PSs X sts (tS F cx Wx u)) : PSs X (st :: sts) (tS F cx Wx (seqO g u)) := pss_imp (pss_cons h1 h2) fun D σ H t => by
  obtain ⟨μ, ρ, h, r, s, f⟩ := t
  exact ⟨μ, ρ, h, r, s, FinS.next f⟩
theorem s_pass : PS X (.Pass pos) (tS F cx Wx fun ρ h => .ok (.nxt ρ) h) := ps_imp ps_pass fun D σ H t => by
  obtain ⟨μ, ρ, h, r, s, f⟩ := t
  exact f.ok_nx .refl r s
theorem s_brk : PS X (.Break pos) (tS F cx Wx fun ρ h => .ok (.brk ρ) h) := ps_imp ps_break fun D σ H t => by
  obtain ⟨μ, ρ, h, r, s, f⟩ := t
  exact f μ H .refl r σ s
theorem s_cnt : PS X (.Continue pos) (tS F cx Wx fun ρ h => .ok (.cnt ρ) h) := ps_imp ps_continue fun D σ H t => by
  obtain ⟨μ, ρ, h, r, s, f⟩ := t
  exact f μ H .refl r σ s
theorem s_ret (ha : PE X a (tO F cx Wx fa)) : PS X (.Return (some a) pos) (tS F cx Wx fun ρ h => SO.ofE ρ (fa ρ h) fun v h1 => .ok (.ret v) h1) := ps_imp (ps_ret ha) fun D σ H t => by
  refine tO_mono (tS_ofE t) fun x H1 ⟨μ, ρ, h, v, r, s, rv, f⟩ => ?_
  exact f μ H1 .refl r x rv
theorem s_retN : PS X (.Return none pos) (tS F cx Wx fun _ h => .ok (.ret (.pv .non)) h) := ps_imp ps_retN fun D σ H t => by
  obtain ⟨μ, ρ, h, r, s, f⟩ := t
  exact f μ H .refl r _ (.pv .non)
theorem s_ex (ha : PE X a (tO F cx Wx fa)) (hs : swapsWith a none pos.line X.env = pure false) : PS X (.Expr a pos) (tS F cx Wx fun ρ h => SO.ofE ρ (fa ρ h) fun _ h1 => .ok (.nxt ρ) h1) := ps_imp (ps_expr ha hs) fun D σ H t => by
  refine tO_mono (tS_ofE t) fun x H1 ⟨μ, ρ, h, v, r, s, rv, f⟩ => ?_
  exact f.ok_nx .refl r s
theorem s_doc {x : Str} {j : Nat} {p3 : Pos} : PS X (.Expr (.Constant (.str x) j pos) p3) (tS F cx Wx fun ρ h => .ok (.nxt ρ) h) := ps_imp ps_doc fun D σ H t => by
  obtain ⟨μ, ρ, h, r, s, f⟩ := t
  exact f.ok_nx .refl r s
theorem s_if {c : Expr} {sa sb : List Stmt} (hc : PT X c (tOb F cx Wx (tru fc))) (ha : PSs X sa (tS F cx Wx g)) (hb : PSs X sb (tS F cx Wx u)) :
    PS X (.If c sa sb pos) (tS F cx Wx fun ρ h => SO.ofE ρ (tru fc ρ h) fun k h1 => if k then g ρ h1 else u ρ h1) := ps_imp (ps_if hc ha hb) fun D σ H t => by
  obtain ⟨μ, ρ, h, r, s, f⟩ := tS_ofEb (k := fun ρ k h1 => if k then g ρ h1 else u ρ h1) t
  refine ⟨μ, ρ, h, r, s, f.mono (fun b h1 μ1 H1 e1 r1 z => ?_) fun _ _ _ _ _ _ z => z⟩
  obtain ⟨μ2, ρ2, h2, r2, s2, f2⟩ := z
  cases b with
  | true => exact ⟨μ2, ρ2, h2, r2, s2, f2⟩
  | false => exact ⟨μ2, ρ2, h2, r2, s2, f2⟩

/-! ### targets -/
/-- the value goes to the target -/
def tG (F : Fx) (t : T) : TG := fun x σ H Q => ∃ μ ρ h v ρ', F.R μ h H ∧ F.s1 μ h H ρ σ ∧ F.v1 μ h H v x ∧ t.put ρ v = some ρ' ∧ ∀ σ', F.s1 μ h H ρ' σ' → Q σ' H
/-- a name's slot may be stored -/
structure NmOk (X : Cx) (i : Nat) (x : Str) : Prop where
  hN : X.N.Nodup
  hi : X.N[i]? = some x
  hx : Loc X.env.scope x
  hf : X.fn x = true ∨ X.env.scope.names.lookup x = some .local
theorem g_nm {i : Nat} {x : Str} (n : NmOk X i x) : PG X (.Name x pos) (tG F (.nm i)) := ⟨fun pins s σ H v u Q I r q => (pg_name n.hN n.hi n.hx n.hf).run pins s σ H v u Q I r (by
  obtain ⟨μ, ρ, h, w, ρ', r, s, rv, e, k⟩ := q
  simp only [T.put, Option.some.injEq] at e
  subst e
  exact k _ (s.set rv i))⟩
/-- several names -/
inductive NmsOk (X : Cx) : List Nat → List Expr → Prop
  | nil : NmsOk X [] []
  | cons {i : Nat} {x : Str} {p : Pos} {is : List Nat} {es : List Expr} : NmOk X i x → NmsOk X is es → NmsOk X (i :: is) (.Name x p :: es)
def gNames : List Nat → TGs
  | [] => gNil
  | i :: is => gCons (gName i) (gNames is)
theorem NmsOk.pgs {is : List Nat} {es : List Expr} (n : NmsOk X is es) : PGs X es (gNames is) := by
  induction n with
  | nil => exact pgs_nil
  | cons n _ ih => exact pgs_cons (pg_name n.hN n.hi n.hx n.hf) ih
theorem NmsOk.len {is : List Nat} {es : List Expr} (n : NmsOk X is es) : (assignEach es X.env).length = is.length ∧ (assignEach es X.env).findIdx? (·.1) = none := by
  induction n with
  | nil => exact ⟨rfl, rfl⟩
  | cons n _ ih =>
    refine ⟨?_, ?_⟩
    · show (assignEach _ X.env).length + 1 = _
      rw [ih.1]; rfl
    · show List.findIdx? (·.1) ((false, _) :: assignEach _ X.env) = none
      rw [List.findIdx?_cons, ih.2]; rfl
theorem names_put {μ : List Addr} {h : AH} {H : Hp} : ∀ {is : List Nat} {ρ ρ' : Env} {σ : L2.St} {xs : List RV} {vs : List V} {Q : L2.St → Hp → Prop}, F.s1 μ h H ρ σ → F.v2 μ h H xs vs → setAll ρ is xs = some ρ' → (∀ σ', F.s1 μ h H ρ' σ' → Q σ' H) → gNames is vs σ H Q
  | [], ρ, ρ', σ, xs, vs, Q, s, rv, e, k => by
    cases rv with
    | nil => simp only [setAll, Option.some.injEq] at e; subst e; exact ⟨rfl, k _ s⟩
    | cons _ _ => simp [setAll] at e
  | i :: is, ρ, ρ', σ, xs, vs, Q, s, rv, e, k => by
    cases rv with
    | nil => simp [setAll] at e
    | cons a b =>
      simp only [setAll] at e
      exact ⟨_, _, rfl, names_put (s.set a i) b e k⟩
theorem g_tp {is : List Nat} {es : List Expr} {k : Nat} (hc : X.calm = true) (n : NmsOk X is es) : PG X (.Tuple es k pos) (tG F (.tp is)) :=
  ⟨fun pins s σ H v u Q I r q => (pg_tup hc n.pgs n.len.1 n.len.2).run pins s σ H v u Q I r (by
    obtain ⟨μ, ρ, h, w, ρ', r, s, rv, e, k⟩ := q
    simp only [T.put] at e
    split at e
    · rename_i xs
      cases rv with
      | pv rv => cases rv with
        | tup rd _ hl rs =>
          rename_i a ws _
          refine ⟨_, _, rfl, .inl rd.rd, ?_, names_put s rs.toR e k⟩
          have h1 := rs.length
          have : ∀ {is : List Nat} {ρ ρ' : Env} {ys : List RV}, setAll ρ is ys = some ρ' → ys.length = is.length := by
            intro is
            induction is with
            | nil => intro ρ ρ' ys e; cases ys with
              | nil => rfl
              | cons _ _ => simp [setAll] at e
            | cons i is ih => intro ρ ρ' ys e; cases ys with
              | nil => simp [setAll] at e
              | cons _ _ => simp only [setAll] at e; simp [ih e]
          have h2 := this e
          simp only [List.length_map] at h2
          omega
    · cases e)⟩
end
end D

set_option Elab.async false
set_option linter.all false
set_option maxRecDepth 100000
set_option maxHeartbeats 1000000
/-! Fd13: statements that store; while. -/
namespace D
open PySem PySem.Spec L2 PyProof.Rows

section
variable {F : Fx} {cx : String → Option Addr} {Wx : WX} {X : Cx} {a b c e : Expr} {es : List Expr} {pos p2 : Pos} {fa fb fc : Env → AH → Out RV} {fs : Env → AH → Out (List RV)}
variable {st : Stmt} {sts : List Stmt} {g u : Env → AH → SO}

/-! ### target = value -/
def asgO (t : T) (fa : Env → AH → Out RV) : Env → AH → SO := fun ρ h => SO.ofE ρ (fa ρ h) fun v h1 => putO t ρ v h1
theorem tS_asg {t : T} {D : Ends} {σ : L2.St} {H : Hp} (q : tS F cx Wx (asgO t fa) D σ H) : tO F cx Wx fa σ H fun x H1 => tG F t x σ H1 D.nx := by
  refine tO_mono (tS_ofE q) fun x H1 ⟨μ, ρ, h, v, r, s, rv, f⟩ => ?_
  unfold putO at f
  cases e : t.put ρ v with
  | none => rw [e] at f; exact f.elim
  | some ρ' =>
    rw [e] at f
    exact ⟨μ, ρ, h, v, ρ', r, s, rv, e, fun σ' s' => FinS.ok_nx f .refl r s'⟩
theorem s_asg {tg : Expr} {t : T} (ha : PE X a (tO F cx Wx fa)) (hg : PG X tg (tG F t)) (hs : swapsWithSole [tg] a pos.line X.env = pure false) (hw : swappedStores [tg] a X.env = pure none) (h1 : (assignEach [tg] X.env).map (·.2) = [assign tg X.env]) :
    PS X (.Assign [tg] a pos) (tS F cx Wx (asgO t fa)) := ps_imp (ps_asg ha hg hs hw h1) fun _ _ _ q => tS_asg q

/-! ### a, b = x, y -/
def parO (is : List Nat) (fs : Env → AH → Out (List RV)) : Env → AH → SO := fun ρ h => SO.ofE ρ (fs ρ h) fun xs h1 => SO.ofE ρ (optO (setAll ρ is xs) h1) fun ρ1 h2 => .ok (.nxt ρ1) h2
theorem tS_par {is : List Nat} {D : Ends} {σ : L2.St} {H : Hp} (q : tS F cx Wx (parO is fs) D σ H) : tOs F cx Wx fs σ H fun xs H1 => gNames is xs σ H1 D.nx := by
  refine tOs_mono (tS_ofEs q) fun x H1 ⟨μ, ρ, h, v, r, s, rv, f⟩ => ?_
  cases e : setAll ρ is v with
  | none => rw [e] at f; exact f.elim
  | some ρ' =>
    rw [e] at f
    exact names_put s rv e fun σ' s' => FinS.ok_nx f .refl r s'
theorem s_par2 {i j : Nat} {x y : Str} {px py pt : Pos} {kt k2 pt2} (hc : X.calm = true) (hN : X.N.Nodup) (hi : X.N[i]? = some x) (hj : X.N[j]? = some y) (hij : i ≠ j) (hx : X.env.scope.names.lookup x = some .local) (hy : X.env.scope.names.lookup y = some .local)
    (ha : PA X [a, b] (tOs F cx Wx fs)) (hw : swappedStores [.Tuple [.Name x px, .Name y py] kt pt] (.Tuple [a, b] k2 pt2) X.env = pure (some [x, y])) :
    PS X (.Assign [.Tuple [.Name x px, .Name y py] kt pt] (.Tuple [a, b] k2 pt2) pos) (tS F cx Wx (parO [i, j] fs)) :=
  ps_imp (ps_par hc hN hi hj hij hx hy ha hw) fun D σ H q => by
    refine tOs_mono (tS_par q) fun xs H1 z => ?_
    obtain ⟨v, r, rfl, w, r2, rfl, rfl, z⟩ := z
    exact ⟨v, w, rfl, z⟩
theorem s_par3 {i j l : Nat} {x y z : Str} {px py pz pt : Pos} {kt k2 pt2} (hc : X.calm = true) (hN : X.N.Nodup) (hi : X.N[i]? = some x) (hj : X.N[j]? = some y) (hl : X.N[l]? = some z) (hij : i ≠ j) (hil : i ≠ l) (hjl : j ≠ l) (hx : X.env.scope.names.lookup x = some .local) (hy : X.env.scope.names.lookup y = some .local)
    (hz : X.env.scope.names.lookup z = some .local) (ha : PA X [a, b, c] (tOs F cx Wx fs)) (hw : swappedStores [.Tuple [.Name x px, .Name y py, .Name z pz] kt pt] (.Tuple [a, b, c] k2 pt2) X.env = pure (some [x, y, z])) :
    PS X (.Assign [.Tuple [.Name x px, .Name y py, .Name z pz] kt pt] (.Tuple [a, b, c] k2 pt2) pos) (tS F cx Wx (parO [i, j, l] fs)) :=
  ps_imp (ps_par3 hc hN hi hj hl hij hil hjl hx hy hz ha hw) fun D σ H q => by
    refine tOs_mono (tS_par q) fun xs H1 z => ?_
    obtain ⟨v, r, rfl, w, r2, rfl, y, r3, rfl, rfl, z⟩ := z
    exact ⟨v, w, y, rfl, z⟩

/-! ### a[i] = v -/
def rSet (F : Fx) : TSet := fun o i x H Q => ∃ μ h a k v, F.R μ h H ∧ F.v1 μ h H a o ∧ F.v1 μ h H k i ∧ F.v1 μ h H v x ∧ Fin F μ h H (setR F.lo a k v h) (fun _ _ _ H' => Q H') (fun _ _ _ _ => False)
theorem may_refs {lo p : Nat} {v : RV} {ys : List RV} {j : Nat} (c : mayStore lo p v = true) (hp : p < lo) : ∀ q ∈ (AO.lst (ys.set j v)).refs, q ∈ (AO.lst ys).refs := by
  intro q hq
  rw [refs_lst] at hq ⊢
  rcases List.mem_or_eq_of_mem_set hq with hq | hq
  · exact hq
  · subst hq
    simp [mayStore] at c
    omega
theorem write_dct {μ : List Addr} {h : AH} {H : Hp} {p : Nat} {a : Addr} {ys zs : List (PV × RV)} {ws : List (Key × V)} (r : F.R μ h H) (e : h[p]? = some (.dct ys)) (ea : μ[p]? = some a) (rs : RRelD F.G μ H (wr F.G μ h) zs ws)
    (k : p < F.lo → ∀ q ∈ (AO.dct zs).refs, q ∈ (AO.dct ys).refs) : F.E μ h H μ (h.set p (.dct zs)) (upd H a (.dK ws)) ∧ F.R μ (h.set p (.dct zs)) (upd H a (.dK ws)) := by
  have g : Grow H (wr F.G μ h) (upd H a (.dK ws)) (wr F.G μ (h.set p (.dct zs))) := .write e ea (by simp) (by simp)
  exact ⟨Ext.write r e ea (by simp) (by simp), r.write e ea (by simp) (by simp) ⟨ws, upd_same, rs.grow g List.prefix_rfl⟩ k⟩
theorem dct_at {μ : List Addr} {h : AH} {H : Hp} {p : Nat} {x : V} {ys : List (PV × RV)} (r : F.R μ h H) (rv : F.v1 μ h H (.ref p) x) (e : h[p]? = some (.dct ys)) : ∃ a ks, x = .ref a ∧ μ[p]? = some a ∧ H a = some (.dK ks) ∧ RRelD F.G μ H (wr F.G μ h) ys ks := by
  cases rv with
  | ref ea =>
    obtain ⟨vs, e1, rs⟩ := r.obj p _ _ e ea
    exact ⟨_, vs, rfl, ea, e1, rs⟩
theorem may_refsD {lo p : Nat} {k : PV} {v : RV} {ys : List (PV × RV)} (c : mayStore lo p v = true) (hp : p < lo) : ∀ q ∈ (AO.dct (dput k v ys)).refs, q ∈ (AO.dct ys).refs := by
  intro q hq
  have hv : v.refs = [] := by
    cases v with
    | pv v => rfl
    | ref l => simp [mayStore] at c; omega
  simp only [AO.refs, List.mem_flatMap] at hq ⊢
  obtain ⟨x, hx, hq⟩ := hq
  unfold dput at hx
  split at hx
  · obtain ⟨y, hy, rfl⟩ := List.mem_map.mp hx
    refine ⟨y, hy, ?_⟩
    split at hq
    · simp [hv] at hq
    · exact hq
  · rcases List.mem_append.mp hx with hx | hx
    · exact ⟨x, hx, hq⟩
    · simp only [List.mem_singleton] at hx
      subst hx
      simp [hv] at hq
theorem set_dct {pins : List (Addr × Obj)} {s : Shared} {σ : L2.St} {H : Hp} {a : Addr} {ks : List (Key × V)} {j : Key} {v : V} {u r : Value} {Q : Hp → Prop} (I : Inv X pins σ H s) (e : H a = some (.dK ks)) (ry : RelV (kV j) u) (rv : RelV v r) (hl : ks.length < sizeLine)
    (q : Q (upd H a (.dK (putK ks j v)))) : wpAny (model X.prog X.w) X.A (setItem (.ref a) u r) (fun _ s' => ∃ H', Inv X pins σ H' s' ∧ Q H') X.xe s := by
  obtain ⟨z, hd, vs, rel, dd⟩ := dk_of I.hok e
  have hz : vs.length ≤ sizeLine := by rw [← rel.length]; exact z
  have hl : (putK ks j v).length ≤ sizeLine := by have := length_putK ks j v; omega
  refine wpAny_setItem_pairs (hsz := hz) (kV_is ry) dd fun h' dd' hs => ⟨_, ?_, q⟩
  have he : ∃ q, h'.get? a = some q := let ⟨q, _, _, hq, _⟩ := dd'; ⟨q, hq⟩
  exact d_write I (by rw [e]; exact True.intro) hs he (dk_new hl hd (rel.put j rv) dd')
theorem set_all : PSet X (rSet F) := by
  intro pins s σ H o i x ov iv w Q I ro ri rx q
  obtain ⟨μ, h, a, k, v, r, ra, rk, rv, f⟩ := q
  unfold setR at f
  split at f
  · rename_i p k
    split at f
    · rename_i xs ex
      split at f
      · rename_i j hj
        split at f
        · rename_i c
          obtain ⟨ad, ws, rfl, ea, eH, rs⟩ := lst_at r ra ex
          obtain rfl := rk.int_inv
          have wl := write_lst (F := F) r ex ea (rs.set rv j) fun hp => may_refs c hp
          have hlen := rs.length
          exact set_list pins s σ H _ _ x ov iv w _ I ro ri rx ⟨ad, ws, k, j, rfl, rfl, eH, by rw [← hlen]; exact hj, f.at wl.1 wl.2⟩
        · exact f.elim
      · exact f.elim
    · rename_i kvs ex
      split at f
      · rename_i c
        simp only [Bool.and_eq_true, decide_eq_true_eq] at c
        obtain ⟨ad, ks, rfl, ea, eH, rs⟩ := dct_at r ra ex
        obtain rfl := rk.int_inv
        have wl := write_dct (F := F) r ex ea (rs.put (.int k) rv) fun hp => may_refsD c.1 hp
        obtain rfl : ov = Value.ref ad := ro
        exact set_dct I eH (j := .inl k) ri rx (by rw [← rs.length, line_eq]; exact c.2) (f.at wl.1 wl.2)
      · exact f.elim
    · exact f.elim
  · rename_i p z
    split at f
    · rename_i kvs ex
      split at f
      · rename_i c
        simp only [Bool.and_eq_true, decide_eq_true_eq] at c
        obtain ⟨ad, ks, rfl, ea, eH, rs⟩ := dct_at r ra ex
        obtain ⟨rfl, hz⟩ := rk.str_inv
        have wl := write_dct (F := F) r ex ea (rs.put (.str z hz) rv) fun hp => may_refsD c.1 hp
        obtain rfl : ov = Value.ref ad := ro
        exact set_dct I eH (j := .inr (sOf z)) ri rx (by rw [← rs.length, line_eq]; exact c.2) (f.at wl.1 wl.2)
      · exact f.elim
    · exact f.elim
  · exact f.elim
theorem setR_nx (lo : Nat) (a i v : RV) (h : AH) : noexc (setR lo a i v h) := by
  intro e h' q
  unfold setR at q
  repeat' split at q
  all_goals (first | cases q | contradiction)
theorem SO.fin_nx {μ : List Addr} {h : AH} {H : Hp} {o : Out Unit} {ρ : Env} {D : Ends} {σ : L2.St} (n : noexc o) (s : F.s1 μ h H ρ σ) (f : FinS F cx Wx μ h H (SO.ofE ρ o fun _ h1 => .ok (.nxt ρ) h1) D) : Fin F μ h H o (fun _ _ _ H' => D.nx σ H') (fun _ _ _ _ => False) :=
  Fin.nox ((FinS.ofE s f).mono (fun _ h1 μ1 H1 e1 r1 z => FinS.ok_nx z .refl r1 (s.grow e1.grow e1.pre)) fun _ _ _ _ _ _ z => z) n
def setIO (lo : Nat) (fa fb fv : Env → AH → Out RV) : Env → AH → SO := fun ρ h => SO.ofE ρ (fv ρ h) fun x h1 => SO.ofE ρ (fa ρ h1) fun y h2 => SO.ofE ρ (fb ρ h2) fun z h3 => SO.ofE ρ (setR lo y z x h3) fun _ h4 => .ok (.nxt ρ) h4
/-- no slice without a step -/
def notSlc : Expr → Bool
  | .Slice _ _ none _ => false
  | _ => true
theorem sub_assign {o i : Expr} {env : PySem.Env} (hp : notSlc i = true) : ∀ v, assign (.Subscript o i pos) env v = (do
      let ov ← holding [v] (eval o env)
      let iv ← holding [v, ov] (eval i env)
      standAt pos
      holding [v, ov, iv] (setItem ov iv v)
      release [v, ov, iv] []) := by
  intro v
  cases i <;> first | rfl | skip
  rename_i lo hi st p
  cases st with
  | none => cases hp
  | some _ => rfl
theorem s_setI {v : Expr} {fv : Env → AH → Out RV} {p3 : Pos} (hv : PE X v (tO F cx Wx fv)) (ha : PE X a (tO F cx Wx fa)) (hb : PE X b (tO F cx Wx fb)) (hp : notSlc b = true)
    (hs : swapsWithSole [.Subscript a b p3] v pos.line X.env = pure false) : PS X (.Assign [.Subscript a b p3] v pos) (tS F cx Wx (setIO F.lo fa fb fv)) :=
  ps_imp (ps_asg hv (pg_sub ha hb set_all (sub_assign hp)) hs (by cases v <;> rfl) rfl) fun D σ H q => by
    refine tO_mono (tS_ofE q) fun x H1 ⟨μ, ρ, h, v, r, s, rv, f⟩ => ?_
    refine ⟨μ, ρ, h, r, s, (FinS.ofE s f).mono (fun y h1 μ1 H1 e1 r1 z o ro => ?_) fun _ _ _ _ _ _ z => z⟩
    have s1 := s.grow e1.grow e1.pre
    refine ⟨μ1, ρ, h1, r1, s1, (FinS.ofE s1 z).mono (fun k h2 μ2 H2 e2 r2 z i ri => ?_) fun _ _ _ _ _ _ z => z⟩
    exact ⟨μ2, h2, y, k, v, r2, ro.grow e2.grow e2.pre, ri, (rv.grow e1.grow e1.pre).grow e2.grow e2.pre, SO.fin_nx (setR_nx _ _ _ _ _) (s1.grow e2.grow e2.pre) z⟩

/-! ### name op= e, a[i] op= e -/
def rIop (F : Fx) (o : Op2) : TIp := fun x y H Q => ∃ μ h v w, F.R μ h H ∧ F.v1 μ h H v x ∧ F.v1 μ h H w y ∧ Fin F μ h H (iopO o v w h) (vK F Q) (fun _ _ _ _ => False)
theorem ip_all (o : Op2) : PIp X o.toOp (rIop F o) := by
  intro pins s σ H x y v u Q I rx ry q
  obtain ⟨μ, h, p, q, r, rp, rq, f⟩ := q
  unfold iopO at f
  split at f
  · rename_i i j
    split at f
    · rename_i ho
      split at f
      · rename_i k ek
        obtain rfl := rp.int_inv
        obtain rfl := rq.int_inv
        have qk : Q (.int k) H := f.here r _ (.pv (.int k))
        have r2 : ∀ {r : R2}, OpR X (inplaceOp o.toOp) r → r (.int i) (.int j) H Q → wpAny (model X.prog X.w) X.A (inplaceOp o.toOp v u) (EP X pins σ Q) X.xe s := fun ho hr => ho pins s σ H _ _ v u Q I rx ry hr
        rcases ho with rfl | rfl | rfl | rfl | rfl | rfl | rfl
        · simp only [bopI, Option.some.injEq] at ek; subst ek; exact r2 iop_add ⟨i, j, rfl, rfl, qk⟩
        · simp only [bopI, Option.some.injEq] at ek; subst ek; exact r2 iop_sub ⟨i, j, rfl, rfl, qk⟩
        · simp only [bopI] at ek
          split at ek
          · rename_i c
            cases ek
            simp only [Bool.or_eq_true, small_iff] at c
            exact r2 iop_mul ⟨i, j, rfl, rfl, c, qk⟩
          · cases ek
        · simp only [bopI] at ek
          split at ek
          · rename_i c
            cases ek
            exact r2 iop_fdiv ⟨i, j, rfl, rfl, by simpa [CDiv] using c, qk⟩
          · cases ek
        · simp only [bopI, Option.some.injEq] at ek; subst ek; exact r2 iop_and ⟨i, j, rfl, rfl, qk⟩
        · simp only [bopI, Option.some.injEq] at ek; subst ek; exact r2 iop_or ⟨i, j, rfl, rfl, qk⟩
        · simp only [bopI, Option.some.injEq] at ek; subst ek; exact r2 iop_xor ⟨i, j, rfl, rfl, qk⟩
      · exact f.elim
    · exact f.elim
  · exact f.elim
theorem iopO_nx (o : Op2) (x y : RV) (h : AH) : noexc (iopO o x y h) := by
  intro e h' q
  unfold iopO at q
  repeat' split at q
  all_goals (first | cases q | contradiction)
theorem varO_nx (i : Nat) (ρ : Env) (h : AH) : ∀ {o : Out RV}, varO i ρ h = o → (∃ v, getV ρ i = some v ∧ o = .ok v h) ∨ o = .bad := by
  intro o e
  unfold varO at e
  split at e
  · rename_i v ev
    exact .inl ⟨v, ev, e.symm⟩
  · exact .inr e.symm
def augO (i : Nat) (o : Op2) (fa : Env → AH → Out RV) : Env → AH → SO := fun ρ h => SO.ofE ρ (varO i ρ h) fun x h0 => SO.ofE ρ (fa ρ h0) fun y h1 => SO.ofE ρ (iopO o x y h1) fun z h2 => .ok (.nxt (ρ.set i (some z))) h2
theorem s_aug {i : Nat} {x : Str} {o : Op2} {p3 : Pos} (n : NmOk X i x) (ha : PE X a (tO F cx Wx fa)) : PS X (.AugAssign (.Name x p3) o.toOp a pos) (tS F cx Wx (augO i o fa)) :=
  ps_imp (ps_aug n.hN n.hi n.hx ha (ip_all o) n.hf) fun D σ H q => by
    obtain ⟨μ, ρ, h, r, s, f⟩ := q
    unfold augO at f
    rcases varO_nx i ρ h rfl with ⟨v, ev, e⟩ | e
    · rw [e] at f
      simp only [SO.ofE_ok] at f
      obtain ⟨x, hx, rx⟩ := s.get ev
      refine ⟨x, hx, μ, ρ, h, r, s, (FinS.ofE s f).mono (fun y h1 μ1 H1 e1 r1 z w rw' => ?_) fun _ _ _ _ _ _ z => z⟩
      have s1 := s.grow e1.grow e1.pre
      refine ⟨μ1, h1, v, y, r1, rx.grow e1.grow e1.pre, rw', Fin.nox ((FinS.ofE s1 z).mono (fun k h2 μ2 H2 e2 r2 z t rt => ?_) fun _ _ _ _ _ _ z => z) (iopO_nx _ _ _ _)⟩
      exact FinS.ok_nx z .refl r2 ((s1.grow e2.grow e2.pre).set rt i)
    · rw [e] at f; exact f.elim
def rGet (F : Fx) : V → V → Hp → VK → Prop := fun x y H Q => ∃ μ h v w, F.R μ h H ∧ F.v1 μ h H v x ∧ F.v1 μ h H w y ∧ Fin F μ h H (idxL v w h) (vK F Q) (fun _ _ _ _ => False)
theorem idxL_nx (a b : RV) (h : AH) : noexc (idxL a b h) := by
  intro e h' q
  unfold idxL at q
  repeat' split at q
  all_goals (first | cases q | contradiction)
theorem get_list : PGet X (rGet F) := by
  intro pins s σ H o i ov iv Q I ro ri q
  obtain ⟨μ, h, v, w, r, rv, rw', f⟩ := q
  unfold idxL at f
  split at f
  · rename_i k
    split at f
    · rename_i xs ex
      split at f
      · rename_i x hx
        obtain ⟨p, vs, rfl, rd, rs⟩ := view_L r rv ex
        obtain rfl := rw'.int_inv
        obtain ⟨y, ey, ry⟩ := atI_rel rs hx
        have qy := f.here r _ ry
        cases ro
        obtain ⟨t, rfl⟩ := ri
        obtain ⟨its, rr, pl, hz⟩ := I.list (.inl rd)
        obtain ⟨j, h1, h2, h3, h4, h5⟩ := atI_get ey
        obtain ⟨z, ez, rz⟩ := rr.get h2
        have hl := rr.length
        have hn := line63
        have fin : EP X pins σ Q z s := ⟨y, H, I, rz, qy⟩
        by_cases h0 : 0 ≤ k
        · have hj : k.toNat = j := by
            rw [seqIndex_of h0 h5] at h1
            exact Option.some.inj h1
          exact wpAny_getItem_list pl.isList h0 (by omega) (by rw [hj]; simpa using ez) fin
        · have hj : (k + (its.toArray.size : Int)).toNat = j := by
            rw [seqIndex_neg (by omega) h4] at h1
            rw [List.size_toArray, ← hl]
            exact Option.some.inj h1
          exact wpAny_getItem_list_neg pl.isList (by omega) (by rw [List.size_toArray] <;> omega) (by omega) (by rw [hj]; simpa using ez) fin
      · exact f.elim
    · exact f.elim
  · exact f.elim
def augIO (lo : Nat) (fa fb : Env → AH → Out RV) (o : Op2) (fc : Env → AH → Out RV) : Env → AH → SO := fun ρ h => SO.ofE ρ (fa ρ h) fun x h1 => SO.ofE ρ (fb ρ h1) fun y h2 => SO.ofE ρ (idxL x y h2) fun z h3 => SO.ofE ρ (fc ρ h3) fun u h4 =>
    SO.ofE ρ (iopO o z u h4) fun r h5 => SO.ofE ρ (setR lo x y r h5) fun _ h6 => .ok (.nxt ρ) h6
theorem aug_store {i : Expr} (hp : notSlc i = true) : ∀ ov iv new, augStore i ov iv new = (do holding [new, ov, iv] (setItem ov iv new); release [new, ov, iv] []; pure .next) := by
  intro ov iv new
  cases i <;> first | rfl | skip
  rename_i lo hi st p
  cases st with
  | none => cases hp
  | some _ => rfl
theorem s_augI {o : Op2} {p3 : Pos} (ha : PE X a (tO F cx Wx fa)) (hb : PE X b (tO F cx Wx fb)) (hc : PE X c (tO F cx Wx fc)) (hp : notSlc b = true) :
    PS X (.AugAssign (.Subscript a b p3) o.toOp c pos) (tS F cx Wx (augIO F.lo fa fb o fc)) :=
  ps_imp (ps_augS ha hb (get_list (F := F)) hc (ip_all (F := F) o) (set_all (F := F)) (aug_store hp)) fun D σ H q => by
    refine tO_mono (tS_ofE q) fun x H1 ⟨μ, ρ, h, v, r, s, rv, f⟩ => ?_
    refine ⟨μ, ρ, h, r, s, (FinS.ofE s f).mono (fun y h1 μ1 H1 e1 r1 z i ri => ?_) fun _ _ _ _ _ _ z => z⟩
    have s1 := s.grow e1.grow e1.pre
    have rv1 := rv.grow e1.grow e1.pre
    refine ⟨μ1, h1, v, y, r1, rv1, ri, Fin.nox ((FinS.ofE s1 z).mono (fun w h2 μ2 H2 e2 r2 z t rt => ?_) fun _ _ _ _ _ _ z => z) (idxL_nx _ _ _)⟩
    have s2 := s1.grow e2.grow e2.pre
    refine ⟨μ2, ρ, h2, r2, s2, (FinS.ofE s2 z).mono (fun m h3 μ3 H3 e3 r3 z k rk => ?_) fun _ _ _ _ _ _ z => z⟩
    have s3 := s2.grow e3.grow e3.pre
    refine ⟨μ3, h3, w, m, r3, rt.grow e3.grow e3.pre, rk, Fin.nox ((FinS.ofE s3 z).mono (fun n h4 μ4 H4 e4 r4 z l rl => ?_) fun _ _ _ _ _ _ z => z) (iopO_nx _ _ _ _)⟩
    have s4 := s3.grow e4.grow e4.pre
    refine ⟨μ4, h4, v, y, n, r4, ((rv1.grow e2.grow e2.pre).grow e3.grow e3.pre).grow e4.grow e4.pre, ((ri.grow e2.grow e2.pre).grow e3.grow e3.pre).grow e4.grow e4.pre, rl, SO.fin_nx (setR_nx _ _ _ _ _) s4 z⟩

/-! ### a.f = v -/
theorem putF_rel {μ : List Addr} {h : AH} {H : Hp} {f : String} {v : RV} {x : V} (rv : F.v1 μ h H v x) : ∀ {fs : List (String × RV)} {gs : List (Str × V)}, RRelF F.G μ H (wr F.G μ h) fs gs → RRelF F.G μ H (wr F.G μ h) (D.putF f v fs) (L2.putF (Str.ofString f) x gs)
  | _, _, .nil => .cons rv .nil
  | _, _, .cons (n := n) (fs := fs) (gs := gs) r rs => by
    by_cases q : f = n
    · subst q
      have e2 : ∀ w, L2.putF (Str.ofString f) x ((Str.ofString f, w) :: gs) = (Str.ofString f, x) :: gs := fun w => by simp [L2.putF]
      rw [e2]
      simp only [D.putF, if_true]
      exact .cons rv rs
    · have q2 : Str.ofString f ≠ Str.ofString n := fun z => q (ofStr_inj z)
      have q3 : Str.ofString n ≠ Str.ofString f := fun z => q2 z.symm
      simp only [D.putF, if_neg q, L2.putF, if_neg q2, if_neg q3]
      exact .cons r (putF_rel rv rs)
theorem refs_obj {c : String} {fs : List (String × RV)} {q : Nat} : q ∈ (AO.obj c fs).refs ↔ ∃ n, (n, RV.ref q) ∈ fs := by
  simp only [AO.refs, List.mem_flatMap]
  constructor
  · rintro ⟨⟨n, x⟩, hx, hq⟩
    cases x with
    | pv v => simp [RV.refs] at hq
    | ref p => simp [RV.refs] at hq; subst hq; exact ⟨n, hx⟩
  · rintro ⟨n, h⟩
    exact ⟨_, h, by simp [RV.refs]⟩
theorem mem_putF {f : String} {v : RV} {q : Nat} : ∀ {fs : List (String × RV)} {n : String}, (n, RV.ref q) ∈ D.putF f v fs → v = .ref q ∨ ∃ n, (n, RV.ref q) ∈ fs
  | [], n, h => by simp only [D.putF, List.mem_singleton, Prod.mk.injEq] at h; exact .inl h.2.symm
  | (m, w) :: r, n, h => by
    simp only [D.putF] at h
    split at h
    · rcases List.mem_cons.mp h with h | h
      · injection h with h1 h2; exact .inl h2.symm
      · exact .inr ⟨n, List.mem_cons_of_mem _ h⟩
    · rcases List.mem_cons.mp h with h | h
      · injection h with h1 h2; subst h2; exact .inr ⟨m, List.mem_cons_self⟩
      · rcases mem_putF h with h | ⟨k, h⟩
        · exact .inl h
        · exact .inr ⟨k, List.mem_cons_of_mem _ h⟩
theorem RRelF.length {G : Gm} {μ : List Addr} {H : Hp} {W : Wr} : ∀ {fs : List (String × RV)} {gs : List (Str × V)}, RRelF G μ H W fs gs → fs.length = gs.length
  | _, _, .nil => rfl
  | _, _, .cons _ rs => by simp [RRelF.length rs]
def setFO (lo : Nat) (cs : List String) (f : String) (fa fv : Env → AH → Out RV) : Env → AH → SO := fun ρ h => SO.ofE ρ (fv ρ h) fun x h1 => SO.ofE ρ (fa ρ h1) fun y h2 => SO.ofE ρ (setFR lo cs y f x h2) fun _ h3 => .ok (.nxt ρ) h3
theorem setFR_nx (lo : Nat) (cs : List String) (a : RV) (f : String) (v : RV) (h : AH) : noexc (setFR lo cs a f v h) := by
  intro e h' q
  unfold setFR at q
  repeat' split at q
  all_goals (first | cases q | contradiction)
theorem s_setF {v : Expr} {fv : Env → AH → Out RV} {p3 : Pos} {f : String} {cs : List String} (hf : ∀ c ∈ cs, ∀ C, F.G.cl c = some C → Cls X.K C ∧ NoAttr X.K C (Str.ofString f)) (hv : PE X v (tO F cx Wx fv)) (ha : PE X a (tO F cx Wx fa))
    (hs : swapsWith v (some (.Attribute a (Str.ofString f) p3)) pos.line X.env = pure false) : PS X (.Assign [.Attribute a (Str.ofString f) p3] v pos) (tS F cx Wx (setFO F.lo cs f fa fv)) :=
  ps_imp (ps_fld ha hv hs) fun DD σ H q => by
    refine tO_mono (tS_ofE q) fun x H1 ⟨μ, ρ, h, v, r, s, rv, g⟩ => ?_
    refine ⟨μ, ρ, h, r, s, (FinS.ofE s g).mono (fun y h1 μ1 H1 e1 r1 z o ro => ?_) fun _ _ _ _ _ _ z => z⟩
    have z2 := SO.fin_nx (setFR_nx _ _ _ _ _ _) (s.grow e1.grow e1.pre) z
    have rv1 := rv.grow e1.grow e1.pre
    unfold setFR at z2
    split at z2
    · rename_i p
      split at z2
      · rename_i c fs eo
        split at z2
        · rename_i hc
          simp only [Bool.and_eq_true, decide_eq_true_eq] at hc
          obtain ⟨ad, C, dx, gs, rfl, ea, ec, eH, rs⟩ := (view_O r1 ro).2 p c fs rfl eo
          have g : Grow H1 (wr F.G μ1 h1) (upd H1 ad (.ins C dx (L2.putF (Str.ofString f) x gs))) (wr F.G μ1 (h1.set p (.obj c (D.putF f v fs)))) := .write eo ea (by simp) (by simp)
          have rr : F.R μ1 (h1.set p (.obj c (D.putF f v fs))) (upd H1 ad (.ins C dx (L2.putF (Str.ofString f) x gs))) := by
            refine Rep.write r1 eo ea (by simp) (by simp) ⟨C, dx, _, ec, upd_same, (putF_rel rv1 rs).grow g List.prefix_rfl⟩ fun hp q hq => ?_
            rw [refs_obj] at hq ⊢
            obtain ⟨n, hq⟩ := hq
            rcases mem_putF hq with e | e
            · subst e
              have h9 := hc.1.1
              simp [mayStore] at h9
              omega
            · exact e
          have hl := rs.length
          exact ⟨ad, C, dx, gs, rfl, eH, (hf c hc.2 C ec).1, (hf c hc.2 C ec).2, by omega, z2.at (Ext.write r1 eo ea (by simp) (by simp)) rr⟩
        · exact z2.elim
      · exact z2.elim
    · exact z2.elim

/-! ### a slot's list is written no more -/
theorem ERelS.reset {μ : List Addr} {H : Hp} {W : Wr} {G : Gm} {ρ : Env} {σ : L2.St} {i : Nat} {x : RV} {v : V} (s : ERelS G μ H W ρ σ) (e : σ[i]? = some (some v)) (r : RRel G μ H W x v) : ERelS G μ H W (ρ.set i (some x)) σ := by
  have h := s.set r i
  have : σ.set i (some v) = σ := by
    apply List.ext_getElem?
    intro j
    by_cases q : j = i
    · subst q
      rw [List.getElem?_set_self (List.getElem?_eq_some_iff.mp e).1, e]
    · rw [List.getElem?_set_ne (Ne.symm q)]
  rwa [this] at h
/-- what is written no more may be locked -/
theorem lock_dct {μ : List Addr} {h : AH} {H : Hp} {p : Nat} {a : Addr} {od : Obj} {ys : List (PV × RV)} {ks : List (Key × V)} (r : F.R μ h H) (e : h[p]? = some (.dct ys)) (ea : μ[p]? = some a) (eH : H a = some (.dK ks)) :
    F.E μ h H μ (h.set p .dead) (upd H a (.frz od (.dK ks))) ∧ F.R μ (h.set p .dead) (upd H a (.frz od (.dK ks))) ∧ Grow H (wr F.G μ h) (upd H a (.frz od (.dK ks))) (wr F.G μ (h.set p .dead)) ∧ ¬ wr F.G μ (h.set p .dead) a := by
  exact ⟨.lock r ⟨_, e, by simp⟩ ea, r.lock e (by simp) ea, .lock r ⟨_, e, by simp⟩ ea, fun w => (wr_kill r ea _ w).2 rfl⟩
theorem s_frz {i : Nat} (hs : PS X st (tS F cx Wx g)) : PS X st (tS F cx Wx fun ρ h => SO.ofE ρ (optO (frzO F.lo i ρ h) h) fun q _ => g q.1 q.2) := by
  refine ⟨fun pins s0 σ H D I t => ?_⟩
  obtain ⟨μ, ρ, h, r, s, f⟩ := t
  cases e : frzO F.lo i ρ h with
  | none => simp only [e] at f; exact f.elim
  | some q =>
    simp only [e] at f
    have f : FinS F cx Wx μ h H (g q.1 q.2) D := f
    unfold frzO at e
    split at e
    · rename_i p ep
      split at e
      · rename_i xs ex
        split at e
        · rename_i ys ey
          split at e
          · rename_i hlo
            cases e
            have := allPV_some ey
            subst this
            obtain ⟨x, hx, rx⟩ := s.get ep
            obtain ⟨a, ws, rfl, ea, eH, rs⟩ := lst_at r rx ex
            have e1 : F.E μ h H μ (h.set p .dead) H := Ext.kill r ea
            refine hs.run pins s0 σ H D I ⟨μ, _, _, r.kill ex ea, ?_, FinS.from e1 f⟩
            have s1 := s.grow e1.grow e1.pre
            have rs1 := rs.grow e1.grow e1.pre
            exact s1.reset hx (.pv (.lst (.inl eH) (fun w => (wr_kill r ea _ w).2 rfl) hlo.2 rs1.toP))
          · cases e
        · cases e
      · rename_i kvs ex
        split at e
        · rename_i ys ey
          split at e
          · rename_i hlo
            cases e
            obtain ⟨x, hx, rx⟩ := s.get ep
            obtain ⟨a, ks, rfl, ea, eH, rs⟩ := dct_at r rx ex
            obtain ⟨od, I1⟩ := I.lock eH trivial
            obtain ⟨e1, r1, g1, n1⟩ := lock_dct (od := od) r ex ea eH
            refine hs.run pins s0 σ _ D I1 ⟨μ, _, _, r1, ?_, FinS.from e1 f⟩
            exact (s.grow g1 List.prefix_rfl).reset hx (.pv (.dct upd_same n1 (RRelD.toP ey (rs.grow g1 List.prefix_rfl))))
          · cases e
        · cases e
      · cases e
    · cases e
      exact hs.run pins s0 σ H D I ⟨μ, ρ, h, r, s, f⟩
end
end D

set_option Elab.async false
set_option linter.all false
set_option maxRecDepth 100000
set_option maxHeartbeats 1000000
/-! Fd57: enumerate(tuple). -/
namespace D
open PySem PySem.Spec L2 PyProof.Rows

theorem meets_enum1 {v : Value} {o : Obj} {H : Heap → Prop} (B : Begins v o H) :
    Meets (Builtin.«enumerate.__new__» ⟨[.type "enumerate", v], []⟩) (fun _ R s => H s.heap ∧
      R (.ok (.ret (.ref (s.heap.push o).objs.size))) { s with heap := (s.heap.push o).push { cls := .type "enumerate", data := .fields #[.none, .bool false, .ref s.heap.objs.size, rawInt 0, .none, .none] } }) :=
  .of_wp fun prog w A R s h => by
    obtain ⟨hp, g, d, tk, os⟩ := s; obtain ⟨h1, h⟩ := h
    have hsub := sub_enumerate
    have q1 : ∀ {A' : Around} {E : Value → Shared → Prop} {Q : Value → Shared → Prop}, Q (.ref hp.objs.size) ⟨hp.push o, g, d, tk, os⟩ → wpAny (model prog w) A' (pyIter v) Q E ⟨hp, g, d, tk, os⟩ :=
      fun q => B.iter prog w _ _ ⟨hp, g, d, tk, os⟩ _ h1 q
    wp_walk using q1
    refine wpAny_stack_any fun st => wpAny_pure ?_
    split
    · rename_i c _ _ _ _ _
      cases (c == Value.type "enumerate")
      · wp_walk using q1
        exact ⟨_, rfl, h⟩
      · wp_walk using q1
        exact ⟨_, rfl, h⟩
    · wp_walk using q1
      exact ⟨_, rfl, h⟩
theorem call_enum1 {prog : Program} {w : World} {A : Around} {E : Value → Shared → Prop} {s : Shared} {v : Value} {o : Obj} {H : Heap → Prop} {Q : Value → Shared → Prop} (B : Begins v o H) (h1 : H s.heap)
    (h : ∀ h', IsEnum h' (s.heap.objs.size + 1) s.heap.objs.size 0 .none → h'.get? s.heap.objs.size = some o → h'.objs.size = s.heap.objs.size + 2 →
      (∀ b o, s.heap.get? b = some o → h'.get? b = some o) → Q (.ref (s.heap.objs.size + 1)) { s with heap := h' }) :
    wpAny (model prog w) A (call (.type "enumerate") [v]) Q E s := by
  refine callType_new F.called_enumerate (by decide) (F.typeCall_enumerate_1 _) (F.newCall_enumerate_1 _) (fun obj => F.args_object_init_2 obj _) F.entry_enumerate_new
    (meets_enum1 B) ⟨h1, ?_⟩
  have hz : (s.heap.push o).objs.size = s.heap.objs.size + 1 := Heap.size_push ..
  show _ ∧ _
  rw [hz]
  have he : IsEnum ((s.heap.push o).push { cls := .type "enumerate", data := .fields #[.none, .bool false, .ref s.heap.objs.size, rawInt 0, .none, .none] }) (s.heap.objs.size + 1) s.heap.objs.size 0 .none := by
    have := Heap.get?_push_size (s.heap.push o) (o := { cls := .type "enumerate", data := .fields #[.none, .bool false, .ref s.heap.objs.size, rawInt 0, .none, .none] }) rfl
    rw [hz] at this; exact this
  refine ⟨⟨_, he, rfl⟩, h _ he (Heap.get?_push_of_some _ (Heap.get?_push_size _ B.free)) (by rw [Heap.size_push, hz]) fun b o x => Heap.get?_push_of_some _ (Heap.get?_push_of_some _ x)⟩
theorem pyNext_enumT_end {prog : Program} {w : World} {A : Around} {E : Value → Shared → Prop} {s : Shared} {e it l : Addr} {i : Nat} {items : Array Value} {old : Value} {Q : Option Value → Shared → Prop} (hh : A.handled = none)
    (he : IsEnum s.heap e it i old) (hit : s.heap.IsTupleIter it l i) (hl : s.heap.IsTuple l items) (hx : items[i]? = none)
    (hQ : ∀ h', Heap.ExtBut it s.heap h' → Q none { s with heap := h' }) : wpAny (model prog w) A (pyNext (.ref e)) Q E s := by
  have hT : s.TypeIs (.ref e) "enumerate" := ⟨_, he, rfl⟩
  unfold pyNext
  refine wpAny_bind (wpAny_attempt (wpAny_callSpecial?_slot (name := Str.ofString "__next__") hT F.slot_enumerate_next
    (wpAny_call_entry F.slot_enumerate_next hT F.entry_enumerate_next ?_ (F.args_enumerate_next_1 _))))
  show wpAny _ _ (field (.ref e) 2 >>= _) _ _ _
  refine wpAny_bind (wpAny_field he rfl (x := .ref it) rfl ?_)
  refine wpAny_bind (wpAny_nextOf_tuple_end hh hit hl hx fun h' x he' hx' => ?_)
  obtain ⟨o, ho, hc⟩ := hx'
  refine wpAny_bind (wpAny_isInstance (T := "StopIteration") (b := true) ⟨o, ho, hc⟩ isSubtype_stop ?_)
  exact wpAny_pure (hQ _ he')
def IteT (K : PySem.W.Frag) (a : Addr) : L2.It :=
  ⟨fun i H => ∃ (xs : List V) (x : V), SqT K H a xs ∧ xs[i]? = some x, fun i H v H' => ∃ T x, v = .ref T ∧ H T = none ∧ H' = upd H T (.tup [.int (i : Nat), x]) ∧ ∀ xs, SqT K H a xs → xs[i]? = some x, fun i H => ∃ xs : List V, SqT K H a xs ∧ xs.length ≤ i⟩
theorem turn_enumT {P : Program} {w : World} {K : PySem.W.Frag} {elts : List Expr} {kk : Nat} {tpos : Pos} (a e it : Addr) (hai : a ≠ it) (hae : a ≠ e) :
    Turn P w K (.Tuple elts kk tpos) (IteT K a) [e, it] e (fun i h => (∃ old, IsEnum h e it ((i : Nat) : Int) old) ∧ h.IsTupleIter it a i ∧ e ≠ it) where
  mem := by simp
  obj := fun i h st b hb => by
    obtain ⟨⟨old, he⟩, ⟨o, ho, hc, hd⟩, _⟩ := st
    have e' : b = e ∨ b = it := by simpa using hb
    rcases e' with z | z
    · rw [z]; exact ⟨_, he, fun v q => nomatch q⟩
    · rw [z]; exact ⟨o, ho, fun v q => by rw [hd] at q; cases q⟩
  keep := fun i h h' st k => let ⟨⟨old, he⟩, hi, hne⟩ := st; ⟨⟨old, k e (by simp) _ he⟩, hi.at fun o q => k it (by simp) o q, hne⟩
  item := by
    intro X hP hw hK hc i pins s σ H E I hf st hg
    subst hP hw hK
    obtain ⟨⟨old, he⟩, hit, hne⟩ := st
    obtain ⟨xs, x, hq, hx⟩ := hg
    obtain ⟨its, rv, p, hz⟩ := I.tuple hq
    obtain ⟨u, hu, ru⟩ := rv.get hx
    have hel : e < s.heap.objs.size := Heap.lt_size he
    have hil : it < s.heap.objs.size := by obtain ⟨_, q, _⟩ := hit; exact Heap.lt_size q
    have hh : X.A.in1.handled = none := I.ok.hd hc
    have hlt : i < its.toArray.size := by
      have := (List.getElem?_eq_some_iff.mp hu).1
      simpa using this
    refine wpAny_pyNext_enum_itemD (i := i) (Draws.tuple (A := X.A.in1) hh it a hai its.toArray) he ⟨hit, p⟩ hlt hne (by simp [hne, Ne.symm hae]) fun u' h' tk hP ho hst hT hsz hk => ?_
    have hu' : u' = u := by
      have : its.toArray[i]? = some u' := hP
      rw [List.getElem?_toArray, hu] at this
      exact (Option.some.inj this).symm
    subst hu'
    refine ⟨_, rfl, wpAny_letOwnedTupleGo_enum (s := { s with heap := h', toks := tk + 1 }) ho fun h'' he' sb => ?_⟩
    have hT2 : h''.get? s.heap.objs.size = some { cls := .type "tuple", data := .seq #[.int i tk, u'] } := (sb.2 _ (Nat.ne_of_gt hel)).trans hT
    have new : ObjOk X.prog X.w (upd H s.heap.objs.size (.tup [.int (i : Nat), x])) h'' s.heap.objs.size (.tup [.int (i : Nat), x]) :=
      ⟨by show 2 ≤ sizeLine; decide, [.int i tk, u'], .cons ⟨_, rfl⟩ (.cons ru .nil), ⟨_, hT2, rfl, _, rfl⟩⟩
    have I1 : Inv X pins σ (upd H s.heap.objs.size (.tup [.int (i : Nat), x])) { s with heap := h'', toks := tk + 1 } :=
      I.turnedNew (ch := [e, it]) (fun b ob hb q => (sb.2 b (fun z => hb (by simp [z]))).trans (hk b ob (fun z => hb (by simp [z])) (fun z => hb (by simp [z])) q)) hf (Nat.le_refl _) new
    refine ⟨.ref s.heap.objs.size, _, I1, rfl, ⟨_, x, rfl, I.hok.fresh (Nat.le_refl _), rfl, fun ys hy => by rw [I.tuple_inj hy hq]; exact hx⟩, ⟨⟨u', ?_⟩, hst.1.at fun o q => (sb.2 it (Ne.symm hne)).trans q, hne⟩, fun b hb => ?_⟩
    · have e1 : ((i + 1 : Nat) : Int) = (i : Int) + 1 := by omega
      rw [e1]; exact he'
    · have hb' : b < s.heap.objs.size := by
        have e' : b = e ∨ b = it := by simpa using hb
        rcases e' with z | z
        · rw [z]; exact hel
        · rw [z]; exact hil
      rw [upd_ne (Nat.ne_of_lt hb')]
      exact (hf b hb).1
  done := by
    intro X hP hw hK hc i pins s σ H E I hf st hg
    subst hP hw hK
    obtain ⟨⟨old, he⟩, hit, hne⟩ := st
    obtain ⟨xs, hq, hx⟩ := hg
    obtain ⟨its, rv, p, hz⟩ := I.tuple hq
    obtain ⟨f0, f1, f2, f3, f4, f5⟩ := hf it (by simp)
    have hl := rv.length
    exact pyNext_enumT_end (I.ok.hd hc) he hit p (by simp; omega) fun h' eb => ⟨rfl, I.turned (t' := s.toks) (fun b o hb q => eb b o hb q) f0 f1 f3 f4 f5⟩
  self := fun A i s Q E st h => let ⟨⟨_, he⟩, _⟩ := st; wpAny_pyIter_enum he h
def iEnumA (K : PySem.W.Frag) (ta : TA) : TI := fun σ H R => ta σ H fun vs H1 => ∃ a xs, vs = [.ref a] ∧ ((SqL K H1 a xs ∧ R (Ite K a) H1) ∨ (SqT K H1 a xs ∧ R (IteT K a) H1))
theorem pi_enumA {X : Cx} {e : Expr} {ta : TA} {p pos tpos : Pos} {elts : List Expr} {kk : Nat} (hg : Gl X "enumerate") (hm : X.mg "enumerate" = none) (ha : PA X [e] ta) (hs : starEach [e] X.env = [(false, eval e X.env)] := by rfl) :
    PI X (.Tuple elts kk tpos) (.Call (.Name "enumerate" p) [e] [] pos) (iEnumA X.K ta) := by
  refine ⟨fun pins s σ H R I h => ?_⟩
  refine Call_ (ld_blt I hg hm boot_enumerate (PyProof.Rows.callWith_type1 (thn (ha.run pos pins s σ H _ I h) fun us s1 ⟨vs, H1, I1, r1, q1⟩ => ?_) hs rfl))
  obtain ⟨a, xs, ex, q⟩ := q1
  subst ex
  cases r1 with
  | cons r rr =>
    cases rr
    cases r
    have fp : ∀ b, b ∈ [s1.heap.objs.size + 1, s1.heap.objs.size] → s1.heap.objs.size ≤ b := fun b hb => by
      have e' : b = s1.heap.objs.size + 1 ∨ b = s1.heap.objs.size := by simpa using hb
      rcases e' with z | z
      · rw [z]; exact Nat.le_add_right _ _
      · rw [z]; exact Nat.le_refl _
    rcases q with ⟨hq, q⟩ | ⟨hq, q⟩
    · obtain ⟨its, rv, p', hz⟩ := I1.list hq
      refine call_enumerate_list p'.isList fun h' he hit hsz hk => wpAny_pyIter_enum he ?_
      have I2 : Inv X pins σ H1 { s1 with heap := h' } := I1.kept (t' := s1.toks) hk
      exact ⟨s1.heap.objs.size + 1, [s1.heap.objs.size + 1, s1.heap.objs.size], _, _, H1, rfl, I2, turn_enum a (s1.heap.objs.size + 1) s1.heap.objs.size, ⟨⟨.none, he⟩, hit, Nat.succ_ne_self _⟩, fun b hb => I1.fpOk (fp b hb) (I1.hok.fresh (fp b hb)), q⟩
    · obtain ⟨its, rv, p', hz⟩ := I1.tuple hq
      have p2 : s1.heap.IsTuple a its.toArray := p'
      have hlt : a < s1.heap.objs.size := by obtain ⟨o, ho, _⟩ := p2; exact Heap.lt_size ho
      refine call_enum1 (begins_tuple a its.toArray) p2 fun h' he hit hsz hk => wpAny_pyIter_enum he ?_
      have I2 : Inv X pins σ H1 { s1 with heap := h' } := I1.kept (t' := s1.toks) hk
      exact ⟨s1.heap.objs.size + 1, [s1.heap.objs.size + 1, s1.heap.objs.size], _, _, H1, rfl, I2, turn_enumT a (s1.heap.objs.size + 1) s1.heap.objs.size (Nat.ne_of_lt hlt) (Nat.ne_of_lt (Nat.lt_succ_of_lt hlt)), ⟨⟨.none, he⟩, ⟨_, hit, rfl, rfl⟩, Nat.succ_ne_self _⟩, fun b hb => I1.fpOk (fp b hb) (I1.hok.fresh (fp b hb)), q⟩
end D

set_option Elab.async false
set_option linter.all false
set_option maxRecDepth 100000
set_option maxHeartbeats 1000000
/-! Fd14: what a loop walks; for, while. -/
namespace D
open PySem PySem.Spec L2 PyProof.Rows

section
variable {F : Fx} {cx : String → Option Addr} {Wx : WX} {X : Cx} {a b c e : Expr} {es : List Expr} {pos p2 : Pos} {fa fb fc : Env → AH → Out RV} {fs fi : Env → AH → Out (List RV)}
variable {st : Stmt} {sts : List Stmt} {g u : Env → AH → SO}

/-- an item: a value, or (w) a pair that was just laid -/
def IRel (G : Gm) (K : PySem.W.Frag) (w : Bool) (μ : List Addr) (H : Hp) (W : Wr) (v : RV) (y : V) : Prop :=
  RRel G μ H W v y ∨ (w = true ∧ ∃ ys a vs, v = .pv (.tup ys) ∧ y = .ref a ∧ SqT K H a vs ∧ RRels G μ H W (ys.map .pv) vs)
/-- at most one thing more -/
def One (H H2 : Hp) : Prop := H2 = H ∨ ∃ T o, H T = none ∧ H2 = upd H T o
theorem One.grow {H H2 : Hp} {W : Wr} (o : One H H2) : Grow H W H2 W := by
  rcases o with rfl | ⟨T, o, hT, rfl⟩
  · exact .refl
  · exact .fresh hT
theorem One.ext {G : Gm} {μ : List Addr} {h : AH} {H H2 : Hp} (o : One H H2) : Ext G μ h H μ h H2 := by
  rcases o with rfl | ⟨T, o, hT, rfl⟩
  · exact .refl
  · exact .fresh hT
theorem One.rep {G : Gm} {lo : Nat} {h0 : AH} {μ : List Addr} {h : AH} {H H2 : Hp} (o : One H H2) (r : Rep G lo h0 μ h H) : Rep G lo h0 μ h H2 := by
  rcases o with rfl | ⟨T, o, hT, rfl⟩
  · exact r
  · exact r.fresh hT
/-- J walks the items xs -/
structure ItOk (G : Gm) (K : PySem.W.Frag) (w : Bool) (μ : List Addr) (H : Hp) (W : Wr) (J : L2.It) (xs : List RV) : Prop where
  turn : ∀ i x, xs[i]? = some x → ∀ μ' H' W', μ <+: μ' → Grow H W H' W' → J.go i H' ∧ ∀ y H2, J.yld i H' y H2 → One H' H2 ∧ IRel G K w μ' H2 W' x y
  stop : ∀ i, xs.length ≤ i → ∀ H' W', Grow H W H' W' → J.stop i H'
/-- an iterable's reading -/
def tI (F : Fx) (cx : String → Option Addr) (Wx : WX) (K : PySem.W.Frag) (w : Bool) (f : Env → AH → Out (List RV)) : TI := fun σ H R => ∃ μ ρ h, F.R μ h H ∧ F.s1 μ h H ρ σ ∧
  Fin F μ h H (f ρ h) (fun xs h' μ' H' => ∀ J, ItOk F.G K w μ' H' (wr F.G μ' h') J xs → R J H') (xK F cx Wx σ)
theorem pi_imp {tg iter : Expr} {t t' : TI} (h : PI X tg iter t) (i : ∀ σ H R, t' σ H R → t σ H R) : PI X tg iter t' := ⟨fun pins s σ H R I q => h.run pins s σ H R I (i σ H R q)⟩

/-! ### a list, a tuple, a text -/
theorem it_list {K : PySem.W.Frag} {μ : List Addr} {h : AH} {H : Hp} {xs : List PV} {ws : List V} {a : Addr} (rd : Rd H a (.lst ws)) (nw : ¬ wr F.G μ h a) (rs : PRels F.G H (wr F.G μ h) xs ws) : ItOk F.G K false μ H (wr F.G μ h) (Itl K a) (xs.map .pv) := by
  refine ⟨fun i x hx μ' H' W' p' g' => ?_, fun i hi H' W' g' => ?_⟩
  · have rd' := (g'.rd rd nw).1
    have rs' := (rs.grow g').toR (μ := μ')
    obtain ⟨y, ey, ry⟩ := rs'.get hx
    refine ⟨⟨ws, y, .inl rd', ey⟩, fun z H2 q => ?_⟩
    obtain ⟨rfl, q⟩ := q
    have := q ws (.inl rd')
    rw [ey] at this; cases this
    exact ⟨.inl rfl, .inl ry⟩
  · refine ⟨ws, .inl (g'.rd rd nw).1, ?_⟩
    have := rs.length
    simp only [List.length_map] at hi
    omega
theorem it_tup {K : PySem.W.Frag} {μ : List Addr} {h : AH} {H : Hp} {xs : List PV} {ws : List V} {a : Addr} (rd : TupAt H a ws) (nw : ¬ wr F.G μ h a) (rs : PRels F.G H (wr F.G μ h) xs ws) : ItOk F.G K false μ H (wr F.G μ h) (Itt K a) (xs.map .pv) := by
  refine ⟨fun i x hx μ' H' W' p' g' => ?_, fun i hi H' W' g' => ?_⟩
  · have rd' := (g'.tup rd nw).1.rd
    have rs' := (rs.grow g').toR (μ := μ')
    obtain ⟨y, ey, ry⟩ := rs'.get hx
    refine ⟨⟨ws, y, .inl rd', ey⟩, fun z H2 q => ?_⟩
    obtain ⟨rfl, q⟩ := q
    have := q ws (.inl rd')
    rw [ey] at this; cases this
    exact ⟨.inl rfl, .inl ry⟩
  · refine ⟨ws, .inl (g'.tup rd nw).1.rd, ?_⟩
    have := rs.length
    simp only [List.length_map] at hi
    omega
theorem it_str {K : PySem.W.Frag} {μ : List Addr} {h : AH} {H : Hp} {s : List Nat} (hs : okS s = true) : ItOk F.G K false μ H (wr F.G μ h) (Its (sOf s)) (s.map fun c => .pv (.str [c])) := by
  refine ⟨fun i x hx μ' H' W' p' g' => ?_, fun i hi H' W' g' => ?_⟩
  · rw [List.getElem?_map] at hx
    cases q : s[i]? with
    | none => rw [q] at hx; cases hx
    | some c =>
      rw [q] at hx; cases hx
      have hlt := (List.getElem?_eq_some_iff.mp q).1
      refine ⟨by show i < (sOf s).cps.size; simpa [sOf] using hlt, fun z H2 y => ?_⟩
      obtain ⟨rfl, d, hd, rfl⟩ := y
      have : d = c := by
        simp only [sOf] at hd
        rw [List.getElem?_toArray, q] at hd
        exact (Option.some.inj hd).symm
      subst this
      refine ⟨.inl rfl, .inl (.pv (.str [d] (okS_iff.mpr ⟨by simp [line], fun k hk => ?_⟩)))⟩
      simp only [List.mem_singleton] at hk
      subst hk
      exact (okS_iff.mp hs).2 _ (List.mem_of_getElem? q)
  · show (sOf s).cps.size ≤ i
    simpa [sOf] using hi
theorem PRelD.get {G : Gm} {H : Hp} {W : Wr} : ∀ {kvs : List (PV × PV)} {ks : List (Key × V)} {i : Nat} {k x : PV}, PRelD G H W kvs ks → kvs[i]? = some (k, x) → ∃ j v, ks[i]? = some (j, v) ∧ KRel k j ∧ PRel G H W x v
  | _, _, _, _, _, .nil, e => by simp at e
  | _, _, 0, _, _, .cons b r _, e => by simp at e; obtain ⟨rfl, rfl⟩ := e; exact ⟨_, _, rfl, b, r⟩
  | _, _, i + 1, k, x, .cons _ _ rs, e => by
    obtain ⟨j, v, h1, h2⟩ := PRelD.get (i := i) (k := k) (x := x) rs (by simpa using e)
    exact ⟨j, v, by simpa using h1, h2⟩
theorem PRelD.length {G : Gm} {H : Hp} {W : Wr} : ∀ {kvs : List (PV × PV)} {ks : List (Key × V)}, PRelD G H W kvs ks → kvs.length = ks.length
  | _, _, .nil => rfl
  | _, _, .cons _ _ rs => by simp [PRelD.length rs]
theorem KRel.rel' {G : Gm} {H : Hp} {W : Wr} {k : PV} {j : Key} (a : KRel k j) : PRel G H W k (kV j) := by
  cases a with
  | int i => exact .int i
  | str s h => exact .str s h
theorem it_keys {K : PySem.W.Frag} {μ : List Addr} {h : AH} {H : Hp} {kvs : List (PV × PV)} {ks : List (Key × V)} {d : Addr} {o : Obj} (rd : H d = some (.frz o (.dK ks))) (nw : ¬ wr F.G μ h d) (rs : PRelD F.G H (wr F.G μ h) kvs ks) :
    ItOk F.G K false μ H (wr F.G μ h) (Itk d o ks) (kvs.map fun p => .pv p.1) := by
  have hl := rs.length
  refine ⟨fun i x hx μ' H' W' p' g' => ?_, fun i hi H' W' g' => ⟨g'.kept _ _ rd nw, by simp only [List.length_map] at hi; omega⟩⟩
  rw [List.getElem?_map] at hx
  cases e : kvs[i]? with
  | none => rw [e] at hx; cases hx
  | some q =>
    obtain ⟨k, z⟩ := q
    rw [e] at hx; cases hx
    obtain ⟨j, v, e1, kr, _⟩ := rs.get e
    refine ⟨⟨g'.kept _ _ rd nw, (List.getElem?_eq_some_iff.mp e1).1⟩, fun y H2 q => ?_⟩
    obtain ⟨rfl, j', v', e2, rfl⟩ := q
    rw [e1] at e2; cases e2
    exact ⟨.inl rfl, .inl (.pv kr.rel')⟩
theorem it_vals {K : PySem.W.Frag} {μ : List Addr} {h : AH} {H : Hp} {kvs : List (PV × PV)} {ks : List (Key × V)} {d : Addr} {o : Obj} (rd : H d = some (.frz o (.dK ks))) (nw : ¬ wr F.G μ h d) (rs : PRelD F.G H (wr F.G μ h) kvs ks) :
    ItOk F.G K false μ H (wr F.G μ h) (Itd d o ks) (kvs.map fun p => .pv p.2) := by
  have hl := rs.length
  refine ⟨fun i x hx μ' H' W' p' g' => ?_, fun i hi H' W' g' => ⟨g'.kept _ _ rd nw, by simp only [List.length_map] at hi; omega⟩⟩
  rw [List.getElem?_map] at hx
  cases e : kvs[i]? with
  | none => rw [e] at hx; cases hx
  | some q =>
    obtain ⟨k, z⟩ := q
    rw [e] at hx; cases hx
    obtain ⟨j, v, e1, kr, rz⟩ := rs.get e
    refine ⟨⟨g'.kept _ _ rd nw, (List.getElem?_eq_some_iff.mp e1).1⟩, fun y H2 q => ?_⟩
    obtain ⟨rfl, j', e2⟩ := q
    rw [e1] at e2; cases e2
    exact ⟨.inl rfl, .inl (.pv (rz.grow g'))⟩
theorem it_itms {K : PySem.W.Frag} {μ : List Addr} {h : AH} {H : Hp} {kvs : List (PV × PV)} {ks : List (Key × V)} {d : Addr} {o : Obj} (rd : H d = some (.frz o (.dK ks))) (nw : ¬ wr F.G μ h d) (rs : PRelD F.G H (wr F.G μ h) kvs ks) :
    ItOk F.G K true μ H (wr F.G μ h) (Iti d o ks) (kvs.map fun p => .pv (.tup [p.1, p.2])) := by
  have hl := rs.length
  refine ⟨fun i x hx μ' H' W' p' g' => ?_, fun i hi H' W' g' => ⟨g'.kept _ _ rd nw, by simp only [List.length_map] at hi; omega⟩⟩
  rw [List.getElem?_map] at hx
  cases e : kvs[i]? with
  | none => rw [e] at hx; cases hx
  | some q =>
    obtain ⟨k, z⟩ := q
    rw [e] at hx; cases hx
    obtain ⟨j, v, e1, kr, rz⟩ := rs.get e
    refine ⟨⟨g'.kept _ _ rd nw, (List.getElem?_eq_some_iff.mp e1).1⟩, fun y H2 q => ?_⟩
    obtain ⟨T, j', v', e2, rfl, hT, rfl⟩ := q
    rw [e1] at e2; cases e2
    have g2 : Grow H' W' (upd H' T (.tup [kV j, v])) W' := .fresh hT
    exact ⟨.inr ⟨T, _, hT, rfl⟩, .inr ⟨rfl, _, T, _, rfl, rfl, .inl (.inl upd_same), .cons (.pv kr.rel') (.cons (.pv ((rz.grow g').grow g2)) .nil)⟩⟩
theorem i_itms {elts : List Expr} {kk : Nat} {tpos apos cpos : Pos} (ha : PE X a (tO F cx Wx fa)) (hbase : attributeBase a "items" X.env (eval a X.env) = eval a X.env) (hline : (apos.endLine == cpos.line) = true) :
    PI X (.Tuple elts kk tpos) (.Call (.Attribute a "items" apos) [] [] cpos) (tI F cx Wx X.K true fun ρ h => (fa ρ h).bind itmsO) := pi_imp (pi_items ha hbase hline) fun σ H R t => by
  obtain ⟨μ, ρ, h, r, s, f⟩ := t
  refine ⟨μ, ρ, h, r, s, Fin.mono (Fin.bind f) (fun v h1 μ1 H1 e1 r1 z x rx => ?_) fun _ _ _ _ _ _ z => z⟩
  unfold itmsO at z
  split at z
  · cases rx with
    | pv rx => cases rx with
      | dct rd nw rs => exact ⟨_, _, _, rfl, rd, Fin.here z r1 _ (it_itms rd nw rs)⟩
  · exact z.elim
theorem i_vals {tg : Expr} {apos cpos : Pos} (ha : PE X a (tO F cx Wx fa)) (hbase : attributeBase a "values" X.env (eval a X.env) = eval a X.env) (hline : (apos.endLine == cpos.line) = true) :
    PI X tg (.Call (.Attribute a "values" apos) [] [] cpos) (tI F cx Wx X.K false fun ρ h => (fa ρ h).bind valsO) := pi_imp (pi_values ha hbase hline) fun σ H R t => by
  obtain ⟨μ, ρ, h, r, s, f⟩ := t
  refine ⟨μ, ρ, h, r, s, Fin.mono (Fin.bind f) (fun v h1 μ1 H1 e1 r1 z x rx => ?_) fun _ _ _ _ _ _ z => z⟩
  unfold valsO at z
  split at z
  · cases rx with
    | pv rx => cases rx with
      | dct rd nw rs => exact ⟨_, _, _, rfl, rd, Fin.here z r1 _ (it_vals rd nw rs)⟩
  · exact z.elim
theorem i_seq {tg : Expr} (ha : PE X a (tO F cx Wx fa)) : PI X tg a (tI F cx Wx X.K false fun ρ h => (fa ρ h).bind itmO) := by
  refine ⟨fun pins s σ H R I t => ?_⟩
  have q : tO F cx Wx fa σ H fun x H1 => ∃ μ h v xs, F.R μ h H1 ∧ F.v1 μ h H1 v x ∧ itemsR v = some xs ∧ ∀ J, ItOk F.G X.K false μ H1 (wr F.G μ h) J xs → R J H1 := by
    obtain ⟨μ, ρ, h, r, s, f⟩ := t
    refine ⟨μ, ρ, h, r, s, Fin.mono (Fin.bind f) (fun v h1 μ1 H1 e1 r1 z x rx => ?_) fun _ _ _ _ _ _ z => z⟩
    unfold itmO at z
    cases e : itemsR v with
    | none => rw [e] at z; exact z.elim
    | some xs => rw [e] at z; exact ⟨μ1, h1, v, xs, r1, rx, e, Fin.here z r1⟩
  refine thn (ha.run pins s σ H _ I q) fun v s1 ⟨x, H1, I1, r1, μ, h, w, xs, r, rv, e, k⟩ => ?_
  unfold itemsR at e
  split at e
  · cases e
    cases rv with
    | pv rv => cases rv with
      | lst rd nw hl rs =>
        rename_i p ws
        cases r1
        obtain ⟨its, rr, pl, hz⟩ := I1.list (.inl rd)
        refine wpAny_pyIter_list pl.isList ?_
        refine ⟨s1.heap.objs.size, [s1.heap.objs.size], _, _, H1, rfl, I1.kept (t' := s1.toks) fun b o e => Heap.get?_push_of_some _ e, turn_list p _, ⟨_, Heap.get?_push_size _ rfl, rfl, rfl⟩, fun b hb => ?_, k _ (it_list rd nw rs)⟩
        have e : b = s1.heap.objs.size := by simpa using hb
        subst e
        exact I1.fpOk (Nat.le_refl _) (I1.hok.fresh (Nat.le_refl _))
  · cases e
    cases rv with
    | pv rv => cases rv with
      | tup rd nw hl rs =>
        rename_i p ws
        cases r1
        obtain ⟨its, rr, pl, hz⟩ := I1.tuple (.inl rd.rd)
        refine wpAny_pyIter_tuple (show s1.heap.IsTuple p its.toArray from pl) ?_
        refine ⟨s1.heap.objs.size, [s1.heap.objs.size], _, _, H1, rfl, I1.kept (t' := s1.toks) fun b o e => Heap.get?_push_of_some _ e, turn_tuple p _, ⟨_, Heap.get?_push_size _ rfl, rfl, rfl⟩, fun b hb => ?_, k _ (it_tup rd nw rs)⟩
        have e : b = s1.heap.objs.size := by simpa using hb
        subst e
        exact I1.fpOk (Nat.le_refl _) (I1.hok.fresh (Nat.le_refl _))
  · rename_i z
    cases e
    obtain ⟨rfl, hs⟩ := rv.str_inv
    obtain ⟨t, rfl⟩ := r1
    cases ha : (sOf z).cps.all (· < 128)
    · exact wpAny_pyIter_wide ha (pi_one (tk := s1.toks) I1 _ (turn_str _ (sOf z) t "str_iterator" (.inr rfl)) ⟨_, Heap.get?_push_size _ rfl, rfl, rfl⟩ (k _ (it_str hs)))
    · exact wpAny_pyIter_ascii ha (pi_one (tk := s1.toks) I1 _ (turn_str _ (sOf z) t "str_ascii_iterator" (.inl rfl)) ⟨_, Heap.get?_push_size _ rfl, rfl, rfl⟩ (k _ (it_str hs)))
  · cases e
    cases rv with
    | pv rv => cases rv with
      | dct rd nw rs =>
        rename_i d o ks
        cases r1
        obtain ⟨hs, hgd, hx, es, ep, vs, hdt, hsz, kv, hm⟩ := I1.frzK rd
        refine iter_keys hs hgd hx hdt (pi_one (tk := s1.toks) I1 _ (turn_keys _ hdt) ⟨_, Heap.get?_push_size _ rfl, rfl, ?_⟩ (k _ (it_keys rd nw rs)))
        rw [hsz] <;> rfl
  · cases e

/-! ### ranges -/
theorem it_rng {K : PySem.W.Frag} {μ : List Addr} {h : AH} {H : Hp} (i j : Int) : ItOk F.G K false μ H (wr F.G μ h) (Itr i (j - i).toNat) (rngL i j) := by
  refine ⟨fun k x hx μ' H' W' p' g' => ?_, fun k hk H' W' g' => ?_⟩
  · have hlt := (List.getElem?_eq_some_iff.mp hx).1
    rw [rngL_len] at hlt
    refine ⟨hlt, fun y H2 q => ?_⟩
    obtain ⟨rfl, rfl⟩ := q
    unfold rngL at hx
    rw [List.getElem?_map, List.getElem?_range hlt] at hx
    cases hx
    exact ⟨.inl rfl, .inl (.pv (.int _))⟩
  · rw [rngL_len] at hk
    exact hk
theorem i_rng1 {tg : Expr} {p : Pos} (hr : Bn X "range" (.type "range")) (ha : PE X a (tO F cx Wx fa)) (hs : notStar a = true) :
    PI X tg (.Call (.Name "range" p) [a] [] pos) (tI F cx Wx X.K false fun ρ h => (consO fa (fun _ h => .ok [] h) ρ h).bind rngR) := pi_imp (pi_range1 hr.1 hr.2.1 (pa_cons ha pa_nil (star_cons hs)) (star_cons hs)) fun σ H R t => by
  obtain ⟨μ, ρ, h, r, s, f⟩ := t
  simp only [consO, Out.bind_assoc, Out.bind_ok] at f
  refine ⟨μ, ρ, h, r, s, Fin.mono (Fin.bind f) (fun v h1 μ1 H1 e1 r1 z x rx => ?_) fun _ _ _ _ _ _ z => z⟩
  unfold rngR at z
  split at z
  · rename_i j heq
    cases heq
    obtain rfl := rx.int_inv
    split at z
    · rename_i hj
      refine ⟨j, rfl, (rngOk_iff.mp hj).1, (rngOk_iff.mp hj).2, ?_⟩
      have := z.here r1 _ (it_rng 0 j)
      simpa using this
    · exact z.elim
  · rename_i heq
    cases heq
  · exact z.elim
theorem i_rng2 {tg : Expr} {p : Pos} (hr : Bn X "range" (.type "range")) (ha : PE X a (tO F cx Wx fa)) (hb : PE X b (tO F cx Wx fb)) (hs : notStar a = true) (hs2 : notStar b = true) :
    PI X tg (.Call (.Name "range" p) [a, b] [] pos) (tI F cx Wx X.K false fun ρ h => (consO fa (consO fb (fun _ h => .ok [] h)) ρ h).bind rngR) :=
  pi_imp (pi_range2 hr.1 hr.2.1 (pa_cons ha (pa_cons hb pa_nil (star_cons hs2)) (star_cons hs)) (by rw [star_cons hs, star_cons hs2]; rfl) (star_cons hs2)) fun σ H R t => by
  obtain ⟨μ, ρ, h, r, s, f⟩ := t
  simp only [consO, Out.bind_assoc, Out.bind_ok] at f
  refine ⟨μ, ρ, h, r, s, Fin.mono (Fin.bind f) (fun v h1 μ1 H1 e1 r1 z x rx => ?_) fun _ _ _ _ _ _ z => z⟩
  refine ⟨μ1, ρ, h1, r1, s.grow e1.grow e1.pre, Fin.mono (Fin.bind z) (fun w h2 μ2 H2 e2 r2 z2 y ry => ?_) fun _ _ _ _ _ _ z => z⟩
  unfold rngR at z2
  split at z2
  · rename_i heq
    cases heq
  · rename_i i j heq
    cases heq
    obtain rfl := rx.int_inv
    obtain rfl := ry.int_inv
    split at z2
    · rename_i hk
      simp only [Bool.and_eq_true] at hk
      have a := rngOk_iff.mp hk.1
      have b := rngOk_iff.mp hk.2
      exact ⟨i, j, rfl, ⟨a.1, a.2, b.1, b.2⟩, z2.here r2 _ (it_rng i j)⟩
    · exact z2.elim
  · exact z2.elim

/-! ### enumerate, zip -/
theorem enumP_get : ∀ {xs : List PV} {k i : Nat} {x : RV}, (enumP k xs)[i]? = some x → ∃ v, xs[i]? = some v ∧ x = .pv (.tup [.int ((k + i : Nat) : Int), v])
  | [], k, i, x, h => by simp [enumP] at h
  | v :: r, k, 0, x, h => by simp [enumP] at h; exact ⟨v, rfl, by simpa using h.symm⟩
  | v :: r, k, i + 1, x, h => by
    simp only [enumP, List.getElem?_cons_succ] at h
    obtain ⟨w, h1, h2⟩ := enumP_get h
    refine ⟨w, by simpa using h1, ?_⟩
    rw [h2]
    have : k + 1 + i = k + (i + 1) := by omega
    rw [this]
theorem enumP_len : ∀ (xs : List PV) (k : Nat), (enumP k xs).length = xs.length
  | [], _ => rfl
  | _ :: r, k => by simp [enumP, enumP_len r]
theorem zipP_get : ∀ {xs ys : List PV} {i : Nat} {x : RV}, (zipP xs ys)[i]? = some x → ∃ v w, xs[i]? = some v ∧ ys[i]? = some w ∧ x = .pv (.tup [v, w])
  | [], _, i, x, h => by simp [zipP] at h
  | _ :: _, [], i, x, h => by simp [zipP] at h
  | v :: r, w :: q, 0, x, h => by simp [zipP] at h; exact ⟨v, w, rfl, rfl, h.symm⟩
  | v :: r, w :: q, i + 1, x, h => by
    simp only [zipP, List.getElem?_cons_succ] at h
    obtain ⟨a, b, h1, h2, h3⟩ := zipP_get h
    exact ⟨a, b, by simpa using h1, by simpa using h2, h3⟩
theorem zipP_len : ∀ (xs ys : List PV), (zipP xs ys).length = min xs.length ys.length
  | [], ys => by simp [zipP]
  | _ :: _, [] => by simp [zipP]
  | _ :: r, _ :: q => by simp [zipP, zipP_len r q, Nat.add_min_add_right]
theorem it_enum {K : PySem.W.Frag} {μ : List Addr} {h : AH} {H : Hp} {xs : List PV} {ws : List V} {a : Addr} (rd : Rd H a (.lst ws)) (nw : ¬ wr F.G μ h a) (rs : PRels F.G H (wr F.G μ h) xs ws) : ItOk F.G K true μ H (wr F.G μ h) (Ite K a) (enumP 0 xs) := by
  refine ⟨fun i x hx μ' H' W' p' g' => ?_, fun i hi H' W' g' => ?_⟩
  · obtain ⟨v, hv, rfl⟩ := enumP_get hx
    have rd' := (g'.rd rd nw).1
    have rs' := rs.grow g'
    obtain ⟨y, ey, ry⟩ := rs'.get hv
    refine ⟨⟨ws, y, .inl rd', ey⟩, fun z H2 q => ?_⟩
    obtain ⟨T, y', rfl, hT, rfl, q⟩ := q
    have := q ws (.inl rd')
    rw [ey] at this; cases this
    have g2 : Grow H' W' (upd H' T (.tup [.int (i : Nat), y])) W' := .fresh hT
    refine ⟨.inr ⟨T, _, hT, rfl⟩, .inr ⟨rfl, _, T, _, rfl, rfl, .inl (.inl upd_same), ?_⟩⟩
    simp only [Nat.zero_add]
    exact .cons (.pv (.int _)) (.cons (.pv (ry.grow g2)) .nil)
  · refine ⟨ws, .inl (g'.rd rd nw).1, ?_⟩
    have := rs.length
    rw [enumP_len] at hi
    omega
theorem it_enumT {K : PySem.W.Frag} {μ : List Addr} {h : AH} {H : Hp} {xs : List PV} {ws : List V} {a : Addr} (rd : TupAt H a ws) (nw : ¬ wr F.G μ h a) (rs : PRels F.G H (wr F.G μ h) xs ws) : ItOk F.G K true μ H (wr F.G μ h) (IteT K a) (enumP 0 xs) := by
  refine ⟨fun i x hx μ' H' W' p' g' => ?_, fun i hi H' W' g' => ?_⟩
  · obtain ⟨v, hv, rfl⟩ := enumP_get hx
    have rd' := (g'.tup rd nw).1.rd
    have rs' := rs.grow g'
    obtain ⟨y, ey, ry⟩ := rs'.get hv
    refine ⟨⟨ws, y, .inl rd', ey⟩, fun z H2 q => ?_⟩
    obtain ⟨T, y', rfl, hT, rfl, q⟩ := q
    have := q ws (.inl rd')
    rw [ey] at this; cases this
    have g2 : Grow H' W' (upd H' T (.tup [.int (i : Nat), y])) W' := .fresh hT
    refine ⟨.inr ⟨T, _, hT, rfl⟩, .inr ⟨rfl, _, T, _, rfl, rfl, .inl (.inl upd_same), ?_⟩⟩
    simp only [Nat.zero_add]
    exact .cons (.pv (.int _)) (.cons (.pv (ry.grow g2)) .nil)
  · refine ⟨ws, .inl (g'.tup rd nw).1.rd, ?_⟩
    have := rs.length
    rw [enumP_len] at hi
    omega
theorem it_zipL {K : PySem.W.Frag} {μ : List Addr} {h : AH} {H : Hp} {xs ys : List PV} {ws vs : List V} {a b : Addr} (rd : Rd H a (.lst ws)) (nw : ¬ wr F.G μ h a) (rs : PRels F.G H (wr F.G μ h) xs ws) (rd2 : Rd H b (.lst vs)) (nw2 : ¬ wr F.G μ h b) (rs2 : PRels F.G H (wr F.G μ h) ys vs) :
    ItOk F.G K true μ H (wr F.G μ h) (Itz K a b) (zipP xs ys) := by
  refine ⟨fun i x hx μ' H' W' p' g' => ?_, fun i hi H' W' g' => ?_⟩
  · obtain ⟨v, w, hv, hw, rfl⟩ := zipP_get hx
    have rd' := (g'.rd rd nw).1
    have rd2' := (g'.rd rd2 nw2).1
    obtain ⟨y, ey, ry⟩ := (rs.grow g').get hv
    obtain ⟨y2, ey2, ry2⟩ := (rs2.grow g').get hw
    refine ⟨⟨ws, vs, y, y2, .inl rd', .inl rd2', ey, ey2⟩, fun z H2 q => ?_⟩
    obtain ⟨T, y', y2', rfl, hT, rfl, q, q2⟩ := q
    have := q ws (.inl rd')
    rw [ey] at this; cases this
    have := q2 vs (.inl rd2')
    rw [ey2] at this; cases this
    have g2 : Grow H' W' (upd H' T (.tup [y, y2])) W' := .fresh hT
    exact ⟨.inr ⟨T, _, hT, rfl⟩, .inr ⟨rfl, _, T, _, rfl, rfl, .inl (.inl upd_same), .cons (.pv (ry.grow g2)) (.cons (.pv (ry2.grow g2)) .nil)⟩⟩
  · refine ⟨ws, vs, .inl (g'.rd rd nw).1, .inl (g'.rd rd2 nw2).1, ?_⟩
    have := rs.length
    have := rs2.length
    rw [zipP_len] at hi
    omega
theorem it_zipT {K : PySem.W.Frag} {μ : List Addr} {h : AH} {H : Hp} {xs ys : List PV} {ws vs : List V} {a b : Addr} (rd : TupAt H a ws) (nw : ¬ wr F.G μ h a) (rs : PRels F.G H (wr F.G μ h) xs ws) (rd2 : TupAt H b vs) (nw2 : ¬ wr F.G μ h b) (rs2 : PRels F.G H (wr F.G μ h) ys vs) :
    ItOk F.G K true μ H (wr F.G μ h) (RZ.ItzT K a b) (zipP xs ys) := by
  refine ⟨fun i x hx μ' H' W' p' g' => ?_, fun i hi H' W' g' => ?_⟩
  · obtain ⟨v, w, hv, hw, rfl⟩ := zipP_get hx
    have rd' := (g'.tup rd nw).1.rd
    have rd2' := (g'.tup rd2 nw2).1.rd
    obtain ⟨y, ey, ry⟩ := (rs.grow g').get hv
    obtain ⟨y2, ey2, ry2⟩ := (rs2.grow g').get hw
    refine ⟨⟨ws, vs, y, y2, .inl rd', .inl rd2', ey, ey2⟩, fun z H2 q => ?_⟩
    obtain ⟨T, y', y2', rfl, hT, rfl, q, q2⟩ := q
    have := q ws (.inl rd')
    rw [ey] at this; cases this
    have := q2 vs (.inl rd2')
    rw [ey2] at this; cases this
    have g2 : Grow H' W' (upd H' T (.tup [y, y2])) W' := .fresh hT
    exact ⟨.inr ⟨T, _, hT, rfl⟩, .inr ⟨rfl, _, T, _, rfl, rfl, .inl (.inl upd_same), .cons (.pv (ry.grow g2)) (.cons (.pv (ry2.grow g2)) .nil)⟩⟩
  · refine ⟨ws, vs, .inl (g'.tup rd nw).1.rd, .inl (g'.tup rd2 nw2).1.rd, ?_⟩
    have := rs.length
    have := rs2.length
    rw [zipP_len] at hi
    omega
theorem i_enm {elts : List Expr} {kk : Nat} {tpos p : Pos} (hr : Bn X "enumerate" (.type "enumerate")) (ha : PE X a (tO F cx Wx fa)) (hs : notStar a = true) :
    PI X (.Tuple elts kk tpos) (.Call (.Name "enumerate" p) [a] [] pos) (tI F cx Wx X.K true fun ρ h => (fa ρ h).bind fun x h1 => optO (enmR x) h1) := pi_imp (pi_enumA hr.1 hr.2.1 (pa_cons ha pa_nil (star_cons hs)) (star_cons hs)) fun σ H R t => by
  obtain ⟨μ, ρ, h, r, s, f⟩ := t
  refine ⟨μ, ρ, h, r, s, Fin.mono (Fin.bind f) (fun v h1 μ1 H1 e1 r1 z x rx => ?_) fun _ _ _ _ _ _ z => z⟩
  unfold enmR at z
  split at z
  · cases rx with
    | pv rx => cases rx with
      | lst rd nw hl rs =>
        exact ⟨_, _, rfl, .inl ⟨.inl rd, Fin.here z r1 _ (it_enum rd nw rs)⟩⟩
  · cases rx with
    | pv rx => cases rx with
      | tup rd nw hl rs =>
        exact ⟨_, _, rfl, .inr ⟨.inl rd.rd, Fin.here z r1 _ (it_enumT rd nw rs)⟩⟩
  · exact z.elim
theorem i_zip {elts : List Expr} {kk : Nat} {tpos p : Pos} (hr : Bn X "zip" (.type "zip")) (ha : PE X a (tO F cx Wx fa)) (hb : PE X b (tO F cx Wx fb)) (hs : notStar a = true) (hs2 : notStar b = true) :
    PI X (.Tuple elts kk tpos) (.Call (.Name "zip" p) [a, b] [] pos) (tI F cx Wx X.K true fun ρ h => (fa ρ h).bind fun x h1 => (fb ρ h1).bind fun y h2 => optO (zipR x y) h2) :=
  pi_imp (RZ.pi_zipA hr.1 hr.2.1 (pa_cons ha (pa_cons hb pa_nil (star_cons hs2)) (star_cons hs)) (star_cons hs) (by rw [star_cons hs2]; rfl)) fun σ H R t => by
  obtain ⟨μ, ρ, h, r, s, f⟩ := t
  refine ⟨μ, ρ, h, r, s, Fin.mono (Fin.bind f) (fun v h1 μ1 H1 e1 r1 z x rx => ?_) fun _ _ _ _ _ _ z => z⟩
  refine ⟨μ1, ρ, h1, r1, s.grow e1.grow e1.pre, Fin.mono (Fin.bind z) (fun w h2 μ2 H2 e2 r2 z2 y ry => ?_) fun _ _ _ _ _ _ z => z⟩
  have rx2 := rx.grow e2.grow e2.pre
  unfold zipR at z2
  split at z2
  · cases rx2 with
    | pv rx => cases rx with
      | lst rd nw hl rs =>
        cases ry with
        | pv ry => cases ry with
          | lst rd2 nw2 hl2 rs2 =>
            exact ⟨_, _, _, _, rfl, .inl ⟨.inl rd, .inl rd2, Fin.here z2 r2 _ (it_zipL rd nw rs rd2 nw2 rs2)⟩⟩
  · cases rx2 with
    | pv rx => cases rx with
      | tup rd nw hl rs =>
        cases ry with
        | pv ry => cases ry with
          | tup rd2 nw2 hl2 rs2 =>
            exact ⟨_, _, _, _, rfl, .inr ⟨.inl rd.rd, .inl rd2.rd, Fin.here z2 r2 _ (it_zipT rd nw rs rd2 nw2 rs2)⟩⟩
  · exact z2.elim

/-! ### targets of items -/
def tGi (F : Fx) (K : PySem.W.Frag) (w : Bool) (t : T) : TG := fun x σ H Q => ∃ μ ρ h v ρ', F.R μ h H ∧ F.s1 μ h H ρ σ ∧ IRel F.G K w μ H (wr F.G μ h) v x ∧ t.put ρ v = some ρ' ∧ ∀ σ', F.s1 μ h H ρ' σ' → L2.wipe σ' t.slots = L2.wipe σ t.slots → Q σ' H
theorem wipe_set {σ : L2.St} {i : Nat} {x : Option V} : ∀ {vs : List Nat}, i ∈ vs → L2.wipe (σ.set i x) vs = L2.wipe σ vs := by
  intro vs
  have cm : ∀ (vs : List Nat) (σ : L2.St) (j : Nat) (y : Option V), L2.wipe (σ.set j none) vs = (L2.wipe σ vs).set j none := by
    intro vs
    induction vs with
    | nil => intro σ j y; rfl
    | cons v vs ih =>
      intro σ j y
      simp only [L2.wipe]
      rw [ih σ j y]
      by_cases h : v = j
      · subst h; rfl
      · rw [List.set_comm _ _ h]
  have cm2 : ∀ (vs : List Nat) (σ : L2.St), i ∉ vs → L2.wipe (σ.set i x) vs = (L2.wipe σ vs).set i x := by
    intro vs
    induction vs with
    | nil => intro σ _; rfl
    | cons v vs ih =>
      intro σ h
      simp only [List.mem_cons, not_or] at h
      simp only [L2.wipe]
      rw [ih σ h.2, List.set_comm _ _ (Ne.symm h.1)]
  induction vs with
  | nil => intro h; cases h
  | cons v vs ih =>
    intro h
    simp only [L2.wipe]
    by_cases hv : i ∈ vs
    · rw [ih hv]
    · have : i = v := by
        rcases List.mem_cons.mp h with h | h
        · exact h
        · exact absurd h hv
      subst this
      rw [cm2 vs σ hv, List.set_set]
theorem gi_nm {i : Nat} {x : Str} (n : NmOk X i x) : PG X (.Name x pos) (tGi F X.K false (.nm i)) := ⟨fun pins s σ H v u Q I r q => (pg_name n.hN n.hi n.hx n.hf).run pins s σ H v u Q I r (by
  obtain ⟨μ, ρ, h, w, ρ', r, s, rv, e, k⟩ := q
  rcases rv with rv | ⟨z, _⟩
  · simp only [T.put, Option.some.injEq] at e
    subst e
    exact k _ (s.set rv i) (wipe_set (by simp [T.slots]))
  · cases z)⟩
theorem names_putW {vs0 : List Nat} {μ : List Addr} {h : AH} {H : Hp} : ∀ {is : List Nat} {ρ ρ' : Env} {σ : L2.St} {xs : List RV} {vs : List V} {Q : L2.St → Hp → Prop}, (∀ i ∈ is, i ∈ vs0) → F.s1 μ h H ρ σ → F.v2 μ h H xs vs → setAll ρ is xs = some ρ' →
    (∀ σ', F.s1 μ h H ρ' σ' → L2.wipe σ' vs0 = L2.wipe σ vs0 → Q σ' H) → gNames is vs σ H Q
  | [], ρ, ρ', σ, xs, vs, Q, _, s, rv, e, k => by
    cases rv with
    | nil => simp only [setAll, Option.some.injEq] at e; subst e; exact ⟨rfl, k _ s rfl⟩
    | cons _ _ => simp [setAll] at e
  | i :: is, ρ, ρ', σ, xs, vs, Q, hs, s, rv, e, k => by
    cases rv with
    | nil => simp [setAll] at e
    | cons a b =>
      simp only [setAll] at e
      refine ⟨_, _, rfl, names_putW (fun j hj => hs j (List.mem_cons_of_mem _ hj)) (s.set a i) b e fun σ' s' w => k σ' s' (w.trans (wipe_set (hs i List.mem_cons_self)))⟩
theorem setAll_len : ∀ {is : List Nat} {ρ ρ' : Env} {ys : List RV}, setAll ρ is ys = some ρ' → ys.length = is.length
  | [], ρ, ρ', ys, e => by
    cases ys with
    | nil => rfl
    | cons _ _ => simp [setAll] at e
  | i :: is, ρ, ρ', ys, e => by
    cases ys with
    | nil => simp [setAll] at e
    | cons _ _ => simp only [setAll] at e; simp [setAll_len e]
theorem gi_tp {w : Bool} {is : List Nat} {es : List Expr} {k : Nat} (hc : X.calm = true) (n : NmsOk X is es) : PG X (.Tuple es k pos) (tGi F X.K w (.tp is)) :=
  ⟨fun pins s σ H v u Q I r q => (pg_tup hc n.pgs n.len.1 n.len.2).run pins s σ H v u Q I r (by
    obtain ⟨μ, ρ, h, x, ρ', r', s', rv, e, k⟩ := q
    have tp : ∃ ys a vs, x = .pv (.tup ys) ∧ v = .ref a ∧ SqT X.K H a vs ∧ F.v2 μ h H (ys.map .pv) vs := by
      rcases rv with rv | ⟨_, q⟩
      · simp only [T.put] at e
        split at e
        · rename_i xs
          cases rv with
          | pv rv => cases rv with
            | tup rd _ hl rs => exact ⟨_, _, _, rfl, rfl, .inl rd.rd, rs.toR⟩
        · cases e
      · exact q
    obtain ⟨ys, a, vs, rfl, rfl, sq, rs⟩ := tp
    have h1 := rs.length
    have h2 := setAll_len (show setAll ρ is (ys.map .pv) = some ρ' from e)
    exact ⟨a, vs, rfl, sq, by omega, names_putW (vs0 := is) (fun _ h => h) s' rs e k⟩)⟩

/-! ### for -/
theorem FinS.turnN {μ : List Addr} {h : AH} {H : Hp} {o : SO} {k : Env → AH → SO} {D : Ends} {N : L2.St → Hp → Prop} (x : FinS F cx Wx μ h H (o.turn k) D)
    (n : ∀ μ' ρ h' H' σ', F.E μ h H μ' h' H' → F.R μ' h' H' → F.s1 μ' h' H' ρ σ' → FinS F cx Wx μ' h' H' (k ρ h') D → N σ' H') : FinS F cx Wx μ h H o { D with nx := N, ct := N, bk := D.nx } := by
  cases o with
  | ok f h1 =>
    cases f with
    | nxt ρ =>
      intro μ1 H1 e1 r1 σ s
      exact n μ1 ρ h1 H1 σ e1 r1 s (FinS.from e1 x)
    | ret v => exact x
    | brk ρ => exact x
    | cnt ρ =>
      intro μ1 H1 e1 r1 σ s
      exact n μ1 ρ h1 H1 σ e1 r1 s (FinS.from e1 x)
  | exc e ρ h1 => exact x
  | bad => exact x
def forO (t : T) (fi : Env → AH → Out (List RV)) (g : Env → AH → SO) : Env → AH → SO := fun ρ h => SO.ofE ρ (fi ρ h) fun xs h1 => forL t g xs ρ h1
theorem s_for {tg iter : Expr} {t : T} {w : Bool} {body : List Stmt} (hp : PassesOwn (model X.prog X.w) X.A X.env X.xe) (hc : X.calm = true) (hi : PI X tg iter (tI F cx Wx X.K w fi)) (hg : PG X tg (tGi F X.K w t)) (hb : PSs X body (tS F cx Wx g))
    (hs : ∀ x, foldedSetIterable iter X.env x = pure x) : PS X (.For tg iter body [] pos) (tS F cx Wx (forO t fi g)) := ps_imp (ps_for hp hc hi hg hb hs) fun D σ H q => by
  obtain ⟨μ, ρ, h, r, s, f⟩ := q
  refine ⟨μ, ρ, h, r, s, (FinS.ofE s f).mono (fun xs h1 μ1 H1 e1 r1 z J hJ => ?_) fun _ _ _ _ _ _ z => z⟩
  refine ⟨fun i m σ H => ∃ μ' ρ' h', F.E μ1 h1 H1 μ' h' H ∧ F.R μ' h' H ∧ F.s1 μ' h' H ρ' σ ∧ m = xs.length - i ∧ FinS F cx Wx μ' h' H (forL t g (xs.drop i) ρ' h') D,
    ⟨xs.length, μ1, ρ, h1, .refl, r1, s.grow e1.grow e1.pre, by simp, by simpa using z⟩, fun i m σ2 H2 w => ?_⟩
  obtain ⟨μ2, ρ2, h2, e2, r2, s2, hm, f2⟩ := w
  by_cases hi : i < xs.length
  · refine .inr ?_
    have hx : xs[i]? = some xs[i] := List.getElem?_eq_getElem hi
    obtain ⟨go, yl⟩ := hJ.turn i _ hx μ2 H2 _ e2.pre e2.grow
    refine ⟨go, fun σ' H' => ∃ μ' ρ' h', F.E μ1 h1 H1 μ' h' H' ∧ F.R μ' h' H' ∧ F.s1 μ' h' H' ρ' σ' ∧ FinS F cx Wx μ' h' H' (forL t g (xs.drop (i + 1)) ρ' h') D, fun σ' H' n => ?_, fun y H3 hy => ?_⟩
    · obtain ⟨μ', ρ', h', a1, a2, a3, a4⟩ := n
      exact ⟨xs.length - (i + 1), by omega, μ', ρ', h', a1, a2, a3, rfl, a4⟩
    · obtain ⟨on, ry⟩ := yl y H3 hy
      have e3 : F.E μ2 h2 H2 μ2 h2 H3 := on.ext
      have r3 : F.R μ2 h2 H3 := on.rep r2
      have f3 := FinS.from e3 f2
      rw [List.drop_eq_getElem_cons hi] at f3
      simp only [forL] at f3
      cases ep : t.put ρ2 xs[i] with
      | none => rw [ep] at f3; exact f3.elim
      | some ρ3 =>
        rw [ep] at f3
        simp only [optO_some, SO.ofE_ok] at f3
        refine ⟨μ2, ρ2, h2, xs[i], ρ3, r3, s2.grow e3.grow e3.pre, ry, ep, fun σ4 s4 _ => ?_⟩
        refine ⟨μ2, ρ3, h2, r3, s4, FinS.turnN f3 fun μ' ρ' h' H' σ' a1 a2 a3 a4 => ?_⟩
        exact ⟨μ', ρ', h', (e2.trans e3).trans a1, a2, a3, a4⟩
  · refine .inl ⟨hJ.stop i (by omega) H2 _ e2.grow, ?_⟩
    rw [List.drop_of_length_le (by omega)] at f2
    exact FinS.ok_nx f2 .refl r2 s2

/-! ### while -/
theorem s_whl {c : Expr} {body : List Stmt} {n : Nat} (hp : PassesOwn (model X.prog X.w) X.A X.env X.xe) (hc : PT X c (tOb F cx Wx (tru fc))) (hb : PSs X body (tS F cx Wx g)) :
    PS X (.While c body [] pos) (tS F cx Wx fun ρ h => whlL (tru fc) g n ρ h) := ps_imp (ps_while hp hc hb) fun D σ H q => by
  refine ⟨fun m σ H => tS F cx Wx (fun ρ h => whlL (tru fc) g m ρ h) D σ H, ⟨n, q⟩, fun m σ2 H2 w => ?_⟩
  obtain ⟨μ, ρ, h, r, s, f⟩ := w
  cases m with
  | zero => exact f.elim
  | succ m =>
    refine ⟨μ, ρ, h, r, s, (FinS.ofE s f).mono (fun b h1 μ1 H1 e1 r1 z => ?_) fun _ _ _ _ _ _ z => z⟩
    have s1 := s.grow e1.grow e1.pre
    show if b = true then _ else _
    cases b with
    | true =>
      simp only [if_true] at z ⊢
      refine ⟨tS F cx Wx (fun ρ h => whlL (tru fc) g m ρ h) D, fun σ' H' n => ⟨m, Nat.lt_succ_self _, n⟩, ?_⟩
      exact ⟨μ1, ρ, h1, r1, s1, FinS.turn z⟩
    | false =>
      simp only [Bool.false_eq_true, if_false] at z ⊢
      exact FinS.ok_nx z .refl r1 s1
end
end D

set_option Elab.async false
set_option linter.all false
set_option maxRecDepth 100000
set_option maxHeartbeats 1000000
/-! Fd15: raise, try. -/
namespace D
open PySem PySem.Spec L2 PyProof.Rows

section
variable {F : Fx} {cx : String → Option Addr} {Wx : WX} {X : Cx} {a b c e : Expr} {es : List Expr} {pos p2 : Pos} {fa fb fc : Env → AH → Out RV} {fs fi : Env → AH → Out (List RV)}
variable {st : Stmt} {sts : List Stmt} {g u : Env → AH → SO}

/-- an own exception class that may be raised -/
structure ExCls (K : PySem.W.Frag) (C : Addr) : Prop where
  made : ∃ B newId initId bmB, ExcBaseFacts B newId initId bmB ∧ PySem.W.excIn K C bmB newId = true
  kp : PySem.W.keepIn K (.ref C) = true
  sub : PySem.W.subIn K (.ref C) (.type "BaseException") = some true
  ty : PySem.W.typeIn K (.ref C) = some (.type "type")
theorem ExCls.raises {C : Addr} (x : ExCls X.K C) : Raises X (.ref C) := raises_own x.sub x.ty
/-- X() -/
theorem pmk0 {x : Str} {p : Pos} {C : Addr} (xc : ExCls X.K C) (gC : X.mg x = some (.ref C)) (hg : Gl X x) (hdb : (x == ("__debug__" : Str)) = false) :
    PMk X (.Call (.Name x p) [] [] pos) (fun _ H Q => Q (.ref C) none H) := by
  obtain ⟨B, newId, initId, bmB, Fb, q⟩ := xc.made
  intro pins s σ H Q I h
  refine wpAny_Call_Name_kw (ld_glob I hg gC ?_ hdb)
  refine PySem.W.callWith_K0 I.kIn xc.kp ?_
  show wpAny _ _ (call (.ref C) []) _ _ _
  obtain ⟨bm, N, nm, qn, bs, hdct, sn, sub, ab, col, dd, k0, k1, k2, k3, k5, mN, hC, hN, hni, T⟩ := exc_obj I.kIn q
  refine wpAny_call_exc_subT Fb T hC hN hni (fun h' e hm => ?_) (by simp)
  exact mk_of I hm xc.raises h (I.hok.gone hm.new)
theorem s_rais0 {x : Str} {p : Pos} {C : Addr} {c : String} (hc : X.calm = true) (tk : Takes X Wx) (xc : ExCls X.K C) (ec : cx c = some C) (gC : X.mg x = some (.ref C)) (hg : Gl X x) (hdb : (x == ("__debug__" : Str)) = false) :
    PS X (.Raise (some (.Call (.Name x p) [] [] p2)) none pos) (tS F cx Wx fun ρ h => .exc ⟨c, []⟩ ρ h) := ps_imp (ps_raise hc tk (pmk0 xc gC hg hdb)) fun D σ H t => by
  obtain ⟨μ, ρ, h, r, s, f⟩ := t
  exact f μ H .refl r σ s _ _ ⟨C, ec, rfl, .inl ⟨rfl, rfl⟩⟩

/-! ### try -/
theorem FinS.caught {μ : List Addr} {h : AH} {H : Hp} {o : SO} {k : ExcV → Env → AH → SO} {D : Ends} {W : WX} (x : FinS F cx Wx μ h H (o.caught k) D)
    (hk : ∀ e ρ h1 μ1 H1 σ cls d, F.R μ1 h1 H1 → F.s1 μ1 h1 H1 ρ σ → XRel cx F.G H1 (wr F.G μ1 h1) e cls d → FinS F cx Wx μ1 h1 H1 (k e ρ h1) D → W cls d σ H1) : FinS F cx W μ h H o D := by
  cases o with
  | ok f h1 => exact x
  | exc e ρ h1 =>
    intro μ1 H1 e1 r1 σ s cls d xr
    exact hk e ρ h1 μ1 H1 σ cls d r1 s xr (FinS.from e1 x)
  | bad => exact x
theorem FinS.nox {μ : List Addr} {h : AH} {H : Hp} {o : SO} {D : Ends} {W : WX} (x : FinS F cx Wx μ h H o.nox D) : FinS F cx W μ h H o D := by
  cases o with
  | ok f h1 => exact x
  | exc e ρ h1 => exact x.elim
  | bad => exact x
abbrev wNo : WX := fun _ _ _ _ => False
/-- the clauses -/
inductive HsRel (F : Fx) (cx : String → Option Addr) (K : PySem.W.Frag) : (ExcV → Env → AH → SO) → List (Value × (Addr → Value → Option Addr → TS)) → Prop
  | nil : HsRel F cx K (fun e ρ h => .exc e ρ h) []
  | cons {p : String → Prop} [∀ n, Decidable (p n)] {v : Value} {g : Env → AH → SO} {k : ExcV → Env → AH → SO} {l : List (Value × (Addr → Value → Option Addr → TS))} : (∀ n C, cx n = some C → PySem.W.exmOne K (.ref C) v = some (decide (p n))) → HsRel F cx K k l →
      HsRel F cx K (fun e ρ h => if p e.cls then (g ρ h).nox else k e ρ h) ((v, fun _ _ _ => tS F cx wNo g) :: l)
theorem HsRel.many {K : PySem.W.Frag} {k : ExcV → Env → AH → SO} {l : List (Value × (Addr → Value → Option Addr → TS))} (hk : HsRel F cx K k l) {D : Ends} {e : ExcV} {ρ : Env} {h : AH} {μ : List Addr} {H : Hp} {σ : L2.St} {cls : Value} {d : Option Addr}
    (r : F.R μ h H) (s : F.s1 μ h H ρ σ) (xr : XRel cx F.G H (wr F.G μ h) e cls d) (f : FinS F cx Wx μ h H (k e ρ h) D) : wMany K Wx D l cls d σ H := by
  induction hk with
  | nil => exact f μ H .refl r σ s cls d xr
  | cons hp _ ih =>
    rename_i p inst v g k l _
    obtain ⟨C, ec, rfl, _⟩ := xr
    refine ⟨decide (p e.cls), hp _ _ ec, fun hb a ha => ?_, fun hb => ?_⟩
    · simp only [if_pos (of_decide_eq_true hb)] at f
      exact ⟨μ, ρ, h, r, s, FinS.nox f⟩
    · simp only [if_neg (of_decide_eq_false hb)] at f
      exact ih f
theorem s_try {body : List Stmt} {h₀ : ExceptHandler} {hds : List ExceptHandler} {l : List (Value × (Addr → Value → Option Addr → TS))} {k : ExcV → Env → AH → SO} (hs : X.stack = X.env :: X.outer) (hf : X.env.frame = some X.env.locals) (tk : Takes X Wx)
    (hb : ∀ (W : WX) (pn : List (Addr × Obj)) (xe : Value → Shared → Prop), Takes (X.tr pn xe) W → PassesOwn (model X.prog X.w) X.A X.env xe → PSs (X.tr pn xe) body (tS F cx W g))
    (hh : HdsOk X (h₀ :: hds) l) (hk : HsRel F cx X.K k l) : PS X (.Try body (h₀ :: hds) [] [] pos) (tS F cx Wx fun ρ h => (g ρ h).caught k) :=
  ps_imp (ps_try_many (tb := fun W => tS F cx W g) hs hf tk hb hh) fun D σ H t => by
    obtain ⟨μ, ρ, h, r, s, f⟩ := t
    exact ⟨μ, ρ, h, r, s, FinS.caught f fun e ρ1 h1 μ1 H1 σ1 cls d r1 s1 xr f1 => hk.many r1 s1 xr f1⟩
end
end D

set_option Elab.async false
set_option linter.all false
set_option maxRecDepth 100000
set_option maxHeartbeats 1000000
/-! Fd16: list comprehensions. -/
namespace D
open PySem PySem.Spec L2 PyProof.Rows

/-! ### another view of what may be written -/
section
variable {G G' : Gm} {μ : List Addr} {H : Hp} {W W' : Wr}
mutual
theorem PRel.cast (hc : G'.cl = G.cl) (hW : ∀ a, W' a → W a) : ∀ {x : PV} {v : V}, PRel G H W x v → PRel G' H W' x v
  | _, _, .non => .non
  | _, _, .bl b => .bl b
  | _, _, .int i => .int i
  | _, _, .str s l => .str s l
  | _, _, .tup r w l rs => .tup r (fun z => w (hW _ z)) l (PRels.cast hc hW rs)
  | _, _, .lst r w l rs => .lst r (fun z => w (hW _ z)) l (PRels.cast hc hW rs)
  | _, _, .obj c e w rs => .obj (by rw [hc]; exact c) e (fun z => w (hW _ z)) (PRelF.cast hc hW rs)
  | _, _, .dct e w rs => .dct e (fun z => w (hW _ z)) (PRelD.cast hc hW rs)
theorem PRels.cast (hc : G'.cl = G.cl) (hW : ∀ a, W' a → W a) : ∀ {xs : List PV} {vs : List V}, PRels G H W xs vs → PRels G' H W' xs vs
  | _, _, .nil => .nil
  | _, _, .cons r rs => .cons (PRel.cast hc hW r) (PRels.cast hc hW rs)
theorem PRelF.cast (hc : G'.cl = G.cl) (hW : ∀ a, W' a → W a) : ∀ {fs : List (String × PV)} {gs : List (Str × V)}, PRelF G H W fs gs → PRelF G' H W' fs gs
  | _, _, .nil => .nil
  | _, _, .cons r rs => .cons (PRel.cast hc hW r) (PRelF.cast hc hW rs)
theorem PRelD.cast (hc : G'.cl = G.cl) (hW : ∀ a, W' a → W a) : ∀ {fs : List (PV × PV)} {gs : List (Key × V)}, PRelD G H W fs gs → PRelD G' H W' fs gs
  | _, _, .nil => .nil
  | _, _, .cons k r rs => .cons k (PRel.cast hc hW r) (PRelD.cast hc hW rs)
end
theorem RRel.cast (hc : G'.cl = G.cl) (hW : ∀ a, W' a → W a) : ∀ {x : RV} {v : V}, RRel G μ H W x v → RRel G' μ H W' x v
  | _, _, .pv r => .pv (r.cast hc hW)
  | _, _, .ref e => .ref e
theorem RRels.cast (hc : G'.cl = G.cl) (hW : ∀ a, W' a → W a) : ∀ {x : List RV} {v : List V}, RRels G μ H W x v → RRels G' μ H W' x v
  | _, _, .nil => .nil
  | _, _, .cons r rs => .cons (r.cast hc hW) (RRels.cast hc hW rs)
theorem RRelF.cast (hc : G'.cl = G.cl) (hW : ∀ a, W' a → W a) : ∀ {x : List (String × RV)} {v : List (Str × V)}, RRelF G μ H W x v → RRelF G' μ H W' x v
  | _, _, .nil => .nil
  | _, _, .cons r rs => .cons (r.cast hc hW) (RRelF.cast hc hW rs)
theorem RRelD.cast (hc : G'.cl = G.cl) (hW : ∀ a, W' a → W a) : ∀ {x : List (PV × RV)} {v : List (Key × V)}, RRelD G μ H W x v → RRelD G' μ H W' x v
  | _, _, .nil => .nil
  | _, _, .cons k r rs => .cons k (r.cast hc hW) (RRelD.cast hc hW rs)
theorem ERelS.cast (hc : G'.cl = G.cl) (hW : ∀ a, W' a → W a) : ∀ {x : Env} {v : L2.St}, ERelS G μ H W x v → ERelS G' μ H W' x v
  | _, _, .nil => .nil
  | _, _, .un rs => .un (ERelS.cast hc hW rs)
  | _, _, .ok r rs => .ok (r.cast hc hW) (ERelS.cast hc hW rs)
theorem ORel.cast (hc : G'.cl = G.cl) (hW : ∀ a, W' a → W a) {o : AO} {a : Addr} (x : ORel G μ H W o a) : ORel G' μ H W' o a := by
  cases o with
  | lst xs => obtain ⟨vs, e, rs⟩ := x; exact ⟨vs, e, rs.cast hc hW⟩
  | obj c fs => obtain ⟨C, dx, gs, ec, e, rs⟩ := x; exact ⟨C, dx, gs, by rw [hc]; exact ec, e, rs.cast hc hW⟩
  | dct _ => obtain ⟨ks, e, rs⟩ := x; exact ⟨ks, e, rs.cast hc hW⟩
  | dead => exact x
theorem IRel.cast {K : PySem.W.Frag} {w : Bool} (hc : G'.cl = G.cl) (hW : ∀ a, W' a → W a) {v : RV} {y : V} (x : IRel G K w μ H W v y) : IRel G' K w μ H W' v y := by
  rcases x with x | ⟨e, ys, a, vs, e1, e2, sq, rs⟩
  · exact .inl (x.cast hc hW)
  · exact .inr ⟨e, ys, a, vs, e1, e2, sq, rs.cast hc hW⟩
end

/-- with the list at A hidden -/
def Fx.hide (F : Fx) (A : Addr) : Fx := { F with G := { F.G with hid := A :: F.G.hid } }
theorem wr_hide {F : Fx} {A : Addr} {μ : List Addr} {h : AH} (a : Addr) : wr (F.hide A).G μ h a ↔ wr F.G μ h a ∨ a = A := by
  unfold wr Fx.hide
  simp only [List.mem_cons]
  constructor
  · rintro ((h | h | h) | h)
    · exact .inl (.inl (.inl h))
    · exact .inr h
    · exact .inl (.inl (.inr h))
    · exact .inl (.inr h)
  · rintro (((h | h) | h) | h)
    · exact .inl (.inl h)
    · exact .inl (.inr (.inr h))
    · exact .inr h
    · exact .inl (.inr (.inl h))

section
variable {F : Fx} {A : Addr} {μ : List Addr} {h : AH} {H : Hp}
/-- the hidden list comes -/
theorem hide_start (r : F.R μ h H) (hA : H A = none) (xs : List V) : (F.hide A).R μ h (upd H A (.lst xs)) ∧ Grow H (wr F.G μ h) (upd H A (.lst xs)) (wr (F.hide A).G μ h) := by
  have g : Grow H (wr F.G μ h) (upd H A (.lst xs)) (wr (F.hide A).G μ h) := ⟨fun a o e _ => by rw [upd_ne (ne_of_none e hA)]; exact e, fun a w => by
    rcases (wr_hide a).mp w with w | rfl
    · exact .inl w
    · exact .inr hA⟩
  refine ⟨⟨r.len, r.nd, fun t ht => ?_, fun t ht => ?_, fun p o a e1 e2 => ?_, r.le, r.since, r.shut⟩, g⟩
  · obtain ⟨⟨ps, e, k⟩, n⟩ := r.tab t ht
    exact ⟨⟨ps, by rw [upd_ne (ne_of_none e hA)]; exact e, k⟩, n⟩
  · rcases List.mem_cons.mp ht with rfl | ht
    · exact ⟨⟨xs, upd_same⟩, r.notin hA⟩
    · obtain ⟨⟨ps, e⟩, n⟩ := r.hid t ht
      exact ⟨⟨ps, by rw [upd_ne (ne_of_none e hA)]; exact e⟩, n⟩
  · have x := r.obj p o a e1 e2
    exact (ORel.grow (G := F.G) g List.prefix_rfl (fun u e => by rw [upd_ne (ne_of_none e hA)]; exact e) x).cast (show (F.hide A).G.cl = F.G.cl from rfl) fun _ z => z
/-- it is written -/
theorem hide_set {xs ys : List V} (r : (F.hide A).R μ h H) (e : H A = some (.lst xs)) : (F.hide A).R μ h (upd H A (.lst ys)) ∧ Grow H (wr (F.hide A).G μ h) (upd H A (.lst ys)) (wr (F.hide A).G μ h) := by
  have hm : A ∈ (F.hide A).G.hid := List.mem_cons_self
  have g : Grow H (wr (F.hide A).G μ h) (upd H A (.lst ys)) (wr (F.hide A).G μ h) := ⟨fun a o e' w => by
    rw [upd_ne]
    · exact e'
    · rintro rfl; exact w (.inl (.inr hm)), fun a w => .inl w⟩
  refine ⟨⟨r.len, r.nd, fun t ht => ?_, fun t ht => ?_, fun p o a e1 e2 => ?_, r.le, r.since, r.shut⟩, g⟩
  · obtain ⟨⟨ps, e', k⟩, n⟩ := r.tab t ht
    refine ⟨⟨ps, ?_, k⟩, n⟩
    rw [upd_ne]
    · exact e'
    · rintro rfl; rw [e] at e'; cases e'
  · obtain ⟨⟨ps, e'⟩, n⟩ := r.hid t ht
    by_cases q : t = A
    · subst q; exact ⟨⟨ys, upd_same⟩, n⟩
    · exact ⟨⟨ps, by rw [upd_ne q]; exact e'⟩, n⟩
  · have x := r.obj p o a e1 e2
    refine ORel.grow g List.prefix_rfl (fun u e' => ?_) x
    rw [upd_ne]
    · exact e'
    · rintro rfl; exact (r.hid _ hm).2 (List.mem_of_getElem? e2)
/-- it is seen no more -/
theorem hide_end (r : (F.hide A).R μ h H) (hh : A ∉ F.G.hid) (ht : A ∉ F.G.tabs) : F.R μ h H ∧ ¬ wr F.G μ h A := by
  refine ⟨⟨r.len, r.nd, r.tab, fun t ht => r.hid t (List.mem_cons_of_mem _ ht), fun p o a e1 e2 => (r.obj p o a e1 e2).cast (show F.G.cl = (F.hide A).G.cl from rfl) fun a w => (wr_hide a).mpr (.inl w), r.le, r.since, r.shut⟩, ?_⟩
  rintro ((w | w) | ⟨p, o, e, _, _⟩)
  · exact ht w
  · exact hh w
  · exact (r.hid A List.mem_cons_self).2 (List.mem_of_getElem? e)
/-- it becomes a place -/
theorem hide_push {xs : List V} {ys : List RV} (r : (F.hide A).R μ h H) (hh : A ∉ F.G.hid) (e : H A = some (.lst xs)) (rs : (F.hide A).v2 μ h H ys xs) :
    F.R (μ ++ [A]) (h ++ [.lst ys]) H ∧ ∀ a, wr F.G (μ ++ [A]) (h ++ [.lst ys]) a → wr (F.hide A).G μ h a := by
  have hw : ∀ a, wr F.G (μ ++ [A]) (h ++ [.lst ys]) a → wr (F.hide A).G μ h a := fun a w => by
    rcases (wr_push r.len a).mp w with w | ⟨rfl, _⟩
    · exact (wr_hide a).mpr (.inl w)
    · exact (wr_hide a).mpr (.inr rfl)
  have notin := (r.hid A List.mem_cons_self).2
  refine ⟨⟨by simp [r.len], ?_, fun t ht => ?_, fun t ht => ?_, fun p o a e1 e2 => ?_, by have : F.lo ≤ h.length := r.le; simp; omega, fun p o hp e1 => ?_, r.shut⟩, hw⟩
  · refine List.nodup_append.mpr ⟨r.nd, by simp, fun a ha b hb => ?_⟩
    simp at hb; subst hb
    rintro rfl
    exact notin ha
  · obtain ⟨⟨ps, e', k⟩, n⟩ := r.tab t ht
    refine ⟨⟨ps, e', k⟩, ?_⟩
    simp only [List.mem_append, List.mem_singleton, not_or]
    exact ⟨n, by rintro rfl; rw [e] at e'; cases e'⟩
  · obtain ⟨⟨ps, e'⟩, n⟩ := r.hid t (List.mem_cons_of_mem _ ht)
    refine ⟨⟨ps, e'⟩, ?_⟩
    simp only [List.mem_append, List.mem_singleton, not_or]
    exact ⟨n, by rintro rfl; exact hh ht⟩
  · by_cases hp : p < h.length
    · rw [List.getElem?_append_left hp] at e1
      rw [List.getElem?_append_left (by rw [r.len]; exact hp)] at e2
      exact (ORel.grow (.refl) ⟨[A], rfl⟩ (fun _ e => e) (r.obj p o a e1 e2)).cast (show F.G.cl = (F.hide A).G.cl from rfl) hw
    · rw [List.getElem?_append_right (by omega)] at e1
      rw [List.getElem?_append_right (by rw [r.len]; omega)] at e2
      have hp' : p - h.length = 0 := by
        have := (List.getElem?_eq_some_iff.mp e1).1
        simpa using this
      rw [hp'] at e1
      rw [r.len, hp'] at e2
      simp at e1 e2
      subst e1 e2
      exact ⟨xs, e, (rs.grow .refl ⟨[A], rfl⟩).cast (show F.G.cl = (F.hide A).G.cl from rfl) hw⟩
  · refine r.since p o hp ?_
    have := r.le
    have h2 : F.lo ≤ h.length := this
    rw [List.getElem?_append_left (by omega)] at e1
    exact e1
end

/-! ### the comprehension -/
section
variable {F : Fx} {cx : String → Option Addr} {Wx : WX} {X : Cx} {a b c e : Expr} {es : List Expr} {pos p2 : Pos} {fa fb fc : Env → AH → Out RV} {fs fi : Env → AH → Out (List RV)}
/-- alike but for what is hidden -/
def Like (F F' : Fx) : Prop := F'.G.base = F.G.base ∧ F'.lo = F.lo
theorem Like.refl {F : Fx} : Like F F := ⟨rfl, rfl⟩
theorem Like.hide {F F' : Fx} (l : Like F F') (A : Addr) : Like F (F'.hide A) := l
def lcO (m : Bool) (t : T) (fi : Env → AH → Out (List RV)) (test : Env → AH → Out Bool) (elt : Env → AH → Out RV) : Env → AH → Out RV := fun ρ h => (fi ρ h).bind fun xs h1 => (lcL t (D.wipe ρ t.slots) test elt xs h1).nox.bind (newL m)
/-- any reading of that F -/
def xG (F : Fx) (r : Fx → TG) : TG := fun x σ H Q => ∃ F', Like F F' ∧ r F' x σ H Q
def xT (F : Fx) (r : Fx → TT) : TT := fun σ H Q => ∃ F', Like F F' ∧ r F' σ H Q
def xE' (F : Fx) (r : Fx → TE) : TE := fun σ H Q => ∃ F', Like F F' ∧ r F' σ H Q
theorem pg_any {tg : Expr} {r : Fx → TG} (h : ∀ F', Like F F' → PG X tg (r F')) : PG X tg (xG F r) := ⟨fun pins s σ H v u Q I rv ⟨F', l, q⟩ => (h F' l).run pins s σ H v u Q I rv q⟩
theorem pts_any {ifs : List Expr} {r : Fx → TT} (h : ∀ F', Like F F' → PTs X ifs (r F')) : PTs X ifs (xT F r) := ⟨fun pins s σ H Q I ⟨F', l, q⟩ => (h F' l).run pins s σ H Q I q⟩
theorem pe_any {e : Expr} {r : Fx → TE} (h : ∀ F', Like F F' → PE X e (r F')) : PE X e (xE' F r) := ⟨fun pins s σ H Q I ⟨F', l, q⟩ => (h F' l).run pins s σ H Q I q⟩
theorem nox_ok_inv {α : Type} {o : Out α} {μ : List Addr} {h : AH} {H : Hp} {K : α → AH → List Addr → Hp → Prop} {Xk : ExcV → AH → List Addr → Hp → Prop} (f : Fin F μ h H o.nox K Xk) : ∃ x h', o = .ok x h' := by
  cases o with
  | ok x h' => exact ⟨x, h', rfl⟩
  | exc e h' => exact f.elim
  | bad => exact f.elim
theorem bind_okI {α β : Type} {o : Out α} {f : α → AH → Out β} {y : β} {h' : AH} (e : o.bind f = .ok y h') : ∃ x h1, o = .ok x h1 ∧ f x h1 = .ok y h' := by
  cases o with
  | ok x h1 => exact ⟨x, h1, rfl, e⟩
  | exc e h1 => cases e
  | bad => cases e
theorem optO_ok {α : Type} {o : Option α} {h h' : AH} {x : α} (e : optO o h = .ok x h') : o = some x ∧ h' = h := by
  cases o with
  | none => cases e
  | some y => cases e; exact ⟨rfl, rfl⟩
/-- one turn -/
theorem lcL_cons {t : T} {ρ : Env} {test : Env → AH → Out Bool} {elt : Env → AH → Out RV} {x : RV} {xs zs : List RV} {h hN : AH} (e : lcL t ρ test elt (x :: xs) h = .ok zs hN) :
    ∃ ρ' b h1, t.put ρ x = some ρ' ∧ test ρ' h = .ok b h1 ∧ ((b = false ∧ lcL t ρ test elt xs h1 = .ok zs hN) ∨ (b = true ∧ ∃ y h2 ys, elt ρ' h1 = .ok y h2 ∧ lcL t ρ test elt xs h2 = .ok ys hN ∧ zs = y :: ys)) := by
  simp only [lcL] at e
  obtain ⟨ρ', h0, e1, e2⟩ := bind_okI e
  obtain ⟨epp, eh⟩ := optO_ok e1
  subst eh
  obtain ⟨b, h1, e3, e4⟩ := bind_okI e2
  refine ⟨ρ', b, h1, epp, e3, ?_⟩
  cases b with
  | false => exact .inl ⟨rfl, by simpa using e4⟩
  | true =>
    simp only [if_true] at e4
    obtain ⟨y, h2, e5, e6⟩ := bind_okI e4
    obtain ⟨ys, h3, e7, e8⟩ := bind_okI e6
    cases e8
    exact .inr ⟨rfl, y, h2, ys, e5, e7, rfl⟩
theorem tLc_of {t : T} {w m : Bool} {test : Env → AH → Out Bool} {elt : Env → AH → Out RV} {σ : L2.St} {H : Hp} {Q : VK} (q : tO F cx Wx (lcO m t fi test elt) σ H Q) :
    tLc (tI F cx Wx X.K w fi) (xG F fun F' => tGi F' X.K w t) (xT F fun F' => tOb F' cx wNo test) (xE' F fun F' => tO F' cx wNo elt) t.slots σ H Q := by
  obtain ⟨μ, ρ, h, r, s, f⟩ := q
  refine ⟨μ, ρ, h, r, s, Fin.mono (Fin.bind f) (fun xs h1 μ1 H1 e1 r1 z J hJ => ?_) fun _ _ _ _ _ _ z => z⟩
  have s1 := s.grow e1.grow e1.pre
  intro A hA
  have z0 := Fin.bind z
  obtain ⟨all, hN, eL⟩ := nox_ok_inv z0
  rw [eL] at z
  have zN : Fin F μ1 h1 H1 (newL m all hN) (vK F Q) (xK F cx Wx σ) := z
  clear z z0
  have hlen := newL_len zN
  have hh : A ∉ F.G.hid := fun hm => by
    obtain ⟨⟨vs, e⟩, _⟩ := r1.hid A hm
    rw [hA] at e; cases e
  have ht : A ∉ F.G.tabs := fun hm => by
    obtain ⟨⟨vs, e, _⟩, _⟩ := r1.tab A hm
    rw [hA] at e; cases e
  obtain ⟨rS, gS⟩ := hide_start r1 hA []
  refine ⟨fun i k H => ∃ μ' h' ys acc zs, μ1 <+: μ' ∧ Grow H1 (wr F.G μ1 h1) H (wr (F.hide A).G μ' h') ∧ (∀ a ∈ F.G.hid, ∀ o, H1 a = some o → H a = some o) ∧ (F.hide A).R μ' h' H ∧ H A = some (.lst acc) ∧ (F.hide A).v2 μ' h' H ys acc ∧
    k = xs.length - i ∧ lcL t (D.wipe ρ t.slots) test elt (xs.drop i) h' = .ok zs hN ∧ all = ys ++ zs, ⟨xs.length, μ1, h1, [], [], all, List.prefix_rfl, gS, fun a _ o e => by rw [upd_ne (ne_of_none e hA)]; exact e, rS, upd_same, .nil, by simp, by simpa using eL, rfl⟩, fun i k H2 wv => ?_⟩
  obtain ⟨μ2, h2, ys, acc, zs, p2, g2, hid2, r2, eA, rs2, hk, eZ, eall⟩ := wv
  by_cases hi : i < xs.length
  · refine .inr ?_
    have hx : xs[i]? = some xs[i] := List.getElem?_eq_getElem hi
    rw [List.drop_eq_getElem_cons hi] at eZ
    obtain ⟨ρ', b, h3, ep, et, ez⟩ := lcL_cons eZ
    obtain ⟨go, yl⟩ := hJ.turn i _ hx μ2 H2 _ p2 g2
    refine ⟨go, fun H' => ∃ μ' h' ys acc zs, μ1 <+: μ' ∧ Grow H1 (wr F.G μ1 h1) H' (wr (F.hide A).G μ' h') ∧ (∀ a ∈ F.G.hid, ∀ o, H1 a = some o → H' a = some o) ∧ (F.hide A).R μ' h' H' ∧ H' A = some (.lst acc) ∧ (F.hide A).v2 μ' h' H' ys acc ∧
      lcL t (D.wipe ρ t.slots) test elt (xs.drop (i + 1)) h' = .ok zs hN ∧ all = ys ++ zs, fun H' n => ?_, fun y H3 hy => ?_⟩
    · obtain ⟨μ', h', ys', acc', zs', n1, n2, n3, n4, n5, n6, n7, n8⟩ := n
      exact ⟨xs.length - (i + 1), by omega, μ', h', ys', acc', zs', n1, n2, n3, n4, n5, n6, rfl, n7, n8⟩
    · obtain ⟨on, ry⟩ := yl y H3 hy
      have e3 : (F.hide A).E μ2 h2 H2 μ2 h2 H3 := on.ext
      have r3 : (F.hide A).R μ2 h2 H3 := on.rep r2
      have sw : (F.hide A).s1 μ2 h2 H3 (D.wipe ρ t.slots) (L2.wipe σ t.slots) := by
        have a1 := (s1.wipe t.slots).grow (g2.trans on.grow) p2
        exact a1.cast (show (F.hide A).G.cl = F.G.cl from rfl) fun _ z => z
      refine ⟨F.hide A, Like.refl.hide A, μ2, _, h2, xs[i], ρ', r3, sw, ry.cast (show (F.hide A).G.cl = F.G.cl from rfl) (fun _ z => z), ep, fun σ4 s4 hw4 => ⟨?_, ?_⟩⟩
      · rw [hw4]
        have : ∀ (vs : List Nat) (σ : L2.St), L2.wipe (L2.wipe σ vs) vs = L2.wipe σ vs := fun vs => by
          have key : ∀ (ws : List Nat) (σ : L2.St), (∀ i ∈ ws, i < σ.length → σ[i]? = some none) → L2.wipe σ ws = σ := fun ws => by
            induction ws with
            | nil => intro σ _; rfl
            | cons v ws ih =>
              intro σ hn
              simp only [L2.wipe]
              rw [ih σ fun i hi => hn i (List.mem_cons_of_mem _ hi)]
              apply List.ext_getElem?
              intro j
              by_cases q : j = v
              · subst q
                by_cases hl : j < σ.length
                · rw [List.getElem?_set_self hl, hn j List.mem_cons_self hl]
                · rw [List.getElem?_eq_none (by simpa using hl), List.getElem?_eq_none (by simpa using hl)]
              · rw [List.getElem?_set_ne (Ne.symm q)]
          intro σ
          refine key vs _ fun i hi hl => ?_
          cases q : (L2.wipe σ vs)[i]? with
          | none => rw [List.getElem?_eq_none_iff] at q; omega
          | some o =>
            cases o with
            | none => rfl
            | some v => exact absurd hi (wipe_some q).2
        exact this _ _
      · have ft : Fin (F.hide A) μ2 h2 H3 (test ρ' h2) (bK fun b2 H4 => if b2 = true then xE' F (fun F' => tO F' cx wNo elt) σ4 H4 fun y H5 => ∃ acc, H5 A = some (.lst acc) ∧ acc.length < sizeLine ∧
            (∃ μ' h' ys acc' zs, μ1 <+: μ' ∧ Grow H1 (wr F.G μ1 h1) (upd H5 A (.lst (acc ++ [y]))) (wr (F.hide A).G μ' h') ∧ (∀ a ∈ F.G.hid, ∀ o, H1 a = some o → (upd H5 A (.lst (acc ++ [y]))) a = some o) ∧ (F.hide A).R μ' h' (upd H5 A (.lst (acc ++ [y]))) ∧ (upd H5 A (.lst (acc ++ [y]))) A = some (.lst acc') ∧ (F.hide A).v2 μ' h' (upd H5 A (.lst (acc ++ [y]))) ys acc' ∧
              lcL t (D.wipe ρ t.slots) test elt (xs.drop (i + 1)) h' = .ok zs hN ∧ all = ys ++ zs) else
            (∃ μ' h' ys acc zs, μ1 <+: μ' ∧ Grow H1 (wr F.G μ1 h1) H4 (wr (F.hide A).G μ' h') ∧ (∀ a ∈ F.G.hid, ∀ o, H1 a = some o → H4 a = some o) ∧ (F.hide A).R μ' h' H4 ∧ H4 A = some (.lst acc) ∧ (F.hide A).v2 μ' h' H4 ys acc ∧
              lcL t (D.wipe ρ t.slots) test elt (xs.drop (i + 1)) h' = .ok zs hN ∧ all = ys ++ zs)) (xK (F.hide A) cx wNo σ4) := by
          rw [et]
          intro μ4 H4 e4 r4
          have hm : A ∈ (F.hide A).G.hid := List.mem_cons_self
          have eA4 : H4 A = some (.lst acc) := (e3.trans e4).hid A hm _ eA
          have p4 := p2.trans e4.pre
          have g4 := g2.trans (on.grow.trans e4.grow)
          have hid4 : ∀ a ∈ F.G.hid, ∀ o, H1 a = some o → H4 a = some o := fun a ha o eo => (e3.trans e4).hid a (List.mem_cons_of_mem _ ha) o (hid2 a ha o eo)
          have rs4 := rs2.grow (on.grow.trans e4.grow) e4.pre
          show if b = true then _ else _
          rcases ez with ⟨rfl, ez⟩ | ⟨rfl, y', h5, zs', ey, ez, rfl⟩
          · simp only [Bool.false_eq_true, if_false]
            exact ⟨μ4, h3, ys, acc, zs, p4, g4, hid4, r4, eA4, rs4, ez, eall⟩
          · simp only [if_true]
            refine ⟨F.hide A, Like.refl.hide A, μ4, ρ', h3, r4, s4.grow e4.grow e4.pre, ?_⟩
            rw [ey]
            intro μ5 H5 e5 r5 y hy
            have eA5 : H5 A = some (.lst acc) := e5.hid A hm _ eA4
            obtain ⟨r6, g6⟩ := hide_set (ys := acc ++ [y]) r5 eA5
            refine ⟨acc, eA5, ?_, μ5, h5, ys ++ [y'], acc ++ [y], zs', p4.trans e5.pre, (g4.trans e5.grow).trans g6, fun a ha o eo => ?_, r6, upd_same, ?_, ez, by rw [eall]; simp⟩
            · have l1 := rs4.length
              rw [line_eq]
              have l2 : all.length = ys.length + (zs'.length + 1) := by rw [eall]; simp
              omega
            · rw [upd_ne]
              · exact e5.hid a (List.mem_cons_of_mem _ ha) o (hid4 a ha o eo)
              · rintro rfl; exact hh ha
            · exact ((rs4.grow e5.grow e5.pre).append (.cons hy .nil)).grow g6 List.prefix_rfl
        exact ⟨F.hide A, Like.refl.hide A, μ2, ρ', h2, r3, s4, ft⟩
  · refine .inl ⟨hJ.stop i (by omega) H2 _ g2, ?_⟩
    rw [List.drop_of_length_le (by omega)] at eZ
    simp only [lcL] at eZ
    cases eZ
    have eall : all = ys := by simpa using eall
    subst eall
    have gF : ∀ {μ' : List Addr} {h' : AH}, (∀ a, wr F.G μ' h' a → wr (F.hide A).G μ2 hN a) → Grow H1 (wr F.G μ1 h1) H2 (wr F.G μ' h') := fun hw => ⟨g2.kept, fun a w => g2.new a (hw a w)⟩
    unfold newL at zN
    rw [if_pos hlen] at zN
    cases m with
    | true =>
      simp only [if_true] at zN
      obtain ⟨rP, hw⟩ := hide_push r2 hh eA rs2
      refine zN (μ2 ++ [A]) H2 ⟨p2.trans ⟨[A], rfl⟩, gF hw, hid2⟩ rP _ (.ref ?_)
      rw [← r2.len]; simp
    | false =>
      simp only [Bool.false_eq_true, if_false] at zN
      split at zN
      · rename_i ps ep
        have := allPV_some ep
        subst this
        obtain ⟨rE, nw⟩ := hide_end r2 hh ht
        have hw : ∀ a, wr F.G μ2 hN a → wr (F.hide A).G μ2 hN a := fun a w => (wr_hide a).mpr (.inl w)
        refine zN μ2 H2 ⟨p2, gF hw, hid2⟩ rE _ (.pv (.lst (.inl eA) nw (by simpa using hlen) ((rs2.cast (show F.G.cl = (F.hide A).G.cl from rfl) hw).toP)))
      · exact zN.elim
theorem r_lc {m : Bool} {t : T} {w : Bool} {tg iter elt : Expr} {ifs : List Expr} {scope : Scope} {own : List (Str × Nat)} {test : Env → AH → Out Bool} {fe : Env → AH → Out RV} (hc : X.calm = true) (hN : X.N.Nodup) (hi : PI X tg iter (tI F cx Wx X.K w fi)) (ok : BlkOk X.N X.env.scope scope own)
    (ho : own.map (·.2) = t.slots)
    (hg : ∀ (s : Shared) (H : Hp) (C : Addr) (cl : List (Str × Addr)) (fp : List Addr) (F' : Fx), Like F F' → PG (X.blk s H scope (compEnvC scope cl C X.env) fp) tg (tGi F' X.K w t))
    (ht : ∀ (s : Shared) (H : Hp) (C : Addr) (cl : List (Str × Addr)) (fp : List Addr) (F' : Fx), Like F F' → PTs (X.blk s H scope (compEnvC scope cl C X.env) fp) ifs (tOb F' cx wNo test))
    (he : ∀ (s : Shared) (H : Hp) (C : Addr) (cl : List (Str × Addr)) (fp : List Addr) (F' : Fx), Like F F' → PE (X.blk s H scope (compEnvC scope cl C X.env) fp) elt (tO F' cx wNo fe)) (hs : ∀ x, foldedSetIterable iter X.env x = pure x) :
    PE X (.ListComp elt [⟨tg, iter, ifs, 0⟩] scope pos) (tO F cx Wx (lcO m t fi test fe)) := by
  refine pe_imp (pe_lc hc hN hi ok (fun s H C cl fp => pg_any fun F' l => hg s H C cl fp F' l) (fun s H C cl fp => pts_any fun F' l => ht s H C cl fp F' l) (fun s H C cl fp => pe_any fun F' l => he s H C cl fp F' l) hs) fun σ H Q q => ?_
  rw [ho]
  exact tLc_of q
theorem s_setLc {i : Nat} {y : Str} {py : Pos} {m : Bool} {t : T} {w : Bool} {tg iter elt : Expr} {ifs : List Expr} {scope : Scope} {own : List (Str × Nat)} {test : Env → AH → Out Bool} {fe : Env → AH → Out RV} (hc : X.calm = true) (hN : X.N.Nodup) (hy : X.N[i]? = some y) (hyl : X.env.scope.names.lookup y = some .local)
    (hsw : swapsWith (.ListComp elt [⟨tg, iter, ifs, 0⟩] scope p2) (some (.Name y py)) pos.line X.env = pure true) (hi : PI X tg iter (tI F cx Wx X.K w fi)) (ok : BlkOk X.N X.env.scope scope own)
    (ho : own.map (·.2) = t.slots)
    (hg : ∀ (s : Shared) (H : Hp) (C : Addr) (cl : List (Str × Addr)) (fp : List Addr) (F' : Fx), Like F F' → PG (X.blk s H scope (compEnvC scope cl C X.env) fp) tg (tGi F' X.K w t))
    (ht : ∀ (s : Shared) (H : Hp) (C : Addr) (cl : List (Str × Addr)) (fp : List Addr) (F' : Fx), Like F F' → PTs (X.blk s H scope (compEnvC scope cl C X.env) fp) ifs (tOb F' cx wNo test))
    (he : ∀ (s : Shared) (H : Hp) (C : Addr) (cl : List (Str × Addr)) (fp : List Addr) (F' : Fx), Like F F' → PE (X.blk s H scope (compEnvC scope cl C X.env) fp) elt (tO F' cx wNo fe)) (hs : ∀ x, foldedSetIterable iter X.env x = pure x) :
    PS X (.Assign [.Name y py] (.ListComp elt [⟨tg, iter, ifs, 0⟩] scope p2) pos) (tS F cx Wx (asgO (.nm i) (lcO m t fi test fe))) := by
  refine ps_imp (ps_setLc hc hN hy hyl hsw hi ok (fun s H C cl fp => pg_any fun F' l => hg s H C cl fp F' l) (fun s H C cl fp => pts_any fun F' l => ht s H C cl fp F' l) (fun s H C cl fp => pe_any fun F' l => he s H C cl fp F' l) hs) fun D σ H q => ?_
  rw [ho]
  have q2 := tS_asg q
  refine tLc_of (X := X) (tO_mono q2 fun x H1 z => ?_)
  obtain ⟨μ, ρ, h, v, ρ', r, s, rv, e, k⟩ := z
  simp only [T.put, Option.some.injEq] at e
  subst e
  exact k _ (s.set rv i)
end
end D

set_option Elab.async false
set_option linter.all false
set_option maxRecDepth 100000
set_option maxHeartbeats 1000000
/-! Fd17: a def keeps its promise. -/
namespace D
open PySem PySem.Spec L2 PyProof.Rows

section
variable {G : Gm} {lo : Nat} {h0 : AH} {μ μ' : List Addr} {h h' : AH} {H H' : Hp}
theorem RRels.refs {W : Wr} {q : Nat} : ∀ {xs : List RV} {vs : List V}, RRels G μ H W xs vs → RV.ref q ∈ xs → q < μ.length
  | _, _, .nil, h => by cases h
  | _, _, .cons r rs, h => by
    rcases List.mem_cons.mp h with h | h
    · subst h; cases r with | ref e => exact (List.getElem?_eq_some_iff.mp e).1
    · exact RRels.refs rs h
theorem RRelF.refs {W : Wr} {q : Nat} {n : String} : ∀ {xs : List (String × RV)} {vs : List (Str × V)}, RRelF G μ H W xs vs → (n, RV.ref q) ∈ xs → q < μ.length
  | _, _, .nil, h => by cases h
  | _, _, .cons r rs, h => by
    rcases List.mem_cons.mp h with h | h
    · injection h with h1 h2; subst h2; cases r with | ref e => exact (List.getElem?_eq_some_iff.mp e).1
    · exact RRelF.refs rs h
theorem refs_dct {kvs : List (PV × RV)} {q : Nat} : q ∈ (AO.dct kvs).refs ↔ ∃ k, (k, RV.ref q) ∈ kvs := by
  simp only [AO.refs, List.mem_flatMap]
  constructor
  · rintro ⟨⟨k, x⟩, hx, hq⟩
    cases x with
    | pv v => simp [RV.refs] at hq
    | ref p => simp [RV.refs] at hq; subst hq; exact ⟨k, hx⟩
  · rintro ⟨k, h⟩
    exact ⟨_, h, by simp [RV.refs]⟩
theorem RRelD.refs {W : Wr} {q : Nat} {n : PV} : ∀ {xs : List (PV × RV)} {vs : List (Key × V)}, RRelD G μ H W xs vs → (n, RV.ref q) ∈ xs → q < μ.length
  | _, _, .nil, h => by cases h
  | _, _, .cons _ r rs, h => by
    rcases List.mem_cons.mp h with h | h
    · injection h with h1 h2; subst h2; cases r with | ref e => exact (List.getElem?_eq_some_iff.mp e).1
    · exact RRelD.refs rs h
theorem ORel.refs {W : Wr} {o : AO} {a : Addr} (x : ORel G μ H W o a) {q : Nat} (hq : q ∈ o.refs) : q < μ.length := by
  cases o with
  | lst xs => obtain ⟨vs, _, rs⟩ := x; exact rs.refs (refs_lst.mp hq)
  | obj c fs => obtain ⟨C, dx, gs, _, _, rs⟩ := x; obtain ⟨n, hn⟩ := refs_obj.mp hq; exact rs.refs hn
  | dct _ => obtain ⟨ks, _, rs⟩ := x; obtain ⟨n, hn⟩ := refs_dct.mp hq; exact rs.refs hn
  | dead => cases hq
/-- at a def's entry -/
theorem Rep.enter (r : Rep G lo h0 μ h H) : Rep G h.length h μ h H := by
  refine ⟨r.len, r.nd, r.tab, r.hid, r.obj, Nat.le_refl _, fun p o _ e => ⟨o, e, fun _ q => q⟩, fun p o hp e q hq => ?_⟩
  obtain ⟨a, ea⟩ := r.addr e
  have := (r.obj p o a e ea).refs hq
  rw [r.len] at this
  exact this
/-- at its end, all places kept -/
theorem Rep.exit (r : Rep G lo h0 μ h H) (r' : Rep G h.length h μ' h' H') : Rep G lo h0 μ' h' H' := by
  refine ⟨r'.len, r'.nd, r'.tab, r'.hid, r'.obj, Nat.le_trans r.le r'.le, fun p o hp e => ?_, r.shut⟩
  obtain ⟨o1, e1, k1⟩ := r'.since p o (Nat.lt_of_lt_of_le hp r.le) e
  obtain ⟨o2, e2, k2⟩ := r.since p o1 hp e1
  exact ⟨o2, e2, fun q hq => k2 q (k1 q hq)⟩
theorem pre_get (m : μ <+: μ') {q : Nat} {a : Addr} (hq : q < μ.length) (e : μ'[q]? = some a) : μ[q]? = some a := by
  obtain ⟨t, rfl⟩ := m
  rw [List.getElem?_append_left hq] at e; exact e
theorem RRels.cut {W : Wr} (m : μ <+: μ') : ∀ {xs : List RV} {vs : List V}, RRels G μ' H W xs vs → (∀ q, RV.ref q ∈ xs → q < μ.length) → RRels G μ H W xs vs
  | _, _, .nil, _ => .nil
  | _, _, .cons r rs, k => .cons (by cases r with
    | pv r => exact .pv r
    | ref e => exact .ref (pre_get m (k _ List.mem_cons_self) e)) (RRels.cut m rs fun q hq => k q (List.mem_cons_of_mem _ hq))
theorem RRelF.cut {W : Wr} (m : μ <+: μ') : ∀ {xs : List (String × RV)} {vs : List (Str × V)}, RRelF G μ' H W xs vs → (∀ n q, (n, RV.ref q) ∈ xs → q < μ.length) → RRelF G μ H W xs vs
  | _, _, .nil, _ => .nil
  | _, _, .cons r rs, k => .cons (by cases r with
    | pv r => exact .pv r
    | ref e => exact .ref (pre_get m (k _ _ List.mem_cons_self) e)) (RRelF.cut m rs fun n q hq => k n q (List.mem_cons_of_mem _ hq))
theorem RRelD.cut {W : Wr} (m : μ <+: μ') : ∀ {xs : List (PV × RV)} {vs : List (Key × V)}, RRelD G μ' H W xs vs → (∀ n q, (n, RV.ref q) ∈ xs → q < μ.length) → RRelD G μ H W xs vs
  | _, _, .nil, _ => .nil
  | _, _, .cons b r rs, k => .cons b (by cases r with
    | pv r => exact .pv r
    | ref e => exact .ref (pre_get m (k _ _ List.mem_cons_self) e)) (RRelD.cut m rs fun n q hq => k n q (List.mem_cons_of_mem _ hq))
theorem wr_cut (m : μ <+: μ') : ∀ a, wr G μ (h'.take h.length) a → wr G μ' h' a := by
  rintro a (w | ⟨p, o, e, eo, n⟩)
  · exact .inl w
  · refine .inr ⟨p, o, ?_, ?_, n⟩
    · obtain ⟨t, rfl⟩ := m
      rw [List.getElem?_append_left (List.getElem?_eq_some_iff.mp e).1]; exact e
    · rw [List.getElem?_take] at eo
      split at eo
      · exact eo
      · cases eo
/-- at its end, its own places gone -/
theorem Rep.exitCut (r : Rep G lo h0 μ h H) (e : Ext G μ h H μ' h' H') (r' : Rep G h.length h μ' h' H') : Rep G lo h0 μ (h'.take h.length) H' ∧ Ext G μ h H μ (h'.take h.length) H' := by
  have m := e.pre
  have hle := r'.le
  have hl : (h'.take h.length).length = h.length := by rw [List.length_take]; omega
  have sub : ∀ a, a ∈ μ → a ∈ μ' := fun a ha => m.subset ha
  refine ⟨⟨by rw [hl]; exact r.len, r.nd, fun t ht => ?_, fun t ht => ?_, fun p o a e1 e2 => ?_, by rw [hl]; exact r.le, fun p o hp e1 => ?_, r.shut⟩, List.prefix_rfl, ⟨e.grow.kept, fun a w => e.grow.new a (wr_cut m a w)⟩, e.hid⟩
  · exact ⟨(r'.tab t ht).1, fun z => (r'.tab t ht).2 (sub t z)⟩
  · exact ⟨(r'.hid t ht).1, fun z => (r'.hid t ht).2 (sub t z)⟩
  · rw [List.getElem?_take] at e1
    split at e1
    · rename_i hp
      have e2' : μ'[p]? = some a := by
        obtain ⟨t, rfl⟩ := m
        rw [List.getElem?_append_left (List.getElem?_eq_some_iff.mp e2).1]; exact e2
      have x := (r'.obj p o a e1 e2').cast (G' := G) rfl (wr_cut (h := h) m)
      obtain ⟨o0, e0, k0⟩ := r'.since p o hp e1
      have kk : ∀ q ∈ o.refs, q < μ.length := fun q hq => by rw [r.len]; exact r'.shut p o0 hp e0 q (k0 q hq)
      cases o with
      | lst xs => obtain ⟨vs, e, rs⟩ := x; exact ⟨vs, e, rs.cut m fun q hq => kk q (refs_lst.mpr hq)⟩
      | obj c fs => obtain ⟨C, dx, gs, ec, e, rs⟩ := x; exact ⟨C, dx, gs, ec, e, rs.cut m fun n q hq => kk q (refs_obj.mpr ⟨n, hq⟩)⟩
      | dct _ => obtain ⟨vs, e, rs⟩ := x; exact ⟨vs, e, rs.cut m fun n q hq => kk q (refs_dct.mpr ⟨n, hq⟩)⟩
      | dead => exact x
    · cases e1
  · rw [List.getElem?_take] at e1
    split at e1
    · rename_i hp2
      obtain ⟨o1, e1, k1⟩ := r'.since p o hp2 e1
      obtain ⟨o2, e2, k2⟩ := r.since p o1 hp e1
      exact ⟨o2, e2, fun q hq => k2 q (k1 q hq)⟩
    · cases e1
end

section
variable {F : Fx} {cx : String → Option Addr} {μ : List Addr} {h : AH} {H : Hp}
/-- the F of a def's run -/
def Fx.enter (F : Fx) (h : AH) : Fx := ⟨F.G, h.length, h⟩
/-- what a def leaves is what was asked -/
theorem leave_ok {keep : Bool} {v : RV} {h' : AH} {x : V} {μ' : List Addr} {H' : Hp} {Q : VK} {Xk : ExcV → AH → List Addr → Hp → Prop} (r : F.R μ h H) (f : Fin F μ h H (leave keep h.length v h') (vK F Q) Xk) (e : (F.enter h).E μ h H μ' h' H') (r' : (F.enter h).R μ' h' H') (rv : (F.enter h).v1 μ' h' H' v x) : Q x H' := by
  obtain ⟨rc, ec⟩ := Rep.exitCut r e r'
  have hw := wr_cut (G := F.G) (h := h) (h' := h') e.pre
  unfold leave at f
  split at f
  · rename_i pv
    cases rv with
    | pv rv =>
      split at f
      · exact f μ' H' e (r.exit r') _ (.pv rv)
      · exact f μ H' ec rc _ (.pv (rv.cast (show F.G.cl = F.G.cl from rfl) hw))
  · rename_i p
    cases rv with
    | ref ea =>
      split at f
      · exact f μ' H' e (r.exit r') _ (.ref ea)
      · split at f
        · rename_i hp
          exact f μ H' ec rc _ (.ref (pre_get e.pre (by rw [r.len]; exact hp) ea))
        · rename_i hp
          split at f
          · rename_i xs ex
            split at f
            · rename_i ys ey
              have := allPV_some ey
              subst this
              split at f
              · rename_i hl
                obtain ⟨vs, eH, rs⟩ := r'.obj p _ _ ex ea
                refine f μ H' ec rc _ (.pv (.lst (.inl eH) ?_ hl (rs.toP.cast (show F.G.cl = F.G.cl from rfl) hw)))
                rintro (w | ⟨q, o, e1, e2, _⟩)
                · exact (r'.aux w).2 (List.mem_of_getElem? ea)
                · have hq := (List.getElem?_eq_some_iff.mp e1).1
                  have e1' : μ'[q]? = μ[q]? := by
                    obtain ⟨t, ht⟩ := e.pre
                    rw [← ht, List.getElem?_append_left hq]
                  have := nd_ix r'.nd ea (e1'.trans e1)
                  rw [r.len] at hq
                  omega
              · exact f.elim
            · exact f.elim
          · exact f.elim
theorem fin_ok {keep : Bool} {o : SO} {Q : VK} {E : XK} (r : F.R μ h H) (f : Fin F μ h H (o.fin keep h.length) (vK F Q) (xE cx F E)) :
    FinS (F.enter h) cx (fun cls d _ H => E cls d H) μ h H o { nx := fun _ H' => Q .non H', rt := Q } := by
  cases o with
  | ok fl h' =>
    cases fl with
    | ret v =>
      have f : Fin F μ h H (leave keep h.length v h') (vK F Q) (xE cx F E) := f
      intro μ' H' e r' x rv
      exact leave_ok r f e r' rv
    | nxt ρ =>
      have f : Fin F μ h H (leave keep h.length (.pv .non) h') (vK F Q) (xE cx F E) := f
      intro μ' H' e r' σ' _
      exact leave_ok r f e r' (.pv .non)
    | brk ρ => exact f.elim
    | cnt ρ => exact f.elim
  | exc ex ρ h' =>
    intro μ' H' e r' σ' _ cls d xr
    have f : Fin F μ h H (leaveX keep h.length ex h') (vK F Q) (xE cx F E) := f
    unfold leaveX at f
    split at f
    · exact f μ' H' e (r.exit r') cls d xr
    · obtain ⟨rc, ec⟩ := Rep.exitCut r e r'
      refine f μ H' ec rc cls d ?_
      obtain ⟨C, e1, e2, e3⟩ := xr
      refine ⟨C, e1, e2, ?_⟩
      rcases e3 with e3 | ⟨dx, gs, a1, a2, a3, a4, a5⟩
      · exact .inl e3
      · have hw := wr_cut (G := F.G) (h := h) (h' := h') e.pre
        exact .inr ⟨dx, gs, a1, a2, a3, fun z => a4 (hw _ z), a5.cast (show F.G.cl = F.G.cl from rfl) hw⟩
  | bad => exact f.elim
theorem slots_start {W : Wr} : ∀ {args : List RV} {vs : List V} (k : Nat), RRels F.G μ H W args vs → ERelS F.G μ H W (args.map some ++ List.replicate k none) (vs.map some ++ List.replicate k none)
  | _, _, k, .nil => by
    simp only [List.map_nil, List.nil_append]
    induction k with
    | zero => exact .nil
    | succ k ih => exact .un ih
  | _, _, k, .cons r rs => .ok r (slots_start k rs)

/-- a def by its body -/
theorem fn_body {P : Program} {w : World} {K : PySem.W.Frag} {mg : Str → Option Value} {base : Heap} {k n : Nat} {f : Addr} {name qual : Str} {params : Arguments} {body : List Stmt} {scope : Scope} {dV kV doc pm cdv ct oc : Value} {an od : Option Addr}
    {osl : Array (Option Value)} {N ps : List Str} {G : Gm} {Pg' : Pg} {key : String} {fn : Fn} (lk : K.lookup f = some ⟨oc, od, .func (PySem.W.fnOf name qual params body scope dV kV doc pm an cdv ct), osl⟩) (hcd : PySem.W.codeIn K cdv qual = true) (S : FnScope N ps scope)
    (hfn : Pg'.fn key = some fn) (hnp : fn.np = ps.length) (hns : fn.ns = N.length)
    (hbody : ∀ (A : Around) (outer : List PySem.Env) (s : Shared) (H : Hp) (E : XK) (F : Fx), F.G.base = G.base → Room k (A.deeper (envOfC qual scope s.heap.objs.size f cdv)) →
      PSs (cxOf (L2.CX P w) P w K mg base N qual scope f cdv A outer s H E) body (tS F cx (fun cls d _ H => E cls d H) fun ρ h => exSs (callN Pg' n) F.lo Pg'.an fn.body ρ h)) :
    FnOk P w K mg base (L2.CX P w) (k + 1) f (PySem.W.fnOf name qual params body scope dV kV doc pm an cdv ct) ps (spC G.base cx (callN Pg' (n + 1)) key) := by
  have run : ∀ args h, callN Pg' (n + 1) key args h = runFn Pg' (callN Pg' n) fn args h := fun args h => by simp only [callN, hfn]
  have len : ∀ vs H Q E, spC G.base cx (callN Pg' (n + 1)) key vs H Q E → vs.length = ps.length := fun vs H Q E ⟨F, μ, h, args, _, r, rv, z⟩ => by
    rw [run] at z
    unfold runFn at z
    split at z
    · rename_i hl
      rw [← rv.length, hl, hnp]
    · exact z.elim
  refine fn_of lk hcd S len fun A outer s H vs Q E hr hsp => ?_
  have hl := len _ _ _ _ hsp
  obtain ⟨F, μ, h, args, eG, r, rv, z⟩ := hsp
  rw [run] at z
  unfold runFn at z
  split at z
  · rename_i hlen
    refine ⟨_, hbody A outer s H E (F.enter h) eG hr, μ, args.map some ++ List.replicate (fn.ns - fn.np) none, h, r.enter, ?_, fin_ok r z⟩
    have hk : fn.ns - fn.np = N.length - vs.length := by rw [hns, hnp, hl]
    rw [hk]
    exact slots_start (F := F) _ rv
  · exact z.elim
end
end D

set_option Elab.async false
set_option linter.all false
set_option maxRecDepth 100000
set_option maxHeartbeats 2000000
/-! Fd18: generator expressions: the context of their code, its turns. -/
namespace D
open PySem PySem.Spec L2 PyProof.Rows GenW

abbrev gxe (elt tg iter : Expr) (ifs : List Expr) (scope : Scope) (pos : Pos) : Expr := .GeneratorExp elt [⟨tg, iter, ifs, 0⟩] scope pos
/-- the code of its turns -/
abbrev gxc (elt tg iter : Expr) (ifs : List Expr) (scope : Scope) (pos : Pos) (it : Addr) (genv : PySem.Env) : Code := .compLoop (gxe elt tg iter ifs scope pos) 0 (.ref it) .none genv
theorem gx_frames {A : Around} {elt tg iter : Expr} {ifs : List Expr} {scope : Scope} {pos : Pos} {it : Addr} {genv : PySem.Env} {l : List PySem.Env} (h : A.frames = some l) : (A.over (gxc elt tg iter ifs scope pos it genv) []).frames = some (genv :: l) := by
  unfold Around.over
  show pushEnvs [genv] (pushEnvs (envsOf []) A.frames) = _
  rw [h]; rfl
theorem gx_room {A : Around} {elt tg iter : Expr} {ifs : List Expr} {scope : Scope} {pos : Pos} {it : Addr} {genv : PySem.Env} {k : Nat} (r : Room (k + 1) A) : Room k (A.over (gxc elt tg iter ifs scope pos it genv) []) :=
  ⟨r.hd, by have := r.dp; show A.depth + 1 + 3 * k + 5 < _; omega, by have := r.un; show A.units + 3 + 16 * k + 200 < _; omega⟩
/-- the context of a generator expression's code: it began at s; its iterator's objects at fp; pn: its own object -/
abbrev gxX (X : Cx) (A : Around) (s : Shared) (H : Hp) (genv : PySem.Env) (fp : List Addr) (pn : List (Addr × Obj)) : Cx :=
  { X with A := A, s_0 := s, H_0 := H, env := genv, outer := X.stack, stack := genv :: X.stack, ex := fp, calm := true, fn := fun _ => false, pn := pn, xe := fun _ _ => False }

/-- the names of a generator expression's code -/
structure GxOk (N : List Str) (sc scope : Scope) (own : List (Str × Nat)) : Prop where
  kind : scope.kind = .function
  co : scope.isCoroutine = false
  cell : ∀ y ∈ scope.names, y.2 ≠ .cell
  dot : scope.names.lookup (".0" : Str) = some NameKind.local
  uniq : ∀ y ∈ scope.names, scope.names.lookup y.1 = some y.2
  ix : ∀ p ∈ own, N[p.2]? = some p.1
  free : ∀ y ∈ scope.names, y.2 = .free → sc.names.lookup y.1 = some .cell ∨ sc.names.lookup y.1 = some .free
  own : ∀ y ∈ scope.names, y.2 = .local → y.1 ∈ own.map (·.1) ∨ y.1 ∉ N

section
variable {X : Cx} {pins : List (Addr × Obj)} {σ : L2.St} {H : Hp} {s : Shared}
/-- it begins: s2, with its frame and its own object -/
theorem gx_start {A : Around} {scope : Scope} {own : List (Str × Nat)} {fp : List Addr} {code : Value} {s2 : Shared} {pn pins2 : List (Addr × Obj)} {m0 : Str → Option Value} (I : Inv X pins σ H s) (ok : GxOk X.N X.env.scope scope own) (hN : X.N.Nodup) (hfp : ∀ b ∈ fp, FpOk X pins H b ∧ b < s.heap.objs.size)
    (hA : A.handled = none) (hfr : A.frames = some (genEnv scope (cloFrom X.env.cells scope.names []) s.heap.objs.size code builtinsNs X.env :: X.stack)) (os : s2.os = s.os) (hb : AllBare s2.gens) (kp : ∀ b o, s.heap.get? b = some o → s2.heap.get? b = some o)
    (hns : s2.heap.Ns s.heap.objs.size m0) (hpn : ∀ p ∈ pn ++ pins2, s2.heap.get? p.1 = some p.2 ∧ s.heap.objs.size < p.1 ∧ ∀ v, p.2.data ≠ .cell v) :
    Inv (gxX X A s H (genEnv scope (cloFrom X.env.cells scope.names []) s.heap.objs.size code builtinsNs X.env) fp pn) pins2 (L2.wipe σ (own.map (·.2))) H s2 := by
  have hfree : ∀ y ∈ scope.names, y.2 = .free → ∃ c, X.env.cells.lookup y.1 = some c := fun y hy e => by
    rcases ok.free y hy e with k | k
    · exact I.ok.has _ (.inl k)
    · exact I.ok.has _ (.inr k)
  generalize hg : genEnv scope (cloFrom X.env.cells scope.names []) s.heap.objs.size code builtinsNs X.env = genv at hfr
  have hL : genv.locals = s.heap.objs.size := by rw [← hg]; rfl
  have hcl : genv.cells = cloFrom X.env.cells scope.names [] := by rw [← hg]; rfl
  have hsc : genv.scope = scope := by rw [← hg]; rfl
  have cm : ∀ {y c}, (y, c) ∈ cloFrom X.env.cells scope.names [] → X.env.cells.lookup y = some c ∧ c < s.heap.objs.size ∧ (y, NameKind.free) ∈ scope.names := fun {y c} hm => by
    rcases cloFrom_mem hm with hm | ⟨h1, rfl⟩
    · cases hm
    · obtain ⟨c, hc⟩ := hfree _ h1 rfl
      rw [hc]
      obtain ⟨w, z⟩ := I.cell _ _ hc
      exact ⟨rfl, z.lt, h1⟩
  have mem : ∀ {y c}, genv.cells.lookup y = some c → X.env.cells.lookup y = some c ∧ c < s.heap.objs.size ∧ (y, NameKind.free) ∈ scope.names := fun {y c} e => by
    rw [hcl] at e
    exact cm (PySem.mem_of_lookup e)
  have look : ∀ {y}, scope.names.lookup y = some .free → ∃ c, genv.cells.lookup y = some c ∧ X.env.cells.lookup y = some c := fun {y} hl => by
    have hy : (y, NameKind.free) ∈ scope.names := PySem.mem_of_lookup hl
    obtain ⟨c', e'⟩ := mem_lookup (cloFrom_has (cells := X.env.cells) (acc := []) hy)
    rw [← hcl] at e'
    exact ⟨c', e', (mem e').1⟩
  have nocell : ∀ {y}, scope.names.lookup y ≠ some .cell := fun {y} e => ok.cell _ (PySem.mem_of_lookup e) rfl
  have okB : (gxX X A s H genv fp pn).Ok := by
    refine ⟨I.ok.mod, by show genv.scope.kind = _; rw [hsc]; exact ok.kind, by show genv.globals = _; rw [← hg]; exact I.ok.glob, by show genv.builtins = _; rw [← hg]; rfl, by show s.heap.objs.size ≤ genv.locals; rw [hL]; exact Nat.le_refl _,
      fun y z c e1 e2 => I.ok.inj y z c (mem e1).1 (mem e2).1, fun y hy => ?_, (fun y c z e => absurd z (by simp)), fun _ => hA, hfr, .inr ⟨rfl, by show genv.frame = some genv.locals; rw [← hg]; rfl⟩, fun b hb => ⟨?_, fun y c e z => ?_⟩, I.bs, Nat.le_trans I.ok.bsz I.sz, fun b o e hb => ?_, fun b hb z => ?_, I.stack, I.stkFree⟩
    · have key : genv.scope.names.lookup y = some .cell ∨ genv.scope.names.lookup y = some .free := hy
      rw [hsc] at key
      rcases key with key | key
      · exact absurd key nocell
      · obtain ⟨c, h1, _⟩ := look key
        exact ⟨c, h1⟩
    · show b ≠ genv.locals
      rw [hL]; exact Nat.ne_of_lt (hfp b hb).2
    · exact (hfp b hb).1.2.2.2.2.1 y c (mem e).1 z
    · rcases (hfp b hb).1.2.2.2.1 with z | z
      · exact I.ok.noex b o e z
      · exact absurd (Nat.lt_of_lt_of_le (Heap.lt_size e) (Nat.le_trans I.ok.bsz z)) (Nat.lt_irrefl _)
    · rcases List.mem_cons.mp (I.stkSub b z) with z | z
      · exact (hfp b hb).1.2.1 z
      · exact (hfp b hb).1.2.2.1 z
  rw [← hg] at okB hL hcl hsc mem look ⊢
  refine ⟨okB, os, hb, Un.kept kp, ⟨m0, hns, fun i y av e1 e2 e3 => ?_⟩, fun y c e => ?_, I.hok.fresh (Nat.le_refl _), fun y c e => I.freeC y c (mem e).1, fun p hp => ?_, I.hok.kept kp, by rw [wipe_length]; exact I.len⟩
  · obtain ⟨e2, hne⟩ := wipe_some e2
    have hfr : scope.names.lookup y = some .free := by
      have e3 : Vis scope y := e3
      rcases e3 with e3 | e3 | e3
      · exfalso
        rcases ok.own _ (PySem.mem_of_lookup e3) rfl with e' | e'
        · obtain ⟨p, hp, hpy⟩ := List.mem_map.mp e'
          have e3 := ok.ix p hp
          have : p.1 = y := hpy
          rw [this] at e3
          exact hne (List.mem_map.mpr ⟨p, hp, nodup_ix hN e3 e1⟩)
        · exact e' (List.mem_of_getElem? e1)
      · exact absurd e3 nocell
      · exact e3
    obtain ⟨m, hn, hl⟩ := I.loc
    have hvis : Vis X.env.scope y := (ok.free _ (PySem.mem_of_lookup hfr) rfl).elim (fun k => .inr (.inl k)) (fun k => .inr (.inr k))
    obtain ⟨w, r, q⟩ := hl i y av e1 e2 hvis
    refine ⟨w, r, .inr ⟨.inr hfr, ?_⟩⟩
    obtain ⟨c, h1, h2⟩ := look hfr
    rcases q with ⟨k, _⟩ | ⟨_, c', e', z⟩
    · have k : X.env.scope.names.lookup y = some .local := k
      rcases ok.free _ (PySem.mem_of_lookup hfr) rfl with k' | k' <;> rw [show X.env.scope.names.lookup y = _ from k'] at k <;> cases k
    · rw [h2] at e'; cases e'
      exact ⟨c, h1, z.keeps kp⟩
  · obtain ⟨w, z⟩ := I.cell y c (mem e).1
    exact ⟨w, z.keeps kp⟩
  · obtain ⟨h1, h2, h3⟩ := hpn p hp
    refine ⟨h1, I.hok.fresh (Nat.le_of_lt h2), Nat.ne_of_gt h2, fun z => ?_, h3⟩
    rcases List.mem_cons.mp (I.stkSub p.1 z) with z | z
    · rw [z] at h2; exact absurd (Nat.lt_trans h2 I.lt) (Nat.lt_irrefl _)
    · exact I.nofs (Nat.le_of_lt h2) z
end

/-! ### its turns -/
section
variable {X : Cx}
/-- what its turns are to reach; the list: what is out so far -/
structure GxT (X : Cx) (g : TG) (tt : TT) (te : TE) (vs : List Nat) (σ : L2.St) (J : L2.It) (cont : List V → Hp → Prop) (W : Nat → Nat → List V → Hp → Prop) : Prop where
  turn : ∀ i m ys H, W i m ys H → (J.stop i H ∧ cont ys H) ∨ (J.go i H ∧ ∃ Nx : List V → Hp → Prop, (∀ ys' H', Nx ys' H' → ∃ m', m' < m ∧ W (i + 1) m' ys' H') ∧ ∀ x H', J.yld i H x H' → g x (L2.wipe σ vs) H' fun σ2 H2 => L2.wipe σ2 vs = L2.wipe σ vs ∧ tt σ2 H2 fun b H3 =>
    if b = true then te σ2 H3 fun y H4 => ys.length < sizeLine ∧ Nx (ys ++ [y]) H4 else Nx ys H3)
/-- how it ends -/
def gxR (Y : Cx) (S : Addr) (σ : L2.St) (cont : List V → Hp → Prop) : GenEnd := fun n _ r s1 => r = .ok .next ∧ ∃ H' ys, n + ys.length = sizeLine ∧ GI Y S [] ys σ H' s1 ∧ cont ys H'
theorem GI.unpin {Y : Cx} {S : Addr} {ip : List (Addr × Obj)} {ys : List V} {σ : L2.St} {H : Hp} {s : Shared} (h : GI Y S ip ys σ H s) : GI Y S [] ys σ H s := by
  obtain ⟨acc, c, r, I⟩ := h
  refine ⟨acc, c, r, I.pins_of fun p hp => I.pin p (List.mem_append_right _ ?_)⟩
  rcases List.mem_cons.mp hp with h | h
  · subst h; exact List.mem_cons_self
  · cases h
theorem GI.weak {Y : Cx} {S : Addr} {ip : List (Addr × Obj)} {ys : List V} {σ σ' : L2.St} {H : Hp} {s : Shared} (h : GI Y S ip ys σ H s) (hl : σ'.length = σ.length) (w : ∀ (i : Nat) v, σ'[i]? = some (some v) → σ[i]? = some (some v)) : GI Y S ip ys σ' H s := by
  obtain ⟨acc, c, r, I⟩ := h
  exact ⟨acc, c, r, I.weak hl w⟩
theorem gx_loop {A : Around} {s_0 : Shared} {H_0 : Hp} {genv : PySem.Env} {fp : List Addr} {pn : List (Addr × Obj)} {elt tg iter : Expr} {ifs : List Expr} {scope : Scope} {pos : Pos} {it : Addr} {tn : Nat → Heap → Prop} {J : L2.It} {g : TG} {tt : TT} {te : TE} {vs : List Nat} {σ : L2.St} {cont : List V → Hp → Prop} {W : Nat → Nat → List V → Hp → Prop} {S : Addr}
    (hco : genv.scope.isCoroutine = false) (T : Turn X.prog X.w X.K tg J fp it tn) (hpS : ∀ p ∈ pn, p.1 ≠ S) (hpf : ∀ p ∈ pn, p.1 ∉ fp) (hSf : S ∉ fp) (hAp : Apart (gxX X (A.over (gxc elt tg iter ifs scope pos it genv) []) s_0 H_0 genv fp pn) S)
    (hg : PG (gxX X (A.over (gxc elt tg iter ifs scope pos it genv) []) s_0 H_0 genv fp pn) tg g) (ht : PTs (gxX X (A.over (gxc elt tg iter ifs scope pos it genv) []) s_0 H_0 genv fp pn) ifs tt)
    (he : PE (gxX X (A.over (gxc elt tg iter ifs scope pos it genv) []) s_0 H_0 genv fp pn) elt te) (G : GxT X g tt te vs σ J cont W) :
    ∀ (m : Nat) (i : Nat) (ys : List V) (H : Hp) (n : Nat) (s₀ s : Shared), W i m ys H → n + ys.length = sizeLine → GI (gxX X (A.over (gxc elt tg iter ifs scope pos it genv) []) s_0 H_0 genv fp pn) S [] ys (L2.wipe σ vs) H s → tn i s.heap → (∀ b ∈ fp, H b = none) →
      Seg (model X.prog X.w) A (gxR (gxX X (A.over (gxc elt tg iter ifs scope pos it genv) []) s_0 H_0 genv fp pn) S (L2.wipe σ vs) cont) (GY (gxX X (A.over (gxc elt tg iter ifs scope pos it genv) []) s_0 H_0 genv fp pn) S) n s₀
        (gxc elt tg iter ifs scope pos it genv) ((model X.prog X.w).den (gxc elt tg iter ifs scope pos it genv)) [] s := by
  generalize hY : gxX X (A.over (gxc elt tg iter ifs scope pos it genv) []) s_0 H_0 genv fp pn = Y at *
  have e1 : Y.prog = X.prog := by rw [← hY]
  have e2 : Y.w = X.w := by rw [← hY]
  have e3 : Y.K = X.K := by rw [← hY]
  have e4 : Y.calm = true := by rw [← hY]
  have e5 : Y.A = A.over (gxc elt tg iter ifs scope pos it genv) [] := by rw [← hY]
  have e6 : Y.env = genv := by rw [← hY]
  have e7 : Y.ex = fp := by rw [← hY]
  have e8 : Y.pn = pn := by rw [← hY]
  have e9 : Y.xe = fun _ _ => False := by rw [← hY]
  have stat : ∀ {σ' : L2.St} {H' : Hp} {s' : Shared} {acc : Array Value} {c : Nat}, Inv Y [(S, lstObj acc c)] σ' H' s' → (∀ b ∈ fp, H' b = none) → ∀ b ∈ fp, FpOk Y [(S, lstObj acc c)] H' b := fun {σ' H' s' acc c} I' hn b hb => by
    have hb' : b ∈ Y.ex := by rw [e7]; exact hb
    refine ⟨hn b hb, (I'.ok.exf b hb').1, I'.ok.exfs b hb', .inl hb', (I'.ok.exf b hb').2, fun p hp => ?_⟩
    rcases List.mem_append.mp hp with hp | hp
    · rw [e8] at hp
      rintro rfl; exact hpf p hp hb
    · rw [List.mem_singleton.mp hp]
      rintro rfl; exact hSf hb
  intro m
  induction m using Nat.strongRecOn with
  | ind m ih =>
  intro i ys H n s₀ s hW hn hI st fr
  have len0 : (L2.wipe σ vs).length = σ.length := wipe_length σ vs
  show Seg _ A _ _ _ s₀ _ ((compTurn (gxe elt tg iter ifs scope pos) 0 (.ref it) .none genv).onRaise (leaving genv)) [] s
  rw [compTurn_gen, Sem.onRaise_eq_wrap]
  refine seg_bind_wrap (wpAny_standAt ?_)
  obtain ⟨acc, cc, ra, I⟩ := id hI
  rcases G.turn i m ys H hW with ⟨stop, qq⟩ | ⟨go, Nx, hNx, step⟩
  · have td := T.done Y e1 e2 e3 e4 i [(S, lstObj acc cc)] s _ H (fun _ _ => False) I (stat I fr) st stop
    rw [e5] at td
    refine seg_bind_wrap (wpAny_mono td (fun r s6 ⟨hr, I6⟩ => ?_) fun _ _ z => z.elim)
    subst hr
    exact seg_end (.ok .next) ⟨rfl, H, ys, hn, ⟨acc, cc, ra, I6⟩, qq⟩
  · have ti := T.item Y e1 e2 e3 e4 i [(S, lstObj acc cc)] s _ H (fun _ _ => False) I (stat I fr) st go
    rw [e5] at ti
    refine seg_bind_wrap (wpAny_mono ti (fun r s6 ⟨u, hr, h6⟩ => ?_) fun _ _ z => z.elim)
    subst hr
    refine seg_bind_wrap (wpAny_mono h6 (fun _ s7 ⟨x, H7, I7, r7, y7, st7, n7⟩ => ?_) fun _ _ z => z.elim)
    have I7' := I7.pinned (stat I7 n7) (T.obj _ _ st7)
    have pgr := hg.run _ s7 _ H7 x u _ I7' r7 (step x H7 y7)
    rw [e1, e2, e5, e6, e9] at pgr
    refine seg_bind_wrap (wpAny_mono pgr (fun _ s8 ⟨σ8, H8, I8, hw8, q8⟩ => ?_) fun _ _ z => z.elim)
    have ptr := ht.run _ s8 σ8 H8 _ I8 q8
    rw [e1, e2, e5, e6, e9] at ptr
    refine seg_bind_wrap (wpAny_mono ptr (fun b s9 ⟨H9, I9, q9⟩ => ?_) fun _ _ z => z.elim)
    -- the iterator's objects, pinned
    have toGI : ∀ {s' : Shared} {H' : Hp}, Inv Y ([(S, lstObj acc cc)] ++ pinsAt fp s7.heap) σ8 H' s' → GI Y S (pinsAt fp s7.heap) ys σ8 H' s' := fun I' => ⟨acc, cc, ra, I'⟩
    have fin : ∀ {s' : Shared} {H' : Hp} {zs : List V} {n' : Nat} {s₀' : Shared}, GI Y S (pinsAt fp s7.heap) zs σ8 H' s' → n' + zs.length = sizeLine → Nx zs H' → Seg (model X.prog X.w) A (gxR Y S (L2.wipe σ vs) cont) (GY Y S) n' s₀' (gxc elt tg iter ifs scope pos it genv) (.pure (.again (gxc elt tg iter ifs scope pos it genv))) [] s' := fun {s' H' zs n' s₀'} hGI hn' nx => by
      obtain ⟨m', hm, w'⟩ := hNx zs H' nx
      have pin' : ∀ b ∈ fp, ∀ o, s7.heap.get? b = some o → s'.heap.get? b = some o ∧ H' b = none := fun b hb o e => by
        obtain ⟨_, _, _, I'⟩ := hGI
        have z := I'.pin (b, o) (List.mem_append_right _ (List.mem_cons_of_mem _ (mem_pinsAt hb e)))
        exact ⟨z.1, z.2.1⟩
      have hl : (L2.wipe σ vs).length = σ8.length := by rw [← hw8, wipe_length]
      refine seg_again rfl (ih m' hm (i + 1) zs H' n' s₀' s' w' hn' (GI.weak (GI.unpin hGI) hl fun j v e => ?_) (T.keep _ _ _ st7 fun b hb o e => (pin' b hb o e).1) fun b hb => ?_)
      · rw [← hw8] at e
        exact (wipe_some e).1
      · obtain ⟨o, e, _⟩ := T.obj _ _ st7 b hb
        exact (pin' b hb o e).2
    cases b with
    | false =>
      simp only [Bool.false_eq_true, if_false] at q9 ⊢
      exact fin (toGI I9) hn q9
    | true =>
      simp only [if_true] at q9 ⊢
      have hy : ∀ v, yieldOut genv v = yieldValue v := fun v => by simp only [yieldOut, hco, Bool.false_eq_true, if_false]
      simp only [hy]
      rw [Sem.bind_eq_wrap', Sem.bind_eq_wrap', Sem.wrap_wrap, Sem.wrap_wrap]
      have per := he.run _ s9 σ8 H9 _ I9 q9
      rw [e1, e2, e5, e6, e9] at per
      refine seg_wrap (wpAny_mono per (fun z s10 ⟨yv, H10, I10, r10, hlt, nx⟩ => ?_) fun _ _ z => z.elim)
      obtain ⟨n, rfl⟩ : ∃ k, n = k + 1 := ⟨n - 1, by omega⟩
      have G10 := toGI I10
      refine seg_at (seg_yield rfl rfl rfl ⟨ys, yv, pinsAt fp s7.heap, σ8, H10, hn, r10, G10, fun s'' sl => ?_⟩)
      have hip : ∀ p ∈ pinsAt fp s7.heap, p.1 ≠ S := fun p hp => by
        obtain ⟨hb, _⟩ := of_pinsAt hp
        rintro rfl; exact hSf hb
      exact fin (GI.woken (by rw [e8]; exact hpS) hip hAp G10 r10 sl) (by rw [List.length_append, List.length_singleton]; omega) nx
end
end D

set_option Elab.async false
set_option linter.all false
set_option maxRecDepth 100000
set_option maxHeartbeats 2000000
/-! Fd19: generator expressions, made. -/
namespace D
open PySem PySem.Spec L2 PyProof.Rows GenW

section
variable {X : Cx}
/-- a generator expression's reading -/
def tGx (X : Cx) (P : Addr) (wi : TI) (g : TG) (tt : TT) (te : TE) (vs : List Nat) : TGen := fun σ H cont => wi σ H fun J H1 => GxR.TabG H1 P ∧ ∀ H2, GxR.Tabbed P H1 H2 → ∃ W, (∃ m, W 0 m [] H2) ∧ GxT X g tt te vs σ J cont W
abbrev xNo : XK := fun _ _ _ => False
theorem pgen_x {c P : Addr} {elt tg iter : Expr} {ifs : List Expr} {scope : Scope} {own : List (Str × Nat)} {pos : Pos} {wi : TI} {g : TG} {tt : TT} {te : TE} {k : Nat} (hN : X.N.Nodup) (hr : Room (k + 1) X.A) (TB : GxR.TabB X.base X.mg c P) (hcode : X.env.code = .ref c) (ok : GxOk X.N X.env.scope scope own)
    (hi : PI X tg iter wi)
    (hg : ∀ (A : Around) (s : Shared) (H : Hp) (C : Addr) (cl : List (Str × Addr)) (code : Value) (fp : List Addr) (pn : List (Addr × Obj)), Room k A → PG (gxX X A s H (genEnv scope cl C code builtinsNs X.env) fp pn) tg g)
    (ht : ∀ (A : Around) (s : Shared) (H : Hp) (C : Addr) (cl : List (Str × Addr)) (code : Value) (fp : List Addr) (pn : List (Addr × Obj)), Room k A → PTs (gxX X A s H (genEnv scope cl C code builtinsNs X.env) fp pn) ifs tt)
    (he : ∀ (A : Around) (s : Shared) (H : Hp) (C : Addr) (cl : List (Str × Addr)) (code : Value) (fp : List Addr) (pn : List (Addr × Obj)), Room k A → PE (gxX X A s H (genEnv scope cl C code builtinsNs X.env) fp pn) elt te)
    (hs : ∀ v, genFold iter X.env v = pure v) : PGen X (k + 1) (gxe elt tg iter ifs scope pos) (tGx X P wi g tt te (own.map (·.2))) xNo := by
  refine ⟨fun pins s σ H cont I h => ?_⟩
  have hfree : ∀ y ∈ scope.names, y.2 = .free → ∃ c, X.env.cells.lookup y.1 = some c := fun y hy e => by
    rcases ok.free y hy e with k | k
    · exact I.ok.has _ (.inl k)
    · exact I.ok.has _ (.inr k)
  refine wpAny_GeneratorExp_make ok.co (closure_ok hfree) ok.cell ok.dot ok.kind (by have := hr.dp; omega) ?_ hs
  refine thn (hi.run pins s σ H _ I h) fun xv s1 h1 => thn h1 fun itv s2 h2 => ?_
  obtain ⟨it, fp, tn, J, H2, e, I2, T, st2, f2, ⟨ps, hP, htr⟩, q⟩ := h2
  subst e
  have hPs : s2.heap.get? P = some { cls := .none, data := .fields ps } := I2.hok P _ hP
  have hPlt : P < s2.heap.objs.size := Heap.lt_size hPs
  have cd : PySem.W.CodeHd s2.heap c P := TB.code.keeps fun b u e => I2.bk b u e
  have go : ∀ (code : Value) (h3 : Heap) (tk : Nat) (ps' : Array Value), Heap.ExtBut P s2.heap h3 → s2.heap.objs.size ≤ h3.objs.size → h3.get? P = some { cls := .none, data := .fields ps' } → (∃ more, ps' = ps ++ more) → TriplesOk ps'.toList →
      wpAny (model X.prog X.w) X.A (builtinsFor X.env.globals X.env.builtins) (fun bi s₄ =>
        ∀ h', h'.Ns s₄.heap.objs.size (fun y => if y = ".0" then some (.ref it) else none) → Heap.SameBut s₄.heap.objs.size (s₄.heap.push { cls := .type "frame", data := .dict #[] }) h' →
          (∃ H1 sc ex, Inv X pins σ H1 sc ∧ ExOk X pins ex ∧ GMade X.prog X.w (k + 1) X.stack H1 sc ex cont xNo (.ref h'.objs.size) { s₄ with
            gens := s₄.gens.push (.fresh (.compStart (gxe elt tg iter ifs scope pos) 0 (.ref it) .none (genEnv scope (cloFrom X.env.cells scope.names []) s₄.heap.objs.size code bi X.env))),
            toks := s₄.toks + 1 + 1 + 1,
            heap := h'.push { cls := .type "generator", data := .fields #[.int s₄.gens.size 0, .str "<genexpr>" (s₄.toks + 1), .str (X.env.qual ++ "<genexpr>") (s₄.toks + 1 + 1)] } })) X.xe { s2 with heap := h3, toks := tk } := by
    intro code h3 tk ps' hx hsz hP3 hmore ht3
    obtain ⟨bm, ob, e1, e2, e3, e4, e5, e6, e7, e8⟩ := TB.bm
    have keep3 : ∀ b u, b ≠ P → s2.heap.get? b = some u → h3.get? b = some u := fun b u hb e => hx b u hb e
    refine wpAny_builtinsFor (m := X.mg) (by rw [I2.ok.glob]; exact (I2.mod.glob.keeps I2.bk).extBut hx TB.gP) e1 e2 (keep3 _ _ e4 (I2.bk _ _ e5)) e6 e7 e8 ?_
    intro h' hns hsb
    obtain ⟨more, em⟩ := hmore
    have I3 : Inv X pins σ (upd H2 P (.tbl (ps ++ more))) { s2 with heap := h3, gens := s2.gens, drawn := s2.drawn, toks := tk } := GxR.inv_tab I2 hP keep3 (by rw [← em]; exact hP3) I2.bare
    obtain ⟨W, ⟨m0, w0⟩, G⟩ := q (upd H2 P (.tbl (ps ++ more))) ⟨⟨ps ++ more, upd_same, by rw [← em]; exact ht3⟩, fun b hb => upd_ne hb⟩
    generalize hH3 : upd H2 P (.tbl (ps ++ more)) = H3 at I3 w0
    have nP : ∀ b ∈ fp, b ≠ P := fun b hb z => by
      have := (f2 b hb).1
      rw [z, hP] at this; cases this
    have f3 : ∀ b ∈ fp, FpOk X pins H3 b := fun b hb => ⟨by rw [← hH3, upd_ne (nP b hb)]; exact (f2 b hb).1, (f2 b hb).2⟩
    have st3 : tn 0 h3 := T.keep _ _ _ st2 fun b hb o e => keep3 b o (nP b hb) e
    have lt3 : ∀ b ∈ fp, b < h3.objs.size := fun b hb => by
      obtain ⟨o, e, _⟩ := T.obj _ _ st3 b hb
      exact Heap.lt_size e
    have fr3 : ∀ b ∈ fp, H3 b = none := fun b hb => (f3 b hb).1
    generalize hsc : ({ s2 with heap := h3, gens := s2.gens, drawn := s2.drawn, toks := tk } : Shared) = sc at I3
    have hsc1 : sc.heap = h3 := by rw [← hsc]
    have hsc2 : sc.gens = s2.gens := by rw [← hsc]
    have hsc3 : sc.os = s2.os := by rw [← hsc]
    have lim : sc.heap.NoLimit := I3.nolimit
    -- h', its generator's object
    have hsz' : h'.objs.size = h3.objs.size + 1 := by
      have := hsb.1
      rw [Heap.size_push] at this
      exact this
    have keep' : ∀ b o, h3.get? b = some o → h'.get? b = some o := fun b o e => hsb.extBut b o (Nat.ne_of_lt (Heap.lt_size e)) (Heap.get?_push_of_some _ e)
    have main : ∀ (go : Obj) (nm qn : Value) (tk2 : Nat), go.cls = .type "generator" → go.data = .fields #[.int s2.gens.size 0, nm, qn] → go.slots = #[] → (∀ hh : Heap, (hh.push go).get? hh.objs.size = some go) →
        GMade X.prog X.w (k + 1) X.stack H3 sc fp cont xNo (.ref h'.objs.size) { s2 with
            gens := s2.gens.push (.fresh (.compStart (gxe elt tg iter ifs scope pos) 0 (.ref it) .none (genEnv scope (cloFrom X.env.cells scope.names []) h3.objs.size code builtinsNs X.env))), toks := tk2, heap := h'.push go } := by
      intro go nm qn tk2 hgc hgd0 hgs hgp
      have hpushed : (h'.push go).get? h'.objs.size = some go := hgp _
      have hgen : ∀ hh : Heap, hh.get? h'.objs.size = some go → hh.IsGen h'.objs.size s2.gens.size := fun hh e => ⟨go, nm, qn, e, hgc, hgd0, hgs⟩
      have kpS : ∀ b o, sc.heap.get? b = some o → (h'.push go).get? b = some o := fun b o e => Heap.get?_push_of_some _ (keep' b o (by rw [← hsc1]; exact e))
      refine ⟨h'.objs.size, s2.gens.size, _, rfl, by rw [hsc1]; omega, ?_, hgen _ hpushed, Array.getElem?_push_size .., by rw [hsc3], AllBare.push I2.bare rfl, lim.keeps kpS, kpS, ?_⟩
      · show _ < (h'.push go).objs.size
        rw [Heap.size_push]; exact Nat.lt_succ_self _
      intro Aw Sx s5 hrw hfr hSx hk5 hSo hos hba
      obtain ⟨cS, heS⟩ := hSo
      have kp5 : ∀ b o, sc.heap.get? b = some o → s5.heap.get? b = some o := fun b o e => hk5 b o (kpS b o e)
      have hea : s5.heap.get? h'.objs.size = some go := hk5 _ _ hpushed
      have hSz : h'.objs.size < Sx := by
        have hSx' : (h'.push go).objs.size ≤ Sx := hSx
        rw [Heap.size_push] at hSx'
        exact hSx'
      have hscs : sc.heap.objs.size = h3.objs.size := by rw [hsc1]
      have hns5 : s5.heap.Ns sc.heap.objs.size (fun y => if y = ".0" then some (.ref it) else none) := by
        rw [hscs]
        exact hns.keeps fun b o e => hk5 b o (Heap.get?_push_of_some _ e)
      generalize hgenv : genEnv scope (cloFrom X.env.cells scope.names []) h3.objs.size code builtinsNs X.env = genv
      have hgd : ∀ v, go.data ≠ .cell v := fun v q => by rw [hgd0] at q; cases q
      have st5 := gx_start (A := Aw.over (gxc elt tg iter ifs scope pos it genv) []) (s2 := s5) (code := code) (pn := [(h'.objs.size, go)]) (pins2 := [(Sx, lstObj #[] cS)]) (fp := fp) I3 ok hN (fun b hb => ⟨f3 b hb, by rw [hscs]; exact lt3 b hb⟩) hrw.hd
        (by rw [hscs, hgenv]; exact gx_frames hfr) hos hba kp5 hns5 (fun p hp => by
          rcases List.mem_append.mp hp with z | z
          · rw [List.mem_singleton.mp z]
            exact ⟨hea, by rw [hscs]; show h3.objs.size < h'.objs.size; rw [hsz']; exact Nat.lt_succ_self _, hgd⟩
          · rw [List.mem_singleton.mp z]
            exact ⟨heS, by rw [hscs]; show h3.objs.size < Sx; exact Nat.lt_trans (by rw [hsz']; exact Nat.lt_succ_self _) hSz, fun v q => by cases q⟩)
      rw [hscs, hgenv] at st5
      have rk : Room k (Aw.over (gxc elt tg iter ifs scope pos it genv) []) := gx_room hrw
      have pg := hg (Aw.over (gxc elt tg iter ifs scope pos it genv) []) sc H3 h3.objs.size (cloFrom X.env.cells scope.names []) code fp [(h'.objs.size, go)] rk
      have pt := ht (Aw.over (gxc elt tg iter ifs scope pos it genv) []) sc H3 h3.objs.size (cloFrom X.env.cells scope.names []) code fp [(h'.objs.size, go)] rk
      have pe := he (Aw.over (gxc elt tg iter ifs scope pos it genv) []) sc H3 h3.objs.size (cloFrom X.env.cells scope.names []) code fp [(h'.objs.size, go)] rk
      rw [hgenv] at pg pt pe
      have hL : genv.locals = h3.objs.size := by rw [← hgenv]; rfl
      have hscg : genv.scope = scope := by rw [← hgenv]; rfl
      have hcl : genv.cells = cloFrom X.env.cells scope.names [] := by rw [← hgenv]; rfl
      have young : ∀ b, h'.objs.size ≤ b → b ∉ fp := fun b hb hm =>
        absurd (Nat.lt_of_lt_of_le (lt3 b hm) (Nat.le_trans (by rw [hsz']; exact Nat.le_succ _) hb)) (Nat.lt_irrefl _)
      have hS3 : h3.objs.size < Sx := Nat.lt_trans (by rw [hsz']; exact Nat.lt_succ_self _) hSz
      have loop := gx_loop (X := X) (A := Aw) (s_0 := sc) (H_0 := H3) (genv := genv) (fp := fp) (pn := [(h'.objs.size, go)]) (elt := elt) (tg := tg) (iter := iter) (ifs := ifs) (scope := scope) (pos := pos) (it := it) (S := Sx) (by rw [hscg]; exact ok.co) T
        (fun p hp => by rw [List.mem_singleton.mp hp]; exact Nat.ne_of_lt hSz) (fun p hp => by rw [List.mem_singleton.mp hp]; exact young _ (Nat.le_refl _)) (young _ (Nat.le_of_lt hSz))
        ⟨by show sc.heap.objs.size ≤ Sx; rw [hscs]; exact Nat.le_of_lt hS3, by show Sx ≠ genv.locals; rw [hL]; exact Nat.ne_of_gt hS3, fun x c e => by
          have e : genv.cells.lookup x = some c := e
          rw [hcl] at e
          rcases cloFrom_mem (PySem.mem_of_lookup e) with hm | ⟨h1, rfl⟩
          · cases hm
          · obtain ⟨c, hc⟩ := hfree _ h1 rfl
            obtain ⟨w, z⟩ := I3.cell _ _ hc
            have hc' : (X.env.cells.lookup x).getD 0 = c := by rw [hc]; rfl
            rw [hc']
            have := z.lt
            rw [hscs] at this
            exact Nat.ne_of_lt (Nat.lt_trans this hS3)⟩ pg pt pe G m0 0 [] H3 sizeLine s5 s5 w0 (by simp) ⟨#[], cS, .nil, st5⟩ (T.keep _ _ _ st3 fun b hb o e => kp5 b o (by rw [hsc1]; exact e)) fr3
      have start : Seg (model X.prog X.w) Aw (gxR (gxX X (Aw.over (gxc elt tg iter ifs scope pos it genv) []) sc H3 genv fp [(h'.objs.size, go)]) Sx (L2.wipe σ (own.map (·.2))) cont) (GY (gxX X (Aw.over (gxc elt tg iter ifs scope pos it genv) []) sc H3 genv fp [(h'.objs.size, go)]) Sx) sizeLine s5
          (.compStart (gxe elt tg iter ifs scope pos) 0 (.ref it) .none genv) ((model X.prog X.w).den (.compStart (gxe elt tg iter ifs scope pos) 0 (.ref it) .none genv)) [] s5 := by
        have tS5 : tn 0 s5.heap := T.keep _ _ _ st3 fun b hb o e => kp5 b o (by rw [hsc1]; exact e)
        show Seg _ Aw _ _ _ s5 _ ((compStart (gxe elt tg iter ifs scope pos) 0 (.ref it) .none genv).onRaise (leaving genv)) [] s5
        unfold compStart
        rw [Sem.onRaise_eq_wrap]
        show Seg _ Aw _ _ _ s5 _ ((ask >>= _).wrap _ _ _ _) [] s5
        refine seg_bind_wrap (wpAny_askSetting ?_)
        split
        · exact seg_again rfl loop
        · refine seg_bind_wrap (wpAny_rule ?_)
          show Seg _ Aw _ _ _ s5 _ ((standAt iter.pos >>= _).wrap _ _ _ _) [] s5
          exact seg_bind_wrap (wpAny_standAt (seg_bind_wrap (T.self _ 0 s5 _ _ tS5 (seg_again rfl loop))))
      refine seg_imp (fun n s₀ r s1' hR => ?_) (fun n s₀ v s1' kap kap' hkk hY => ?_) sizeLine start
      · obtain ⟨hr', H', ys, hn, hGI, hQ⟩ := hR
        obtain ⟨a1, _, _, acc, cc, ra, ea⟩ := hGI.at
        obtain ⟨_, _, _, J'⟩ := hGI
        exact .inl ⟨.inr hr', H', ys, acc, cc, J'.os, J'.bare, J'.base, J'.hok, a1, ea, ra, by omega, hQ⟩
      · obtain ⟨ys, xx, ip, σ', H', hn, h2, hI, h3'⟩ := hY
        obtain ⟨_, _, _, acc, cc, ra, ea⟩ := hI.at
        obtain ⟨_, _, _, J'⟩ := hI
        have hgn := hgen _ (J'.pin (h'.objs.size, go) (List.mem_append_left _ (List.mem_singleton.mpr rfl))).1
        have hszz : acc.size = ys.length := by
          have e1 := ra.length
          have e2 : acc.toList.length = acc.size := by simp
          omega
        exact ⟨J'.os, J'.bare, J'.nolimit, hgn, ⟨acc, cc, ea, by rw [hszz]; exact hn⟩, fun s' z => hkk _ _ (h3' s' z)⟩
    have m1 := main { cls := .type "generator", data := .fields #[.int s2.gens.size 0, .str "<genexpr>" (tk + 1), .str (X.env.qual ++ "<genexpr>") (tk + 1 + 1)] } _ _ (tk + 1 + 1 + 1) rfl rfl rfl fun hh => Heap.get?_push_size _ rfl
    subst hsc
    exact ⟨H3, _, fp, I3, fun b hb => ⟨(f3 b hb).2.2.2.1, (f3 b hb).2.1, (f3 b hb).2.2.2.2.1, (f3 b hb).2.2.2.2.2⟩, m1⟩
  refine ⟨I2.nolimit, ?_⟩
  cases hf : codeAmong pos ps.toList with
  | none =>
    refine wpAny_genexprCodeX hcode (cd.code hPs htr) (cd.tab hPs) hf fun c' h' tk hx hge hlt hco' _ htab' _ => ?_
    obtain ⟨o1, vs, f1, tf, fl, tg, inF, tx, tt, op, _, _, _, _, _, _, _, _, _, htr', _⟩ := hco'
    exact go _ h' tk _ hx (Nat.le_trans hge (Nat.le_of_lt hlt)) htab'.2 ⟨_, rfl⟩ htr'
  | some cv =>
    refine wpAny_genexprCode_hit hcode (cd.code hPs htr) hf ?_
    exact go cv s2.heap s2.toks ps (Heap.ExtBut.refl _ _) (Nat.le_refl _) hPs ⟨#[], by simp⟩ htr
end
end D

set_option Elab.async false
set_option linter.all false
set_option maxRecDepth 100000
set_option maxHeartbeats 2000000
/-! Fd20: tuple of a generator expression. -/
namespace D
open PySem PySem.Spec L2 PyProof.Rows GenW

theorem cx_no {P : Program} {w : World} {outer : List PySem.Env} {H : Hp} {s s' : Shared} {e : Value} (c : L2.CX P w outer H s xNo e s') : False := by
  obtain ⟨_, _, _, _, _, _, _, _, _, _, _, _, q⟩ := c
  exact q
section
variable {P : Program} {w : World} {outer : List PySem.Env} {H : Hp} {sc s : Shared} {ex : List Addr} {Q : List V → Hp → Prop} {A : Around} {k : Nat} {u : Value}
/-- behind the drawing of all -/
def Drawn (P : Program) (w : World) (outer : List PySem.Env) (H : Hp) (sc s : Shared) (ex : List Addr) (Q : List V → Hp → Prop) (S : Addr) (acc : Array Value) (s' : Shared) : Prop :=
  ∃ (c : Nat) (H' : Hp) (ys : List V), s.heap.objs.size ≤ S ∧ s'.heap.get? S = some (lstObj acc c) ∧ Vals ys acc.toList ∧ ys.length ≤ sizeLine ∧ s'.os = sc.os ∧ AllBare s'.gens ∧ Un (frs outer) ex H H' sc.heap s'.heap ∧ HOk P w H' s'.heap ∧ H' S = none ∧ Q ys H'
theorem collect_G {Q' : List Value → Shared → Prop} {E : Value → Shared → Prop} (hr : Room (k + 1) A) (hfr : A.frames = some outer) (h : GMade P w k outer H sc ex Q xNo u s)
    (hQ : ∀ S acc s', Drawn P w outer H sc s ex Q S acc s' → Q' acc.toList s') : wpAny (model P w) A (collect u) Q' E s := by
  obtain ⟨a, g, c, rfl, ha1, ha2, hg, hgs, hos, hb, hl, hkp, wake⟩ := h
  have hSa : s.heap.objs.size ≠ a := Nat.ne_of_gt ha2
  have hcl : cStatics < s.heap.objs.size := let ⟨_, hn, _⟩ := hl; hn.lt
  have hSc : s.heap.objs.size ≠ cStatics := Nat.ne_of_gt hcl
  unfold collect
  refine wpAny_bind (wpAny_runValue (codeAny_builtin PySem.F.entry_proto_collect ?_))
  rw [Around.under_plainId PySem.F.plain_proto_collect _]
  show wpAny _ A.in1 (newList [] >>= fun l => again (.builtin "list.__iadd__" ⟨[l, .ref a], []⟩)) _ _ s
  refine wpAny_bind (wpAny_newObj_type ?_)
  refine wpAny_pure ⟨plainId_quiet PySem.F.plain_list_iadd _, codeAny_builtin PySem.F.entry_list_iadd ?_⟩
  rw [Around.under_plainId PySem.F.plain_list_iadd _]
  have k1 : ∀ b o, s.heap.get? b = some o → (s.heap.push { cls := .type "list", data := .seq ([] : List Value).toArray }).get? b = some o := fun b o e => Heap.get?_push_of_some _ e
  have gty : ∀ {h : Heap}, (∀ b o, s.heap.get? b = some o → h.get? b = some o) → h.IsGen a g := fun {h} q => hg.keeps q
  show wpAny _ A.in1 (Builtin.List.listExtendWith (.ref s.heap.objs.size) (.ref a) (.ref s.heap.objs.size)) _ _ _
  unfold Builtin.List.listExtendWith
  refine wpAny_bind (wpAny_typeOf (Heap.IsGen.typeIs (s := { s with heap := _ }) (gty k1)) ?_)
  have h1 : Builtin.List.listSameRef (.ref s.heap.objs.size) (.ref a) = false := by simp [Builtin.List.listSameRef, hSa]
  have h2 : (Value.type "generator" == Value.type "list") = false := by decide
  have h3 : (Value.type "generator" == Value.type "tuple") = false := by decide
  simp only [h1, h2, h3, Bool.or_false, Bool.false_eq_true, if_false]
  refine wpAny_bind (wpAny_pyIter_gen (s := { s with heap := _ }) (gty k1) ?_)
  refine wpAny_bind (wpAny_holding ?_)
  unfold Builtin.List.listLengthHint
  refine wpAny_bind (wpAny_specialOf (Heap.IsGen.typeIs (s := { s with heap := _ }) (gty k1)) PySem.F.gen_no_len ?_)
  show wpAny _ A.in1 (specialOf (Value.ref a) (Str.ofString "__length_hint__") >>= _) _ _ _
  refine wpAny_bind (wpAny_specialOf (Heap.IsGen.typeIs (s := { s with heap := _ }) (gty k1)) PySem.F.gen_no_hint ?_)
  refine wpAny_pure ?_
  show wpAny _ A.in1 (rule "list.extend.makes-room" >>= fun _ => Builtin.List.listTouch (.ref s.heap.objs.size) >>= fun _ =>
    again (.builtin "list.extend.loop" ⟨[.ref s.heap.objs.size, .ref a, .ref s.heap.objs.size], []⟩)) _ _ _
  refine wpAny_bind (wpAny_rule ?_)
  have hS₁ : (s.heap.push { cls := .type "list", data := .seq ([] : List Value).toArray }).get? s.heap.objs.size = some { cls := .type "list", data := .seq ([] : List Value).toArray } := Heap.get?_push_size _ rfl
  refine wpAny_bind ?_
  show wpAny _ A.in1 (updateSeq s.heap.objs.size (·.push .none) >>= fun _ => updateSeq s.heap.objs.size (·.pop)) _ _ _
  refine wpAny_bind (wpAny_updateSeq hS₁ rfl ?_)
  have hS₂ := Heap.get?_update_self (Obj.mapSeq (·.push Value.none)) hS₁ rfl
  refine wpAny_updateSeq hS₂ rfl ?_
  have hS₃ := Heap.get?_update_self (Obj.mapSeq (·.pop)) hS₂ rfl
  have up : ∀ (h : Heap) (f : Obj → Obj), (∀ b o, s.heap.get? b = some o → h.get? b = some o) → ∀ b o, s.heap.get? b = some o → (h.update s.heap.objs.size f).get? b = some o := fun h f q b o e =>
    (Heap.get?_update_other _ _ (Ne.symm (Nat.ne_of_lt (Heap.lt_size e)))).trans (q b o e)
  have k4 := up _ (Obj.mapSeq (·.pop)) (up _ (Obj.mapSeq (·.push Value.none)) k1)
  refine wpAny_pure ⟨plainId_quiet PySem.F.plain_extend_loop _, ?_⟩
  refine drain (P := P) (w := w) (outer := outer) (H := H) (sc := sc) (ex := ex) (Q := Q) (EX := xNo) (A := A) (g := g) hr.hd (by have := hr.dp; show A.depth < _; omega) hSa hSc
    (fun s' acc c H' ys q1 q2 q3 q4 q5 q6 q7 q8 q9 => ?_) (fun e s' hc => (cx_no hc).elim)
    sizeLine _ (gty k4) (hl.keeps k4) ⟨_, hgs, rfl, ?_⟩
  · show wpAny _ A (load s.heap.objs.size >>= _) _ _ s'
    refine wpAny_bind (wpAny_load q1 ?_)
    exact wpAny_pure (hQ s.heap.objs.size acc s' ⟨c, H', ys, Nat.le_refl _, q1, q2, q3, q4, q5, q6, q7, q8, q9⟩)
  · refine wake _ _ _ ⟨hr.hd, ?_, ?_⟩ hfr (Nat.le_refl _) k4 ⟨_, hS₃⟩ hos (allBare_setGen (s := { s with heap := _ }) hb rfl)
    · have := hr.dp
      show A.depth + 3 * k + 5 < _
      omega
    · have := hr.un
      show A.units + 1 + 1 + 16 * k + 200 < _
      omega
theorem code_tuple_G {Q₁ : Value → Shared → Prop} {E : Value → Shared → Prop} (hr : Room (k + 2) A) (hfr : A.frames = some outer) (h : GMade P w k outer H sc ex Q xNo u s) (hgn : s.TypeIs u "generator")
    (hQ : ∀ S acc s', Drawn P w outer H sc s ex Q S acc s' → Q₁ (.ref s'.heap.objs.size) { s' with heap := s'.heap.push { cls := .type "tuple", data := .seq acc } }) :
    codeAny (model P w) A (.call (.builtin "tuple.__new__") ⟨[.type "tuple", u], []⟩) (wants Q₁ E) s := by
  obtain ⟨a, _, _, hu, _⟩ := id h
  subst hu
  refine codeAny_of_tree ?_
  show wpAny _ A.in1 (do checkBuiltinCall "tuple.__new__" ⟨[.type "tuple", .ref a], []⟩; again (.builtin "tuple.__new__" ⟨[.type "tuple", .ref a], []⟩)) _ _ s
  refine wpAny_bind (wpAny_of_eq (PySem.F.newCall_tuple_1 _) (wpAny_pure ⟨plainId_quiet PySem.F.plain_tuple_new _, codeAny_builtin PySem.F.entry_tuple_new ?_⟩))
  rw [Around.under_plainId PySem.F.plain_tuple_new _]
  have hsub := sub_tuple_self
  have hinit := init_tuple_lookup
  have hmh := madeHere_tuple
  have hrA : Room (k + 1) A.in1 := hr.in1
  wp_walk using wpAny_typeOf hgn, collect_G hrA hfr h
  intro S acc s' hm
  have hle : acc.size ≤ sizeLine := by
    obtain ⟨c, H', ys, _, _, r, hl, _⟩ := hm
    have := r.length
    have e2 : acc.toList.length = acc.size := by simp
    omega
  show wpAny _ _ (Builtin.Tuple.tupleExact acc.toList.toArray >>= fun v => ret v) _ _ _
  unfold Builtin.Tuple.tupleExact
  refine wpAny_bind (wpAny_newObj_type ?_ (by show acc.toList.toArray.size ≤ sizeLine; simp only [Array.toArray_toList]; exact hle))
  refine wpAny_pure ?_
  have e : acc.toList.toArray = acc := by simp
  rw [e]
  exact hQ S acc s' hm
theorem call_tuple_G {Q' : Value → Shared → Prop} {E : Value → Shared → Prop} (hr : Room (k + 3) A) (hfr : A.frames = some outer) (h : GMade P w k outer H sc ex Q xNo u s)
    (hQ : ∀ S acc s', Drawn P w outer H sc s ex Q S acc s' → Q' (.ref s'.heap.objs.size) { s' with heap := s'.heap.push { cls := .type "tuple", data := .seq acc } }) :
    wpAny (model P w) A (call (.type "tuple") [u]) Q' E s := by
  have hgn : s.TypeIs u "generator" := by
    obtain ⟨a, g, c, rfl, ha1, ha2, hg, _⟩ := id h
    exact hg.typeIs
  refine callType_codes (Q₁ := fun obj s₁ => s₁.TypeIs obj "tuple" ∧ Q' obj s₁) PySem.F.called_tuple (PySem.F.typeCall_tuple_1 _) PySem.F.entry_object_init
    (code_tuple_G (A := A.in1) hr.in1 hfr h hgn fun S acc s' hm => ⟨⟨_, Heap.get?_push_size _ rfl, rfl⟩, hQ S acc s' hm⟩) fun obj s₁ h₁ => ?_
  exact ⟨h₁.1, PySem.F.args_object_init_2 obj _, object_init_meets PySem.F.called_tuple.init.lookup PySem.F.called_tuple.made (by decide) P w A.in1 _ s₁ ⟨h₁.1, rfl, h₁.2⟩⟩
end
section
variable {X : Cx} {k : Nat} {p pos : Pos}
def tTupG (tg : TGen) : TE := fun σ H Q => tg σ H fun out H2 => NewT out H2 Q
/-- tuple(g) -/
theorem pe_tupleG {e : Expr} {tg : TGen} (h : PGen X k e tg xNo) (hr : Room (k + 3) X.A) (hb : Bn X "tuple" (.type "tuple")) (he : notStar e = true) : PE X (.Call (.Name "tuple" p) [e] [] pos) (tTupG tg) := by
  refine ⟨fun pins s σ H Q I hq => ?_⟩
  refine wpAny_Call_Name_kw (ld_blt I hb.1 hb.2.1 hb.2.2.1 ?_ hb.2.2.2.1 hb.2.2.2.2)
  refine PyProof.Rows.callWith_type1 ?_ (star_cons he) rfl
  rw [star_cons he]
  show wpAny _ _ (spliced ((false, eval e X.env) :: backTo pos (starEach [] X.env))) _ _ s
  refine Calls.spliced_cons (thn (h.run pins s σ H _ I hq) fun u s1 ⟨H1, sc, ex, I1, hex, hG⟩ => ?_)
  refine Calls.spliced_nil ?_
  have hsz : sc.heap.objs.size ≤ s1.heap.objs.size := by
    obtain ⟨a, g, c, _, h1, h2, _⟩ := hG
    exact Nat.le_trans h1 (Nat.le_of_lt h2)
  refine call_tuple_G hr I1.ok.frames hG fun S acc s' hm => ?_
  obtain ⟨c, H', ys, q0, q1, q2, hl, q3, q4, q5, q6, q7, q8⟩ := hm
  have I2 : Inv X pins σ (upd H' S (.lst ys)) s' := I1.drained (Nat.le_trans hsz q0) hl q1 q2 hex q3 q4 q5 q6 q7
  have I3 : Inv X pins σ H' s' := by
    refine I1.call' (ch := ex) q3 q5 q6 q4 hex
  have ht := ep_tup (t' := s'.toks) (us := acc.toList) I3 (fun _ _ e => e) q2 hl q8
  simpa only [tupO, Array.toArray_toList] using ht
end
end D

set_option Elab.async false
set_option linter.all false
set_option maxRecDepth 100000
set_option maxHeartbeats 2000000
/-! Fd21: generator expressions, read by the evaluator. -/
namespace D
open PySem PySem.Spec L2 PyProof.Rows GenW

section
variable {G : Gm} {lo : Nat} {h0 : AH} {μ : List Addr} {h : AH} {H H2 : Hp} {P : Addr}
/-- a table has grown -/
theorem Rep.tabbed (r : Rep G lo h0 μ h H) (hP : P ∈ G.tabs) (t : GxR.Tabbed P H H2) : Rep G lo h0 μ h H2 ∧ Ext G μ h H μ h H2 := by
  obtain ⟨⟨ps, e1, k1⟩, k⟩ := t
  obtain ⟨⟨qs, e0, k0⟩, nP⟩ := r.tab P hP
  have g : Grow H (wr G μ h) H2 (wr G μ h) := ⟨fun a o e w => by
    rw [k a]
    · exact e
    · rintro rfl; exact w (.inl (.inl hP)), fun a w => .inl w⟩
  have hidne : ∀ a ∈ G.hid, a ≠ P := fun a ha z => by
    obtain ⟨⟨vs, e⟩, _⟩ := r.hid a ha
    rw [z, e0] at e; cases e
  refine ⟨⟨r.len, r.nd, fun t ht => ?_, fun t ht => ?_, fun p o a ea eo => ?_, r.le, r.since, r.shut⟩, List.prefix_rfl, g, fun a ha o e => by rw [k a (hidne a ha)]; exact e⟩
  · by_cases q : t = P
    · subst q; exact ⟨⟨ps, e1, k1⟩, nP⟩
    · obtain ⟨⟨rs, e, kk⟩, n⟩ := r.tab t ht
      exact ⟨⟨rs, by rw [k t q]; exact e, kk⟩, n⟩
  · obtain ⟨⟨vs, e⟩, n⟩ := r.hid t ht
    exact ⟨⟨vs, by rw [k t (hidne t ht)]; exact e⟩, n⟩
  · refine ORel.grow g List.prefix_rfl (fun u e => ?_) (r.obj p o a ea eo)
    rw [k a]
    · exact e
    · rintro rfl; exact nP (List.mem_of_getElem? eo)
end

section
variable {F : Fx} {cx : String → Option Addr} {Wx : WX} {X : Cx} {a b c e : Expr} {es : List Expr} {pos p2 : Pos} {fa fb fc : Env → AH → Out RV} {fs fi : Env → AH → Out (List RV)}
/-- what is walked by a generator expression -/
def gxO (t : T) (fi : Env → AH → Out (List RV)) (test : Env → AH → Out Bool) (elt : Env → AH → Out RV) : Env → AH → Out (List RV) := fun ρ h => (fi ρ h).bind fun xs h1 => (lcL t (D.wipe ρ t.slots) test elt xs h1).nox
theorem tGx_of {t : T} {w : Bool} {P : Addr} {test : Env → AH → Out Bool} {elt : Env → AH → Out RV} {k : List RV → AH → Out RV} {σ : L2.St} {H : Hp} {Q : VK} {cont : List V → Hp → Prop} (hP : P ∈ F.G.tabs) (q : tO F cx Wx (fun ρ h => (gxO t fi test elt ρ h).bind k) σ H Q)
    (hk : ∀ {μ : List Addr} {h h' : AH} {H : Hp} {all : List RV}, Fin F μ h H (k all h') (vK F Q) (xK F cx Wx σ) → all.length ≤ line) (hc : ∀ {μ : List Addr} {h : AH} {H : Hp} {all : List RV} {ys : List V}, F.R μ h H → F.v2 μ h H all ys → Fin F μ h H (k all h) (vK F Q) (xK F cx Wx σ) → cont ys H) :
    tGx X P (tI F cx Wx X.K w fi) (tGi F X.K w t) (tOb F cx wNo test) (tO F cx wNo elt) t.slots σ H cont := by
  obtain ⟨μ, ρ, h, r, s, f⟩ := q
  simp only [gxO, Out.bind_assoc] at f
  refine ⟨μ, ρ, h, r, s, Fin.mono (Fin.bind f) (fun xs h1 μ1 H1 e1 r1 z J hJ => ?_) fun _ _ _ _ _ _ z => z⟩
  have s1 := s.grow e1.grow e1.pre
  refine ⟨(r1.tab P hP).1, fun H2 tb => ?_⟩
  obtain ⟨rT, eT⟩ := Rep.tabbed r1 hP tb
  have z0 := Fin.bind z
  obtain ⟨all, hN, eL⟩ := nox_ok_inv z0
  rw [eL] at z
  have zN : Fin F μ1 h1 H1 (k all hN) (vK F Q) (xK F cx Wx σ) := z
  clear z z0
  refine ⟨fun i m ys H => ∃ μ' h' zs zl, F.E μ1 h1 H1 μ' h' H ∧ F.R μ' h' H ∧ F.v2 μ' h' H zs ys ∧ m = xs.length - i ∧ lcL t (D.wipe ρ t.slots) test elt (xs.drop i) h' = .ok zl hN ∧ all = zs ++ zl,
    ⟨xs.length, μ1, h1, [], all, eT, rT, .nil, by simp, by simpa using eL, rfl⟩, ⟨fun i m ys H3 wv => ?_⟩⟩
  obtain ⟨μ2, h2, zs, zl, e2, r2, rs2, hm, eZ, eall⟩ := wv
  by_cases hi : i < xs.length
  · refine .inr ?_
    have hx : xs[i]? = some xs[i] := List.getElem?_eq_getElem hi
    rw [List.drop_eq_getElem_cons hi] at eZ
    obtain ⟨ρ', b, h3, ep, et, ez⟩ := lcL_cons eZ
    obtain ⟨go, yl⟩ := hJ.turn i _ hx μ2 H3 _ e2.pre e2.grow
    refine ⟨go, fun ys' H' => ∃ μ' h' zs zl, F.E μ1 h1 H1 μ' h' H' ∧ F.R μ' h' H' ∧ F.v2 μ' h' H' zs ys' ∧ lcL t (D.wipe ρ t.slots) test elt (xs.drop (i + 1)) h' = .ok zl hN ∧ all = zs ++ zl, fun ys' H' n => ?_, fun y H4 hy => ?_⟩
    · obtain ⟨μ', h', zs', zl', n1, n2, n3, n4, n5⟩ := n
      exact ⟨xs.length - (i + 1), by omega, μ', h', zs', zl', n1, n2, n3, rfl, n4, n5⟩
    · obtain ⟨on, ry⟩ := yl y H4 hy
      have e3 : F.E μ2 h2 H3 μ2 h2 H4 := on.ext
      have r3 : F.R μ2 h2 H4 := on.rep r2
      have sw : F.s1 μ2 h2 H4 (D.wipe ρ t.slots) (L2.wipe σ t.slots) := (s1.wipe t.slots).grow (e2.grow.trans on.grow) e2.pre
      refine ⟨μ2, _, h2, xs[i], ρ', r3, sw, ry, ep, fun σ4 s4 hw4 => ⟨?_, ?_⟩⟩
      · rw [hw4]
        have : ∀ (vs : List Nat) (σ : L2.St), L2.wipe (L2.wipe σ vs) vs = L2.wipe σ vs := fun vs => by
          have key : ∀ (ws : List Nat) (σ : L2.St), (∀ i ∈ ws, i < σ.length → σ[i]? = some none) → L2.wipe σ ws = σ := fun ws => by
            induction ws with
            | nil => intro σ _; rfl
            | cons v ws ih =>
              intro σ hn
              simp only [L2.wipe]
              rw [ih σ fun i hi => hn i (List.mem_cons_of_mem _ hi)]
              apply List.ext_getElem?
              intro j
              by_cases q : j = v
              · subst q
                by_cases hl : j < σ.length
                · rw [List.getElem?_set_self hl, hn j List.mem_cons_self hl]
                · rw [List.getElem?_eq_none (by simpa using hl), List.getElem?_eq_none (by simpa using hl)]
              · rw [List.getElem?_set_ne (Ne.symm q)]
          intro σ
          refine key vs _ fun i hi hl => ?_
          cases q : (L2.wipe σ vs)[i]? with
          | none => rw [List.getElem?_eq_none_iff] at q; omega
          | some o =>
            cases o with
            | none => rfl
            | some v => exact absurd hi (wipe_some q).2
        exact this _ _
      · refine ⟨μ2, ρ', h2, r3, s4, ?_⟩
        rw [et]
        intro μ4 H5 e4 r4
        have e14 := (e2.trans e3).trans e4
        have rs4 := rs2.grow (on.grow.trans e4.grow) e4.pre
        show if b = true then _ else _
        rcases ez with ⟨rfl, ez⟩ | ⟨rfl, y', h5, zl', ey, ez, rfl⟩
        · simp only [Bool.false_eq_true, if_false]
          exact ⟨μ4, h3, zs, zl, e14, r4, rs4, ez, eall⟩
        · simp only [if_true]
          refine ⟨μ4, ρ', h3, r4, s4.grow e4.grow e4.pre, ?_⟩
          rw [ey]
          intro μ5 H6 e5 r5 y hy
          refine ⟨?_, μ5, h5, zs ++ [y'], zl', e14.trans e5, r5, (rs4.grow e5.grow e5.pre).append (.cons hy .nil), ez, by rw [eall]; simp⟩
          have l1 := rs4.length
          rw [line_eq]
          have l2 : all.length = zs.length + (zl'.length + 1) := by rw [eall]; simp
          have l3 : all.length ≤ line := hk zN
          omega
  · refine .inl ⟨hJ.stop i (by omega) H3 _ e2.grow, ?_⟩
    rw [List.drop_of_length_le (by omega)] at eZ
    simp only [lcL] at eZ
    cases eZ
    have eall : all = zs := by simpa using eall
    subst eall
    exact hc r2 rs2 (Fin.from e2 zN)
/-- tuple(elt for t in i if ..) -/
theorem r_tupG {cc P : Addr} {t : T} {w m : Bool} {elt tg iter : Expr} {ifs : List Expr} {scope : Scope} {own : List (Str × Nat)} {p gpos : Pos} {test : Env → AH → Out Bool} {fe : Env → AH → Out RV} {k : Nat} (hN : X.N.Nodup) (hr : Room (k + 4) X.A) (TB : GxR.TabB X.base X.mg cc P) (hcode : X.env.code = .ref cc)
    (hP : P ∈ F.G.tabs) (ok : GxOk X.N X.env.scope scope own) (ho : own.map (·.2) = t.slots) (hb : Bn X "tuple" (.type "tuple")) (hi : PI X tg iter (tI F cx Wx X.K w fi))
    (hg : ∀ (A : Around) (s : Shared) (H : Hp) (C : Addr) (cl : List (Str × Addr)) (code : Value) (fp : List Addr) (pn : List (Addr × Obj)), Room k A → PG (gxX X A s H (genEnv scope cl C code builtinsNs X.env) fp pn) tg (tGi F X.K w t))
    (ht : ∀ (A : Around) (s : Shared) (H : Hp) (C : Addr) (cl : List (Str × Addr)) (code : Value) (fp : List Addr) (pn : List (Addr × Obj)), Room k A → PTs (gxX X A s H (genEnv scope cl C code builtinsNs X.env) fp pn) ifs (tOb F cx wNo test))
    (he : ∀ (A : Around) (s : Shared) (H : Hp) (C : Addr) (cl : List (Str × Addr)) (code : Value) (fp : List Addr) (pn : List (Addr × Obj)), Room k A → PE (gxX X A s H (genEnv scope cl C code builtinsNs X.env) fp pn) elt (tO F cx wNo fe))
    (hs : ∀ v, genFold iter X.env v = pure v) :
    PE X (.Call (.Name "tuple" p) [gxe elt tg iter ifs scope gpos] [] pos) (tO F cx Wx fun ρ h => (gxO t fi test fe ρ h).bind (bi1R m "tuple")) := by
  refine pe_imp (pe_tupleG (pgen_x hN (hr.mono (by omega)) TB hcode ok hi hg ht he hs) hr hb rfl) fun σ H Q q => ?_
  rw [ho]
  exact tGx_of (k := bi1R m "tuple") (X := X) hP q (fun f => newT_len f) fun r rs f => (new_tup r rs f).2
end
end D

set_option Elab.async false
set_option linter.all false
set_option maxRecDepth 100000
set_option maxHeartbeats 2000000
/-! Fd22: join of a value; calls by keywords. -/
namespace D
open PySem PySem.Spec L2 PyProof.Rows

section
variable {F : Fx} {cx : String → Option Addr} {Wx : WX} {X : Cx} {a b c e : Expr} {es : List Expr} {pos p2 : Pos} {fa fb fc : Env → AH → Out RV} {fs fi : Env → AH → Out (List RV)}
variable {C : Calls} {k : Nat} {f : String} {g : Addr}

/-! ### join -/
theorem joinL_eq (s : List Nat) : ∀ ts : List (List Nat), TL.joinL s ts = D.joinL s ts
  | [] => rfl
  | [x] => rfl
  | x :: y :: r => by
    have := joinL_eq s (y :: r)
    simp only [TL.joinL, D.joinL, List.append_assoc] at this ⊢
    rw [this]
theorem join_sOf (s : List Nat) (ts : List (List Nat)) : Txt.join (sOf s) (ts.map sOf) = sOf (D.joinL s ts) := by
  rw [← joinL_eq]
  exact SX.join_S s ts
theorem joinL_mem {s : List Nat} {c : Nat} : ∀ {ts : List (List Nat)}, c ∈ D.joinL s ts → c ∈ s ∨ ∃ t ∈ ts, c ∈ t
  | [], h => by cases h
  | [x], h => .inr ⟨x, by simp, h⟩
  | x :: y :: r, h => by
    simp only [D.joinL, List.mem_append] at h
    rcases h with (h | h) | h
    · exact .inr ⟨x, by simp, h⟩
    · exact .inl h
    · rcases joinL_mem h with h | ⟨t, h1, h2⟩
      · exact .inl h
      · exact .inr ⟨t, List.mem_cons_of_mem _ h1, h2⟩
def joinO (fa fb : Env → AH → Out RV) : Env → AH → Out RV := fun ρ h => (fa ρ h).bind fun x h1 => if isS x then (fb ρ h1).bind fun y h2 => joinV x y h2 else .bad
theorem joinV_nx (x y : RV) (h : AH) : noexc (joinV x y h) := by
  intro e h' q
  unfold joinV joinR newS at q
  repeat' split at q
  all_goals (first | cases q | contradiction)
theorem r_join {apos : Pos} (ho : PE X a (tO F cx Wx fa)) (he : PE X b (tO F cx Wx fb)) (hs : notStar b = true) (hbase : attributeBase a "join" X.env (eval a X.env) = eval a X.env) (hline : (apos.endLine == pos.line) = true) :
    PE X (.Call (.Attribute a "join" apos) [b] [] pos) (tO F cx Wx (joinO fa fb)) := by
  refine pe_imp (pe_join ho he (star_cons hs) hbase hline) fun σ H Q t => ?_
  obtain ⟨μ, ρ, h, r, s, z⟩ := t
  refine ⟨μ, ρ, h, r, s, Fin.mono (Fin.bind z) (fun v h1 μ1 H1 e1 r1 z x rx => ?_) fun _ _ _ _ _ _ z => z⟩
  split at z
  · rename_i hb
    unfold isS at hb
    split at hb
    · rename_i z0
      obtain ⟨rfl, hz⟩ := rx.str_inv
      refine ⟨⟨_, rfl⟩, μ1, ρ, h1, r1, s.grow e1.grow e1.pre, Fin.mono (Fin.bind z) (fun w h2 μ2 H2 e2 r2 z2 y ry => ?_) fun _ _ _ _ _ _ z => z⟩
      unfold joinV at z2
      split at z2
      · rename_i xs ex
        obtain ⟨p, vs, rfl, hq, rs⟩ := view_Q (K := X.K) r2 ry ex
        unfold joinR at z2
        split at z2
        · rename_i s0 ts heq hts
          cases heq
          split at z2
          · rename_i hl
            simp only [decide_eq_true_eq] at hl
            have := strs?_some hts
            subst this
            obtain ⟨e1, hok⟩ := strs_V rs
            subst e1
            have ee : ts.map (fun s => V.str (sOf s)) = (ts.map sOf).map V.str := by rw [List.map_map]; rfl
            rw [ee] at hq
            refine ⟨_, p, ts.map sOf, rfl, rfl, hq, ?_, ?_⟩
            · rw [List.map_map, List.length_map]
              have e3 : ts.map ((fun x : Str => x.length) ∘ sOf) = ts.map List.length := List.map_congr_left fun t _ => sOf_len t
              rw [e3, sOf_len]
              exact hl
            · rw [join_sOf]
              refine (new_str r2 (fun c hc => ?_) z2).2
              rcases joinL_mem hc with hc | ⟨t, ht, hc⟩
              · exact (okS_iff.mp hz).2 c hc
              · exact (okS_iff.mp (hok t ht)).2 c hc
          · exact z2.elim
        · exact z2.elim
      · exact z2.elim
    · cases hb
  · exact z.elim

/-! ### keywords -/
theorem k_nil : PK X [] (tOs F cx Wx fun _ h => .ok [] h) := ⟨fun pos pins s σ H Q I t => by
  obtain ⟨μ, ρ, h, r, _, f⟩ := t
  exact pk_nil.run pos pins s σ H Q I (f.here r [] .nil)⟩
theorem k_cons {nm : Option Str} {kpos : Pos} {kws : List Keyword} (ha : PE X e (tO F cx Wx fa)) (hk : PK X kws (tOs F cx Wx fs)) : PK X (⟨nm, e, kpos⟩ :: kws) (tOs F cx Wx (consO fa fs)) := ⟨fun pos pins s σ H Q I t => by
  refine (pk_cons ha hk).run pos pins s σ H Q I ?_
  obtain ⟨μ, ρ, h, r, s', f⟩ := t
  refine ⟨μ, ρ, h, r, s', Fin.mono (Fin.bind f) (fun v h1 μ1 H1 e1 r1 z x rx => ?_) fun _ _ _ _ _ _ z => z⟩
  refine ⟨μ1, ρ, h1, r1, s'.grow e1.grow e1.pre, Fin.mono (Fin.bind z) (fun vs h2 μ2 H2 e2 r2 z2 xs rxs => ?_) fun _ _ _ _ _ _ z => z⟩
  exact Fin.here z2 r2 _ (.cons (rx.grow e2.grow e2.pre) rxs)⟩
def pick {α : Type} (pm : List Nat) (ys : List α) : List α := pm.filterMap fun i => ys[i]?
theorem pick_rel {μ : List Addr} {h : AH} {H : Hp} {ys : List RV} {vs : List V} (rs : F.v2 μ h H ys vs) : ∀ pm : List Nat, F.v2 μ h H (pick pm ys) (pick pm vs)
  | [] => .nil
  | i :: pm => by
    simp only [pick, List.filterMap_cons]
    have hl := rs.length
    cases q : ys[i]? with
    | none =>
      have : vs[i]? = none := by rw [List.getElem?_eq_none_iff] at q ⊢; omega
      rw [this]
      exact pick_rel rs pm
    | some y =>
      obtain ⟨v, ev, rv⟩ := rs.get q
      rw [ev]
      exact .cons rv (pick_rel rs pm)
/-- the def f at g, called by the keywords ks alone -/
structure FnW (P : Program) (w : World) (K : PySem.W.Frag) (mg : Str → Option Value) (base : Heap) (G : Gm) (cx : String → Option Addr) (C : Calls) (k : Nat) (f : String) (g : Addr) (ks : List Str) (pm : List Nat) : Prop where
  ok : ∃ fd ps, FnOk P w K mg base (L2.CX P w) k g fd ps (spC G cx C f) ∧ ∀ (s : Shared) (ws : List Value), K.In s.heap → (pick pm ws).length = ps.length → BindsTo s fd ⟨[], ks.zip ws⟩ (ps.zip (pick pm ws))
  kp : PySem.W.keepIn K (.ref g) = true
theorem pick_vals {ys : List V} {us : List Value} (r : Vals ys us) : ∀ pm : List Nat, Vals (pick pm ys) (pick pm us)
  | [] => .nil
  | i :: pm => by
    simp only [pick, List.filterMap_cons]
    have hl := r.length
    cases q : ys[i]? with
    | none =>
      have : us[i]? = none := by rw [List.getElem?_eq_none_iff] at q ⊢; omega
      rw [this]
      exact pick_vals r pm
    | some y =>
      obtain ⟨v, ev, rv⟩ := r.get q
      rw [ev]
      exact .cons rv (pick_vals r pm)
theorem kw_names {kws : List Keyword} {env : PySem.Env} {pos : Pos} {ks : List Str} (h : kws.map (·.arg) = ks.map some) : (backToKw pos (keywordEach kws env)).all (·.1.isSome) = true ∧ (backToKw pos (keywordEach kws env)).filterMap (·.1) = ks ∧ (backToKw pos (keywordEach kws env)).any (·.1.isNone) = false := by
  induction kws generalizing ks with
  | nil =>
    cases ks with
    | nil => exact ⟨rfl, rfl, rfl⟩
    | cons _ _ => cases h
  | cons kw kws ih =>
    cases ks with
    | nil => cases h
    | cons k ks =>
      obtain ⟨nm, v, p⟩ := kw
      simp only [List.map_cons, List.cons.injEq] at h
      obtain ⟨h1, h2⟩ := h
      have h1 : nm = some k := h1
      subst h1
      obtain ⟨i1, i2, i3⟩ := ih h2
      have e : ∃ t : Sem Value, backToKw pos (keywordEach (⟨some k, v, p⟩ :: kws) env) = (some k, t) :: backToKw pos (keywordEach kws env) := ⟨_, rfl⟩
      obtain ⟨t, e⟩ := e
      rw [e]
      refine ⟨?_, ?_, ?_⟩
      · rw [List.all_cons, i1]; rfl
      · rw [List.filterMap_cons]
        show k :: _ = _
        rw [i2]
      · rw [List.any_cons, i3]; rfl
theorem r_callK {x : Str} {p : Pos} {kws : List Keyword} {ks : List Str} {pm : List Nat} (hf : FnW X.prog X.w X.K X.mg X.base F.G.base cx C k f g ks pm) (hr : Room k X.A) (hg : Gl X x) (hm : X.mg x = some (.ref g)) (tk : Takes X Wx) (hkw : PK X kws (tOs F cx Wx fs)) (hks : kws.map (·.arg) = ks.map some)
    (hdb : (x == ("__debug__" : Str)) = false) : PE X (.Call (.Name x p) [] kws pos) (tO F cx Wx fun ρ h => (fs ρ h).bind fun ys h2 => C f (pick pm ys) h2) := by
  obtain ⟨fd, ps, ok, hb⟩ := hf.ok
  obtain ⟨n1, n2, n3⟩ := kw_names (env := X.env) (pos := pos) hks
  refine ⟨fun pins s σ H Q I t => ?_⟩
  refine wpAny_Call_Name_kw (ld_glob I hg hm ?_ hdb)
  have t2 : tOs F cx Wx fs σ H fun vs H1 => spC F.G.base cx C f (pick pm vs) H1 Q (WE Wx σ) := by
    refine tOs_mono (tOs_bind t) fun xs H1 ⟨μ, h, vs, r, rxs, z⟩ => ?_
    exact ⟨F, μ, h, pick pm vs, rfl, r, pick_rel rxs pm, z⟩
  refine PySem.W.callWith_KW0 (h₀ := X.base) I.ok.mod.kin hf.kp n1 ?_ (by rw [n3]; rfl)
  refine thn (hkw.run pos pins s σ H _ I t2) fun ws s2 ⟨zs, H2, I2, rz, q2⟩ => ⟨I2.kIn, ?_⟩
  rw [n2]
  have r2 := pick_vals rz pm
  have hl : (pick pm ws).length = ps.length := by rw [← r2.length]; exact ok.len _ _ _ _ q2
  refine wpAny_call (codeAny_mono (ok.run X.A X.stack s2 H2 ⟨[], ks.zip ws⟩ (pick pm ws) (pick pm zs) Q (WE Wx σ) hr I2.env0 (hb s2 ws I2.kIn hl) r2 q2) fun r s' hq => ?_)
  cases r with
  | error e => exact passAt tk σ pins H2 s2 e s' I2 hq
  | ok fl =>
    cases fl with
    | ret u => exact I2.after hq
    | next => exact False.elim hq
    | brk => exact False.elim hq
    | cont => exact False.elim hq
end
end D

set_option Elab.async false
set_option linter.all false
set_option maxRecDepth 100000
set_option maxHeartbeats 2000000
/-! Fd50: generator expressions whose consumer keeps no list. -/
namespace D
open PySem PySem.Spec L2 PyProof.Rows GenW

/-- while it sleeps all is kept -/
structure SleptK (s s' : Shared) : Prop where
  os : s'.os = s.os
  bare : AllBare s'.gens
  keep : ∀ b o, s.heap.get? b = some o → s'.heap.get? b = some o
section
variable {X : Cx} {ip : List (Addr × Obj)} {σ : L2.St} {H : Hp} {s s' : Shared}
theorem inv_wokenK (I0 : Inv X ip σ H s) (z : SleptK s s') : Inv X ip σ H s' := by
  obtain ⟨z1, z2, z3⟩ := z
  obtain ⟨hh, g, d, t, o⟩ := s'
  have ho : o = s.os := z1
  subst ho
  refine I0.step (g' := g) (t' := t) (d' := d) (ch := []) (fun b hb => absurd hb (by simp))
    (fun b ob _ _ _ q _ => z3 b ob q) (fun b ob _ _ _ q _ => ⟨ob.slots, z3 b ob q⟩) (fun _ _ _ _ n => n) (fun b ob _ q => ⟨ob, z3 b ob q⟩)
    (fun _ _ q => q) (fun _ _ _ q => q) (fun b ps q => ⟨#[], by rw [q]; simp⟩) (fun m hm => ?_) (fun b u q => ?_) z2
  · obtain ⟨ob, es, ep, ho, r⟩ := hm
    exact ⟨ob, es, ep, z3 _ ob ho, r⟩
  · exact (I0.hok b u q).stay (fun c v _ y => z3 c v y) (fun _ y => y) fun _ _ y => y
end
section
variable {X : Cx}
/-- what its turns are to reach -/
structure GkT (X : Cx) (g : TG) (tt : TT) (te : TE) (vs : List Nat) (σ : L2.St) (J : L2.It) (Yd : List V → V → Hp → Prop → Prop) (cont : List V → Hp → Prop) (W : Nat → Nat → List V → Hp → Prop) : Prop where
  turn : ∀ i m ys H, W i m ys H → (J.stop i H ∧ cont ys H) ∨ (J.go i H ∧ ∃ Nx : List V → Hp → Prop, (∀ ys' H', Nx ys' H' → ∃ m', m' < m ∧ W (i + 1) m' ys' H') ∧ ∀ x H', J.yld i H x H' → g x (L2.wipe σ vs) H' fun σ2 H2 => L2.wipe σ2 vs = L2.wipe σ vs ∧ tt σ2 H2 fun b H3 =>
    if b = true then te σ2 H3 fun y H4 => ys.length < sizeLine ∧ Yd ys y H4 (Nx (ys ++ [y]) H4) else Nx ys H3)
def gkR (Y : Cx) (σ : L2.St) (cont : List V → Hp → Prop) : GenEnd := fun n _ r s1 => r = .ok .next ∧ ∃ H' ys, n + ys.length = sizeLine ∧ Inv Y [] σ H' s1 ∧ cont ys H'
def GYK (Y : Cx) (Yd : List V → V → Hp → Prop → Prop) : Protocol := fun n s₀ v s kap =>
  ∃ ys x ip σ H Pn, n + 1 + ys.length = sizeLine ∧ RelV x v ∧ Inv Y ip σ H s ∧ Yd ys x H Pn ∧ (Pn → ∀ s', SleptK s s' → kap (.send .none) s')
theorem gk_loop {A : Around} {s_0 : Shared} {H_0 : Hp} {genv : PySem.Env} {fp : List Addr} {pn : List (Addr × Obj)} {elt tg iter : Expr} {ifs : List Expr} {scope : Scope} {pos : Pos} {it : Addr} {tn : Nat → Heap → Prop} {J : L2.It} {g : TG} {tt : TT} {te : TE} {vs : List Nat} {σ : L2.St} {cont : List V → Hp → Prop} {Yd : List V → V → Hp → Prop → Prop} {W : Nat → Nat → List V → Hp → Prop}
    (hco : genv.scope.isCoroutine = false) (T : Turn X.prog X.w X.K tg J fp it tn) (hpf : ∀ p ∈ pn, p.1 ∉ fp)
    (hg : PG (gxX X (A.over (gxc elt tg iter ifs scope pos it genv) []) s_0 H_0 genv fp pn) tg g) (ht : PTs (gxX X (A.over (gxc elt tg iter ifs scope pos it genv) []) s_0 H_0 genv fp pn) ifs tt)
    (he : PE (gxX X (A.over (gxc elt tg iter ifs scope pos it genv) []) s_0 H_0 genv fp pn) elt te) (G : GkT X g tt te vs σ J Yd cont W) :
    ∀ (m : Nat) (i : Nat) (ys : List V) (H : Hp) (n : Nat) (s₀ s : Shared), W i m ys H → n + ys.length = sizeLine → Inv (gxX X (A.over (gxc elt tg iter ifs scope pos it genv) []) s_0 H_0 genv fp pn) [] (L2.wipe σ vs) H s → tn i s.heap → (∀ b ∈ fp, H b = none) →
      Seg (model X.prog X.w) A (gkR (gxX X (A.over (gxc elt tg iter ifs scope pos it genv) []) s_0 H_0 genv fp pn) (L2.wipe σ vs) cont) (GYK (gxX X (A.over (gxc elt tg iter ifs scope pos it genv) []) s_0 H_0 genv fp pn) Yd) n s₀
        (gxc elt tg iter ifs scope pos it genv) ((model X.prog X.w).den (gxc elt tg iter ifs scope pos it genv)) [] s := by
  generalize hY : gxX X (A.over (gxc elt tg iter ifs scope pos it genv) []) s_0 H_0 genv fp pn = Y at *
  have e1 : Y.prog = X.prog := by rw [← hY]
  have e2 : Y.w = X.w := by rw [← hY]
  have e3 : Y.K = X.K := by rw [← hY]
  have e4 : Y.calm = true := by rw [← hY]
  have e5 : Y.A = A.over (gxc elt tg iter ifs scope pos it genv) [] := by rw [← hY]
  have e6 : Y.env = genv := by rw [← hY]
  have e7 : Y.ex = fp := by rw [← hY]
  have e8 : Y.pn = pn := by rw [← hY]
  have e9 : Y.xe = fun _ _ => False := by rw [← hY]
  have stat : ∀ {σ' : L2.St} {H' : Hp} {s' : Shared}, Inv Y [] σ' H' s' → (∀ b ∈ fp, H' b = none) → ∀ b ∈ fp, FpOk Y [] H' b := fun {σ' H' s'} I' hn b hb => by
    have hb' : b ∈ Y.ex := by rw [e7]; exact hb
    refine ⟨hn b hb, (I'.ok.exf b hb').1, I'.ok.exfs b hb', .inl hb', (I'.ok.exf b hb').2, fun p hp => ?_⟩
    rcases List.mem_append.mp hp with hp | hp
    · rw [e8] at hp
      rintro rfl; exact hpf p hp hb
    · cases hp
  intro m
  induction m using Nat.strongRecOn with
  | ind m ih =>
  intro i ys H n s₀ s hW hn hI st fr
  have len0 : (L2.wipe σ vs).length = σ.length := wipe_length σ vs
  show Seg _ A _ _ _ s₀ _ ((compTurn (gxe elt tg iter ifs scope pos) 0 (.ref it) .none genv).onRaise (leaving genv)) [] s
  rw [compTurn_gen, Sem.onRaise_eq_wrap]
  refine seg_bind_wrap (wpAny_standAt ?_)
  have I := hI
  rcases G.turn i m ys H hW with ⟨stop, qq⟩ | ⟨go, Nx, hNx, step⟩
  · have td := T.done Y e1 e2 e3 e4 i [] s _ H (fun _ _ => False) I (stat I fr) st stop
    rw [e5] at td
    refine seg_bind_wrap (wpAny_mono td (fun r s6 ⟨hr, I6⟩ => ?_) fun _ _ z => z.elim)
    subst hr
    exact seg_end (.ok .next) ⟨rfl, H, ys, hn, I6, qq⟩
  · have ti := T.item Y e1 e2 e3 e4 i [] s _ H (fun _ _ => False) I (stat I fr) st go
    rw [e5] at ti
    refine seg_bind_wrap (wpAny_mono ti (fun r s6 ⟨u, hr, h6⟩ => ?_) fun _ _ z => z.elim)
    subst hr
    refine seg_bind_wrap (wpAny_mono h6 (fun _ s7 ⟨x, H7, I7, r7, y7, st7, n7⟩ => ?_) fun _ _ z => z.elim)
    have I7' := I7.pinned (stat I7 n7) (T.obj _ _ st7)
    have pgr := hg.run _ s7 _ H7 x u _ I7' r7 (step x H7 y7)
    rw [e1, e2, e5, e6, e9] at pgr
    refine seg_bind_wrap (wpAny_mono pgr (fun _ s8 ⟨σ8, H8, I8, hw8, q8⟩ => ?_) fun _ _ z => z.elim)
    have ptr := ht.run _ s8 σ8 H8 _ I8 q8
    rw [e1, e2, e5, e6, e9] at ptr
    refine seg_bind_wrap (wpAny_mono ptr (fun b s9 ⟨H9, I9, q9⟩ => ?_) fun _ _ z => z.elim)
    -- the iterator's objects, pinned
    have fin : ∀ {s' : Shared} {H' : Hp} {zs : List V} {n' : Nat} {s₀' : Shared}, Inv Y (pinsAt fp s7.heap) σ8 H' s' → n' + zs.length = sizeLine → Nx zs H' → Seg (model X.prog X.w) A (gkR Y (L2.wipe σ vs) cont) (GYK Y Yd) n' s₀' (gxc elt tg iter ifs scope pos it genv) (.pure (.again (gxc elt tg iter ifs scope pos it genv))) [] s' := fun {s' H' zs n' s₀'} hGI hn' nx => by
      obtain ⟨m', hm, w'⟩ := hNx zs H' nx
      have pin' : ∀ b ∈ fp, ∀ o, s7.heap.get? b = some o → s'.heap.get? b = some o ∧ H' b = none := fun b hb o e => by
        have z := hGI.pin (b, o) (List.mem_append_right _ (mem_pinsAt hb e))
        exact ⟨z.1, z.2.1⟩
      have hl : (L2.wipe σ vs).length = σ8.length := by rw [← hw8, wipe_length]
      refine seg_again rfl (ih m' hm (i + 1) zs H' n' s₀' s' w' hn' ((hGI.pins_of fun p hp => absurd hp (by simp)).weak hl fun j v e => ?_) (T.keep _ _ _ st7 fun b hb o e => (pin' b hb o e).1) fun b hb => ?_)
      · rw [← hw8] at e
        exact (wipe_some e).1
      · obtain ⟨o, e, _⟩ := T.obj _ _ st7 b hb
        exact (pin' b hb o e).2
    cases b with
    | false =>
      simp only [Bool.false_eq_true, if_false] at q9 ⊢
      exact fin I9 hn q9
    | true =>
      simp only [if_true] at q9 ⊢
      have hy : ∀ v, yieldOut genv v = yieldValue v := fun v => by simp only [yieldOut, hco, Bool.false_eq_true, if_false]
      simp only [hy]
      rw [Sem.bind_eq_wrap', Sem.bind_eq_wrap', Sem.wrap_wrap, Sem.wrap_wrap]
      have per := he.run _ s9 σ8 H9 _ I9 q9
      rw [e1, e2, e5, e6, e9] at per
      refine seg_wrap (wpAny_mono per (fun z s10 ⟨yv, H10, I10, r10, hlt, nx⟩ => ?_) fun _ _ z => z.elim)
      obtain ⟨n, rfl⟩ : ∃ k, n = k + 1 := ⟨n - 1, by omega⟩
      exact seg_at (seg_yield rfl rfl rfl ⟨ys, yv, pinsAt fp s7.heap, σ8, H10, _, hn, r10, I10, nx, fun nx s'' sl => fin (inv_wokenK I10 sl) (by rw [List.length_append, List.length_singleton]; omega) nx⟩)
end
/-! made -/
def REndK (P : Program) (w : World) (outer : List PySem.Env) (H : Hp) (s : Shared) (ex : List Addr) (Q : List V → Hp → Prop) : GenEnd := fun n s₀ r s1 =>
  ((r = .ok (.ret .none) ∨ r = .ok .next) ∧ ∃ H' ys, s1.os = s.os ∧ AllBare s1.gens ∧ Un (frs outer) ex H H' s.heap s1.heap ∧ HOk P w H' s1.heap ∧ ys.length ≤ sizeLine ∧ Q ys H') ∨ ∃ e, r = .error e ∧ False
def YItemK (P : Program) (w : World) (outer : List PySem.Env) (H : Hp) (s : Shared) (ex : List Addr) (a : Addr) (g : Nat) (Yd : List V → V → Hp → Prop → Prop) : Protocol := fun n s₀ v s1 kap =>
  s1.os = s.os ∧ AllBare s1.gens ∧ s1.heap.NoLimit ∧ s1.heap.IsGen a g ∧ ∃ H' ys x Pn, RelV x v ∧ n + 1 + ys.length = sizeLine ∧ Un (frs outer) ex H H' s.heap s1.heap ∧ HOk P w H' s1.heap ∧ Yd ys x H' Pn ∧ (Pn → ∀ s', SleptK s1 s' → kap (.send .none) s')
def GMadeK (P : Program) (w : World) (k : Nat) (outer : List PySem.Env) (H : Hp) (s : Shared) (ex : List Addr) (Yd : List V → V → Hp → Prop → Prop) (Q : List V → Hp → Prop) (u : Value) (s' : Shared) : Prop :=
  ∃ (a : Addr) (g : Nat) (c : Code), u = .ref a ∧ s.heap.objs.size ≤ a ∧ a < s'.heap.objs.size ∧ s'.heap.IsGen a g ∧ s'.gens[g]? = some (.fresh c) ∧ s'.os = s.os ∧ AllBare s'.gens ∧ s'.heap.NoLimit ∧ (∀ b o, s.heap.get? b = some o → s'.heap.get? b = some o) ∧
    ∀ (A : Around) (s2 : Shared), Room k A → A.frames = some outer → (∀ b o, s'.heap.get? b = some o → s2.heap.get? b = some o) → s2.os = s.os → AllBare s2.gens →
      Seg (model P w) A (REndK P w outer H s ex Q) (YItemK P w outer H s ex a g Yd) sizeLine s2 c ((model P w).den c) [] s2
abbrev TGenK := L2.St → Hp → (List V → V → Hp → Prop → Prop) → (List V → Hp → Prop) → Prop
structure PGenK (X : Cx) (k : Nat) (e : Expr) (tg : TGenK) : Prop where
  run : ∀ (pins : List (Addr × Obj)) (s : Shared) (σ : L2.St) (H : Hp) (Yd : List V → V → Hp → Prop → Prop) (cont : List V → Hp → Prop), Inv X pins σ H s → tg σ H Yd cont → wpAny (model X.prog X.w) X.A (eval e X.env)
    (fun u s' => ∃ H1 sc ex, Inv X pins σ H1 sc ∧ ExOk X pins ex ∧ GMadeK X.prog X.w k X.stack H1 sc ex Yd cont u s') X.xe s
section
variable {X : Cx}
def tGk (X : Cx) (P : Addr) (wi : TI) (g : TG) (tt : TT) (te : TE) (vs : List Nat) : TGenK := fun σ H Yd cont => wi σ H fun J H1 => GxR.TabG H1 P ∧ ∀ H2, GxR.Tabbed P H1 H2 → ∃ W, (∃ m, W 0 m [] H2) ∧ GkT X g tt te vs σ J Yd cont W
theorem pgen_k {c P : Addr} {elt tg iter : Expr} {ifs : List Expr} {scope : Scope} {own : List (Str × Nat)} {pos : Pos} {wi : TI} {g : TG} {tt : TT} {te : TE} {k : Nat} (hN : X.N.Nodup) (hr : Room (k + 1) X.A) (TB : GxR.TabB X.base X.mg c P) (hcode : X.env.code = .ref c) (ok : GxOk X.N X.env.scope scope own)
    (hi : PI X tg iter wi)
    (hg : ∀ (A : Around) (s : Shared) (H : Hp) (C : Addr) (cl : List (Str × Addr)) (code : Value) (fp : List Addr) (pn : List (Addr × Obj)), Room k A → PG (gxX X A s H (genEnv scope cl C code builtinsNs X.env) fp pn) tg g)
    (ht : ∀ (A : Around) (s : Shared) (H : Hp) (C : Addr) (cl : List (Str × Addr)) (code : Value) (fp : List Addr) (pn : List (Addr × Obj)), Room k A → PTs (gxX X A s H (genEnv scope cl C code builtinsNs X.env) fp pn) ifs tt)
    (he : ∀ (A : Around) (s : Shared) (H : Hp) (C : Addr) (cl : List (Str × Addr)) (code : Value) (fp : List Addr) (pn : List (Addr × Obj)), Room k A → PE (gxX X A s H (genEnv scope cl C code builtinsNs X.env) fp pn) elt te)
    (hs : ∀ v, genFold iter X.env v = pure v) : PGenK X (k + 1) (gxe elt tg iter ifs scope pos) (tGk X P wi g tt te (own.map (·.2))) := by
  refine ⟨fun pins s σ H Yd cont I h => ?_⟩
  have hfree : ∀ y ∈ scope.names, y.2 = .free → ∃ c, X.env.cells.lookup y.1 = some c := fun y hy e => by
    rcases ok.free y hy e with k | k
    · exact I.ok.has _ (.inl k)
    · exact I.ok.has _ (.inr k)
  refine wpAny_GeneratorExp_make ok.co (closure_ok hfree) ok.cell ok.dot ok.kind (by have := hr.dp; omega) ?_ hs
  refine thn (hi.run pins s σ H _ I h) fun xv s1 h1 => thn h1 fun itv s2 h2 => ?_
  obtain ⟨it, fp, tn, J, H2, e, I2, T, st2, f2, ⟨ps, hP, htr⟩, q⟩ := h2
  subst e
  have hPs : s2.heap.get? P = some { cls := .none, data := .fields ps } := I2.hok P _ hP
  have hPlt : P < s2.heap.objs.size := Heap.lt_size hPs
  have cd : PySem.W.CodeHd s2.heap c P := TB.code.keeps fun b u e => I2.bk b u e
  have go : ∀ (code : Value) (h3 : Heap) (tk : Nat) (ps' : Array Value), Heap.ExtBut P s2.heap h3 → s2.heap.objs.size ≤ h3.objs.size → h3.get? P = some { cls := .none, data := .fields ps' } → (∃ more, ps' = ps ++ more) → TriplesOk ps'.toList →
      wpAny (model X.prog X.w) X.A (builtinsFor X.env.globals X.env.builtins) (fun bi s₄ =>
        ∀ h', h'.Ns s₄.heap.objs.size (fun y => if y = ".0" then some (.ref it) else none) → Heap.SameBut s₄.heap.objs.size (s₄.heap.push { cls := .type "frame", data := .dict #[] }) h' →
          (∃ H1 sc ex, Inv X pins σ H1 sc ∧ ExOk X pins ex ∧ GMadeK X.prog X.w (k + 1) X.stack H1 sc ex Yd cont (.ref h'.objs.size) { s₄ with
            gens := s₄.gens.push (.fresh (.compStart (gxe elt tg iter ifs scope pos) 0 (.ref it) .none (genEnv scope (cloFrom X.env.cells scope.names []) s₄.heap.objs.size code bi X.env))),
            toks := s₄.toks + 1 + 1 + 1,
            heap := h'.push { cls := .type "generator", data := .fields #[.int s₄.gens.size 0, .str "<genexpr>" (s₄.toks + 1), .str (X.env.qual ++ "<genexpr>") (s₄.toks + 1 + 1)] } })) X.xe { s2 with heap := h3, toks := tk } := by
    intro code h3 tk ps' hx hsz hP3 hmore ht3
    obtain ⟨bm, ob, e1, e2, e3, e4, e5, e6, e7, e8⟩ := TB.bm
    have keep3 : ∀ b u, b ≠ P → s2.heap.get? b = some u → h3.get? b = some u := fun b u hb e => hx b u hb e
    refine wpAny_builtinsFor (m := X.mg) (by rw [I2.ok.glob]; exact (I2.mod.glob.keeps I2.bk).extBut hx TB.gP) e1 e2 (keep3 _ _ e4 (I2.bk _ _ e5)) e6 e7 e8 ?_
    intro h' hns hsb
    obtain ⟨more, em⟩ := hmore
    have I3 : Inv X pins σ (upd H2 P (.tbl (ps ++ more))) { s2 with heap := h3, gens := s2.gens, drawn := s2.drawn, toks := tk } := GxR.inv_tab I2 hP keep3 (by rw [← em]; exact hP3) I2.bare
    obtain ⟨W, ⟨m0, w0⟩, G⟩ := q (upd H2 P (.tbl (ps ++ more))) ⟨⟨ps ++ more, upd_same, by rw [← em]; exact ht3⟩, fun b hb => upd_ne hb⟩
    generalize hH3 : upd H2 P (.tbl (ps ++ more)) = H3 at I3 w0
    have nP : ∀ b ∈ fp, b ≠ P := fun b hb z => by
      have := (f2 b hb).1
      rw [z, hP] at this; cases this
    have f3 : ∀ b ∈ fp, FpOk X pins H3 b := fun b hb => ⟨by rw [← hH3, upd_ne (nP b hb)]; exact (f2 b hb).1, (f2 b hb).2⟩
    have st3 : tn 0 h3 := T.keep _ _ _ st2 fun b hb o e => keep3 b o (nP b hb) e
    have lt3 : ∀ b ∈ fp, b < h3.objs.size := fun b hb => by
      obtain ⟨o, e, _⟩ := T.obj _ _ st3 b hb
      exact Heap.lt_size e
    have fr3 : ∀ b ∈ fp, H3 b = none := fun b hb => (f3 b hb).1
    generalize hsc : ({ s2 with heap := h3, gens := s2.gens, drawn := s2.drawn, toks := tk } : Shared) = sc at I3
    have hsc1 : sc.heap = h3 := by rw [← hsc]
    have hsc2 : sc.gens = s2.gens := by rw [← hsc]
    have hsc3 : sc.os = s2.os := by rw [← hsc]
    have lim : sc.heap.NoLimit := I3.nolimit
    -- h', its generator's object
    have hsz' : h'.objs.size = h3.objs.size + 1 := by
      have := hsb.1
      rw [Heap.size_push] at this
      exact this
    have keep' : ∀ b o, h3.get? b = some o → h'.get? b = some o := fun b o e => hsb.extBut b o (Nat.ne_of_lt (Heap.lt_size e)) (Heap.get?_push_of_some _ e)
    have main : ∀ (go : Obj) (nm qn : Value) (tk2 : Nat), go.cls = .type "generator" → go.data = .fields #[.int s2.gens.size 0, nm, qn] → go.slots = #[] → (∀ hh : Heap, (hh.push go).get? hh.objs.size = some go) →
        GMadeK X.prog X.w (k + 1) X.stack H3 sc fp Yd cont (.ref h'.objs.size) { s2 with
            gens := s2.gens.push (.fresh (.compStart (gxe elt tg iter ifs scope pos) 0 (.ref it) .none (genEnv scope (cloFrom X.env.cells scope.names []) h3.objs.size code builtinsNs X.env))), toks := tk2, heap := h'.push go } := by
      intro go nm qn tk2 hgc hgd0 hgs hgp
      have hpushed : (h'.push go).get? h'.objs.size = some go := hgp _
      have hgen : ∀ hh : Heap, hh.get? h'.objs.size = some go → hh.IsGen h'.objs.size s2.gens.size := fun hh e => ⟨go, nm, qn, e, hgc, hgd0, hgs⟩
      have kpS : ∀ b o, sc.heap.get? b = some o → (h'.push go).get? b = some o := fun b o e => Heap.get?_push_of_some _ (keep' b o (by rw [← hsc1]; exact e))
      refine ⟨h'.objs.size, s2.gens.size, _, rfl, by rw [hsc1]; omega, ?_, hgen _ hpushed, Array.getElem?_push_size .., by rw [hsc3], AllBare.push I2.bare rfl, lim.keeps kpS, kpS, ?_⟩
      · show _ < (h'.push go).objs.size
        rw [Heap.size_push]; exact Nat.lt_succ_self _
      intro Aw s5 hrw hfr hk5 hos hba
      have kp5 : ∀ b o, sc.heap.get? b = some o → s5.heap.get? b = some o := fun b o e => hk5 b o (kpS b o e)
      have hea : s5.heap.get? h'.objs.size = some go := hk5 _ _ hpushed
      have hscs : sc.heap.objs.size = h3.objs.size := by rw [hsc1]
      have hns5 : s5.heap.Ns sc.heap.objs.size (fun y => if y = ".0" then some (.ref it) else none) := by
        rw [hscs]
        exact hns.keeps fun b o e => hk5 b o (Heap.get?_push_of_some _ e)
      generalize hgenv : genEnv scope (cloFrom X.env.cells scope.names []) h3.objs.size code builtinsNs X.env = genv
      have hgd : ∀ v, go.data ≠ .cell v := fun v q => by rw [hgd0] at q; cases q
      have st5 := gx_start (A := Aw.over (gxc elt tg iter ifs scope pos it genv) []) (s2 := s5) (code := code) (pn := [(h'.objs.size, go)]) (pins2 := []) (fp := fp) I3 ok hN (fun b hb => ⟨f3 b hb, by rw [hscs]; exact lt3 b hb⟩) hrw.hd
        (by rw [hscs, hgenv]; exact gx_frames hfr) hos hba kp5 hns5 (fun p hp => by
          rcases List.mem_append.mp hp with z | z
          · rw [List.mem_singleton.mp z]
            exact ⟨hea, by rw [hscs]; show h3.objs.size < h'.objs.size; rw [hsz']; exact Nat.lt_succ_self _, hgd⟩
          · cases z)
      rw [hscs, hgenv] at st5
      have rk : Room k (Aw.over (gxc elt tg iter ifs scope pos it genv) []) := gx_room hrw
      have pg := hg (Aw.over (gxc elt tg iter ifs scope pos it genv) []) sc H3 h3.objs.size (cloFrom X.env.cells scope.names []) code fp [(h'.objs.size, go)] rk
      have pt := ht (Aw.over (gxc elt tg iter ifs scope pos it genv) []) sc H3 h3.objs.size (cloFrom X.env.cells scope.names []) code fp [(h'.objs.size, go)] rk
      have pe := he (Aw.over (gxc elt tg iter ifs scope pos it genv) []) sc H3 h3.objs.size (cloFrom X.env.cells scope.names []) code fp [(h'.objs.size, go)] rk
      rw [hgenv] at pg pt pe
      have hL : genv.locals = h3.objs.size := by rw [← hgenv]; rfl
      have hscg : genv.scope = scope := by rw [← hgenv]; rfl
      have hcl : genv.cells = cloFrom X.env.cells scope.names [] := by rw [← hgenv]; rfl
      have young : ∀ b, h'.objs.size ≤ b → b ∉ fp := fun b hb hm =>
        absurd (Nat.lt_of_lt_of_le (lt3 b hm) (Nat.le_trans (by rw [hsz']; exact Nat.le_succ _) hb)) (Nat.lt_irrefl _)
      have loop := gk_loop (X := X) (A := Aw) (s_0 := sc) (H_0 := H3) (genv := genv) (fp := fp) (pn := [(h'.objs.size, go)]) (elt := elt) (tg := tg) (iter := iter) (ifs := ifs) (scope := scope) (pos := pos) (it := it) (by rw [hscg]; exact ok.co) T
        (fun p hp => by rw [List.mem_singleton.mp hp]; exact young _ (Nat.le_refl _)) pg pt pe G m0 0 [] H3 sizeLine s5 s5 w0 (by simp) st5 (T.keep _ _ _ st3 fun b hb o e => kp5 b o (by rw [hsc1]; exact e)) fr3
      have start : Seg (model X.prog X.w) Aw (gkR (gxX X (Aw.over (gxc elt tg iter ifs scope pos it genv) []) sc H3 genv fp [(h'.objs.size, go)]) (L2.wipe σ (own.map (·.2))) cont) (GYK (gxX X (Aw.over (gxc elt tg iter ifs scope pos it genv) []) sc H3 genv fp [(h'.objs.size, go)]) Yd) sizeLine s5
          (.compStart (gxe elt tg iter ifs scope pos) 0 (.ref it) .none genv) ((model X.prog X.w).den (.compStart (gxe elt tg iter ifs scope pos) 0 (.ref it) .none genv)) [] s5 := by
        have tS5 : tn 0 s5.heap := T.keep _ _ _ st3 fun b hb o e => kp5 b o (by rw [hsc1]; exact e)
        show Seg _ Aw _ _ _ s5 _ ((compStart (gxe elt tg iter ifs scope pos) 0 (.ref it) .none genv).onRaise (leaving genv)) [] s5
        unfold compStart
        rw [Sem.onRaise_eq_wrap]
        show Seg _ Aw _ _ _ s5 _ ((ask >>= _).wrap _ _ _ _) [] s5
        refine seg_bind_wrap (wpAny_askSetting ?_)
        split
        · exact seg_again rfl loop
        · refine seg_bind_wrap (wpAny_rule ?_)
          show Seg _ Aw _ _ _ s5 _ ((standAt iter.pos >>= _).wrap _ _ _ _) [] s5
          exact seg_bind_wrap (wpAny_standAt (seg_bind_wrap (T.self _ 0 s5 _ _ tS5 (seg_again rfl loop))))
      refine seg_imp (fun n s₀ r s1' hR => ?_) (fun n s₀ v s1' kap kap' hkk hY => ?_) sizeLine start
      · obtain ⟨hr', H', ys, hn, J', hQ⟩ := hR
        exact .inl ⟨.inr hr', H', ys, J'.os, J'.bare, J'.base, J'.hok, by omega, hQ⟩
      · obtain ⟨ys, xx, ip, σ', H', Pn, hn, h2, J', yd, h3'⟩ := hY
        have hgn := hgen _ (J'.pin (h'.objs.size, go) (List.mem_append_left _ (List.mem_singleton.mpr rfl))).1
        exact ⟨J'.os, J'.bare, J'.nolimit, hgn, H', ys, xx, Pn, h2, hn, J'.base, J'.hok, yd, fun pn s' z => hkk _ _ (h3' pn s' z)⟩
    have m1 := main { cls := .type "generator", data := .fields #[.int s2.gens.size 0, .str "<genexpr>" (tk + 1), .str (X.env.qual ++ "<genexpr>") (tk + 1 + 1)] } _ _ (tk + 1 + 1 + 1) rfl rfl rfl fun hh => Heap.get?_push_size _ rfl
    subst hsc
    exact ⟨H3, _, fp, I3, fun b hb => ⟨(f3 b hb).2.2.2.1, (f3 b hb).2.1, (f3 b hb).2.2.2.2.1, (f3 b hb).2.2.2.2.2⟩, m1⟩
  refine ⟨I2.nolimit, ?_⟩
  cases hf : codeAmong pos ps.toList with
  | none =>
    refine wpAny_genexprCodeX hcode (cd.code hPs htr) (cd.tab hPs) hf fun c' h' tk hx hge hlt hco' _ htab' _ => ?_
    obtain ⟨o1, vs, f1, tf, fl, tg, inF, tx, tt, op, _, _, _, _, _, _, _, _, _, htr', _⟩ := hco'
    exact go _ h' tk _ hx (Nat.le_trans hge (Nat.le_of_lt hlt)) htab'.2 ⟨_, rfl⟩ htr'
  | some cv =>
    refine wpAny_genexprCode_hit hcode (cd.code hPs htr) hf ?_
    exact go cv s2.heap s2.toks ps (Heap.ExtBut.refl _ _) (Nat.le_refl _) hPs ⟨#[], by simp⟩ htr
end
end D

set_option Elab.async false
set_option linter.all false
set_option maxRecDepth 100000
set_option maxHeartbeats 2000000
/-! Fd51: any, all, sum draw from a generator. -/
namespace D
open PySem PySem.Spec L2 PyProof.Rows GenW

/-- what holds behind a run: H' is tracked -/
def FactK (P : Program) (w : World) (outer : List PySem.Env) (H : Hp) (sc : Shared) (ex : List Addr) (H' : Hp) (s' : Shared) : Prop :=
  s'.os = sc.os ∧ AllBare s'.gens ∧ Un (frs outer) ex H H' sc.heap s'.heap ∧ HOk P w H' s'.heap
/-- any, all: another item, or the end -/
def YdB (all : Bool) (St : Hp → Prop) : List V → V → Hp → Prop → Prop := fun _ y H Pn => ∃ b : Bool, y = .bl b ∧ (if b = all then Pn else St H)
section
variable {P : Program} {w : World} {outer : List PySem.Env} {H : Hp} {sc : Shared} {ex : List Addr} {A : Around} {R : Result → Shared → Prop} {Q : List V → Hp → Prop} {St : Hp → Prop} {a : Addr} {g : Nat}
theorem goesK {Yd : List V → V → Hp → Prop → Prop} {gs : GenState} {B : Around} {n : Nat} {r : Resume} {s : Shared} (h : gs.Goes (model P w) B (REndK P w outer H sc ex Q) (YItemK P w outer H sc ex a g Yd) n r s) :
    gs.Goes (model P w) B (fun n s₀ r s1 => ((r = .ok (.ret .none) ∨ r = .ok .next) ∧ (∃ H' ys, s1.os = sc.os ∧ AllBare s1.gens ∧ Un (frs outer) ex H H' sc.heap s1.heap ∧ HOk P w H' s1.heap ∧ ys.length ≤ sizeLine ∧ Q ys H')) ∨
      ∃ e, r = .error e ∧ False) (YItemK P w outer H sc ex a g Yd) n r s := h
theorem factK_end {s1 : Shared} {H' : Hp} {h' : Heap} {x : GenState} (os1 : s1.os = sc.os) (hb : AllBare s1.gens) (hx : x.bare = true) (un : Un (frs outer) ex H H' sc.heap s1.heap) (hok : HOk P w H' s1.heap) (hk : ∀ b o, s1.heap.get? b = some o → h'.get? b = some o) :
    FactK P w outer H sc ex H' { s1.setGen g x with heap := h' } := ⟨os1, allBare_setGen hb hx, un.trans (Un.kept hk), hok.kept hk⟩
theorem any_loopK (hh : A.handled = none) (hd : A.depth < recursionLimit)
    (hend : ∀ s' H' ys, FactK P w outer H sc ex H' s' → Q ys H' → R (.ok (.ret (.bool false))) s') (hstop : ∀ s' H', FactK P w outer H sc ex H' s' → St H' → R (.ok (.ret (.bool true))) s') :
    ∀ (m : Nat) (s : Shared), s.heap.IsGen a g → s.heap.NoLimit →
      (∃ gs, s.gens[g]? = some gs ∧ gs.Goes (model P w) A.in1.in1 (REndK P w outer H sc ex Q) (YItemK P w outer H sc ex a g (YdB false St)) m (.send .none) (s.setGen g .running)) →
      codeAny (model P w) A (.builtin "any.loop" ⟨[.ref a], []⟩) R s := by
  intro m
  induction m with
  | zero =>
    intro s hg hl ⟨gs, hgs, hgo⟩
    refine codeAny_builtin F.entry_any_loop ?_
    rw [Around.under_plainId F.plain_any_loop _]
    show wpAny _ A.in1 (pyNext (.ref a) >>= _) _ _ s
    refine wpAny_bind (next_genG (A := A.in1) hh hl hd hg hgs (goesK hgo) (fun v s₁ gs' hbare hv => ?_) (fun s₁ hp h' hk => ?_) fun e s₁ he => he.elim)
    · obtain ⟨os1, hb1, hl1, hg1, H', ys, x, Pn, rv, hn, un, hok, ⟨b, rfl, yd⟩, hk⟩ := hv
      have rv : v = .bool b := rv
      subst rv
      refine wpAny_bind (wpAny_holding (wpAny_truthy_bool ?_))
      refine wpAny_bind (wpAny_letGo ?_)
      cases b with
      | false =>
        rw [if_pos rfl] at yd
        exact (hk yd _ ⟨rfl, hb1, fun _ _ e => e⟩).elim
      | true =>
        rw [if_neg (by decide)] at yd
        rw [if_pos rfl]
        exact wpAny_bind (wpAny_rule (wpAny_pure (hstop _ H' (factK_end os1 hb1 hbare un hok fun _ _ e => e) yd)))
    · obtain ⟨H', ys, os1, hb1, un, hok, hle, hQ⟩ := hp
      exact wpAny_bind (wpAny_rule (wpAny_pure (hend _ H' ys (factK_end os1 hb1 rfl un hok hk) hQ)))
  | succ m ih =>
    intro s hg hl ⟨gs, hgs, hgo⟩
    have hgl : g < s.gens.size := (Array.getElem?_eq_some_iff.mp hgs).1
    refine codeAny_builtin F.entry_any_loop ?_
    rw [Around.under_plainId F.plain_any_loop _]
    show wpAny _ A.in1 (pyNext (.ref a) >>= _) _ _ s
    refine wpAny_bind (wpAny_gsz (n := g + 1) hgl (next_genG (A := A.in1) hh hl hd hg hgs (goesK hgo) (fun v s₁ gs' hbare hv => ?_) (fun s₁ hp h' hk => ?_) fun e s₁ he => he.elim))
    · intro hsz
      obtain ⟨os1, hb1, hl1, hg1, H', ys, x, Pn, rv, hn, un, hok, ⟨b, rfl, yd⟩, hk⟩ := hv
      have rv : v = .bool b := rv
      subst rv
      refine wpAny_bind (wpAny_holding (wpAny_truthy_bool ?_))
      refine wpAny_bind (wpAny_letGo ?_)
      cases b with
      | false =>
        rw [if_pos rfl] at yd
        rw [if_neg Bool.false_ne_true]
        refine wpAny_pure ⟨plainId_quiet F.plain_any_loop _, ?_⟩
        have hsz1 : g < s₁.gens.size := by
          have q : (s₁.setGen g gs').gens.size = s₁.gens.size := setGen_size _ _ _
          have hsz' : g + 1 ≤ (s₁.setGen g gs').gens.size := hsz
          omega
        refine ih _ hg1 hl1 ⟨gs', setGen_at hsz1, ?_⟩
        exact hk yd _ ⟨rfl, allBare_setGen (allBare_setGen hb1 hbare) rfl, fun _ _ e => e⟩
      | true =>
        rw [if_neg (by decide)] at yd
        rw [if_pos rfl]
        exact wpAny_bind (wpAny_rule (wpAny_pure (hstop _ H' (factK_end os1 hb1 hbare un hok fun _ _ e => e) yd)))
    · intro hsz
      obtain ⟨H', ys, os1, hb1, un, hok, hle, hQ⟩ := hp
      exact wpAny_bind (wpAny_rule (wpAny_pure (hend _ H' ys (factK_end os1 hb1 rfl un hok hk) hQ)))
theorem all_loopK (hh : A.handled = none) (hd : A.depth < recursionLimit)
    (hend : ∀ s' H' ys, FactK P w outer H sc ex H' s' → Q ys H' → R (.ok (.ret (.bool true))) s') (hstop : ∀ s' H', FactK P w outer H sc ex H' s' → St H' → R (.ok (.ret (.bool false))) s') :
    ∀ (m : Nat) (s : Shared), s.heap.IsGen a g → s.heap.NoLimit →
      (∃ gs, s.gens[g]? = some gs ∧ gs.Goes (model P w) A.in1.in1 (REndK P w outer H sc ex Q) (YItemK P w outer H sc ex a g (YdB true St)) m (.send .none) (s.setGen g .running)) →
      codeAny (model P w) A (.builtin "all.loop" ⟨[.ref a], []⟩) R s := by
  intro m
  induction m with
  | zero =>
    intro s hg hl ⟨gs, hgs, hgo⟩
    refine codeAny_builtin F.entry_all_loop ?_
    rw [Around.under_plainId F.plain_all_loop _]
    show wpAny _ A.in1 (pyNext (.ref a) >>= _) _ _ s
    refine wpAny_bind (next_genG (A := A.in1) hh hl hd hg hgs (goesK hgo) (fun v s₁ gs' hbare hv => ?_) (fun s₁ hp h' hk => ?_) fun e s₁ he => he.elim)
    · obtain ⟨os1, hb1, hl1, hg1, H', ys, x, Pn, rv, hn, un, hok, ⟨b, rfl, yd⟩, hk⟩ := hv
      have rv : v = .bool b := rv
      subst rv
      refine wpAny_bind (wpAny_holding (wpAny_truthy_bool ?_))
      refine wpAny_bind (wpAny_letGo ?_)
      cases b with
      | true =>
        rw [if_pos rfl] at yd
        exact (hk yd _ ⟨rfl, hb1, fun _ _ e => e⟩).elim
      | false =>
        rw [if_neg (by decide)] at yd
        rw [if_neg Bool.false_ne_true]
        exact wpAny_bind (wpAny_rule (wpAny_pure (hstop _ H' (factK_end os1 hb1 hbare un hok fun _ _ e => e) yd)))
    · obtain ⟨H', ys, os1, hb1, un, hok, hle, hQ⟩ := hp
      exact wpAny_bind (wpAny_rule (wpAny_pure (hend _ H' ys (factK_end os1 hb1 rfl un hok hk) hQ)))
  | succ m ih =>
    intro s hg hl ⟨gs, hgs, hgo⟩
    have hgl : g < s.gens.size := (Array.getElem?_eq_some_iff.mp hgs).1
    refine codeAny_builtin F.entry_all_loop ?_
    rw [Around.under_plainId F.plain_all_loop _]
    show wpAny _ A.in1 (pyNext (.ref a) >>= _) _ _ s
    refine wpAny_bind (wpAny_gsz (n := g + 1) hgl (next_genG (A := A.in1) hh hl hd hg hgs (goesK hgo) (fun v s₁ gs' hbare hv => ?_) (fun s₁ hp h' hk => ?_) fun e s₁ he => he.elim))
    · intro hsz
      obtain ⟨os1, hb1, hl1, hg1, H', ys, x, Pn, rv, hn, un, hok, ⟨b, rfl, yd⟩, hk⟩ := hv
      have rv : v = .bool b := rv
      subst rv
      refine wpAny_bind (wpAny_holding (wpAny_truthy_bool ?_))
      refine wpAny_bind (wpAny_letGo ?_)
      cases b with
      | true =>
        rw [if_pos rfl] at yd
        rw [if_pos rfl]
        refine wpAny_pure ⟨plainId_quiet F.plain_all_loop _, ?_⟩
        have hsz1 : g < s₁.gens.size := by
          have q : (s₁.setGen g gs').gens.size = s₁.gens.size := setGen_size _ _ _
          have hsz' : g + 1 ≤ (s₁.setGen g gs').gens.size := hsz
          omega
        refine ih _ hg1 hl1 ⟨gs', setGen_at hsz1, ?_⟩
        exact hk yd _ ⟨rfl, allBare_setGen (allBare_setGen hb1 hbare) rfl, fun _ _ e => e⟩
      | false =>
        rw [if_neg (by decide)] at yd
        rw [if_neg Bool.false_ne_true]
        exact wpAny_bind (wpAny_rule (wpAny_pure (hstop _ H' (factK_end os1 hb1 hbare un hok fun _ _ e => e) yd)))
    · intro hsz
      obtain ⟨H', ys, os1, hb1, un, hok, hle, hQ⟩ := hp
      exact wpAny_bind (wpAny_rule (wpAny_pure (hend _ H' ys (factK_end os1 hb1 rfl un hok hk) hQ)))
theorem call_any_K {u : Value} {s : Shared} {k : Nat} {Q' : Value → Shared → Prop} {E : Value → Shared → Prop} (hr : Room (k + 3) A) (hfr : A.frames = some outer) (h : GMadeK P w k outer H sc ex (YdB false St) Q u s)
    (hend : ∀ s' H' ys, FactK P w outer H sc ex H' s' → Q ys H' → Q' (.bool false) s') (hstop : ∀ s' H', FactK P w outer H sc ex H' s' → St H' → Q' (.bool true) s') :
    wpAny (model P w) A (call (.builtin "any") [u]) Q' E s := by
  obtain ⟨a, g, c, rfl, ha1, ha2, hg, hgs, hos, hb, hl, hkp, wake⟩ := h
  refine call_function_tree F.kind_any F.plain_any F.entry_any (F.args_any1 _) ?_
  unfold Builtin.«any»
  refine wpAny_bind (m := oneArg "any" _) (wpAny_pure ?_)
  refine wpAny_bind (wpAny_pyIter_gen hg ?_)
  refine wpAny_pure ⟨plainId_quiet F.plain_any_loop _, any_loopK (P := P) (w := w) (outer := outer) (H := H) (sc := sc) (ex := ex) (St := St) (Q := Q) (g := g) hr.hd (by have := hr.dp; omega) (fun s' H' ys f q => hend s' H' ys f q) (fun s' H' f q => hstop s' H' f q) sizeLine s hg hl ⟨_, hgs, rfl, ?_⟩⟩
  refine wake _ _ ⟨hr.hd, ?_, ?_⟩ hfr (fun _ _ e => e) hos (allBare_setGen hb rfl)
  · have := hr.dp
    show A.depth + 3 * k + 5 < _
    omega
  · have := hr.un
    show A.units + 1 + 1 + 16 * k + 200 < _
    omega
theorem call_all_K {u : Value} {s : Shared} {k : Nat} {Q' : Value → Shared → Prop} {E : Value → Shared → Prop} (hr : Room (k + 3) A) (hfr : A.frames = some outer) (h : GMadeK P w k outer H sc ex (YdB true St) Q u s)
    (hend : ∀ s' H' ys, FactK P w outer H sc ex H' s' → Q ys H' → Q' (.bool true) s') (hstop : ∀ s' H', FactK P w outer H sc ex H' s' → St H' → Q' (.bool false) s') :
    wpAny (model P w) A (call (.builtin "all") [u]) Q' E s := by
  obtain ⟨a, g, c, rfl, ha1, ha2, hg, hgs, hos, hb, hl, hkp, wake⟩ := h
  refine call_function_tree F.kind_all F.plain_all F.entry_all (F.args_all1 _) ?_
  unfold Builtin.«all»
  refine wpAny_bind (m := oneArg "all" _) (wpAny_pure ?_)
  refine wpAny_bind (wpAny_pyIter_gen hg ?_)
  refine wpAny_pure ⟨plainId_quiet F.plain_all_loop _, all_loopK (P := P) (w := w) (outer := outer) (H := H) (sc := sc) (ex := ex) (St := St) (Q := Q) (g := g) hr.hd (by have := hr.dp; omega) (fun s' H' ys f q => hend s' H' ys f q) (fun s' H' f q => hstop s' H' f q) sizeLine s hg hl ⟨_, hgs, rfl, ?_⟩⟩
  refine wake _ _ ⟨hr.hd, ?_, ?_⟩ hfr (fun _ _ e => e) hos (allBare_setGen hb rfl)
  · have := hr.dp
    show A.depth + 3 * k + 5 < _
    omega
  · have := hr.un
    show A.units + 1 + 1 + 16 * k + 200 < _
    omega
end
end D

set_option Elab.async false
set_option linter.all false
set_option maxRecDepth 100000
set_option maxHeartbeats 2000000
/-! Fd52: any, all of a generator expression, read by the evaluator. -/
namespace D
open PySem PySem.Spec L2 PyProof.Rows GenW

section
variable {X : Cx} {k : Nat} {p pos : Pos}
def tAnyK (all : Bool) (tg : TGenK) : TE := fun σ H Q => tg σ H (YdB all fun H' => Q (.bl (!all)) H') (fun _ H' => Q (.bl all) H')
theorem pe_anyK {e : Expr} {tg : TGenK} (h : PGenK X k e tg) (hr : Room (k + 3) X.A) (hb : Bn X "any" (.builtin "any")) (he : notStar e = true) : PE X (.Call (.Name "any" p) [e] [] pos) (tAnyK false tg) := by
  refine ⟨fun pins s σ H Q I hq => ?_⟩
  refine wpAny_Call_Name_kw (ld_blt I hb.1 hb.2.1 hb.2.2.1 ?_ hb.2.2.2.1 hb.2.2.2.2)
  refine PyProof.Rows.callWith_builtin1 ?_ (star_cons he) (by rfl)
  rw [star_cons he]
  show wpAny _ _ (spliced ((false, eval e X.env) :: backTo pos (starEach [] X.env))) _ _ s
  refine Calls.spliced_cons (thn (h.run pins s σ H _ _ I hq) fun u s1 ⟨H1, sc, ex, I1, hex, hG⟩ => ?_)
  refine Calls.spliced_nil ?_
  refine call_any_K hr I1.ok.frames hG (fun s' H' ys f q => ?_) (fun s' H' f q => ?_)
  · exact ⟨.bl false, H', I1.call' (ch := ex) f.1 f.2.2.1 f.2.2.2 f.2.1 hex, rfl, q⟩
  · exact ⟨.bl true, H', I1.call' (ch := ex) f.1 f.2.2.1 f.2.2.2 f.2.1 hex, rfl, q⟩
theorem pe_allK {e : Expr} {tg : TGenK} (h : PGenK X k e tg) (hr : Room (k + 3) X.A) (hb : Bn X "all" (.builtin "all")) (he : notStar e = true) : PE X (.Call (.Name "all" p) [e] [] pos) (tAnyK true tg) := by
  refine ⟨fun pins s σ H Q I hq => ?_⟩
  refine wpAny_Call_Name_kw (ld_blt I hb.1 hb.2.1 hb.2.2.1 ?_ hb.2.2.2.1 hb.2.2.2.2)
  refine PyProof.Rows.callWith_builtin1 ?_ (star_cons he) (by rfl)
  rw [star_cons he]
  show wpAny _ _ (spliced ((false, eval e X.env) :: backTo pos (starEach [] X.env))) _ _ s
  refine Calls.spliced_cons (thn (h.run pins s σ H _ _ I hq) fun u s1 ⟨H1, sc, ex, I1, hex, hG⟩ => ?_)
  refine Calls.spliced_nil ?_
  refine call_all_K hr I1.ok.frames hG (fun s' H' ys f q => ?_) (fun s' H' f q => ?_)
  · exact ⟨.bl true, H', I1.call' (ch := ex) f.1 f.2.2.1 f.2.2.2 f.2.1 hex, rfl, q⟩
  · exact ⟨.bl false, H', I1.call' (ch := ex) f.1 f.2.2.1 f.2.2.2 f.2.1 hex, rfl, q⟩
end
theorem anyL_cons {all : Bool} {t : T} {ρ : Env} {test : Env → AH → Out Bool} {elt : Env → AH → Out RV} {x res : RV} {xs : List RV} {h hN : AH} (e : anyL all t ρ test elt (x :: xs) h = .ok res hN) :
    ∃ ρ' b h1, t.put ρ x = some ρ' ∧ test ρ' h = .ok b h1 ∧ ((b = false ∧ anyL all t ρ test elt xs h1 = .ok res hN) ∨ (b = true ∧ ∃ k h2, elt ρ' h1 = .ok (.pv (.bl k)) h2 ∧ ((k = all ∧ anyL all t ρ test elt xs h2 = .ok res hN) ∨ (k ≠ all ∧ res = .pv (.bl (!all)) ∧ hN = h2)))) := by
  simp only [anyL] at e
  obtain ⟨ρ', h0, e1, e2⟩ := bind_okI e
  obtain ⟨epp, eh⟩ := optO_ok e1
  subst eh
  obtain ⟨b, h1, e3, e4⟩ := bind_okI e2
  refine ⟨ρ', b, h1, epp, e3, ?_⟩
  cases b with
  | false => exact .inl ⟨rfl, by simpa using e4⟩
  | true =>
    simp only [if_true] at e4
    obtain ⟨y, h2, e5, e6⟩ := bind_okI e4
    split at e6
    · rename_i k
      refine .inr ⟨rfl, k, h2, e5, ?_⟩
      split at e6
      · rename_i q
        exact .inl ⟨q, e6⟩
      · rename_i q
        cases e6
        exact .inr ⟨q, rfl, rfl⟩
    · cases e6
section
variable {F : Fx} {cx : String → Option Addr} {Wx : WX} {X : Cx} {pos : Pos} {fi : Env → AH → Out (List RV)}
def anyO (all : Bool) (t : T) (fi : Env → AH → Out (List RV)) (test : Env → AH → Out Bool) (elt : Env → AH → Out RV) : Env → AH → Out RV := fun ρ h => (fi ρ h).bind fun xs h1 => if xs.length ≤ line then (anyL all t (D.wipe ρ t.slots) test elt xs h1).nox else .bad
theorem wipe_idem (vs : List Nat) (σ : L2.St) : L2.wipe (L2.wipe σ vs) vs = L2.wipe σ vs := by
  have key : ∀ (ws : List Nat) (σ : L2.St), (∀ i ∈ ws, i < σ.length → σ[i]? = some none) → L2.wipe σ ws = σ := fun ws => by
    induction ws with
    | nil => intro σ _; rfl
    | cons v ws ih =>
      intro σ hn
      simp only [L2.wipe]
      rw [ih σ fun i hi => hn i (List.mem_cons_of_mem _ hi)]
      apply List.ext_getElem?
      intro j
      by_cases q : j = v
      · subst q
        by_cases hl : j < σ.length
        · rw [List.getElem?_set_self hl, hn j List.mem_cons_self hl]
        · rw [List.getElem?_eq_none (by simpa using hl), List.getElem?_eq_none (by simpa using hl)]
      · rw [List.getElem?_set_ne (Ne.symm q)]
  refine key vs _ fun i hi hl => ?_
  cases q : (L2.wipe σ vs)[i]? with
  | none => rw [List.getElem?_eq_none_iff] at q; omega
  | some o =>
    cases o with
    | none => rfl
    | some v => exact absurd hi (wipe_some q).2
theorem tAny_of {all w : Bool} {t : T} {P : Addr} {test : Env → AH → Out Bool} {elt : Env → AH → Out RV} {σ : L2.St} {H : Hp} {Q : VK} (hP : P ∈ F.G.tabs) (q : tO F cx Wx (anyO all t fi test elt) σ H Q) :
    tAnyK all (tGk X P (tI F cx Wx X.K w fi) (tGi F X.K w t) (tOb F cx wNo test) (tO F cx wNo elt) t.slots) σ H Q := by
  obtain ⟨μ, ρ, h, r, s, f⟩ := q
  refine ⟨μ, ρ, h, r, s, Fin.mono (Fin.bind f) (fun xs h1 μ1 H1 e1 r1 z J hJ => ?_) fun _ _ _ _ _ _ z => z⟩
  have s1 := s.grow e1.grow e1.pre
  refine ⟨(r1.tab P hP).1, fun H2 tb => ?_⟩
  obtain ⟨rT, eT⟩ := Rep.tabbed r1 hP tb
  split at z
  case isFalse => exact z.elim
  rename_i hxl
  obtain ⟨res, hN, eL⟩ := nox_ok_inv z
  rw [eL] at z
  have zN : Fin F μ1 h1 H1 (.ok res hN) (vK F Q) (xK F cx Wx σ) := z
  clear z
  refine ⟨fun i m ys H => ∃ μ' h', F.E μ1 h1 H1 μ' h' H ∧ F.R μ' h' H ∧ ys.length ≤ i ∧ m = xs.length - i ∧ anyL all t (D.wipe ρ t.slots) test elt (xs.drop i) h' = .ok res hN,
    ⟨xs.length, μ1, h1, eT, rT, Nat.le_refl _, by simp, by simpa using eL⟩, ⟨fun i m ys H3 wv => ?_⟩⟩
  obtain ⟨μ2, h2, e2, r2, hyl, hm, eZ⟩ := wv
  by_cases hi : i < xs.length
  · refine .inr ?_
    have hx : xs[i]? = some xs[i] := List.getElem?_eq_getElem hi
    rw [List.drop_eq_getElem_cons hi] at eZ
    obtain ⟨ρ', b, h3, ep, et, ez⟩ := anyL_cons eZ
    obtain ⟨go, yl⟩ := hJ.turn i _ hx μ2 H3 _ e2.pre e2.grow
    refine ⟨go, fun ys' H' => ∃ μ' h', F.E μ1 h1 H1 μ' h' H' ∧ F.R μ' h' H' ∧ ys'.length ≤ i + 1 ∧ anyL all t (D.wipe ρ t.slots) test elt (xs.drop (i + 1)) h' = .ok res hN, fun ys' H' n => ?_, fun y H4 hy => ?_⟩
    · obtain ⟨μ', h', n1, n2, n3, n4⟩ := n
      exact ⟨xs.length - (i + 1), by omega, μ', h', n1, n2, n3, rfl, n4⟩
    · obtain ⟨on, ry⟩ := yl y H4 hy
      have e3 : F.E μ2 h2 H3 μ2 h2 H4 := on.ext
      have r3 : F.R μ2 h2 H4 := on.rep r2
      have sw : F.s1 μ2 h2 H4 (D.wipe ρ t.slots) (L2.wipe σ t.slots) := (s1.wipe t.slots).grow (e2.grow.trans on.grow) e2.pre
      refine ⟨μ2, _, h2, xs[i], ρ', r3, sw, ry, ep, fun σ4 s4 hw4 => ⟨?_, ?_⟩⟩
      · rw [hw4]
        exact wipe_idem _ _
      · refine ⟨μ2, ρ', h2, r3, s4, ?_⟩
        rw [et]
        intro μ4 H5 e4 r4
        have e14 := (e2.trans e3).trans e4
        show if b = true then _ else _
        rcases ez with ⟨rfl, ez⟩ | ⟨rfl, k, h5, ey, ez⟩
        · simp only [Bool.false_eq_true, if_false]
          exact ⟨μ4, h3, e14, r4, by omega, ez⟩
        · simp only [if_true]
          refine ⟨μ4, ρ', h3, r4, s4.grow e4.grow e4.pre, ?_⟩
          rw [ey]
          intro μ5 H6 e5 r5 y hy
          have hyb : y = .bl k := by
            cases hy with
            | pv h => cases h; rfl
          subst hyb
          refine ⟨by rw [line_eq]; have : xs.length ≤ line := hxl; omega, k, rfl, ?_⟩
          rcases ez with ⟨rfl, ez⟩ | ⟨hk, hr, hh⟩
          · rw [if_pos rfl]
            exact ⟨μ5, h5, e14.trans e5, r5, by simp; omega, ez⟩
          · rw [if_neg hk]
            subst hr hh
            exact zN μ5 H6 (e14.trans e5) r5 _ (.pv (.bl _))
  · refine .inl ⟨hJ.stop i (by omega) H3 _ e2.grow, ?_⟩
    rw [List.drop_of_length_le (by omega)] at eZ
    simp only [anyL] at eZ
    cases eZ
    exact zN μ2 H3 e2 r2 _ (.pv (.bl _))
theorem r_anyG {cc P : Addr} {all : Bool} {t : T} {w : Bool} {elt tg iter : Expr} {ifs : List Expr} {scope : Scope} {own : List (Str × Nat)} {p gpos : Pos} {test : Env → AH → Out Bool} {fe : Env → AH → Out RV} {k : Nat} (hN : X.N.Nodup) (hr : Room (k + 4) X.A) (TB : GxR.TabB X.base X.mg cc P) (hcode : X.env.code = .ref cc)
    (hP : P ∈ F.G.tabs) (ok : GxOk X.N X.env.scope scope own) (ho : own.map (·.2) = t.slots) (hb : if all = true then Bn X "all" (.builtin "all") else Bn X "any" (.builtin "any")) (hi : PI X tg iter (tI F cx Wx X.K w fi))
    (hg : ∀ (A : Around) (s : Shared) (H : Hp) (C : Addr) (cl : List (Str × Addr)) (code : Value) (fp : List Addr) (pn : List (Addr × Obj)), Room k A → PG (gxX X A s H (genEnv scope cl C code builtinsNs X.env) fp pn) tg (tGi F X.K w t))
    (ht : ∀ (A : Around) (s : Shared) (H : Hp) (C : Addr) (cl : List (Str × Addr)) (code : Value) (fp : List Addr) (pn : List (Addr × Obj)), Room k A → PTs (gxX X A s H (genEnv scope cl C code builtinsNs X.env) fp pn) ifs (tOb F cx wNo test))
    (he : ∀ (A : Around) (s : Shared) (H : Hp) (C : Addr) (cl : List (Str × Addr)) (code : Value) (fp : List Addr) (pn : List (Addr × Obj)), Room k A → PE (gxX X A s H (genEnv scope cl C code builtinsNs X.env) fp pn) elt (tO F cx wNo fe))
    (hs : ∀ v, genFold iter X.env v = pure v) :
    PE X (.Call (.Name (if all = true then "all" else "any") p) [gxe elt tg iter ifs scope gpos] [] pos) (tO F cx Wx (anyO all t fi test fe)) := by
  have hk := pgen_k (X := X) (k := k) (pos := gpos) hN (hr.mono (by omega)) TB hcode ok hi hg ht he hs
  rw [ho] at hk
  cases all with
  | true => exact pe_imp (pe_allK hk hr hb rfl) fun σ H Q q => tAny_of (X := X) hP q
  | false => exact pe_imp (pe_anyK hk hr hb rfl) fun σ H Q q => tAny_of (X := X) hP q
end
end D

set_option Elab.async false
set_option linter.all false
set_option maxRecDepth 100000
set_option maxHeartbeats 2000000
/-! Fd53: generator expressions whose consumer keeps a list of its own (a sum). -/
namespace D
open PySem PySem.Spec L2 PyProof.Rows GenW

/-- while it sleeps all but the consumer's list is kept -/
structure SleptS (S : Addr) (L : Array Value → Prop) (s s' : Shared) : Prop where
  os : s'.os = s.os
  bare : AllBare s'.gens
  keep : ∀ b o, b ≠ S → s.heap.get? b = some o → s'.heap.get? b = some o
  own : ∃ acc c, s'.heap.get? S = some (lstObj acc c) ∧ L acc
def GIS (Lk : List V → Array Value → Prop) (X : Cx) (S : Addr) (ip : List (Addr × Obj)) (ys : List V) (σ : L2.St) (H : Hp) (s₀ s : Shared) : Prop :=
  ∃ (acc : Array Value) (c : Nat), Lk ys acc ∧ s₀.heap.get? S = some (lstObj acc c) ∧ Inv X ((S, lstObj acc c) :: ip) σ H s
section
variable {Lk : List V → Array Value → Prop}
theorem GIS.unpin {Y : Cx} {S : Addr} {ip : List (Addr × Obj)} {ys : List V} {σ : L2.St} {H : Hp} {s₀ s : Shared} (h : GIS Lk Y S ip ys σ H s₀ s) : GIS Lk Y S [] ys σ H s₀ s := by
  obtain ⟨acc, c, r, rb, I⟩ := h
  refine ⟨acc, c, r, rb, I.pins_of fun p hp => I.pin p (List.mem_append_right _ ?_)⟩
  rcases List.mem_cons.mp hp with h | h
  · subst h; exact List.mem_cons_self
  · cases h
theorem GIS.weak {Y : Cx} {S : Addr} {ip : List (Addr × Obj)} {ys : List V} {σ σ' : L2.St} {H : Hp} {s₀ s : Shared} (h : GIS Lk Y S ip ys σ H s₀ s) (hl : σ'.length = σ.length) (w : ∀ (i : Nat) v, σ'[i]? = some (some v) → σ[i]? = some (some v)) : GIS Lk Y S ip ys σ' H s₀ s := by
  obtain ⟨acc, c, r, rb, I⟩ := h
  exact ⟨acc, c, r, rb, I.weak hl w⟩
theorem GIS.woken {X : Cx} {S : Addr} {ip : List (Addr × Obj)} {ys zs : List V} {σ : L2.St} {H : Hp} {s₀ s s' : Shared} (hpn : ∀ p ∈ X.pn, p.1 ≠ S) (hip : ∀ p ∈ ip, p.1 ≠ S) (hA : Apart X S) (h : GIS Lk X S ip ys σ H s₀ s) (z : SleptS S (Lk zs) s s') : GIS Lk X S ip zs σ H s' s' := by
  obtain ⟨acc, c, _, _, I⟩ := h
  obtain ⟨eS, hS0, hSL, hSf, _⟩ := I.pin (S, lstObj acc c) (List.mem_append_right _ List.mem_cons_self)
  have I0 : Inv X ip σ H s := I.pins_of fun p hp => I.pin p (List.mem_append_right _ (List.mem_cons_of_mem _ hp))
  have nt : ∀ b u, H b = some u → b ≠ S := fun b u q hb => by rw [hb, hS0] at q; cases q
  obtain ⟨z1, z2, z3, acc', c', eS', hL⟩ := z
  obtain ⟨hh, g, d, t, o⟩ := s'
  have ho : o = s.os := z1
  subst ho
  have nc : ∀ b, b ∉ [S] → b ≠ S := fun b hb e => hb (by rw [e]; exact List.mem_singleton.mpr rfl)
  have J : Inv X ip σ H { s with heap := hh, gens := g, drawn := d, toks := t } := by
    refine I0.step (g' := g) (t' := t) (d' := d) (ch := [S]) (fun b hb => ?_)
      (fun b ob _ _ hc q _ => z3 b ob (nc b hc) q) (fun b ob _ _ hc q _ => ⟨ob.slots, z3 b ob (nc b hc) q⟩) (fun _ _ _ _ n => n) (fun b ob hc q => ⟨ob, z3 b ob (nc b hc) q⟩)
      (fun _ _ q => q) (fun _ _ _ q => q) (fun b ps q => ⟨#[], by rw [q]; simp⟩) (fun m hm => ?_) (fun b u q => ?_) z2
    · rw [List.mem_singleton.mp hb]
      refine ⟨.inr hA.1, hA.2.1, hA.2.2, fun p hp => ?_⟩
      rcases List.mem_append.mp hp with hp | hp
      · exact hpn p hp
      · exact hip p hp
    · obtain ⟨ob, es, ep, ho, r⟩ := hm
      exact ⟨ob, es, ep, z3 _ ob (Ne.symm hSL) ho, r⟩
    · refine (I0.hok b u q).stay (fun c v hc y => z3 c v ?_ y) (fun _ y => y) fun _ _ y => y
      rcases hc with y | y
      · rw [y]; exact nt b u q
      · exact nt c _ y
  refine ⟨acc', c', hL, eS', J.pins_of fun p hp => ?_⟩
  rcases List.mem_cons.mp hp with hp | hp
  · rw [hp]
    exact ⟨eS', hS0, hSL, hSf, fun v q => by cases q⟩
  · exact J.pin p (List.mem_append_right _ hp)
end
section
variable {X : Cx}
def gsR (Lk : List V → Array Value → Prop) (Y : Cx) (S : Addr) (σ : L2.St) (cont : List V → Hp → Prop) : GenEnd := fun n s₀ r s1 => r = .ok .next ∧ ∃ H' ys, n + ys.length = sizeLine ∧ GIS Lk Y S [] ys σ H' s₀ s1 ∧ cont ys H'
def GYS (Lk : List V → Array Value → Prop) (Y : Cx) (S : Addr) (Yd : List V → V → Hp → Prop → Prop) : Protocol := fun n s₀ v s kap =>
  ∃ ys x ip σ H Pn, n + 1 + ys.length = sizeLine ∧ RelV x v ∧ GIS Lk Y S ip ys σ H s₀ s ∧ Yd ys x H Pn ∧ (Pn → ∀ s', SleptS S (Lk (ys ++ [x])) s s' → kap (.send .none) s')
theorem gs_loop {A : Around} {s_0 : Shared} {H_0 : Hp} {genv : PySem.Env} {fp : List Addr} {pn : List (Addr × Obj)} {elt tg iter : Expr} {ifs : List Expr} {scope : Scope} {pos : Pos} {it : Addr} {tn : Nat → Heap → Prop} {J : L2.It} {g : TG} {tt : TT} {te : TE} {vs : List Nat} {σ : L2.St} {cont : List V → Hp → Prop} {Yd : List V → V → Hp → Prop → Prop} {W : Nat → Nat → List V → Hp → Prop} {S : Addr} {Lk : List V → Array Value → Prop}
    (hco : genv.scope.isCoroutine = false) (T : Turn X.prog X.w X.K tg J fp it tn) (hpS : ∀ p ∈ pn, p.1 ≠ S) (hpf : ∀ p ∈ pn, p.1 ∉ fp) (hSf : S ∉ fp) (hAp : Apart (gxX X (A.over (gxc elt tg iter ifs scope pos it genv) []) s_0 H_0 genv fp pn) S)
    (hg : PG (gxX X (A.over (gxc elt tg iter ifs scope pos it genv) []) s_0 H_0 genv fp pn) tg g) (ht : PTs (gxX X (A.over (gxc elt tg iter ifs scope pos it genv) []) s_0 H_0 genv fp pn) ifs tt)
    (he : PE (gxX X (A.over (gxc elt tg iter ifs scope pos it genv) []) s_0 H_0 genv fp pn) elt te) (G : GkT X g tt te vs σ J Yd cont W) :
    ∀ (m : Nat) (i : Nat) (ys : List V) (H : Hp) (n : Nat) (s₀ s : Shared), W i m ys H → n + ys.length = sizeLine → GIS Lk (gxX X (A.over (gxc elt tg iter ifs scope pos it genv) []) s_0 H_0 genv fp pn) S [] ys (L2.wipe σ vs) H s₀ s → tn i s.heap → (∀ b ∈ fp, H b = none) →
      Seg (model X.prog X.w) A (gsR Lk (gxX X (A.over (gxc elt tg iter ifs scope pos it genv) []) s_0 H_0 genv fp pn) S (L2.wipe σ vs) cont) (GYS Lk (gxX X (A.over (gxc elt tg iter ifs scope pos it genv) []) s_0 H_0 genv fp pn) S Yd) n s₀
        (gxc elt tg iter ifs scope pos it genv) ((model X.prog X.w).den (gxc elt tg iter ifs scope pos it genv)) [] s := by
  generalize hY : gxX X (A.over (gxc elt tg iter ifs scope pos it genv) []) s_0 H_0 genv fp pn = Y at *
  have e1 : Y.prog = X.prog := by rw [← hY]
  have e2 : Y.w = X.w := by rw [← hY]
  have e3 : Y.K = X.K := by rw [← hY]
  have e4 : Y.calm = true := by rw [← hY]
  have e5 : Y.A = A.over (gxc elt tg iter ifs scope pos it genv) [] := by rw [← hY]
  have e6 : Y.env = genv := by rw [← hY]
  have e7 : Y.ex = fp := by rw [← hY]
  have e8 : Y.pn = pn := by rw [← hY]
  have e9 : Y.xe = fun _ _ => False := by rw [← hY]
  have stat : ∀ {σ' : L2.St} {H' : Hp} {s' : Shared} {acc : Array Value} {c : Nat}, Inv Y [(S, lstObj acc c)] σ' H' s' → (∀ b ∈ fp, H' b = none) → ∀ b ∈ fp, FpOk Y [(S, lstObj acc c)] H' b := fun {σ' H' s' acc c} I' hn b hb => by
    have hb' : b ∈ Y.ex := by rw [e7]; exact hb
    refine ⟨hn b hb, (I'.ok.exf b hb').1, I'.ok.exfs b hb', .inl hb', (I'.ok.exf b hb').2, fun p hp => ?_⟩
    rcases List.mem_append.mp hp with hp | hp
    · rw [e8] at hp
      rintro rfl; exact hpf p hp hb
    · rw [List.mem_singleton.mp hp]
      rintro rfl; exact hSf hb
  intro m
  induction m using Nat.strongRecOn with
  | ind m ih =>
  intro i ys H n s₀ s hW hn hI st fr
  have len0 : (L2.wipe σ vs).length = σ.length := wipe_length σ vs
  show Seg _ A _ _ _ s₀ _ ((compTurn (gxe elt tg iter ifs scope pos) 0 (.ref it) .none genv).onRaise (leaving genv)) [] s
  rw [compTurn_gen, Sem.onRaise_eq_wrap]
  refine seg_bind_wrap (wpAny_standAt ?_)
  obtain ⟨acc, cc, ra, rb, I⟩ := id hI
  rcases G.turn i m ys H hW with ⟨stop, qq⟩ | ⟨go, Nx, hNx, step⟩
  · have td := T.done Y e1 e2 e3 e4 i [(S, lstObj acc cc)] s _ H (fun _ _ => False) I (stat I fr) st stop
    rw [e5] at td
    refine seg_bind_wrap (wpAny_mono td (fun r s6 ⟨hr, I6⟩ => ?_) fun _ _ z => z.elim)
    subst hr
    exact seg_end (.ok .next) ⟨rfl, H, ys, hn, ⟨acc, cc, ra, rb, I6⟩, qq⟩
  · have ti := T.item Y e1 e2 e3 e4 i [(S, lstObj acc cc)] s _ H (fun _ _ => False) I (stat I fr) st go
    rw [e5] at ti
    refine seg_bind_wrap (wpAny_mono ti (fun r s6 ⟨u, hr, h6⟩ => ?_) fun _ _ z => z.elim)
    subst hr
    refine seg_bind_wrap (wpAny_mono h6 (fun _ s7 ⟨x, H7, I7, r7, y7, st7, n7⟩ => ?_) fun _ _ z => z.elim)
    have I7' := I7.pinned (stat I7 n7) (T.obj _ _ st7)
    have pgr := hg.run _ s7 _ H7 x u _ I7' r7 (step x H7 y7)
    rw [e1, e2, e5, e6, e9] at pgr
    refine seg_bind_wrap (wpAny_mono pgr (fun _ s8 ⟨σ8, H8, I8, hw8, q8⟩ => ?_) fun _ _ z => z.elim)
    have ptr := ht.run _ s8 σ8 H8 _ I8 q8
    rw [e1, e2, e5, e6, e9] at ptr
    refine seg_bind_wrap (wpAny_mono ptr (fun b s9 ⟨H9, I9, q9⟩ => ?_) fun _ _ z => z.elim)
    -- the iterator's objects, pinned
    have toGI : ∀ {s' : Shared} {H' : Hp}, Inv Y ([(S, lstObj acc cc)] ++ pinsAt fp s7.heap) σ8 H' s' → GIS Lk Y S (pinsAt fp s7.heap) ys σ8 H' s₀ s' := fun I' => ⟨acc, cc, ra, rb, I'⟩
    have fin : ∀ {s' : Shared} {H' : Hp} {zs : List V} {n' : Nat} {s₀' : Shared}, GIS Lk Y S (pinsAt fp s7.heap) zs σ8 H' s₀' s' → n' + zs.length = sizeLine → Nx zs H' → Seg (model X.prog X.w) A (gsR Lk Y S (L2.wipe σ vs) cont) (GYS Lk Y S Yd) n' s₀' (gxc elt tg iter ifs scope pos it genv) (.pure (.again (gxc elt tg iter ifs scope pos it genv))) [] s' := fun {s' H' zs n' s₀'} hGI hn' nx => by
      obtain ⟨m', hm, w'⟩ := hNx zs H' nx
      have pin' : ∀ b ∈ fp, ∀ o, s7.heap.get? b = some o → s'.heap.get? b = some o ∧ H' b = none := fun b hb o e => by
        obtain ⟨_, _, _, _, I'⟩ := hGI
        have z := I'.pin (b, o) (List.mem_append_right _ (List.mem_cons_of_mem _ (mem_pinsAt hb e)))
        exact ⟨z.1, z.2.1⟩
      have hl : (L2.wipe σ vs).length = σ8.length := by rw [← hw8, wipe_length]
      refine seg_again rfl (ih m' hm (i + 1) zs H' n' s₀' s' w' hn' (GIS.weak (GIS.unpin hGI) hl fun j v e => ?_) (T.keep _ _ _ st7 fun b hb o e => (pin' b hb o e).1) fun b hb => ?_)
      · rw [← hw8] at e
        exact (wipe_some e).1
      · obtain ⟨o, e, _⟩ := T.obj _ _ st7 b hb
        exact (pin' b hb o e).2
    cases b with
    | false =>
      simp only [Bool.false_eq_true, if_false] at q9 ⊢
      exact fin (toGI I9) hn q9
    | true =>
      simp only [if_true] at q9 ⊢
      have hy : ∀ v, yieldOut genv v = yieldValue v := fun v => by simp only [yieldOut, hco, Bool.false_eq_true, if_false]
      simp only [hy]
      rw [Sem.bind_eq_wrap', Sem.bind_eq_wrap', Sem.wrap_wrap, Sem.wrap_wrap]
      have per := he.run _ s9 σ8 H9 _ I9 q9
      rw [e1, e2, e5, e6, e9] at per
      refine seg_wrap (wpAny_mono per (fun z s10 ⟨yv, H10, I10, r10, hlt, nx⟩ => ?_) fun _ _ z => z.elim)
      obtain ⟨n, rfl⟩ : ∃ k, n = k + 1 := ⟨n - 1, by omega⟩
      have hip : ∀ p ∈ pinsAt fp s7.heap, p.1 ≠ S := fun p hp => by
        obtain ⟨hb, _⟩ := of_pinsAt hp
        rintro rfl; exact hSf hb
      exact seg_at (seg_yield rfl rfl rfl ⟨ys, yv, pinsAt fp s7.heap, σ8, H10, _, hn, r10, ⟨acc, cc, ra, rb, I10⟩, nx, fun nx s'' sl => fin (GIS.woken (by rw [e8]; exact hpS) hip hAp ⟨acc, cc, ra, rb, I10⟩ sl) (by rw [List.length_append, List.length_singleton]; omega) nx⟩)
end
/-! made -/
def REndS (Lk : List V → Array Value → Prop) (P : Program) (w : World) (outer : List PySem.Env) (H : Hp) (s : Shared) (ex : List Addr) (S : Addr) (Q : List V → Hp → Prop) : GenEnd := fun n s₀ r s1 =>
  ((r = .ok (.ret .none) ∨ r = .ok .next) ∧ ∃ H' ys, s1.os = s.os ∧ AllBare s1.gens ∧ Un (frs outer) ex H H' s.heap s1.heap ∧ HOk P w H' s1.heap ∧ ys.length ≤ sizeLine ∧ s1.heap.get? S = s₀.heap.get? S ∧ (∃ acc c, s1.heap.get? S = some (lstObj acc c) ∧ Lk ys acc) ∧ Q ys H') ∨ ∃ e, r = .error e ∧ False
def YItemS (Lk : List V → Array Value → Prop) (P : Program) (w : World) (outer : List PySem.Env) (H : Hp) (s : Shared) (ex : List Addr) (S a : Addr) (g : Nat) (Yd : List V → V → Hp → Prop → Prop) : Protocol := fun n s₀ v s1 kap =>
  s1.os = s.os ∧ AllBare s1.gens ∧ s1.heap.NoLimit ∧ s1.heap.IsGen a g ∧ s1.heap.get? S = s₀.heap.get? S ∧ ∃ H' ys x Pn, (∃ acc c, s1.heap.get? S = some (lstObj acc c) ∧ Lk ys acc) ∧ RelV x v ∧ n + 1 + ys.length = sizeLine ∧ Un (frs outer) ex H H' s.heap s1.heap ∧ HOk P w H' s1.heap ∧ Yd ys x H' Pn ∧ (Pn → ∀ s', SleptS S (Lk (ys ++ [x])) s1 s' → kap (.send .none) s')
def GMadeS (Lk : List V → Array Value → Prop) (P : Program) (w : World) (k : Nat) (outer : List PySem.Env) (H : Hp) (s : Shared) (ex : List Addr) (Yd : List V → V → Hp → Prop → Prop) (Q : List V → Hp → Prop) (u : Value) (s' : Shared) : Prop :=
  ∃ (a : Addr) (g : Nat) (c : Code), u = .ref a ∧ s.heap.objs.size ≤ a ∧ a < s'.heap.objs.size ∧ s'.heap.IsGen a g ∧ s'.gens[g]? = some (.fresh c) ∧ s'.os = s.os ∧ AllBare s'.gens ∧ s'.heap.NoLimit ∧ (∀ b o, s.heap.get? b = some o → s'.heap.get? b = some o) ∧
    ∀ (A : Around) (S : Addr) (s2 : Shared), Room k A → A.frames = some outer → s'.heap.objs.size ≤ S → (∀ b o, s'.heap.get? b = some o → s2.heap.get? b = some o) → (∃ acc c, s2.heap.get? S = some (lstObj acc c) ∧ Lk [] acc) → s2.os = s.os → AllBare s2.gens →
      Seg (model P w) A (REndS Lk P w outer H s ex S Q) (YItemS Lk P w outer H s ex S a g Yd) sizeLine s2 c ((model P w).den c) [] s2
structure PGenS (Lk : List V → Array Value → Prop) (X : Cx) (k : Nat) (e : Expr) (tg : TGenK) : Prop where
  run : ∀ (pins : List (Addr × Obj)) (s : Shared) (σ : L2.St) (H : Hp) (Yd : List V → V → Hp → Prop → Prop) (cont : List V → Hp → Prop), Inv X pins σ H s → tg σ H Yd cont → wpAny (model X.prog X.w) X.A (eval e X.env)
    (fun u s' => ∃ H1 sc ex, Inv X pins σ H1 sc ∧ ExOk X pins ex ∧ GMadeS Lk X.prog X.w k X.stack H1 sc ex Yd cont u s') X.xe s
section
variable {X : Cx}
theorem pgen_s (Lk : List V → Array Value → Prop) {c P : Addr} {elt tg iter : Expr} {ifs : List Expr} {scope : Scope} {own : List (Str × Nat)} {pos : Pos} {wi : TI} {g : TG} {tt : TT} {te : TE} {k : Nat} (hN : X.N.Nodup) (hr : Room (k + 1) X.A) (TB : GxR.TabB X.base X.mg c P) (hcode : X.env.code = .ref c) (ok : GxOk X.N X.env.scope scope own)
    (hi : PI X tg iter wi)
    (hg : ∀ (A : Around) (s : Shared) (H : Hp) (C : Addr) (cl : List (Str × Addr)) (code : Value) (fp : List Addr) (pn : List (Addr × Obj)), Room k A → PG (gxX X A s H (genEnv scope cl C code builtinsNs X.env) fp pn) tg g)
    (ht : ∀ (A : Around) (s : Shared) (H : Hp) (C : Addr) (cl : List (Str × Addr)) (code : Value) (fp : List Addr) (pn : List (Addr × Obj)), Room k A → PTs (gxX X A s H (genEnv scope cl C code builtinsNs X.env) fp pn) ifs tt)
    (he : ∀ (A : Around) (s : Shared) (H : Hp) (C : Addr) (cl : List (Str × Addr)) (code : Value) (fp : List Addr) (pn : List (Addr × Obj)), Room k A → PE (gxX X A s H (genEnv scope cl C code builtinsNs X.env) fp pn) elt te)
    (hs : ∀ v, genFold iter X.env v = pure v) : PGenS Lk X (k + 1) (gxe elt tg iter ifs scope pos) (tGk X P wi g tt te (own.map (·.2))) := by
  refine ⟨fun pins s σ H Yd cont I h => ?_⟩
  have hfree : ∀ y ∈ scope.names, y.2 = .free → ∃ c, X.env.cells.lookup y.1 = some c := fun y hy e => by
    rcases ok.free y hy e with k | k
    · exact I.ok.has _ (.inl k)
    · exact I.ok.has _ (.inr k)
  refine wpAny_GeneratorExp_make ok.co (closure_ok hfree) ok.cell ok.dot ok.kind (by have := hr.dp; omega) ?_ hs
  refine thn (hi.run pins s σ H _ I h) fun xv s1 h1 => thn h1 fun itv s2 h2 => ?_
  obtain ⟨it, fp, tn, J, H2, e, I2, T, st2, f2, ⟨ps, hP, htr⟩, q⟩ := h2
  subst e
  have hPs : s2.heap.get? P = some { cls := .none, data := .fields ps } := I2.hok P _ hP
  have hPlt : P < s2.heap.objs.size := Heap.lt_size hPs
  have cd : PySem.W.CodeHd s2.heap c P := TB.code.keeps fun b u e => I2.bk b u e
  have go : ∀ (code : Value) (h3 : Heap) (tk : Nat) (ps' : Array Value), Heap.ExtBut P s2.heap h3 → s2.heap.objs.size ≤ h3.objs.size → h3.get? P = some { cls := .none, data := .fields ps' } → (∃ more, ps' = ps ++ more) → TriplesOk ps'.toList →
      wpAny (model X.prog X.w) X.A (builtinsFor X.env.globals X.env.builtins) (fun bi s₄ =>
        ∀ h', h'.Ns s₄.heap.objs.size (fun y => if y = ".0" then some (.ref it) else none) → Heap.SameBut s₄.heap.objs.size (s₄.heap.push { cls := .type "frame", data := .dict #[] }) h' →
          (∃ H1 sc ex, Inv X pins σ H1 sc ∧ ExOk X pins ex ∧ GMadeS Lk X.prog X.w (k + 1) X.stack H1 sc ex Yd cont (.ref h'.objs.size) { s₄ with
            gens := s₄.gens.push (.fresh (.compStart (gxe elt tg iter ifs scope pos) 0 (.ref it) .none (genEnv scope (cloFrom X.env.cells scope.names []) s₄.heap.objs.size code bi X.env))),
            toks := s₄.toks + 1 + 1 + 1,
            heap := h'.push { cls := .type "generator", data := .fields #[.int s₄.gens.size 0, .str "<genexpr>" (s₄.toks + 1), .str (X.env.qual ++ "<genexpr>") (s₄.toks + 1 + 1)] } })) X.xe { s2 with heap := h3, toks := tk } := by
    intro code h3 tk ps' hx hsz hP3 hmore ht3
    obtain ⟨bm, ob, e1, e2, e3, e4, e5, e6, e7, e8⟩ := TB.bm
    have keep3 : ∀ b u, b ≠ P → s2.heap.get? b = some u → h3.get? b = some u := fun b u hb e => hx b u hb e
    refine wpAny_builtinsFor (m := X.mg) (by rw [I2.ok.glob]; exact (I2.mod.glob.keeps I2.bk).extBut hx TB.gP) e1 e2 (keep3 _ _ e4 (I2.bk _ _ e5)) e6 e7 e8 ?_
    intro h' hns hsb
    obtain ⟨more, em⟩ := hmore
    have I3 : Inv X pins σ (upd H2 P (.tbl (ps ++ more))) { s2 with heap := h3, gens := s2.gens, drawn := s2.drawn, toks := tk } := GxR.inv_tab I2 hP keep3 (by rw [← em]; exact hP3) I2.bare
    obtain ⟨W, ⟨m0, w0⟩, G⟩ := q (upd H2 P (.tbl (ps ++ more))) ⟨⟨ps ++ more, upd_same, by rw [← em]; exact ht3⟩, fun b hb => upd_ne hb⟩
    generalize hH3 : upd H2 P (.tbl (ps ++ more)) = H3 at I3 w0
    have nP : ∀ b ∈ fp, b ≠ P := fun b hb z => by
      have := (f2 b hb).1
      rw [z, hP] at this; cases this
    have f3 : ∀ b ∈ fp, FpOk X pins H3 b := fun b hb => ⟨by rw [← hH3, upd_ne (nP b hb)]; exact (f2 b hb).1, (f2 b hb).2⟩
    have st3 : tn 0 h3 := T.keep _ _ _ st2 fun b hb o e => keep3 b o (nP b hb) e
    have lt3 : ∀ b ∈ fp, b < h3.objs.size := fun b hb => by
      obtain ⟨o, e, _⟩ := T.obj _ _ st3 b hb
      exact Heap.lt_size e
    have fr3 : ∀ b ∈ fp, H3 b = none := fun b hb => (f3 b hb).1
    generalize hsc : ({ s2 with heap := h3, gens := s2.gens, drawn := s2.drawn, toks := tk } : Shared) = sc at I3
    have hsc1 : sc.heap = h3 := by rw [← hsc]
    have hsc2 : sc.gens = s2.gens := by rw [← hsc]
    have hsc3 : sc.os = s2.os := by rw [← hsc]
    have lim : sc.heap.NoLimit := I3.nolimit
    -- h', its generator's object
    have hsz' : h'.objs.size = h3.objs.size + 1 := by
      have := hsb.1
      rw [Heap.size_push] at this
      exact this
    have keep' : ∀ b o, h3.get? b = some o → h'.get? b = some o := fun b o e => hsb.extBut b o (Nat.ne_of_lt (Heap.lt_size e)) (Heap.get?_push_of_some _ e)
    have main : ∀ (go : Obj) (nm qn : Value) (tk2 : Nat), go.cls = .type "generator" → go.data = .fields #[.int s2.gens.size 0, nm, qn] → go.slots = #[] → (∀ hh : Heap, (hh.push go).get? hh.objs.size = some go) →
        GMadeS Lk X.prog X.w (k + 1) X.stack H3 sc fp Yd cont (.ref h'.objs.size) { s2 with
            gens := s2.gens.push (.fresh (.compStart (gxe elt tg iter ifs scope pos) 0 (.ref it) .none (genEnv scope (cloFrom X.env.cells scope.names []) h3.objs.size code builtinsNs X.env))), toks := tk2, heap := h'.push go } := by
      intro go nm qn tk2 hgc hgd0 hgs hgp
      have hpushed : (h'.push go).get? h'.objs.size = some go := hgp _
      have hgen : ∀ hh : Heap, hh.get? h'.objs.size = some go → hh.IsGen h'.objs.size s2.gens.size := fun hh e => ⟨go, nm, qn, e, hgc, hgd0, hgs⟩
      have kpS : ∀ b o, sc.heap.get? b = some o → (h'.push go).get? b = some o := fun b o e => Heap.get?_push_of_some _ (keep' b o (by rw [← hsc1]; exact e))
      refine ⟨h'.objs.size, s2.gens.size, _, rfl, by rw [hsc1]; omega, ?_, hgen _ hpushed, Array.getElem?_push_size .., by rw [hsc3], AllBare.push I2.bare rfl, lim.keeps kpS, kpS, ?_⟩
      · show _ < (h'.push go).objs.size
        rw [Heap.size_push]; exact Nat.lt_succ_self _
      intro Aw Sx s5 hrw hfr hSx hk5 hSo hos hba
      obtain ⟨aS, cS, heS, hLk⟩ := hSo
      have kp5 : ∀ b o, sc.heap.get? b = some o → s5.heap.get? b = some o := fun b o e => hk5 b o (kpS b o e)
      have hea : s5.heap.get? h'.objs.size = some go := hk5 _ _ hpushed
      have hSz : h'.objs.size < Sx := by
        have hSx' : (h'.push go).objs.size ≤ Sx := hSx
        rw [Heap.size_push] at hSx'
        exact hSx'
      have hscs : sc.heap.objs.size = h3.objs.size := by rw [hsc1]
      have hns5 : s5.heap.Ns sc.heap.objs.size (fun y => if y = ".0" then some (.ref it) else none) := by
        rw [hscs]
        exact hns.keeps fun b o e => hk5 b o (Heap.get?_push_of_some _ e)
      generalize hgenv : genEnv scope (cloFrom X.env.cells scope.names []) h3.objs.size code builtinsNs X.env = genv
      have hgd : ∀ v, go.data ≠ .cell v := fun v q => by rw [hgd0] at q; cases q
      have st5 := gx_start (A := Aw.over (gxc elt tg iter ifs scope pos it genv) []) (s2 := s5) (code := code) (pn := [(h'.objs.size, go)]) (pins2 := [(Sx, lstObj aS cS)]) (fp := fp) I3 ok hN (fun b hb => ⟨f3 b hb, by rw [hscs]; exact lt3 b hb⟩) hrw.hd
        (by rw [hscs, hgenv]; exact gx_frames hfr) hos hba kp5 hns5 (fun p hp => by
          rcases List.mem_append.mp hp with z | z
          · rw [List.mem_singleton.mp z]
            exact ⟨hea, by rw [hscs]; show h3.objs.size < h'.objs.size; rw [hsz']; exact Nat.lt_succ_self _, hgd⟩
          · rw [List.mem_singleton.mp z]
            exact ⟨heS, by rw [hscs]; show h3.objs.size < Sx; exact Nat.lt_trans (by rw [hsz']; exact Nat.lt_succ_self _) hSz, fun v q => by cases q⟩)
      rw [hscs, hgenv] at st5
      have rk : Room k (Aw.over (gxc elt tg iter ifs scope pos it genv) []) := gx_room hrw
      have pg := hg (Aw.over (gxc elt tg iter ifs scope pos it genv) []) sc H3 h3.objs.size (cloFrom X.env.cells scope.names []) code fp [(h'.objs.size, go)] rk
      have pt := ht (Aw.over (gxc elt tg iter ifs scope pos it genv) []) sc H3 h3.objs.size (cloFrom X.env.cells scope.names []) code fp [(h'.objs.size, go)] rk
      have pe := he (Aw.over (gxc elt tg iter ifs scope pos it genv) []) sc H3 h3.objs.size (cloFrom X.env.cells scope.names []) code fp [(h'.objs.size, go)] rk
      rw [hgenv] at pg pt pe
      have hL : genv.locals = h3.objs.size := by rw [← hgenv]; rfl
      have hscg : genv.scope = scope := by rw [← hgenv]; rfl
      have hcl : genv.cells = cloFrom X.env.cells scope.names [] := by rw [← hgenv]; rfl
      have young : ∀ b, h'.objs.size ≤ b → b ∉ fp := fun b hb hm =>
        absurd (Nat.lt_of_lt_of_le (lt3 b hm) (Nat.le_trans (by rw [hsz']; exact Nat.le_succ _) hb)) (Nat.lt_irrefl _)
      have hS3 : h3.objs.size < Sx := Nat.lt_trans (by rw [hsz']; exact Nat.lt_succ_self _) hSz
      have loop := gs_loop (Lk := Lk) (X := X) (A := Aw) (s_0 := sc) (H_0 := H3) (genv := genv) (fp := fp) (pn := [(h'.objs.size, go)]) (elt := elt) (tg := tg) (iter := iter) (ifs := ifs) (scope := scope) (pos := pos) (it := it) (S := Sx) (by rw [hscg]; exact ok.co) T
        (fun p hp => by rw [List.mem_singleton.mp hp]; exact Nat.ne_of_lt hSz) (fun p hp => by rw [List.mem_singleton.mp hp]; exact young _ (Nat.le_refl _)) (young _ (Nat.le_of_lt hSz))
        ⟨by show sc.heap.objs.size ≤ Sx; rw [hscs]; exact Nat.le_of_lt hS3, by show Sx ≠ genv.locals; rw [hL]; exact Nat.ne_of_gt hS3, fun x c e => by
          have e : genv.cells.lookup x = some c := e
          rw [hcl] at e
          rcases cloFrom_mem (PySem.mem_of_lookup e) with hm | ⟨h1, rfl⟩
          · cases hm
          · obtain ⟨c, hc⟩ := hfree _ h1 rfl
            obtain ⟨w, z⟩ := I3.cell _ _ hc
            have hc' : (X.env.cells.lookup x).getD 0 = c := by rw [hc]; rfl
            rw [hc']
            have := z.lt
            rw [hscs] at this
            exact Nat.ne_of_lt (Nat.lt_trans this hS3)⟩ pg pt pe G m0 0 [] H3 sizeLine s5 s5 w0 (by simp) ⟨aS, cS, hLk, heS, st5⟩ (T.keep _ _ _ st3 fun b hb o e => kp5 b o (by rw [hsc1]; exact e)) fr3
      have start : Seg (model X.prog X.w) Aw (gsR Lk (gxX X (Aw.over (gxc elt tg iter ifs scope pos it genv) []) sc H3 genv fp [(h'.objs.size, go)]) Sx (L2.wipe σ (own.map (·.2))) cont) (GYS Lk (gxX X (Aw.over (gxc elt tg iter ifs scope pos it genv) []) sc H3 genv fp [(h'.objs.size, go)]) Sx Yd) sizeLine s5
          (.compStart (gxe elt tg iter ifs scope pos) 0 (.ref it) .none genv) ((model X.prog X.w).den (.compStart (gxe elt tg iter ifs scope pos) 0 (.ref it) .none genv)) [] s5 := by
        have tS5 : tn 0 s5.heap := T.keep _ _ _ st3 fun b hb o e => kp5 b o (by rw [hsc1]; exact e)
        show Seg _ Aw _ _ _ s5 _ ((compStart (gxe elt tg iter ifs scope pos) 0 (.ref it) .none genv).onRaise (leaving genv)) [] s5
        unfold compStart
        rw [Sem.onRaise_eq_wrap]
        show Seg _ Aw _ _ _ s5 _ ((ask >>= _).wrap _ _ _ _) [] s5
        refine seg_bind_wrap (wpAny_askSetting ?_)
        split
        · exact seg_again rfl loop
        · refine seg_bind_wrap (wpAny_rule ?_)
          show Seg _ Aw _ _ _ s5 _ ((standAt iter.pos >>= _).wrap _ _ _ _) [] s5
          exact seg_bind_wrap (wpAny_standAt (seg_bind_wrap (T.self _ 0 s5 _ _ tS5 (seg_again rfl loop))))
      refine seg_imp (fun n s₀ r s1' hR => ?_) (fun n s₀ v s1' kap kap' hkk hY => ?_) sizeLine start
      · obtain ⟨hr', H', ys, hn, ⟨acc, cc, ra, rb, J'⟩, hQ⟩ := hR
        have pS := J'.pin (Sx, lstObj acc cc) (List.mem_append_right _ List.mem_cons_self)
        exact .inl ⟨.inr hr', H', ys, J'.os, J'.bare, J'.base, J'.hok, by omega, by rw [rb]; exact pS.1, ⟨acc, cc, pS.1, ra⟩, hQ⟩
      · obtain ⟨ys, xx, ip, σ', H', Pn, hn, h2, ⟨acc, cc, ra, rb, J'⟩, yd, h3'⟩ := hY
        have hgn := hgen _ (J'.pin (h'.objs.size, go) (List.mem_append_left _ (List.mem_singleton.mpr rfl))).1
        have pS := J'.pin (Sx, lstObj acc cc) (List.mem_append_right _ List.mem_cons_self)
        exact ⟨J'.os, J'.bare, J'.nolimit, hgn, by rw [rb]; exact pS.1, H', ys, xx, Pn, ⟨acc, cc, pS.1, ra⟩, h2, hn, J'.base, J'.hok, yd, fun pn s' z => hkk _ _ (h3' pn s' z)⟩
    have m1 := main { cls := .type "generator", data := .fields #[.int s2.gens.size 0, .str "<genexpr>" (tk + 1), .str (X.env.qual ++ "<genexpr>") (tk + 1 + 1)] } _ _ (tk + 1 + 1 + 1) rfl rfl rfl fun hh => Heap.get?_push_size _ rfl
    subst hsc
    exact ⟨H3, _, fp, I3, fun b hb => ⟨(f3 b hb).2.2.2.1, (f3 b hb).2.1, (f3 b hb).2.2.2.2.1, (f3 b hb).2.2.2.2.2⟩, m1⟩
  refine ⟨I2.nolimit, ?_⟩
  cases hf : codeAmong pos ps.toList with
  | none =>
    refine wpAny_genexprCodeX hcode (cd.code hPs htr) (cd.tab hPs) hf fun c' h' tk hx hge hlt hco' _ htab' _ => ?_
    obtain ⟨o1, vs, f1, tf, fl, tg, inF, tx, tt, op, _, _, _, _, _, _, _, _, _, htr', _⟩ := hco'
    exact go _ h' tk _ hx (Nat.le_trans hge (Nat.le_of_lt hlt)) htab'.2 ⟨_, rfl⟩ htr'
  | some cv =>
    refine wpAny_genexprCode_hit hcode (cd.code hPs htr) hf ?_
    exact go cv s2.heap s2.toks ps (Heap.ExtBut.refl _ _) (Nat.le_refl _) hPs ⟨#[], by simp⟩ htr
end
end D

set_option Elab.async false
set_option linter.all false
set_option maxRecDepth 100000
set_option maxHeartbeats 2000000
/-! Fd54: sum of a generator expression. -/
namespace D
open PySem PySem.Spec L2 PyProof.Rows GenW

/-- the list that a sum keeps -/
def LkI (ys : List V) (acc : Array Value) : Prop := ∃ (is : List Int) (t : Tok), ys = is.map V.int ∧ acc = #[.int is.sum t]
def YdI : List V → V → Hp → Prop → Prop := fun _ y _ Pn => ∃ i : Int, y = .int i ∧ Pn
theorem map_int_inj : ∀ {is js : List Int}, is.map V.int = js.map V.int → is = js
  | [], [], _ => rfl
  | [], _ :: _, h => by simp at h
  | _ :: _, [], h => by simp at h
  | i :: is, j :: js, h => by
    simp only [List.map_cons, List.cons.injEq, V.int.injEq] at h
    rw [h.1, map_int_inj h.2]
section
variable {P : Program} {w : World} {outer : List PySem.Env} {H : Hp} {sc : Shared} {ex : List Addr} {A : Around} {R : Result → Shared → Prop} {Q : List V → Hp → Prop} {S a : Addr} {g : Nat}
theorem goesS {Lk : List V → Array Value → Prop} {Yd : List V → V → Hp → Prop → Prop} {gs : GenState} {B : Around} {n : Nat} {r : Resume} {s : Shared} (h : gs.Goes (model P w) B (REndS Lk P w outer H sc ex S Q) (YItemS Lk P w outer H sc ex S a g Yd) n r s) :
    gs.Goes (model P w) B (fun n s₀ r s1 => ((r = .ok (.ret .none) ∨ r = .ok .next) ∧ (∃ H' ys, s1.os = sc.os ∧ AllBare s1.gens ∧ Un (frs outer) ex H H' sc.heap s1.heap ∧ HOk P w H' s1.heap ∧ ys.length ≤ sizeLine ∧ s1.heap.get? S = s₀.heap.get? S ∧ (∃ acc c, s1.heap.get? S = some (lstObj acc c) ∧ Lk ys acc) ∧ Q ys H')) ∨
      ∃ e, r = .error e ∧ False) (YItemS Lk P w outer H sc ex S a g Yd) n r s := h
theorem sameTot {s : Shared} {S : Addr} {acc : Array Value} {c c1 : Nat} {is : List Int} {tot : Int} {tA t1 : Tok} (h1 : s.heap.get? S = some (lstObj acc c1)) (h2 : s.heap.get? S = some (lstObj #[.int tot tA] c)) (h3 : acc = #[.int is.sum t1]) : tot = is.sum ∧ tA = t1 := by
  rw [h2] at h1
  subst h3
  cases h1
  exact ⟨rfl, rfl⟩
theorem sum_loopK (hh : A.handled = none) (hd : A.depth < recursionLimit) (hSa : S ≠ a) (hSc : S ≠ cStatics)
    (hend : ∀ s' H' (is : List Int) t, FactK P w outer H sc ex H' s' → Q (is.map V.int) H' → R (.ok (.ret (.int is.sum t))) s') :
    ∀ (m : Nat) (s : Shared) (st : Int) (tot : Int) (tA : Tok) (c : Nat), (st = 0 ∨ st = 2) → s.heap.IsGen a g → s.heap.NoLimit → s.heap.get? S = some (lstObj #[.int tot tA] c) →
      (∃ gs, s.gens[g]? = some gs ∧ gs.Goes (model P w) A.in1.in1 (REndS LkI P w outer H sc ex S Q) (YItemS LkI P w outer H sc ex S a g YdI) m (.send .none) (s.setGen g .running)) →
      codeAny (model P w) A (.builtin "sum.loop" ⟨[.ref a, .ref S, rawInt st, rawInt 0], []⟩) R s := by
  intro m
  induction m with
  | zero =>
    intro s st tot tA c hst2 hg hl hS ⟨gs, hgs, hgo⟩
    refine codeAny_builtin F.entry_sum_loop ?_
    rw [Around.under_plainId F.plain_sum_loop _]
    show wpAny _ A.in1 (seqItems? (.ref S) >>= _) _ _ s
    refine wpAny_bind (wpAny_seqItems hS rfl ?_)
    show wpAny _ A.in1 (tryCatch (pyNext (.ref a)) _ >>= _) _ _ s
    refine wpAny_bind (wpAny_tryCatch (next_genG (A := A.in1) hh hl hd hg hgs (goesS hgo) (fun v s₁ gs' hbare hv => ?_) (fun s₁ hp h' hk => ?_) fun e s₁ he => he.elim))
    · obtain ⟨os1, hb1, hl1, hg1, hS0, H', ys, x, Pn, ⟨acc, c1, hS1, is, t1, rfl, hacc⟩, rv, hn, un, hok, ⟨i, rfl, yd⟩, hk⟩ := hv
      refine (hk yd { s₁ with heap := s₁.heap.update S (Obj.mapSeq fun _ => #[.int (is ++ [i]).sum t1]) } ⟨rfl, hb1, fun b o hb e => (Heap.get?_update_other _ _ (Ne.symm hb)).trans e, _, _, Heap.get?_update_self _ hS1 rfl, is ++ [i], t1, by simp, rfl⟩).elim
    · obtain ⟨H', ys, os1, hb1, un, hok, hle, hS0, ⟨acc, c1, hS1, is, t1, rfl, hacc⟩, hQ⟩ := hp
      have et : tot = is.sum ∧ tA = t1 := sameTot (hS0.symm.trans hS1) hS hacc
      obtain ⟨rfl, rfl⟩ := et
      exact wpAny_pure (hend _ H' is tA (factK_end os1 hb1 rfl un hok hk) hQ)
  | succ m ih =>
    intro s st tot tA c hst2 hg hl hS ⟨gs, hgs, hgo⟩
    have hgl : g < s.gens.size := (Array.getElem?_eq_some_iff.mp hgs).1
    refine codeAny_builtin F.entry_sum_loop ?_
    rw [Around.under_plainId F.plain_sum_loop _]
    show wpAny _ A.in1 (seqItems? (.ref S) >>= _) _ _ s
    refine wpAny_bind (wpAny_seqItems hS rfl ?_)
    show wpAny _ A.in1 (tryCatch (pyNext (.ref a)) _ >>= _) _ _ s
    refine wpAny_bind (wpAny_tryCatch (wpAny_gsz (n := g + 1) hgl (next_genG (A := A.in1) hh hl hd hg hgs (goesS hgo) (fun v s₁ gs' hbare hv => ?_) (fun s₁ hp h' hk => ?_) fun e s₁ he => he.elim)))
    · intro hsz
      obtain ⟨os1, hb1, hl1, hg1, hS0, H', ys, x, Pn, ⟨acc, c1, hS1, is, t1, rfl, hacc⟩, rv, hn, un, hok, ⟨i, rfl, yd⟩, hk⟩ := hv
      have et : tot = is.sum ∧ tA = t1 := sameTot (hS0.symm.trans hS1) hS hacc
      obtain ⟨rfl, rfl⟩ := et
      subst hacc
      obtain ⟨t, rfl⟩ := rv
      have hsz1 : g < s₁.gens.size := by
        have q : (s₁.setGen g gs').gens.size = s₁.gens.size := setGen_size _ _ _
        have hsz' : g + 1 ≤ (s₁.setGen g gs').gens.size := hsz
        omega
      have esum : (is ++ [i]).sum = is.sum + i := by simp
      -- the list is written, then the next turn
      have go : ∀ (st' : Int) (hp : Heap) (tk : Nat) (tB : Tok) (c2 : Nat), (st' = 0 ∨ st' = 2) → (∀ b o, b ≠ S → s₁.heap.get? b = some o → hp.get? b = some o) → hp.get? S = some (lstObj #[.int (is.sum + i) tB] c2) →
          codeAny (model P w) A (.builtin "sum.loop" ⟨[.ref a, .ref S, rawInt st', rawInt 0], []⟩) R { s₁.setGen g gs' with heap := hp, toks := tk } := by
        intro st' hp tk tB c2 h2 kp eS
        refine ih _ st' (is.sum + i) tB c2 h2 ?_ ?_ eS ⟨gs', setGen_at hsz1, ?_⟩
        · obtain ⟨o, nm, qn, ho, r⟩ := hg1
          exact ⟨o, nm, qn, kp a o (Ne.symm hSa) ho, r⟩
        · obtain ⟨mc, hns, hnn⟩ := hl1
          exact ⟨mc, hns.at' fun o e => kp _ o (Ne.symm hSc) e, hnn⟩
        · exact hk yd _ ⟨rfl, allBare_setGen (s := { s₁.setGen g gs' with heap := hp, toks := tk }) (allBare_setGen hb1 hbare) rfl, kp, _, c2, eS, is ++ [i], tB, by simp, by rw [esum]⟩
      have hS' : (s₁.setGen g gs').heap.get? S = some (lstObj #[.int is.sum tA] c1) := hS1
      have kp1 : ∀ (f : Obj → Obj) b o, b ≠ S → s₁.heap.get? b = some o → (s₁.heap.update S f).get? b = some o := fun f b o hb e => (Heap.get?_update_other _ _ (Ne.symm hb)).trans e
      have hS₂ := fun tk => Heap.get?_update_self (Obj.mapSeq fun _ => #[Value.int (is.sum + i) tk]) hS' rfl
      rcases hst2 with rfl | rfl
      · show wpAny _ A.in1 (if (_ : Bool) = true then (mkInt (is.sum + i) >>= _) else _) _ _ _
        split
        · refine wpAny_bind (wpAny_mkInt ?_)
          show wpAny _ A.in1 (updateSeq S (fun _ => #[.int (is.sum + i) (s₁.setGen g gs').toks]) >>= _) _ _ _
          refine wpAny_bind ?_
          refine wpAny_updateSeq hS' rfl (wpAny_pure ⟨plainId_quiet F.plain_sum_loop _, go 0 _ _ _ _ (.inl rfl) (kp1 _) (hS₂ _)⟩)
        · refine wpAny_bind (wpAny_rule ?_)
          refine wpAny_bind (wpAny_attempt (wpAny_holding (wpAny_add_int ?_)))
          show wpAny _ A.in1 (updateSeq S (fun _ => #[.int (is.sum + i) (s₁.setGen g gs').toks]) >>= _) _ _ _
          refine wpAny_bind (wpAny_updateSeq hS' rfl ?_)
          refine wpAny_bind (wpAny_letGo ?_)
          refine wpAny_bind (wpAny_updateSeq (hS₂ _) rfl (wpAny_pure ⟨plainId_quiet F.plain_sum_loop _, go 2 _ _ _ _ (.inr rfl) (fun b o hb e => (Heap.get?_update_other _ _ (Ne.symm hb)).trans (kp1 _ b o hb e)) (Heap.get?_update_self _ (hS₂ _) rfl)⟩))
      · show wpAny _ A.in1 ((holding [Value.int i t] (binaryOp .Add (.int is.sum tA) (.int i t))).attempt >>= _) _ _ _
        refine wpAny_bind (wpAny_attempt (wpAny_holding (wpAny_add_int ?_)))
        show wpAny _ A.in1 (updateSeq S (fun _ => #[.int (is.sum + i) (s₁.setGen g gs').toks]) >>= _) _ _ _
        refine wpAny_bind (wpAny_updateSeq hS' rfl ?_)
        refine wpAny_bind (wpAny_letGo ?_)
        refine wpAny_bind (wpAny_updateSeq (hS₂ _) rfl (wpAny_pure ⟨plainId_quiet F.plain_sum_loop _, go 2 _ _ _ _ (.inr rfl) (fun b o hb e => (Heap.get?_update_other _ _ (Ne.symm hb)).trans (kp1 _ b o hb e)) (Heap.get?_update_self _ (hS₂ _) rfl)⟩))
    · intro hsz
      obtain ⟨H', ys, os1, hb1, un, hok, hle, hS0, ⟨acc, c1, hS1, is, t1, rfl, hacc⟩, hQ⟩ := hp
      have et : tot = is.sum ∧ tA = t1 := sameTot (hS0.symm.trans hS1) hS hacc
      obtain ⟨rfl, rfl⟩ := et
      exact wpAny_pure (hend _ H' is tA (factK_end os1 hb1 rfl un hok hk) hQ)
end
end D

set_option Elab.async false
set_option linter.all false
set_option maxRecDepth 100000
set_option maxHeartbeats 2000000
/-! Fd55: sum of a generator expression, read by the evaluator. -/
namespace D
open PySem PySem.Spec L2 PyProof.Rows GenW

section
variable {P : Program} {w : World} {outer : List PySem.Env} {H : Hp} {sc : Shared} {ex : List Addr} {A : Around} {Q : List V → Hp → Prop}
theorem call_sum_K {u : Value} {s : Shared} {k : Nat} {Q' : Value → Shared → Prop} {E : Value → Shared → Prop} (hr : Room (k + 3) A) (hfr : A.frames = some outer) (h : GMadeS LkI P w k outer H sc ex YdI Q u s)
    (hend : ∀ s' H' (is : List Int) t, FactK P w outer H sc ex H' s' → Q (is.map V.int) H' → Q' (.int is.sum t) s') :
    wpAny (model P w) A (call (.builtin "sum") [u]) Q' E s := by
  obtain ⟨a, g, c, rfl, ha1, ha2, hg, hgs, hos, hb, hl, hkp, wake⟩ := h
  have hSa : s.heap.objs.size ≠ a := Nat.ne_of_gt ha2
  have hcl : cStatics < s.heap.objs.size := let ⟨_, hn, _⟩ := hl; hn.lt
  have hSc : s.heap.objs.size ≠ cStatics := Nat.ne_of_gt hcl
  refine call_function_tree F.kind_sum F.plain_sum F.entry_sum (F.args_sum1 _) ?_
  unfold Builtin.«sum»
  simp only [List.length_cons, List.length_nil]
  rw [if_neg (by decide)]
  refine wpAny_bind (wpAny_of_eq (show Builtin.Builtins.bindParams "sum" ["start"] 0 { } = pure [none] from rfl) ?_)
  refine wpAny_bind (wpAny_pyIter_gen hg ?_)
  refine wpAny_bind (wpAny_mkInt ?_)
  refine wpAny_bind (wpAny_pure ?_)
  simp only [List.forIn_cons, List.forIn_nil]
  refine wpAny_bind (wpAny_bind (wpAny_bind (wpAny_isInstance (T := "int") (b := false) (typeIs_int _ _ _) PySem.sub_int_str ?_)))
  simp only [Bool.false_eq_true, if_false]
  refine wpAny_pure (wpAny_bind (wpAny_bind (wpAny_isInstance (T := "int") (b := false) (typeIs_int _ _ _) PySem.sub_int_bytes ?_)))
  simp only [Bool.false_eq_true, if_false]
  refine wpAny_pure (wpAny_bind (wpAny_bind (wpAny_isInstance (T := "int") (b := false) (typeIs_int _ _ _) PySem.sub_int_bytearray ?_)))
  simp only [Bool.false_eq_true, if_false]
  refine wpAny_pure (wpAny_pure ?_)
  refine wpAny_bind (wpAny_newObj_type ?_)
  have k1 : ∀ b o, s.heap.get? b = some o → (s.heap.push { cls := .type "list", data := .seq #[.int 0 s.toks] }).get? b = some o := fun b o e => Heap.get?_push_of_some _ e
  refine wpAny_pure ⟨plainId_quiet F.plain_sum_loop _, sum_loopK (P := P) (w := w) (outer := outer) (H := H) (sc := sc) (ex := ex) (Q := Q) (g := g) (S := s.heap.objs.size) hr.hd (by have := hr.dp; omega) hSa hSc (fun s' H' is t f q => hend s' H' is t f q) sizeLine _ 0 0 s.toks 0 (.inl rfl) (hg.keeps k1) (hl.keeps k1) (Heap.get?_push_size _ rfl) ⟨_, hgs, rfl, ?_⟩⟩
  refine wake _ _ _ ⟨hr.hd, ?_, ?_⟩ hfr (Nat.le_refl _) k1 ⟨_, 0, Heap.get?_push_size _ rfl, [], s.toks, rfl, rfl⟩ hos (allBare_setGen (s := { s with heap := _, toks := _ }) hb rfl)
  · have := hr.dp
    show A.depth + 3 * k + 5 < _
    omega
  · have := hr.un
    show A.units + 1 + 1 + 16 * k + 200 < _
    omega
end
section
variable {X : Cx} {k : Nat} {p pos : Pos}
def tSumK (tg : TGenK) : TE := fun σ H Q => tg σ H YdI (fun ys H' => ∀ is : List Int, ys = is.map V.int → Q (.int is.sum) H')
theorem pe_sumK {e : Expr} {tg : TGenK} (h : PGenS LkI X k e tg) (hr : Room (k + 3) X.A) (hb : Bn X "sum" (.builtin "sum")) (he : notStar e = true) : PE X (.Call (.Name "sum" p) [e] [] pos) (tSumK tg) := by
  refine ⟨fun pins s σ H Q I hq => ?_⟩
  refine wpAny_Call_Name_kw (ld_blt I hb.1 hb.2.1 hb.2.2.1 ?_ hb.2.2.2.1 hb.2.2.2.2)
  refine PyProof.Rows.callWith_builtin1 ?_ (star_cons he) (by rfl)
  rw [star_cons he]
  show wpAny _ _ (spliced ((false, eval e X.env) :: backTo pos (starEach [] X.env))) _ _ s
  refine Calls.spliced_cons (thn (h.run pins s σ H _ _ I hq) fun u s1 ⟨H1, sc, ex, I1, hex, hG⟩ => ?_)
  refine Calls.spliced_nil ?_
  refine call_sum_K hr I1.ok.frames hG (fun s' H' is t f q => ?_)
  exact ⟨.int is.sum, H', I1.call' (ch := ex) f.1 f.2.2.1 f.2.2.2 f.2.1 hex, ⟨t, rfl⟩, q is rfl⟩
end
section
variable {F : Fx} {cx : String → Option Addr} {Wx : WX} {X : Cx} {pos : Pos} {fi : Env → AH → Out (List RV)}
theorem ints_int : ∀ {rs : List RV} {is : List Int}, ints? rs = some is → rs = is.map fun i => RV.pv (.int i)
  | [], is, h => by simp at h; subst h; rfl
  | .pv (.int i) :: r, is, h => by
    simp only [ints?, Option.map_eq_some_iff] at h
    obtain ⟨js, h1, h2⟩ := h
    subst h2
    rw [ints_int h1]; rfl
  | .pv .non :: _, is, h => by simp [ints?] at h
  | .pv (.bl _) :: _, is, h => by simp [ints?] at h
  | .pv (.str _) :: _, is, h => by simp [ints?] at h
  | .pv (.tup _) :: _, is, h => by simp [ints?] at h
  | .pv (.lst _) :: _, is, h => by simp [ints?] at h
  | .pv (.obj _ _) :: _, is, h => by simp [ints?] at h
  | .pv (.dct _) :: _, is, h => by simp [ints?] at h
  | .ref _ :: _, is, h => by simp [ints?] at h
theorem rels_int {G : Gm} {μ : List Addr} {H : Hp} {W : Wr} : ∀ {is : List Int} {ys : List V}, RRels G μ H W (is.map fun i => RV.pv (.int i)) ys → ys = is.map V.int
  | [], _, h => by cases h; rfl
  | i :: is, _, h => by
    cases h with
    | cons r rs =>
      cases r with
      | pv q =>
        cases q
        rw [rels_int rs]; rfl
theorem tSum_of {w m : Bool} {t : T} {P : Addr} {test : Env → AH → Out Bool} {elt : Env → AH → Out RV} {σ : L2.St} {H : Hp} {Q : VK} (hP : P ∈ F.G.tabs) (q : tO F cx Wx (fun ρ h => (gxO t fi test elt ρ h).bind (bi1R m "sum")) σ H Q) :
    tSumK (tGk X P (tI F cx Wx X.K w fi) (tGi F X.K w t) (tOb F cx wNo test) (tO F cx wNo elt) t.slots) σ H Q := by
  obtain ⟨μ, ρ, h, r, s, f⟩ := q
  simp only [gxO, Out.bind_assoc] at f
  refine ⟨μ, ρ, h, r, s, Fin.mono (Fin.bind f) (fun xs h1 μ1 H1 e1 r1 z J hJ => ?_) fun _ _ _ _ _ _ z => z⟩
  have s1 := s.grow e1.grow e1.pre
  refine ⟨(r1.tab P hP).1, fun H2 tb => ?_⟩
  obtain ⟨rT, eT⟩ := Rep.tabbed r1 hP tb
  have z0 := Fin.bind z
  obtain ⟨all, hN, eL⟩ := nox_ok_inv z0
  rw [eL] at z
  have zN : Fin F μ1 h1 H1 (bi1R m "sum" all hN) (vK F Q) (xK F cx Wx σ) := z
  clear z z0
  unfold bi1R at zN
  simp only at zN
  split at zN
  case h_2 => exact zN.elim
  rename_i is his
  split at zN
  case isFalse => exact zN.elim
  rename_i hle
  have hall := ints_int his
  refine ⟨fun i mm ys H => ∃ μ' h' zs zl, F.E μ1 h1 H1 μ' h' H ∧ F.R μ' h' H ∧ F.v2 μ' h' H zs ys ∧ mm = xs.length - i ∧ lcL t (D.wipe ρ t.slots) test elt (xs.drop i) h' = .ok zl hN ∧ all = zs ++ zl,
    ⟨xs.length, μ1, h1, [], all, eT, rT, .nil, by simp, by simpa using eL, rfl⟩, ⟨fun i mm ys H3 wv => ?_⟩⟩
  obtain ⟨μ2, h2, zs, zl, e2, r2, rs2, hm, eZ, eall⟩ := wv
  by_cases hi : i < xs.length
  · refine .inr ?_
    have hx : xs[i]? = some xs[i] := List.getElem?_eq_getElem hi
    rw [List.drop_eq_getElem_cons hi] at eZ
    obtain ⟨ρ', b, h3, ep, et, ez⟩ := lcL_cons eZ
    obtain ⟨go, yl⟩ := hJ.turn i _ hx μ2 H3 _ e2.pre e2.grow
    refine ⟨go, fun ys' H' => ∃ μ' h' zs zl, F.E μ1 h1 H1 μ' h' H' ∧ F.R μ' h' H' ∧ F.v2 μ' h' H' zs ys' ∧ lcL t (D.wipe ρ t.slots) test elt (xs.drop (i + 1)) h' = .ok zl hN ∧ all = zs ++ zl, fun ys' H' n => ?_, fun y H4 hy => ?_⟩
    · obtain ⟨μ', h', zs', zl', n1, n2, n3, n4, n5⟩ := n
      exact ⟨xs.length - (i + 1), by omega, μ', h', zs', zl', n1, n2, n3, rfl, n4, n5⟩
    · obtain ⟨on, ry⟩ := yl y H4 hy
      have e3 : F.E μ2 h2 H3 μ2 h2 H4 := on.ext
      have r3 : F.R μ2 h2 H4 := on.rep r2
      have sw : F.s1 μ2 h2 H4 (D.wipe ρ t.slots) (L2.wipe σ t.slots) := (s1.wipe t.slots).grow (e2.grow.trans on.grow) e2.pre
      refine ⟨μ2, _, h2, xs[i], ρ', r3, sw, ry, ep, fun σ4 s4 hw4 => ⟨?_, ?_⟩⟩
      · rw [hw4]
        exact wipe_idem _ _
      · refine ⟨μ2, ρ', h2, r3, s4, ?_⟩
        rw [et]
        intro μ4 H5 e4 r4
        have e14 := (e2.trans e3).trans e4
        have rs4 := rs2.grow (on.grow.trans e4.grow) e4.pre
        show if b = true then _ else _
        rcases ez with ⟨rfl, ez⟩ | ⟨rfl, y', h5, zl', ey, ez, rfl⟩
        · simp only [Bool.false_eq_true, if_false]
          exact ⟨μ4, h3, zs, zl, e14, r4, rs4, ez, eall⟩
        · simp only [if_true]
          refine ⟨μ4, ρ', h3, r4, s4.grow e4.grow e4.pre, ?_⟩
          rw [ey]
          intro μ5 H6 e5 r5 y hy
          have l2 : all.length = zs.length + (zl'.length + 1) := by rw [eall]; simp
          have hm' : y' ∈ all := by rw [eall]; simp
          obtain ⟨iy, rfl⟩ : ∃ iy : Int, y' = .pv (.int iy) := by
            rw [hall] at hm'
            obtain ⟨iy, _, e⟩ := List.mem_map.mp hm'
            exact ⟨iy, e.symm⟩
          have hyi : y = .int iy := by
            cases hy with
            | pv h => cases h; rfl
          refine ⟨?_, iy, hyi, μ5, h5, zs ++ [.pv (.int iy)], zl', e14.trans e5, r5, (rs4.grow e5.grow e5.pre).append (.cons hy .nil), ez, by rw [eall]; simp⟩
          have l1 := rs4.length
          rw [line_eq]
          omega
  · refine .inl ⟨hJ.stop i (by omega) H3 _ e2.grow, ?_⟩
    rw [List.drop_of_length_le (by omega)] at eZ
    simp only [lcL] at eZ
    cases eZ
    have eall : all = zs := by simpa using eall
    subst eall
    intro js hjs
    rw [hall] at rs2
    have := rels_int rs2
    rw [this] at hjs
    have := map_int_inj hjs
    subst this
    exact zN μ2 H3 e2 r2 _ (.pv (.int _))
theorem r_sumG {cc P : Addr} {t : T} {w m : Bool} {elt tg iter : Expr} {ifs : List Expr} {scope : Scope} {own : List (Str × Nat)} {p gpos : Pos} {test : Env → AH → Out Bool} {fe : Env → AH → Out RV} {k : Nat} (hN : X.N.Nodup) (hr : Room (k + 4) X.A) (TB : GxR.TabB X.base X.mg cc P) (hcode : X.env.code = .ref cc)
    (hP : P ∈ F.G.tabs) (ok : GxOk X.N X.env.scope scope own) (ho : own.map (·.2) = t.slots) (hb : Bn X "sum" (.builtin "sum")) (hi : PI X tg iter (tI F cx Wx X.K w fi))
    (hg : ∀ (A : Around) (s : Shared) (H : Hp) (C : Addr) (cl : List (Str × Addr)) (code : Value) (fp : List Addr) (pn : List (Addr × Obj)), Room k A → PG (gxX X A s H (genEnv scope cl C code builtinsNs X.env) fp pn) tg (tGi F X.K w t))
    (ht : ∀ (A : Around) (s : Shared) (H : Hp) (C : Addr) (cl : List (Str × Addr)) (code : Value) (fp : List Addr) (pn : List (Addr × Obj)), Room k A → PTs (gxX X A s H (genEnv scope cl C code builtinsNs X.env) fp pn) ifs (tOb F cx wNo test))
    (he : ∀ (A : Around) (s : Shared) (H : Hp) (C : Addr) (cl : List (Str × Addr)) (code : Value) (fp : List Addr) (pn : List (Addr × Obj)), Room k A → PE (gxX X A s H (genEnv scope cl C code builtinsNs X.env) fp pn) elt (tO F cx wNo fe))
    (hs : ∀ v, genFold iter X.env v = pure v) :
    PE X (.Call (.Name "sum" p) [gxe elt tg iter ifs scope gpos] [] pos) (tO F cx Wx fun ρ h => (gxO t fi test fe ρ h).bind (bi1R m "sum")) := by
  have hk := pgen_s (X := X) LkI (k := k) (pos := gpos) hN (hr.mono (by omega)) TB hcode ok hi hg ht he hs
  rw [ho] at hk
  exact pe_imp (pe_sumK hk hr hb rfl) fun σ H Q q => tSum_of (X := X) hP q
end
end D

set_option Elab.async false
set_option linter.all false
set_option maxRecDepth 100000
set_option maxHeartbeats 1000000
/-! Fd56: dicts: displays, dict(x). -/
namespace D
open PySem PySem.Spec L2 PyProof.Rows

section
variable {F : Fx} {cx : String → Option Addr} {Wx : WX} {X : Cx} {a b c e : Expr} {es : List Expr} {pos : Pos} {fa fb fc : Env → AH → Out RV} {fs : Env → AH → Out (List RV)}
/-- what is new may be locked -/
def lkP (Q : VK) : VK := fun x H1 => (∃ (a : Addr) (ks : List (Key × V)), x = .ref a ∧ H1 a = some (.dK ks) ∧ ∀ od, Q x (upd H1 a (.frz od (.dK ks)))) ∨ Q x H1
def tLk (t : TE) : TE := fun σ H Q => t σ H (lkP Q)
theorem pe_lk {t : TE} (h : PE X e t) : PE X e (tLk t) := ⟨fun pins s σ H Q I q => thn (h.run pins s σ H _ I q) fun v s1 ⟨x, H1, I1, r1, q1⟩ => by
  rcases q1 with ⟨a, ks, rfl, e, q1⟩ | q1
  · obtain ⟨od, I2⟩ := I1.lock e trivial
    exact ⟨_, _, I2, r1, q1 od⟩
  · exact ⟨_, _, I1, r1, q1⟩⟩
theorem new_dct {μ : List Addr} {h : AH} {H : Hp} {m : Bool} {kvs : List (PV × RV)} {ks : List (Key × V)} {Q : VK} {Xk : ExcV → AH → List Addr → Hp → Prop} (r : F.R μ h H) (rs : RRelD F.G μ H (wr F.G μ h) kvs ks) (f : Fin F μ h H (newD m kvs h) (vK F Q) Xk) :
    ∀ p, H p = none → lkP Q (.ref p) (upd H p (.dK ks)) := by
  intro p hp
  unfold newD at f
  cases m with
  | true =>
    right
    have g : Grow H (wr F.G μ h) (upd H p (.dK ks)) (wr F.G (μ ++ [p]) (h ++ [.dct kvs])) := .push r hp
    refine f.at (Ext.push r hp) (r.push hp ⟨ks, upd_same, rs.grow g ⟨[p], rfl⟩⟩) _ (.ref ?_)
    rw [← r.len]; simp
  | false =>
    left
    simp only [Bool.false_eq_true, if_false] at f
    split at f
    · rename_i ys ey
      refine ⟨p, ks, rfl, upd_same, fun od => ?_⟩
      rw [upd_upd]
      have g : Grow H (wr F.G μ h) (upd H p (.frz od (.dK ks))) (wr F.G μ h) := .fresh hp
      exact f.at (Ext.fresh hp) (r.fresh hp) _ (.pv (.dct upd_same (wr_not r hp) (RRelD.toP ey (rs.grow g List.prefix_rfl))))
    · exact f.elim
theorem r_dct0 (m : Bool) : PE X (.Dict [] [] pos) (tO F cx Wx fun _ h => newD m [] h) := pe_imp (pe_lk pe_dnewK) fun σ H Q t => by
  obtain ⟨μ, ρ, h, r, s, f⟩ := t
  exact new_dct r .nil f
theorem pairs_rel {K : PySem.W.Frag} {μ : List Addr} {h : AH} {H : Hp} : ∀ {ys : List PV} {kvs : List (PV × RV)} {vs : List V}, pairs? ys = some kvs → PRels F.G H (wr F.G μ h) ys vs →
    ∃ (ps : List Addr) (ks : List (Key × V)), vs = ps.map V.ref ∧ Paired (fun p kv => SqT K H p [kV kv.1, kv.2]) ps ks ∧ RRelD F.G μ H (wr F.G μ h) kvs ks
  | [], kvs, _, e, .nil => by
    simp only [pairs?, Option.some.injEq] at e
    subst e
    exact ⟨[], [], rfl, .nil, .nil⟩
  | y :: ys, kvs, _, e, .cons r rs => by
    unfold pairs? at e
    split at e
    · rename_i heq; cases heq
    · rename_i k v ys' heq
      cases heq
      split at e
      · rename_i hk
        simp only [Option.map_eq_some_iff] at e
        obtain ⟨kvs', e1, e2⟩ := e
        subst e2
        obtain ⟨ps, ks, rfl, pr, rr⟩ := pairs_rel (K := K) e1 rs
        cases r with
        | tup rd nw hl rs2 =>
          rename_i p ws
          cases rs2 with
          | cons rk rs2 =>
            cases rs2 with
            | cons rv rs2 =>
              cases rs2
              obtain ⟨j, rfl, kr⟩ := isKey_rel (F := F) hk rk
              exact ⟨p :: ps, (j, _) :: ks, rfl, .cons (.inl rd.rd) pr, .cons kr (.pv rv) rr⟩
      · cases e
    · cases e
def rDct (F : Fx) : List V → Hp → VK → Prop := fun xs H Q => ∃ μ h v x kvs, xs = [x] ∧ F.R μ h H ∧ F.v1 μ h H v x ∧ dctK v h = some kvs ∧ ∀ ks p, RRelD F.G μ H (wr F.G μ h) kvs ks → H p = none → Q (.ref p) (upd H p (.dK ks))
theorem cr_dct (hc : X.calm = true) : CallR X (.type "dict") (rDct F) := by
  rintro pins s σ H _ us Q I rx ⟨μ, h, v, x, kvs, rfl, r, rv, e, q⟩
  unfold dctK at e
  split at e
  · rename_i kvs' ed
    cases e
    obtain ⟨a, ks, rfl, rd, rs⟩ := view_D r rv ed
    exact call_dictD pins s σ H _ us Q I rx ⟨a, ks, rfl, rd, fun p hp => q ks p rs hp⟩
  · simp only [Option.bind_eq_some_iff, Option.map_eq_some_iff] at e
    obtain ⟨ys, ⟨xs, e1, e2⟩, zs, e3, e4⟩ := e
    subst e4
    obtain ⟨a, vs, rfl, rd, rs⟩ := view_L r rv e1
    have := allPV_some e2
    subst this
    obtain ⟨ps, ks, rfl, pr, rr⟩ := pairs_rel (K := X.K) e3 rs.toP
    exact call_dictP hc pins s σ H _ us Q I rx ⟨a, ps, ks, rfl, .inl rd, pr, fun p hp => q _ p (RRelD.merge zs rr .nil) hp⟩
theorem r_dctL (m : Bool) {p : Pos} (hc : X.calm = true) (hn : Bn X "dict" (.type "dict")) (ha : PE X e (tO F cx Wx fa)) (hs : notStar e = true) :
    PE X (.Call (.Name "dict" p) [e] [] pos) (tO F cx Wx fun ρ h => (fa ρ h).bind (dctR m)) := by
  have hp : PA X [e] (tCons (tO F cx Wx fa) tNil) := pa_cons ha pa_nil (star_cons hs)
  obtain ⟨h1, h2, h3, h4, h5⟩ := hn
  have key : PE X (.Call (.Name "dict" p) [e] [] pos) (tLk (tCB (rDct F) (tCons (tO F cx Wx fa) tNil))) := pe_lk (pe_callTy (cr_dct hc) h1 h2 h3 hp h4 h5 (star_cons hs))
  refine pe_imp key fun σ H Q t => ?_
  refine tO_mono (tO_bind t) fun x H1 ⟨μ, h, v, r, rv, f⟩ => ?_
  unfold dctR at f
  split at f
  · rename_i kvs e
    exact ⟨μ, h, v, x, kvs, rfl, r, rv, e, fun ks p rs hp => new_dct r rs f p hp⟩
  · exact f.elim
end
end D

set_option Elab.async false
set_option linter.all false
set_option maxRecDepth 100000
set_option maxHeartbeats 1000000
/-! Fd23: what the rules ask of the text, by looking. -/
namespace D
open PySem PySem.Spec L2 PyProof.Rows

/-- an expression whose test is its truth -/
def plainT : Expr → Bool
  | .Name _ _ => true
  | .Constant _ _ _ => true
  | .BinOp _ _ _ _ => true
  | .Call _ _ _ _ => true
  | .Subscript _ _ _ => true
  | .Attribute _ _ _ => true
  | .Tuple _ _ _ => true
  | .List _ _ => true
  | .ListComp _ _ _ _ => true
  | .Dict _ _ _ => true
  | .UnaryOp .USub _ _ => true
  | .UnaryOp .Invert _ _ => true
  | _ => false
theorem plainT_ok {a : Expr} (h : plainT a = true) (env : PySem.Env) (whole : Sem Value) : isTrue a env whole = (do let v ← whole; standAt a.pos; holding [v] (truthy v)) := by
  cases a <;> first | rfl | cases h | skip
  rename_i o e p
  cases o <;> first | rfl | cases h

/-- no super() -/
def noSup : Expr → Bool
  | .Call _ _ _ _ => false
  | _ => true
theorem noSup_ok {a : Expr} (h : noSup a = true) (m : Str) (env : PySem.Env) (t : Sem Value) : attributeBase a m env t = t := by
  cases a <;> first | rfl | cases h
/-- a call that is not super() -/
def okBase : Expr → Bool
  | .Call (.Name id _) [] [] _ => decide (id ≠ "super")
  | _ => true
theorem okBase_ok {a : Expr} (h : okBase a = true) (m : Str) (env : PySem.Env) (t : Sem Value) : attributeBase a m env t = t := by
  unfold okBase at h
  split at h
  · rename_i id p1 p2
    have h := of_decide_eq_true h
    have e : (id != ("super" : Str)) = true := bne_iff_ne.mpr h
    unfold attributeBase
    simp only [e, Bool.true_or, if_true]
  · rename_i hn
    unfold attributeBase
    split
    · exact absurd rfl (hn _ _ _)
    · rfl
theorem plainIx_ok {b : Expr} (h : notSlc b = true) : PlainIx b := by
  intro o i
  unfold subscripted
  split
  · cases h
  · rename_i e; cases e
  · rfl
/-- no set display -/
def noSet : Expr → Bool
  | .Set _ _ _ => false
  | _ => true
theorem noSet_ok {a : Expr} (h : noSet a = true) (env : PySem.Env) (x : Value) : foldedSetIterable a env x = pure x := by
  cases a <;> first | rfl | cases h
def noLst : Expr → Bool
  | .Set _ _ _ => false
  | .List _ _ => false
  | _ => true
theorem noLst_ok {a : Expr} (h : noLst a = true) (env : PySem.Env) (x : Value) : genFold a env x = pure x := by
  cases a <;> first | rfl | cases h
/-- no comprehension -/
def noCmp : Expr → Bool
  | .ListComp _ _ _ _ => false
  | .SetComp _ _ _ _ => false
  | .DictComp _ _ _ _ _ => false
  | _ => true
theorem noCmp_ok {a : Expr} (h : noCmp a = true) (t : Option Expr) (l : Nat) (env : PySem.Env) : swapsWith a t l env = pure false := by
  cases a <;> first | rfl | cases h
def isNm : Expr → Bool
  | .Name _ _ => true
  | _ => false
def isTp : Expr → Bool
  | .Tuple _ _ _ => true
  | _ => false
theorem swaps_notNm {a t : Expr} (h : isNm t = false) (l : Nat) (env : PySem.Env) : swapsWith a (some t) l env = pure false := by
  cases a <;> first | rfl | skip
  all_goals cases t <;> first | rfl | cases h
theorem noTp_ok {a t : Expr} (h : isTp a = false) (env : PySem.Env) : swappedStores [t] a env = pure none := by
  cases a <;> first | rfl | skip
  all_goals cases t <;> first | rfl | cases h
theorem noTpT_ok {a t : Expr} (h : isNm t = true) (env : PySem.Env) : swappedStores [t] a env = pure none := by
  cases t <;> first | rfl | cases h
theorem each_ok {t : Expr} (h : isNm t = true ∨ isTp t = true) (env : PySem.Env) : (assignEach [t] env).map (·.2) = [assign t env] := by
  cases t <;> first | rfl | (rcases h with h | h <;> cases h)
end D

set_option Elab.async false
set_option linter.all false
set_option maxRecDepth 100000
set_option maxHeartbeats 1000000
/-! Fd24: what stands at a law's names; the checker. -/
namespace D
open PySem PySem.Spec L2 PyProof.Rows

/-! ### built-in names -/
def bnTys : List String := ["int", "str", "bool", "list", "tuple", "range", "enumerate", "zip", "dict"]
def bnFns : List String := ["len", "abs", "min", "max", "sum", "sorted", "isinstance", "any", "all"]
def bnV (b : String) : Value := if b ∈ bnTys then .type b else .builtin b
theorem bnTys_ok : ∀ b ∈ bnTys, bootBuiltins (Str.ofString b) = some (.type b) ∧ Str.ofString b ≠ ("__name__" : Str) ∧ (Str.ofString b == ("__debug__" : Str)) = false := by
  simp only [bnTys, List.forall_mem_cons, List.not_mem_nil, false_implies, implies_true, and_true]
  refine ⟨?_, ?_, ?_, ?_, ?_, ?_, ?_, ?_, ?_⟩ <;> exact ⟨rfl, by decide +kernel, by decide +kernel⟩
theorem bnFns_ok : ∀ b ∈ bnFns, bootBuiltins (Str.ofString b) = some (.builtin b) ∧ Str.ofString b ≠ ("__name__" : Str) ∧ (Str.ofString b == ("__debug__" : Str)) = false := by
  simp only [bnFns, List.forall_mem_cons, List.not_mem_nil, false_implies, implies_true, and_true]
  refine ⟨?_, ?_, ?_, ?_, ?_, ?_, ?_, ?_, ?_⟩ <;> exact ⟨rfl, by decide +kernel, by decide +kernel⟩

/-! ### what a law's names are -/
structure Sy where
  call : String → Str → Bool
  callK : String → Str → List Str → List Nat → Bool
  bn : String → Bool
  attr : String → String → Bool
  meth : String → String → String → Bool
  make : String → String → Bool
  exc : String → Str → Bool
  hnd : String → Str → Bool
  con : Str → PV → Bool

structure Sys (P : Program) (w : World) (K : PySem.W.Frag) (mg : Str → Option Value) (base : Heap) (G : Gm) (cx : String → Option Addr) (C : Calls) (k : Nat) (an : Anc) (y : Sy) : Prop where
  call : ∀ f x, y.call f x = true → ∃ g, mg x = some (.ref g) ∧ FnK P w K mg base G cx C k f g
  callK : ∀ f x ks pm, y.callK f x ks pm = true → ∃ g, mg x = some (.ref g) ∧ FnW P w K mg base G cx C k f g ks pm
  bn : ∀ b, y.bn b = true → mg (Str.ofString b) = none
  attr : ∀ c f, y.attr c f = true → ∀ A, G.cl c = some A → Cls K A ∧ NoAttr K A (Str.ofString f)
  meth : ∀ m c f, y.meth m c f = true → ∀ A, G.cl c = some A → Cls K A ∧ ∃ g, Meth K A (Str.ofString m) g ∧ FnK P w K mg base G cx C k f g
  make : ∀ c f, y.make c f = true → ∃ A g, G.cl c = some A ∧ Mk K A g ∧ FnK P w K mg base G cx C k f g ∧ mg (Str.ofString c) = some (.ref A)
  exc : ∀ c x, y.exc c x = true → ∃ A, cx c = some A ∧ ExCls K A ∧ mg x = some (.ref A)
  hnd : ∀ c x, y.hnd c x = true → ∃ v, (mg x = some v ∨ (mg x = none ∧ bootBuiltins x = some v ∧ x ≠ "__name__")) ∧ ∀ n A, cx n = some A → PySem.W.exmOne K (.ref A) v = some (decide (c ∈ an n))
  con : ∀ x v, y.con x v = true → ∃ z u, mg x = some u ∧ RelV z u ∧ ∀ G H W, PRel G H W v z

/-! ### where the checker stands -/
structure Ck where
  sc : Scope
  N : List Str
  fn : Str → Bool
  calm : Bool
  hi : Bool
  tab : Bool
structure XOk (cx : String → Option Addr) (C : Calls) (k : Nat) (an : Anc) (y : Sy) (ck : Ck) (X : Cx) (F : Fx) : Prop where
  sys : Sys X.prog X.w X.K X.mg X.base F.G.base cx C k an y
  sc : X.env.scope = ck.sc
  N : X.N = ck.N
  nd : X.N.Nodup
  fn : ∀ x, ck.fn x = true → X.fn x = true
  calm : ck.calm = true → X.calm = true
  room : ck.calm = true → Room (if ck.hi then k + 4 else k) X.A
  tab : ck.tab = true → ∃ cc P, X.env.code = .ref cc ∧ GxR.TabB X.base X.mg cc P ∧ P ∈ F.G.tabs
section
variable {cx : String → Option Addr} {C : Calls} {k : Nat} {an : Anc} {y : Sy} {ck : Ck} {X : Cx} {F F' : Fx}
theorem XOk.like (h : XOk cx C k an y ck X F) (l : Like F F') : XOk cx C k an y ck X F' := by
  have ht : F'.G.tabs = F.G.tabs := show F'.G.base.tabs = F.G.base.tabs from congrArg Gm.tabs l.1
  exact ⟨by rw [l.1]; exact h.sys, h.sc, h.N, h.nd, h.fn, h.calm, h.room, fun t => by rw [ht]; exact h.tab t⟩
theorem XOk.roomk (h : XOk cx C k an y ck X F) (c : ck.calm = true) : Room k X.A := by
  have r := h.room c
  split at r
  · exact r.mono (by omega)
  · exact r
theorem XOk.units (h : XOk cx C k an y ck X F) (c : ck.calm = true) : X.A.units + 70 < cLine := by
  have := (h.roomk c).un
  omega
end
/-- in a comprehension -/
def Ck.blk (ck : Ck) (scope : Scope) : Ck := { ck with sc := relS scope ck.sc, fn := fun x => scope.names.lookup x == some .cell }
/-- in a generator expression -/
def Ck.gx (ck : Ck) (scope : Scope) : Ck := { ck with sc := scope, fn := fun _ => false, calm := true, hi := false, tab := false }
/-- in an except suite -/
def Ck.suite (ck : Ck) : Ck := { ck with calm := false, hi := false }

def glB (ck : Ck) (x : Str) : Bool := decide (ck.sc.names.lookup x = some .globalImplicit)
def noDbg (x : Str) : Bool := !(x == ("__debug__" : Str))
def bnB (y : Sy) (ck : Ck) (b : String) (x : Str) : Bool := decide (x = Str.ofString b) && (glB ck x && (y.bn b && decide (b ∈ bnTys ++ bnFns)))
def visB (ck : Ck) (x : Str) : Bool := match ck.sc.names.lookup x with
  | some .local => true
  | some .cell => true
  | some .free => true
  | _ => false
def varB (ck : Ck) (i : Nat) (x : Str) : Bool := decide (ck.N[i]? = some x) && (visB ck x && (noDbg x && !(x == ("__classdict__" : Str))))
/-- a name that is written -/
def nmB (ck : Ck) (i : Nat) (x : Str) : Bool := decide (ck.N[i]? = some x) && match ck.sc.names.lookup x with
  | some .local => true
  | some .cell => ck.fn x
  | _ => false
def ba2 {a b : Bool} (h : (a && b) = true) : a = true ∧ b = true := Bool.and_eq_true_iff.mp h
section
variable {cx : String → Option Addr} {C : Calls} {k : Nat} {an : Anc} {y : Sy} {ck : Ck} {X : Cx} {F : Fx}
theorem glB_ok (h : XOk cx C k an y ck X F) {x : Str} (c : glB ck x = true) : Gl X x := by
  have := of_decide_eq_true c
  unfold Gl Env.kindOf
  rw [h.sc]; exact this
theorem noDbg_ok {x : Str} (c : noDbg x = true) : (x == ("__debug__" : Str)) = false := by
  unfold noDbg at c
  simpa using c
theorem bnB_ok (h : XOk cx C k an y ck X F) {b : String} {x : Str} (c : bnB y ck b x = true) : x = Str.ofString b ∧ Bn X (Str.ofString b) (bnV b) := by
  obtain ⟨c1, c⟩ := ba2 c
  obtain ⟨c2, c⟩ := ba2 c
  obtain ⟨c3, c4⟩ := ba2 c
  have e := of_decide_eq_true c1
  subst e
  have m : b ∈ bnTys ++ bnFns := of_decide_eq_true c4
  refine ⟨rfl, glB_ok h c2, h.sys.bn b c3, ?_⟩
  by_cases hb : b ∈ bnTys
  · have q := bnTys_ok b hb
    unfold bnV
    rw [if_pos hb]
    exact q
  · have q := bnFns_ok b ((List.mem_append.mp m).resolve_left hb)
    unfold bnV
    rw [if_neg hb]
    exact q
theorem varB_ok (h : XOk cx C k an y ck X F) {i : Nat} {x : Str} (c : varB ck i x = true) : X.N[i]? = some x ∧ Vis X.env.scope x ∧ (x == ("__debug__" : Str)) = false ∧ (x == ("__classdict__" : Str)) = false := by
  obtain ⟨c1, c⟩ := ba2 c
  obtain ⟨c2, c⟩ := ba2 c
  obtain ⟨c3, c4⟩ := ba2 c
  refine ⟨by rw [h.N]; exact of_decide_eq_true c1, ?_, noDbg_ok c3, by simpa using c4⟩
  rw [h.sc]
  unfold visB at c2
  unfold Vis
  split at c2 <;> first | (rename_i e; simp [e]) | cases c2
theorem nmB_ok (h : XOk cx C k an y ck X F) {i : Nat} {x : Str} (c : nmB ck i x = true) : NmOk X i x := by
  obtain ⟨c1, c2⟩ := ba2 c
  refine ⟨h.nd, by rw [h.N]; exact of_decide_eq_true c1, ?_, ?_⟩
  · rw [h.sc]
    unfold L2.Loc
    split at c2 <;> first | (rename_i e; simp [e]) | cases c2
  · rw [h.sc]
    split at c2
    · rename_i e; exact .inr e
    · exact .inl (h.fn x c2)
    · cases c2
end
end D

set_option Elab.async false
set_option linter.all false
set_option maxRecDepth 100000
set_option maxHeartbeats 4000000
/-! Fd25: the checker of expressions. -/
namespace D
open PySem PySem.Spec L2 PyProof.Rows

/-- a constant -/
def cstB : PV → Const → Bool
  | .non, .none => true
  | .bl b, .bool c => b == c
  | .int i, .int j => decide (i = j)
  | .str s, .str x => decide (x = sOf s) && okS s
  | _, _ => false
def unB (o p : UnaryOp) : Bool := match o, p with
  | .Not, .Not => true
  | .USub, .USub => true
  | .Invert, .Invert => true
  | _, _ => false
def bopB (o p : BoolOp) : Bool := match o, p with
  | .And, .And => true
  | .Or, .Or => true
  | _, _ => false
def nmsB (ck : Ck) : List Nat → List Expr → Bool
  | [], [] => true
  | i :: is, .Name x _ :: es => nmB ck i x && nmsB ck is es
  | _, _ => false
/-- a target -/
def tB (ck : Ck) (t : T) (e : Expr) : Bool := match t, e with
  | .nm i, .Name x _ => nmB ck i x
  | .tp is, .Tuple es _ _ => ck.calm && nmsB ck is es
  | _, _ => false
def T.isNm : T → Bool
  | .nm _ => true
  | .tp _ => false
/-- the names that a comprehension has for itself -/
def ownOf (ck : Ck) (t : T) : List (Str × Nat) := t.slots.map fun i => ((ck.N[i]?).getD Str.empty, i)
def gxB (N : List Str) (sc scope : Scope) (own : List (Str × Nat)) : Bool :=
  (match scope.kind with | .function => true | _ => false) && (!scope.isCoroutine && (decide (scope.names.lookup (".0" : Str) = some NameKind.local) && ((scope.names.all fun y => decide (scope.names.lookup y.1 = some y.2)) && ((own.all fun p => decide (N[p.2]? = some p.1)) &&
    (scope.names.all fun y => match y.2 with
      | .free => (match sc.names.lookup y.1 with | some .cell => true | some .free => true | _ => false)
      | .local => decide (y.1 ∈ own.map (·.1)) || decide (y.1 ∉ N)
      | .cell => false
      | _ => true)))))
theorem gxB_ok {N : List Str} {sc scope : Scope} {own : List (Str × Nat)} (h : gxB N sc scope own = true) : GxOk N sc scope own := by
  obtain ⟨h1, h⟩ := ba2 h
  obtain ⟨h2, h⟩ := ba2 h
  obtain ⟨h3, h⟩ := ba2 h
  obtain ⟨h4, h⟩ := ba2 h
  obtain ⟨h5, h6⟩ := ba2 h
  simp only [List.all_eq_true, decide_eq_true_eq] at h4 h5 h6
  refine ⟨?_, by simpa using h2, fun y hy e => ?_, of_decide_eq_true h3, h4, h5, fun y hy e => ?_, fun y hy e => ?_⟩
  · split at h1
    · assumption
    · cases h1
  · have q := h6 y hy
    simp only [e] at q
    cases q
  · have q := h6 y hy
    simp only [e] at q
    split at q <;> first | exact .inl (by assumption) | exact .inr (by assumption) | cases q
  · have q := h6 y hy
    simp only [e, Bool.or_eq_true, decide_eq_true_eq] at q
    exact q
def It.wide : It → Bool
  | .enm _ => true
  | .zip _ _ => true
  | .itms _ => true
  | _ => false
def tW (t : T) (i : It) : Bool := match t with
  | .nm _ => !i.wide
  | .tp _ => true

mutual
def chE (y : Sy) : Ck → E → Expr → Bool
  | ck, .var i, a => (match a with | .Name x _ => varB ck i x | _ => false)
  | ck, .cst v, a => (match a with | .Constant c _ _ => cstB v c | _ => false)
  | ck, .glob x v, a => (match a with | .Name z _ => glB ck z && (y.con z v && noDbg z) | _ => false)
  | ck, .bin m o a b, e => (match e with | .BinOp l p r _ => decide (p = o.toOp) && (chE y ck a l && chE y ck b r) | _ => false)
  | ck, .neg a, e => (match e with | .UnaryOp o x _ => unB o .USub && chE y ck a x | _ => false)
  | ck, .inv a, e => (match e with | .UnaryOp o x _ => unB o .Invert && chE y ck a x | _ => false)
  | ck, .not_ a, e => (match e with | .UnaryOp o x _ => unB o .Not && chE y ck a x | _ => false)
  | ck, .cmp o a b, e => (match e with | .Compare l [p] [r] _ => ck.calm && (decide (p = o.toOp) && (!behindInMarks o.toOp r && (chE y ck a l && chE y ck b r))) | _ => false)
  | ck, .chain o p a b c, e => (match e with | .Compare l [o', p'] [r, z] _ => ck.calm && (decide (o' = o.toOp) && (decide (p' = p.toOp) && (!lastMarks [o.toOp, p.toOp] [r, z] && (chE y ck a l && (chE y ck b r && chE y ck c z))))) | _ => false)
  | ck, .and_ es, e => (match e with | .BoolOp o (z :: zs) _ => bopB o .And && chEs y ck es (z :: zs) | _ => false)
  | ck, .or_ es, e => (match e with | .BoolOp o (z :: zs) _ => bopB o .Or && chEs y ck es (z :: zs) | _ => false)
  | ck, .ifx c a b, e => (match e with | .IfExp t l r _ => chE y ck c t && (chE y ck a l && chE y ck b r) | _ => false)
  | ck, .tup es, e => (match e with | .Tuple l _ _ => chEs y ck es l | _ => false)
  | ck, .lst m es, e => (match e with | .List l _ => chEs y ck es l | _ => false)
  | ck, .idx a b, e => (match e with | .Subscript l r _ => notSlc r && (chE y ck a l && chE y ck b r) | _ => false)
  | ck, .slc m a lo hi, e => (match e with | .Subscript l (.Slice x z none _) _ => chE y ck a l && ((match x with | none => lo.isNon | some u => !lo.isNon && chE y ck lo u) && (match z with | none => hi.isNon | some u => !hi.isNon && chE y ck hi u)) | _ => false)
  | ck, .rev m a, e => (match e with | .Subscript l (.Slice none none (some (.UnaryOp u (.Constant (.int z) _ _) _)) _) _ => unB .USub u && (decide (z = 1) && chE y ck a l) | _ => false)
  | ck, .attr a f cs, e => (match e with | .Attribute l g _ => decide (g = Str.ofString f) && ((cs.all fun c => y.attr c f) && (okBase l && chE y ck a l)) | _ => false)
  | ck, .call f es, e => (match e with | .Call (.Name x _) as [] _ => ck.calm && (y.call f x && (glB ck x && (noDbg x && (as.all notStar && chEs y ck es as)))) | _ => false)
  | ck, .callK f es ks vs pm, e => (match e with | .Call (.Name x _) [] kws _ => ck.calm && (y.callK f x (ks.map Str.ofString) pm && (glB ck x && (noDbg x && (decide (kws.map (·.arg) = (ks.map Str.ofString).map some) && (chEs y ck es [] && chEs y ck vs (kws.map (·.value))))))) | _ => false)
  | ck, .meth a m tb es, e => (match e with | .Call (.Attribute o g ap) as [] p => ck.calm && (decide (g = Str.ofString m) && ((tb.all fun q => y.meth m q.1 q.2) && (okBase o && (as.all notStar && (decide (as.length < 30) && ((ap.endLine == p.line) && (chE y ck a o && chEs y ck es as))))))) | _ => false)
  | ck, .make m c f es, e => (match e with | .Call (.Name x _) as [] _ => ck.calm && (ck.hi && (decide (x = Str.ofString c) && (y.make c f && (glB ck x && (noDbg x && (as.all notStar && chEs y ck es as)))))) | _ => false)
  | ck, .isi a t, e => (match e with | .Call (.Name x _) [l, .Name z _] [] _ => isTy t && (bnB y ck "isinstance" x && (bnB y ck t z && (notStar l && chE y ck a l))) | _ => false)
  | ck, .bi b es, e => (match e with | .Call (.Name x _) (l :: as) [] _ => ck.calm && (isBi b && (bnB y ck b x && ((l :: as).all notStar && chEs y ck es (l :: as)))) | _ => false)
  | ck, .bi1 m b (.seq a), e => (match e with | .Call (.Name x _) [l] [] _ => ck.calm && (isBv b && (bnB y ck b x && (notStar l && chE y ck a l))) | _ => false)
  | ck, .bi1 m b (.rng es), e => (match e with | .Call (.Name x _) [.Call (.Name z _) as [] _] [] _ => ck.calm && ((b == "list" || b == "tuple") && (bnB y ck b x && (bnB y ck "range" z && (as.all notStar && (chEs y ck es as && (as.length == 1 || as.length == 2)))))) | _ => false)
  | ck, .bi1 m b (.gen t i cs elt), e => (match e with
    | .Call (.Name x _) [.GeneratorExp el [⟨tg, it, ifs, 0⟩] scope _] [] _ => ck.calm && (ck.hi && (ck.tab && ((b == "tuple" || b == "sum") && (bnB y ck b x && (gxB ck.N ck.sc scope (ownOf ck t) && (noLst it && (tW t i && (chI y ck tg i it && (tB (ck.gx scope) t tg && (chTs y (ck.gx scope) cs ifs && chE y (ck.gx scope) elt el))))))))))
    | _ => false)
  | ck, .bi1 _ _ (.enm _), e => false
  | ck, .bi1 _ _ (.zip _ _), e => false
  | ck, .bi1 _ _ (.itms _), e => false
  | ck, .bi1 _ _ (.vals _), e => false
  | ck, .dct0 m, e => (match e with | .Dict [] [] _ => true | _ => false)
  | ck, .dctL m a, e => (match e with | .Call (.Name x _) [l] [] _ => ck.calm && (bnB y ck "dict" x && (notStar l && chE y ck a l)) | _ => false)
  | ck, .bm m a es, e => (match e with | .Call (.Attribute o g ap) as [] p => (m != "index" || ck.calm) && (decide (g = Str.ofString m) && (okBase o && (as.all notStar && (decide (as.length < 30) && ((ap.endLine == p.line) && (chE y ck a o && chEs y ck es as)))))) | _ => false)
  | ck, .join a (.seq b), e => (match e with | .Call (.Attribute o g ap) [l] [] p => decide (g = ("join" : Str)) && (okBase o && (notStar l && ((ap.endLine == p.line) && (chE y ck a o && chE y ck b l)))) | _ => false)
  | ck, .join _ _, e => false
  | ck, .lc m t i cs elt, e => (match e with
    | .ListComp el [⟨tg, it, ifs, 0⟩] scope _ => ck.calm && (blkC ck.N ck.sc scope (ownOf ck t) && (noSet it && (tW t i && (chI y ck tg i it && (tB (ck.blk scope) t tg && (chTs y (ck.blk scope) cs ifs && chE y (ck.blk scope) elt el))))))
    | _ => false)
  | ck, .lc2 .., e => false
  | ck, .anyG all t i cs elt, e => (match e with
    | .Call (.Name x _) [.GeneratorExp el [⟨tg, it, ifs, 0⟩] scope _] [] _ => ck.calm && (ck.hi && (ck.tab && (bnB y ck (if all = true then "all" else "any") x && (gxB ck.N ck.sc scope (ownOf ck t) && (noLst it && (tW t i && (chI y ck tg i it && (tB (ck.gx scope) t tg && (chTs y (ck.gx scope) cs ifs && chE y (ck.gx scope) elt el)))))))))
    | _ => false)
def chEs (y : Sy) : Ck → Es → List Expr → Bool
  | ck, .nil, l => (match l with | [] => true | _ => false)
  | ck, .cons e es, l => (match l with | a :: as => notStar a && (chE y ck e a && chEs y ck es as) | [] => false)
def chTs (y : Sy) : Ck → Es → List Expr → Bool
  | ck, .nil, l => (match l with | [] => true | _ => false)
  | ck, .cons e .nil, l => (match l with | [a] => chE y ck e a | _ => false)
  | ck, .cons _ (.cons _ _), l => false
/-- what a loop walks: tg its target -/
def chI (y : Sy) : Ck → Expr → It → Expr → Bool
  | ck, tg, .seq e, a => chE y ck e a
  | ck, tg, .rng es, a => (match a with | .Call (.Name x _) as [] _ => bnB y ck "range" x && (as.all notStar && (chEs y ck es as && (as.length == 1 || as.length == 2))) | _ => false)
  | ck, tg, .enm e, a => (match a with | .Call (.Name x _) [l] [] _ => isTp tg && (bnB y ck "enumerate" x && (notStar l && chE y ck e l)) | _ => false)
  | ck, tg, .zip e f, a => (match a with | .Call (.Name x _) [l, r] [] _ => isTp tg && (bnB y ck "zip" x && (notStar l && (notStar r && (chE y ck e l && chE y ck f r)))) | _ => false)
  | ck, tg, .gen .., a => false
  | ck, tg, .itms e, a => (match a with | .Call (.Attribute o g ap) [] [] p => isTp tg && (decide (g = ("items" : Str)) && (okBase o && ((ap.endLine == p.line) && chE y ck e o))) | _ => false)
  | ck, tg, .vals e, a => (match a with | .Call (.Attribute o g ap) [] [] p => decide (g = ("values" : Str)) && (okBase o && ((ap.endLine == p.line) && chE y ck e o)) | _ => false)
end
end D

set_option Elab.async false
set_option linter.all false
set_option maxRecDepth 100000
set_option maxHeartbeats 4000000
/-! Fd26: what the checker says of expressions holds. -/
namespace D
open PySem PySem.Spec L2 PyProof.Rows

theorem Out.bind_id {α : Type} (o : Out α) : (o.bind fun x h => .ok x h) = o := by cases o <;> rfl
theorem Out.bind_yes (o : Out Bool) : (o.bind fun k h => if k then .ok true h else .ok false h) = o := by
  cases o with
  | ok b h => cases b <;> rfl
  | _ => rfl
theorem takes_no {X : Cx} : Takes X wNo := fun _ _ ⟨_, _, _, _, _, _, _, _, _, _, _, _, _, _, _, _, w⟩ => w.elim
section
variable {cx : String → Option Addr} {C : Calls} {k : Nat} {an : Anc} {y : Sy}
theorem XOk.blk {ck : Ck} {X : Cx} {F : Fx} (h : XOk cx C k an y ck X F) {s : Shared} {H : Hp} {scope : Scope} {cl : List (Str × Addr)} {A : Addr} {fp : List Addr} :
    XOk cx C k an y (ck.blk scope) (X.blk s H scope (compEnvC scope cl A X.env) fp) F :=
  ⟨h.sys, by rw [show (ck.blk scope).sc = relS scope ck.sc from rfl, ← h.sc]; rfl, h.N, h.nd, fun _ z => z, h.calm, h.room, h.tab⟩
theorem XOk.gx {ck : Ck} {X : Cx} {F : Fx} (h : XOk cx C k an y ck X F) {A : Around} {s : Shared} {H : Hp} {scope : Scope} {cl : List (Str × Addr)} {B : Addr} {code : Value} {fp : List Addr} {pn : List (Addr × Obj)} (r : Room k A) :
    XOk cx C k an y (ck.gx scope) (gxX X A s H (genEnv scope cl B code builtinsNs X.env) fp pn) F :=
  ⟨h.sys, rfl, h.N, h.nd, fun _ z => (Bool.noConfusion z), fun _ => rfl, fun _ => r, fun z => (Bool.noConfusion z)⟩

theorem pe_one {X : Cx} {op : BoolOp} {a : Expr} {pos : Pos} {t : TE} (h : PE X a t) : PE X (.BoolOp op [a] pos) t := ⟨fun pins s σ H Q I q => h.run pins s σ H Q I q⟩
theorem both {X : Cx} {F : Fx} {Wx : WX} {a : Expr} {f : Env → AH → Out RV} (p : plainT a = true) (h : PE X a (tO F cx Wx f)) : PE X a (tO F cx Wx f) ∧ PT X a (tOb F cx Wx (tru f)) := ⟨h, rt_plain h (plainT_ok p _)⟩
theorem nmsB_ok {ck : Ck} {X : Cx} {F : Fx} (I : XOk cx C k an y ck X F) : ∀ {is : List Nat} {es : List Expr}, nmsB ck is es = true → NmsOk X is es
  | [], [], _ => .nil
  | [], _ :: _, h => by cases h
  | _ :: _, [], h => by cases h
  | i :: is, e :: es, h => by
    cases e <;> try cases h
    rename_i x p
    obtain ⟨h1, h2⟩ := ba2 h
    exact .cons (nmB_ok I h1) (nmsB_ok I h2)
theorem tB_gi {ck : Ck} {X : Cx} {F : Fx} {t : T} {i : It} {tg : Expr} (I : XOk cx C k an y ck X F) (h : tB ck t tg = true) (w : tW t i = true) : PG X tg (tGi F X.K i.wide t) := by
  unfold tB at h
  split at h
  · have hw : i.wide = false := by simpa [tW] using w
    rw [hw]
    exact gi_nm (nmB_ok I h)
  · obtain ⟨h1, h2⟩ := ba2 h
    exact gi_tp (I.calm h1) (nmsB_ok I h2)
  · cases h
theorem tB_g {ck : Ck} {X : Cx} {F : Fx} {t : T} {tg : Expr} (I : XOk cx C k an y ck X F) (h : tB ck t tg = true) : PG X tg (tG F t) := by
  unfold tB at h
  split at h
  · exact g_nm (nmB_ok I h)
  · obtain ⟨h1, h2⟩ := ba2 h
    exact g_tp (I.calm h1) (nmsB_ok I h2)
  · cases h
theorem own_slots (ck : Ck) (t : T) : (ownOf ck t).map (·.2) = t.slots := by
  unfold ownOf
  rw [List.map_map]
  exact List.map_id _
theorem cstB_ok {X : Cx} {F : Fx} {Wx : WX} {v : PV} {c : Const} {j : Nat} {pos : Pos} (h : cstB v c = true) : PE X (.Constant c j pos) (tO F cx Wx fun _ h => .ok (.pv v) h) := by
  unfold cstB at h
  split at h
  · exact r_non
  · have e := eq_of_beq h; subst e; exact r_bl
  · have e := of_decide_eq_true h; subst e; exact r_int
  · obtain ⟨h1, h2⟩ := ba2 h
    exact r_str (of_decide_eq_true h1) h2
  · cases h
theorem unB_ok {o p : UnaryOp} (h : unB o p = true) : o = p := by
  unfold unB at h
  split at h <;> first | rfl | cases h
theorem bopB_ok {o p : BoolOp} (h : bopB o p = true) : o = p := by
  unfold bopB at h
  split at h <;> first | rfl | cases h
theorem isBi_V {b : String} (h : isBi b = true) : bnV b = biV b := by
  simp only [isBi, Bool.or_eq_true, beq_iff_eq] at h
  rcases h with ((((h | h) | h) | h) | h) | h <;> subst h <;> decide
theorem isBv_V {b : String} (h : isBv b = true) : bnV b = bvV b := by
  simp only [isBv, Bool.or_eq_true, beq_iff_eq] at h
  rcases h with ((((h | h) | h) | h) | h) | h <;> subst h <;> decide
theorem isTy_V {b : String} (h : isTy b = true) : bnV b = .type b := by
  simp only [isTy, Bool.or_eq_true, beq_iff_eq] at h
  rcases h with (((h | h) | h) | h) | h <;> subst h <;> decide
theorem pts_yes {X : Cx} {F : Fx} {Wx : WX} : PTs X [] (tOb F cx Wx fun _ h => .ok true h) :=
  ⟨fun pins s σ H Q I t => pts_nil.run pins s σ H Q I (by
    obtain ⟨μ, ρ, h, r, _, f⟩ := t
    exact f.here r)⟩
/-- a list of expressions, three ways -/
structure EsOk (cx : String → Option Addr) (C : Calls) (X : Cx) (F : Fx) (Wx : WX) (es : Es) (l : List Expr) : Prop where
  pa : PA X l (tOs F cx Wx fun ρ h => evEs C F.lo es ρ h)
  and_ : ∀ pos, l ≠ [] → PE X (.BoolOp .And l pos) (tO F cx Wx fun ρ h => evAnd C F.lo es ρ h) ∧ PW X (.BoolOp .And l pos) (tOb F cx Wx (tru fun ρ h => evAnd C F.lo es ρ h))
  pk : ∀ kws : List Keyword, kws.map (·.value) = l → PK X kws (tOs F cx Wx fun ρ h => evEs C F.lo es ρ h)
  or_ : ∀ pos, l ≠ [] → PE X (.BoolOp .Or l pos) (tO F cx Wx fun ρ h => evOr C F.lo es ρ h) ∧ PW X (.BoolOp .Or l pos) (tOb F cx Wx (tru fun ρ h => evOr C F.lo es ρ h))
end
end D

set_option Elab.async false
set_option linter.all false
set_option maxRecDepth 100000
set_option maxHeartbeats 4000000
/-! Fd27: what the checker says of expressions holds: the induction. -/
namespace D
open PySem PySem.Spec L2 PyProof.Rows
section
variable {cx : String → Option Addr} {C : Calls} {k : Nat} {an : Anc} {y : Sy}
abbrev EOk (cx : String → Option Addr) (C : Calls) (X : Cx) (F : Fx) (Wx : WX) (e : E) (a : Expr) : Prop :=
  PE X a (tO F cx Wx fun ρ h => evE C F.lo e ρ h) ∧ PT X a (tOb F cx Wx (tru fun ρ h => evE C F.lo e ρ h))
theorem es_nil {X : Cx} {F : Fx} {Wx : WX} : EsOk cx C X F Wx .nil [] :=
  ⟨r_nil, fun _ h => absurd rfl h, fun kws e => (by
    cases kws with
    | nil => exact k_nil
    | cons => cases e), fun _ h => absurd rfl h⟩
theorem es_cons {X : Cx} {F : Fx} {Wx : WX} {e : E} {es : Es} {a : Expr} {l : List Expr} (st : notStar a = true) (h1 : EOk cx C X F Wx e a) (h2 : EsOk cx C X F Wx es l) (hn : es = .nil ↔ l = []) : EsOk cx C X F Wx (.cons e es) (a :: l) := by
  refine ⟨r_cons h1.1 h2.pa (star_cons st), fun pos _ => ?_, fun kws e => ?_, fun pos _ => ?_⟩
  · cases es with
    | nil =>
      obtain rfl := hn.mp rfl
      have q : (fun ρ h => evAnd C F.lo (.cons e .nil) ρ h) = fun ρ h => evE C F.lo e ρ h := by
        funext ρ h
        exact Out.bind_id _
      rw [q]
      exact ⟨pe_one h1.1, pw_and1 h1.2⟩
    | cons e2 es2 =>
      cases l with
      | nil => cases hn.mpr rfl
      | cons a2 l2 =>
        obtain ⟨g1, g2⟩ := h2.and_ pos (by simp)
        exact ⟨r_and h1.1 g1, rt_and h1.2 g2⟩
  · cases kws with
    | nil => cases e
    | cons kw kws =>
      obtain ⟨nm, ex, kp⟩ := kw
      simp only [List.map_cons, List.cons.injEq] at e
      obtain ⟨e1, e2⟩ := e
      subst e1
      exact k_cons h1.1 (h2.pk kws e2)
  · cases es with
    | nil =>
      obtain rfl := hn.mp rfl
      have q : (fun ρ h => evOr C F.lo (.cons e .nil) ρ h) = fun ρ h => evE C F.lo e ρ h := by
        funext ρ h
        exact Out.bind_id _
      rw [q]
      exact ⟨pe_one h1.1, pw_or1 h1.2⟩
    | cons e2 es2 =>
      cases l with
      | nil => cases hn.mpr rfl
      | cons a2 l2 =>
        obtain ⟨g1, g2⟩ := h2.or_ pos (by simp)
        exact ⟨r_or h1.1 g1, rt_or h1.2 g2⟩
theorem chEs_nil {ck : Ck} {es : Es} {l : List Expr} (h : chEs y ck es l = true) : es = .nil ↔ l = [] := by
  cases es with
  | nil =>
    cases l with
    | nil => exact ⟨fun _ => rfl, fun _ => rfl⟩
    | cons => cases h
  | cons e es =>
    cases l with
    | nil => cases h
    | cons => exact ⟨fun z => (by cases z), fun z => (by cases z)⟩
mutual
theorem chE_ok : ∀ (e : E) {ck : Ck} {X : Cx} {F : Fx} {Wx : WX} {a : Expr}, XOk cx C k an y ck X F → Takes X Wx → chE y ck e a = true → EOk cx C X F Wx e a
  | .var i, ck, X, F, Wx, a, I, tk, h => by
    unfold chE at h
    split at h
    · obtain ⟨h1, h2, h3, h4⟩ := varB_ok I h
      exact both rfl (r_var h1 h2 h3 h4)
    · cases h
  | .cst v, ck, X, F, Wx, a, I, tk, h => by
    unfold chE at h
    split at h
    · exact both rfl (cstB_ok h)
    · cases h
  | .glob x v, ck, X, F, Wx, a, I, tk, h => by
    unfold chE at h
    split at h
    · obtain ⟨h1, h⟩ := ba2 h
      obtain ⟨h2, h3⟩ := ba2 h
      obtain ⟨z, u, hm, q, r⟩ := I.sys.con _ _ h2
      exact both rfl (r_glob (glB_ok I h1) hm q (fun H W => r _ H W) (noDbg_ok h3))
    · cases h
  | .bin m o a b, ck, X, F, Wx, e, I, tk, h => by
    unfold chE at h
    split at h
    · obtain ⟨h1, h⟩ := ba2 h
      obtain ⟨h2, h3⟩ := ba2 h
      have e := of_decide_eq_true h1
      subst e
      exact both rfl (r_bop m o (chE_ok a I tk h2).1 (chE_ok b I tk h3).1)
    · cases h
  | .neg a, ck, X, F, Wx, e, I, tk, h => by
    unfold chE at h
    split at h
    · obtain ⟨h1, h2⟩ := ba2 h
      obtain rfl := unB_ok h1
      exact both rfl (r_neg (chE_ok a I tk h2).1)
    · cases h
  | .inv a, ck, X, F, Wx, e, I, tk, h => by
    unfold chE at h
    split at h
    · obtain ⟨h1, h2⟩ := ba2 h
      obtain rfl := unB_ok h1
      exact both rfl (r_inv (chE_ok a I tk h2).1)
    · cases h
  | .not_ a, ck, X, F, Wx, e, I, tk, h => by
    unfold chE at h
    split at h
    · obtain ⟨h1, h2⟩ := ba2 h
      obtain rfl := unB_ok h1
      have q := chE_ok a I tk h2
      exact ⟨r_not q.1, rt_not q.2⟩
    · cases h
  | .cmp o a b, ck, X, F, Wx, e, I, tk, h => by
    unfold chE at h
    split at h
    · obtain ⟨h0, h⟩ := ba2 h
      obtain ⟨h1, h⟩ := ba2 h
      obtain ⟨h2, h⟩ := ba2 h
      obtain ⟨h3, h4⟩ := ba2 h
      have e := of_decide_eq_true h1
      subst e
      have m := Bool.not_eq_true' _ |>.mp h2
      exact ⟨r_cmp o (I.units h0) (chE_ok a I tk h3).1 (chE_ok b I tk h4).1 m, rt_cmp o (I.units h0) (chE_ok a I tk h3).1 (chE_ok b I tk h4).1 m⟩
    · cases h
  | .chain o p a b c, ck, X, F, Wx, e, I, tk, h => by
    unfold chE at h
    split at h
    · obtain ⟨h0, h⟩ := ba2 h
      obtain ⟨h1, h⟩ := ba2 h
      obtain ⟨h2, h⟩ := ba2 h
      obtain ⟨h3, h⟩ := ba2 h
      obtain ⟨h4, h⟩ := ba2 h
      obtain ⟨h5, h6⟩ := ba2 h
      have e := of_decide_eq_true h1
      subst e
      have e := of_decide_eq_true h2
      subst e
      have m := Bool.not_eq_true' _ |>.mp h3
      exact ⟨r_chain o p (I.units h0) (chE_ok a I tk h4).1 (chE_ok b I tk h5).1 (chE_ok c I tk h6).1 m, rt_chain o p (I.units h0) (chE_ok a I tk h4).1 (chE_ok b I tk h5).1 (chE_ok c I tk h6).1 m⟩
    · cases h
  | .and_ es, ck, X, F, Wx, e, I, tk, h => by
    unfold chE at h
    split at h
    · obtain ⟨h1, h2⟩ := ba2 h
      obtain rfl := bopB_ok h1
      obtain ⟨g1, g2⟩ := (chEs_ok es I tk h2).and_ _ (by simp)
      exact ⟨g1, g2.pt⟩
    · cases h
  | .or_ es, ck, X, F, Wx, e, I, tk, h => by
    unfold chE at h
    split at h
    · obtain ⟨h1, h2⟩ := ba2 h
      obtain rfl := bopB_ok h1
      obtain ⟨g1, g2⟩ := (chEs_ok es I tk h2).or_ _ (by simp)
      exact ⟨g1, g2.pt⟩
    · cases h
  | .ifx c a b, ck, X, F, Wx, e, I, tk, h => by
    unfold chE at h
    split at h
    · obtain ⟨h1, h⟩ := ba2 h
      obtain ⟨h2, h3⟩ := ba2 h
      have qc := chE_ok c I tk h1
      have qa := chE_ok a I tk h2
      have qb := chE_ok b I tk h3
      exact ⟨r_if qc.2 qa.1 qb.1, rt_if qc.2 qa.2 qb.2 (fun _ => rfl)⟩
    · cases h
  | .tup es, ck, X, F, Wx, e, I, tk, h => by
    unfold chE at h
    split at h
    · exact both rfl (r_tup (chEs_ok es I tk h).pa)
    · cases h
  | .lst m es, ck, X, F, Wx, e, I, tk, h => by
    unfold chE at h
    split at h
    · exact both rfl (r_lst m (chEs_ok es I tk h).pa)
    · cases h
  | .idx a b, ck, X, F, Wx, e, I, tk, h => by
    unfold chE at h
    split at h
    · obtain ⟨h1, h⟩ := ba2 h
      obtain ⟨h2, h3⟩ := ba2 h
      exact both rfl (r_idx (chE_ok a I tk h2).1 (chE_ok b I tk h3).1 (plainIx_ok h1))
    · cases h
  | .slc m a lo hi, ck, X, F, Wx, e, I, tk, h => by
    unfold chE at h
    split at h
    · rename_i l x z p2 p
      obtain ⟨h1, h⟩ := ba2 h
      obtain ⟨h2, h3⟩ := ba2 h
      have key : ∀ (u : E) (o : Option Expr), (∀ b, o = some b → u.isNon = false → chE y ck u b = true → PE X b (tO F cx Wx fun ρ h => evE C F.lo u ρ h)) → (match o with | none => u.isNon | some b => !u.isNon && chE y ck u b) = true → PO X o (tP F cx Wx fun ρ h => (evE C F.lo u ρ h).bind (prtO u.isNon)) := fun u o hu ho => by
        cases o with
        | none =>
          cases u with
          | cst v =>
            cases v with
            | non => exact po_non
            | _ => cases ho
          | _ => cases ho
        | some b =>
          obtain ⟨g1, g2⟩ := ba2 ho
          have g1 : u.isNon = false := by simpa using g1
          rw [g1]
          exact po_val (hu b rfl g1 g2)
      exact both rfl (r_slc m (chE_ok a I tk h1).1 (key lo x (fun b _ _ q => (chE_ok lo I tk q).1) h2) (key hi z (fun b _ _ q => (chE_ok hi I tk q).1) h3))
    · cases h
  | .rev m a, ck, X, F, Wx, e, I, tk, h => by
    unfold chE at h
    split at h
    · obtain ⟨h1, h⟩ := ba2 h
      obtain ⟨h2, h3⟩ := ba2 h
      obtain rfl := unB_ok h1
      have e := of_decide_eq_true h2
      subst e
      exact both rfl (r_rev m (chE_ok a I tk h3).1)
    · cases h
  | .attr a f cs, ck, X, F, Wx, e, I, tk, h => by
    unfold chE at h
    split at h
    · obtain ⟨h1, h⟩ := ba2 h
      obtain ⟨h2, h⟩ := ba2 h
      obtain ⟨h3, h4⟩ := ba2 h
      have e := of_decide_eq_true h1
      subst e
      exact both rfl (r_attr (fun c hc A ec => I.sys.attr c f (List.all_eq_true.mp h2 c hc) A ec) (chE_ok a I tk h4).1 (okBase_ok h3 _ _ _))
    · cases h
  | .call f es, ck, X, F, Wx, e, I, tk, h => by
    unfold chE at h
    split at h
    · rename_i x p as p2
      obtain ⟨h0, h⟩ := ba2 h
      obtain ⟨h1, h⟩ := ba2 h
      obtain ⟨h2, h⟩ := ba2 h
      obtain ⟨h3, h⟩ := ba2 h
      obtain ⟨h4, h5⟩ := ba2 h
      obtain ⟨g, hm, hf⟩ := I.sys.call f x h1
      have q := (chEs_ok es I tk h5).pa
      cases as with
      | nil =>
        obtain rfl := (chEs_nil h5).mpr rfl
        exact both rfl (r_call0 hf (I.roomk h0) (glB_ok I h2) hm tk (noDbg_ok h3))
      | cons => exact both rfl (r_call hf (I.roomk h0) (glB_ok I h2) hm tk q (noDbg_ok h3) h4)
    · cases h
  | .callK f es ks vs pm, ck, X, F, Wx, e, I, tk, h => by
    unfold chE at h
    split at h
    · rename_i x p kws p2
      obtain ⟨h0, h⟩ := ba2 h
      obtain ⟨h1, h⟩ := ba2 h
      obtain ⟨h2, h⟩ := ba2 h
      obtain ⟨h3, h⟩ := ba2 h
      obtain ⟨h4, h⟩ := ba2 h
      obtain ⟨h5, h6⟩ := ba2 h
      obtain ⟨g, hm, hf⟩ := I.sys.callK f x _ pm h1
      obtain rfl := (chEs_nil h5).mpr rfl
      exact both rfl (r_callK hf (I.roomk h0) (glB_ok I h2) hm tk ((chEs_ok vs I tk h6).pk kws rfl) (of_decide_eq_true h4) (noDbg_ok h3))
    · cases h
  | .meth a m tb es, ck, X, F, Wx, e, I, tk, h => by
    unfold chE at h
    split at h
    · rename_i o g ap as p
      obtain ⟨h0, h⟩ := ba2 h
      obtain ⟨h1, h⟩ := ba2 h
      obtain ⟨h2, h⟩ := ba2 h
      obtain ⟨h3, h⟩ := ba2 h
      obtain ⟨h4, h⟩ := ba2 h
      obtain ⟨h5, h⟩ := ba2 h
      obtain ⟨h6, h⟩ := ba2 h
      obtain ⟨h7, h8⟩ := ba2 h
      have e := of_decide_eq_true h1
      subst e
      have ht : ∀ q ∈ tb, MtOk X F cx C k (Str.ofString m) q.1 q.2 := fun q hq => ⟨fun A ec => I.sys.meth m q.1 q.2 (List.all_eq_true.mp h2 q hq) A ec⟩
      have qa := (chE_ok a I tk h7).1
      have q := (chEs_ok es I tk h8).pa
      cases as with
      | nil =>
        obtain rfl := (chEs_nil h8).mpr rfl
        exact both rfl (r_meth0 ht (I.roomk h0) tk qa (okBase_ok h3 _ _ _) h6)
      | cons => exact both rfl (r_meth ht (I.roomk h0) tk qa q (okBase_ok h3 _ _ _) h4 (of_decide_eq_true h5) h6)
    · cases h
  | .make m c f es, ck, X, F, Wx, e, I, tk, h => by
    unfold chE at h
    split at h
    · rename_i x p as p2
      obtain ⟨h0, h⟩ := ba2 h
      obtain ⟨hh, h⟩ := ba2 h
      obtain ⟨h1, h⟩ := ba2 h
      obtain ⟨h2, h⟩ := ba2 h
      obtain ⟨h3, h⟩ := ba2 h
      obtain ⟨h4, h⟩ := ba2 h
      obtain ⟨h5, h6⟩ := ba2 h
      have e := of_decide_eq_true h1
      subst e
      obtain ⟨A, g, ec, M, hf, hm⟩ := I.sys.make c f h2
      have r := I.room h0
      rw [if_pos hh] at r
      have r : Room (k + 1) X.A := r.mono (by omega)
      have q := (chEs_ok es I tk h6).pa
      cases as with
      | nil =>
        obtain rfl := (chEs_nil h6).mpr rfl
        exact both rfl (r_make0 ec M hf r (glB_ok I h3) hm tk (noDbg_ok h4))
      | cons => exact both rfl (r_make ec M hf r (glB_ok I h3) hm tk q (noDbg_ok h4) h5)
    · cases h
  | .isi a t, ck, X, F, Wx, e, I, tk, h => by
    unfold chE at h
    split at h
    · obtain ⟨h1, h⟩ := ba2 h
      obtain ⟨h2, h⟩ := ba2 h
      obtain ⟨h3, h⟩ := ba2 h
      obtain ⟨h4, h5⟩ := ba2 h
      obtain ⟨rfl, b1⟩ := bnB_ok I h2
      obtain ⟨rfl, b2⟩ := bnB_ok I h3
      rw [isTy_V h1] at b2
      exact both rfl (r_isi h1 b1 b2 (chE_ok a I tk h5).1 h4)
    · cases h
  | .bi b es, ck, X, F, Wx, e, I, tk, h => by
    unfold chE at h
    split at h
    · obtain ⟨h0, h⟩ := ba2 h
      obtain ⟨h1, h⟩ := ba2 h
      obtain ⟨h2, h⟩ := ba2 h
      obtain ⟨h3, h4⟩ := ba2 h
      obtain ⟨rfl, b1⟩ := bnB_ok I h2
      rw [isBi_V h1] at b1
      obtain ⟨s1, s2⟩ := ba2 (show (notStar _ && List.all _ notStar) = true from h3)
      exact both rfl (r_bi (I.calm h0) h1 b1 (chEs_ok es I tk h4).pa s1 s2)
    · cases h
  | .bi1 m b (.seq a), ck, X, F, Wx, e, I, tk, h => by
    unfold chE at h
    split at h
    · obtain ⟨h0, h⟩ := ba2 h
      obtain ⟨h1, h⟩ := ba2 h
      obtain ⟨h2, h⟩ := ba2 h
      obtain ⟨h3, h4⟩ := ba2 h
      obtain ⟨rfl, b1⟩ := bnB_ok I h2
      rw [isBv_V h1] at b1
      exact both rfl (r_bv m (I.units h0) (I.calm h0) h1 b1 (chE_ok a I tk h4).1 h3)
    · cases h
  | .bi1 m b (.rng es), ck, X, F, Wx, e, I, tk, h => by
    unfold chE at h
    split at h
    · rename_i x p z p3 as pos3 pos
      obtain ⟨h0, h⟩ := ba2 h
      obtain ⟨h1, h⟩ := ba2 h
      obtain ⟨h2, h⟩ := ba2 h
      obtain ⟨h3, h⟩ := ba2 h
      obtain ⟨h4, h⟩ := ba2 h
      obtain ⟨h5, h6⟩ := ba2 h
      obtain ⟨rfl, b1⟩ := bnB_ok I h2
      obtain ⟨rfl, b2⟩ := bnB_ok I h3
      have hb : b = "list" ∨ b = "tuple" := by simpa [Bool.or_eq_true] using h1
      cases as with
      | nil => simp at h6
      | cons a1 as =>
        cases es with
        | nil => cases h5
        | cons e1 es =>
          obtain ⟨t1, g1⟩ := ba2 h5
          obtain ⟨t2, g2⟩ := ba2 g1
          cases as with
          | nil =>
            obtain rfl := (chEs_nil g2).mpr rfl
            rcases hb with rfl | rfl
            · exact both rfl (r_lstRg1 m (I.calm h0) b1 b2 (chE_ok e1 I tk t2).1 t1)
            · exact both rfl (r_tupRg1 m (I.calm h0) b1 b2 (chE_ok e1 I tk t2).1 t1)
          | cons a2 as =>
            cases es with
            | nil => cases g2
            | cons e2 es =>
              obtain ⟨t3, g3⟩ := ba2 g2
              obtain ⟨t4, g4⟩ := ba2 g3
              cases as with
              | cons => simp at h6
              | nil =>
                obtain rfl := (chEs_nil g4).mpr rfl
                rcases hb with rfl | rfl
                · exact both rfl (r_lstRg2 m (I.calm h0) b1 b2 (chE_ok e1 I tk t2).1 (chE_ok e2 I tk t4).1 t1 t3)
                · exact both rfl (r_tupRg2 m (I.calm h0) b1 b2 (chE_ok e1 I tk t2).1 (chE_ok e2 I tk t4).1 t1 t3)
    · cases h
  | .bi1 m b (.gen t i cs elt), ck, X, F, Wx, e, I, tk, h => by
    unfold chE at h
    split at h
    · rename_i x p el tg it ifs scope gpos pos
      obtain ⟨h0, h⟩ := ba2 h
      obtain ⟨hh, h⟩ := ba2 h
      obtain ⟨ht, h⟩ := ba2 h
      obtain ⟨h1, h⟩ := ba2 h
      obtain ⟨h2, h⟩ := ba2 h
      obtain ⟨h3, h⟩ := ba2 h
      obtain ⟨h4, h⟩ := ba2 h
      obtain ⟨h5, h⟩ := ba2 h
      obtain ⟨h6, h⟩ := ba2 h
      obtain ⟨h7, h⟩ := ba2 h
      obtain ⟨h8, h9⟩ := ba2 h
      have hb : b = "tuple" ∨ b = "sum" := by simpa using h1
      obtain ⟨cc, P, hcode, TB, hP⟩ := I.tab ht
      have r := I.room h0
      rw [if_pos hh] at r
      have G := gxB_ok h3
      rw [← I.N, ← I.sc] at G
      rcases hb with rfl | rfl
      · obtain ⟨rfl, b1⟩ := bnB_ok I h2
        exact both rfl (r_tupG I.nd r TB hcode hP G (own_slots ck t) b1 (chI_ok i tg I tk h6)
          (fun A s H B cl code fp pn rA => tB_gi (I.gx rA) h7 h5) (fun A s H B cl code fp pn rA => chTs_ok cs (I.gx rA) takes_no h8)
          (fun A s H B cl code fp pn rA => (chE_ok elt (I.gx rA) takes_no h9).1) (noLst_ok h4 _))
      · obtain ⟨rfl, b1⟩ := bnB_ok I h2
        exact both rfl (r_sumG I.nd r TB hcode hP G (own_slots ck t) b1 (chI_ok i tg I tk h6)
          (fun A s H B cl code fp pn rA => tB_gi (I.gx rA) h7 h5) (fun A s H B cl code fp pn rA => chTs_ok cs (I.gx rA) takes_no h8)
          (fun A s H B cl code fp pn rA => (chE_ok elt (I.gx rA) takes_no h9).1) (noLst_ok h4 _))
    · cases h
  | .bi1 m b (.enm _), ck, X, F, Wx, e, I, tk, h => by unfold chE at h; cases h
  | .bi1 m b (.zip _ _), ck, X, F, Wx, e, I, tk, h => by unfold chE at h; cases h
  | .bi1 m b (.itms _), ck, X, F, Wx, e, I, tk, h => by unfold chE at h; cases h
  | .bi1 m b (.vals _), ck, X, F, Wx, e, I, tk, h => by unfold chE at h; cases h
  | .dct0 m, ck, X, F, Wx, e, I, tk, h => by
    unfold chE at h
    split at h
    · exact both rfl (r_dct0 m)
    · cases h
  | .dctL m a, ck, X, F, Wx, e, I, tk, h => by
    unfold chE at h
    split at h
    · obtain ⟨h0, h⟩ := ba2 h
      obtain ⟨h1, h⟩ := ba2 h
      obtain ⟨h2, h3⟩ := ba2 h
      obtain ⟨rfl, b1⟩ := bnB_ok I h1
      exact both rfl (r_dctL m (I.calm h0) b1 (chE_ok a I tk h3).1 h2)
    · cases h
  | .bm m a es, ck, X, F, Wx, e, I, tk, h => by
    unfold chE at h
    split at h
    · rename_i o g ap as p
      obtain ⟨h0, h⟩ := ba2 h
      obtain ⟨h1, h⟩ := ba2 h
      obtain ⟨h3, h⟩ := ba2 h
      obtain ⟨h4, h⟩ := ba2 h
      obtain ⟨h5, h⟩ := ba2 h
      obtain ⟨h6, h⟩ := ba2 h
      obtain ⟨h7, h8⟩ := ba2 h
      have e := of_decide_eq_true h1
      subst e
      have qa := (chE_ok a I tk h7).1
      have q := (chEs_ok es I tk h8).pa
      have h0 : m = "index" → X.A.units + 70 < cLine := fun em => by
        rcases Bool.or_eq_true _ _ |>.mp h0 with z | z
        · rw [em] at z; exact absurd z (by decide)
        · exact I.units z
      cases as with
      | nil =>
        obtain rfl := (chEs_nil h8).mpr rfl
        exact both rfl (r_bm0 h0 qa (okBase_ok h3 _ _ _) h6)
      | cons => exact both rfl (r_bm h0 qa q (okBase_ok h3 _ _ _) h4 (of_decide_eq_true h5) h6)
    · cases h
  | .join a (.seq b), ck, X, F, Wx, e, I, tk, h => by
    unfold chE at h
    split at h
    · rename_i o g ap l p
      obtain ⟨h1, h⟩ := ba2 h
      obtain ⟨h3, h⟩ := ba2 h
      obtain ⟨h4, h⟩ := ba2 h
      obtain ⟨h6, h⟩ := ba2 h
      obtain ⟨h7, h8⟩ := ba2 h
      have e := of_decide_eq_true h1
      subst e
      exact both rfl (r_join (chE_ok a I tk h7).1 (chE_ok b I tk h8).1 h4 (okBase_ok h3 _ _ _) h6)
    · cases h
  | .join a (.rng _), ck, X, F, Wx, e, I, tk, h => by unfold chE at h; cases h
  | .join a (.enm _), ck, X, F, Wx, e, I, tk, h => by unfold chE at h; cases h
  | .join a (.zip _ _), ck, X, F, Wx, e, I, tk, h => by unfold chE at h; cases h
  | .join a (.gen _ _ _ _), ck, X, F, Wx, e, I, tk, h => by unfold chE at h; cases h
  | .join a (.itms _), ck, X, F, Wx, e, I, tk, h => by unfold chE at h; cases h
  | .join a (.vals _), ck, X, F, Wx, e, I, tk, h => by unfold chE at h; cases h
  | .lc m t i cs elt, ck, X, F, Wx, e, I, tk, h => by
    unfold chE at h
    split at h
    · rename_i el tg it ifs scope pos
      obtain ⟨h0, h⟩ := ba2 h
      obtain ⟨h3, h⟩ := ba2 h
      obtain ⟨h4, h⟩ := ba2 h
      obtain ⟨h5, h⟩ := ba2 h
      obtain ⟨h6, h⟩ := ba2 h
      obtain ⟨h7, h⟩ := ba2 h
      obtain ⟨h8, h9⟩ := ba2 h
      have B := blkOk_by h3
      rw [← I.N, ← I.sc] at B
      exact both rfl (r_lc (I.calm h0) I.nd (chI_ok i tg I tk h6) B (own_slots ck t)
        (fun s H A cl fp F' l => tB_gi (I.blk.like l) h7 h5)
        (fun s H A cl fp F' l => by rw [← l.2]; exact chTs_ok cs (I.blk.like l) takes_no h8)
        (fun s H A cl fp F' l => by rw [← l.2]; exact (chE_ok elt (I.blk.like l) takes_no h9).1) (noSet_ok h4 _))
    · cases h
  | .lc2 .., ck, X, F, Wx, e, I, tk, h => by unfold chE at h; cases h
  | .anyG all t i cs elt, ck, X, F, Wx, e, I, tk, h => by
    unfold chE at h
    split at h
    · rename_i x p el tg it ifs scope gpos pos
      obtain ⟨h0, h⟩ := ba2 h
      obtain ⟨hh, h⟩ := ba2 h
      obtain ⟨ht, h⟩ := ba2 h
      obtain ⟨h2, h⟩ := ba2 h
      obtain ⟨h3, h⟩ := ba2 h
      obtain ⟨h4, h⟩ := ba2 h
      obtain ⟨h5, h⟩ := ba2 h
      obtain ⟨h6, h⟩ := ba2 h
      obtain ⟨h7, h⟩ := ba2 h
      obtain ⟨h8, h9⟩ := ba2 h
      obtain ⟨cc, P, hcode, TB, hP⟩ := I.tab ht
      have r := I.room h0
      rw [if_pos hh] at r
      have G := gxB_ok h3
      rw [← I.N, ← I.sc] at G
      cases all with
      | true =>
        obtain ⟨rfl, b1⟩ := bnB_ok I h2
        exact both rfl (r_anyG (all := true) I.nd r TB hcode hP G (own_slots ck t) b1 (chI_ok i tg I tk h6)
          (fun A s H B cl code fp pn rA => tB_gi (I.gx rA) h7 h5) (fun A s H B cl code fp pn rA => chTs_ok cs (I.gx rA) takes_no h8)
          (fun A s H B cl code fp pn rA => (chE_ok elt (I.gx rA) takes_no h9).1) (noLst_ok h4 _))
      | false =>
        obtain ⟨rfl, b1⟩ := bnB_ok I h2
        exact both rfl (r_anyG (all := false) I.nd r TB hcode hP G (own_slots ck t) b1 (chI_ok i tg I tk h6)
          (fun A s H B cl code fp pn rA => tB_gi (I.gx rA) h7 h5) (fun A s H B cl code fp pn rA => chTs_ok cs (I.gx rA) takes_no h8)
          (fun A s H B cl code fp pn rA => (chE_ok elt (I.gx rA) takes_no h9).1) (noLst_ok h4 _))
    · cases h
theorem chEs_ok : ∀ (es : Es) {ck : Ck} {X : Cx} {F : Fx} {Wx : WX} {l : List Expr}, XOk cx C k an y ck X F → Takes X Wx → chEs y ck es l = true → EsOk cx C X F Wx es l
  | .nil, ck, X, F, Wx, l, I, tk, h => by
    cases l with
    | nil => exact es_nil
    | cons => cases h
  | .cons e es, ck, X, F, Wx, l, I, tk, h => by
    cases l with
    | nil => cases h
    | cons a l =>
      obtain ⟨h1, h⟩ := ba2 h
      obtain ⟨h2, h3⟩ := ba2 h
      exact es_cons h1 (chE_ok e I tk h2) (chEs_ok es I tk h3) (chEs_nil h3)
theorem chTs_ok : ∀ (es : Es) {ck : Ck} {X : Cx} {F : Fx} {Wx : WX} {l : List Expr}, XOk cx C k an y ck X F → Takes X Wx → chTs y ck es l = true → PTs X l (tOb F cx Wx fun ρ h => evTs C F.lo es ρ h)
  | .nil, ck, X, F, Wx, l, I, tk, h => by
    cases l with
    | nil => exact pts_yes
    | cons => cases h
  | .cons e .nil, ck, X, F, Wx, l, I, tk, h => by
    unfold chTs at h
    split at h
    · have q := (chE_ok e I tk h).2
      have z : (fun ρ h => evTs C F.lo (.cons e .nil) ρ h) = tru fun ρ h => evE C F.lo e ρ h := by
        funext ρ h
        exact Out.bind_yes _
      rw [z]
      exact pts_one q
    · cases h
  | .cons e (.cons _ _), ck, X, F, Wx, l, I, tk, h => by unfold chTs at h; cases h
theorem chI_ok : ∀ (i : It) (tg : Expr) {ck : Ck} {X : Cx} {F : Fx} {Wx : WX} {a : Expr}, XOk cx C k an y ck X F → Takes X Wx → chI y ck tg i a = true → PI X tg a (tI F cx Wx X.K i.wide fun ρ h => evI C F.lo i ρ h)
  | .seq e, tg, ck, X, F, Wx, a, I, tk, h => i_seq (chE_ok e I tk h).1
  | .rng es, tg, ck, X, F, Wx, a, I, tk, h => by
    unfold chI at h
    split at h
    · rename_i x p as pos
      obtain ⟨h3, h⟩ := ba2 h
      obtain ⟨h4, h⟩ := ba2 h
      obtain ⟨h5, h6⟩ := ba2 h
      obtain ⟨rfl, b2⟩ := bnB_ok I h3
      cases as with
      | nil => simp at h6
      | cons a1 as =>
        cases es with
        | nil => cases h5
        | cons e1 es =>
          obtain ⟨t1, g1⟩ := ba2 h5
          obtain ⟨t2, g2⟩ := ba2 g1
          cases as with
          | nil =>
            obtain rfl := (chEs_nil g2).mpr rfl
            exact i_rng1 b2 (chE_ok e1 I tk t2).1 t1
          | cons a2 as =>
            cases es with
            | nil => cases g2
            | cons e2 es =>
              obtain ⟨t3, g3⟩ := ba2 g2
              obtain ⟨t4, g4⟩ := ba2 g3
              cases as with
              | cons => simp at h6
              | nil =>
                obtain rfl := (chEs_nil g4).mpr rfl
                exact i_rng2 b2 (chE_ok e1 I tk t2).1 (chE_ok e2 I tk t4).1 t1 t3
    · cases h
  | .enm e, tg, ck, X, F, Wx, a, I, tk, h => by
    unfold chI at h
    split at h
    · obtain ⟨h3, h⟩ := ba2 h
      obtain ⟨h4, h⟩ := ba2 h
      obtain ⟨h5, h6⟩ := ba2 h
      obtain ⟨rfl, b2⟩ := bnB_ok I h4
      cases tg <;> try cases h3
      exact i_enm b2 (chE_ok e I tk h6).1 h5
    · cases h
  | .zip e f, tg, ck, X, F, Wx, a, I, tk, h => by
    unfold chI at h
    split at h
    · obtain ⟨h3, h⟩ := ba2 h
      obtain ⟨h4, h⟩ := ba2 h
      obtain ⟨h5, h⟩ := ba2 h
      obtain ⟨h6, h⟩ := ba2 h
      obtain ⟨h7, h8⟩ := ba2 h
      obtain ⟨rfl, b2⟩ := bnB_ok I h4
      cases tg <;> try cases h3
      exact i_zip b2 (chE_ok e I tk h7).1 (chE_ok f I tk h8).1 h5 h6
    · cases h
  | .gen .., tg, ck, X, F, Wx, a, I, tk, h => by unfold chI at h; cases h
  | .itms e, tg, ck, X, F, Wx, a, I, tk, h => by
    unfold chI at h
    split at h
    · obtain ⟨h3, h⟩ := ba2 h
      obtain ⟨h4, h⟩ := ba2 h
      obtain ⟨h5, h⟩ := ba2 h
      obtain ⟨h6, h7⟩ := ba2 h
      obtain rfl := of_decide_eq_true h4
      cases tg <;> try cases h3
      exact i_itms (chE_ok e I tk h7).1 (okBase_ok h5 _ _ _) h6
    · cases h
  | .vals e, tg, ck, X, F, Wx, a, I, tk, h => by
    unfold chI at h
    split at h
    · obtain ⟨h4, h⟩ := ba2 h
      obtain ⟨h5, h⟩ := ba2 h
      obtain ⟨h6, h7⟩ := ba2 h
      obtain rfl := of_decide_eq_true h4
      exact i_vals (chE_ok e I tk h7).1 (okBase_ok h5 _ _ _) h6
    · cases h
end
end
end D

set_option Elab.async false
set_option linter.all false
set_option maxRecDepth 100000
set_option maxHeartbeats 4000000
/-! Fd28: the checker of statements. -/
namespace D
open PySem PySem.Spec L2 PyProof.Rows

/-- the comprehension's value goes straight to the name -/
def swB (ck : Ck) (t : Str) (tl : Nat) (e : Expr) : Bool := match e with
  | .ListComp _ _ scope p => decide (ck.sc.kind = .function) && (decide (ck.sc.names.lookup t = some .local) && ((tl == p.line) && !(scope.names.any fun q => q.1 == t && (q.2 == .local || q.2 == .cell))))
  | _ => false
/-- two tuples, written across -/
def locB (ck : Ck) (x : Str) : Bool := decide (ck.sc.names.lookup x = some .local)
def parB (vs : List Expr) : Bool := !(vs.any fun | .Starred _ _ => true | _ => false) && (!(vs.all (foldedForSure 8)) && !(vs.all (constantsAlone 8)))

/-- the value does not go straight to the name -/
def swF (ck : Ck) (tg a : Expr) : Bool := noCmp a || match tg with
  | .Name x _ => !locB ck x
  | _ => true
/-- no stores across -/
def stF (ck : Ck) (tg a : Expr) : Bool := isNm tg || (!isTp a || match tg, a with
  | .Tuple ts _ _, .Tuple vs _ _ => (ts.any fun | .Name x _ => !locB ck x | _ => true) || vs.all (foldedForSure 8)
  | _, _ => false)
mutual
def chS (y : Sy) : Ck → S → Stmt → Bool
  | ck, .asg t e, st => (match st with
    | .Assign [tg] a _ => (match tg, t, e, a with
      | .Name x px, .nm i, .lc m t' it cs elt, .ListComp el [⟨tg', iter, ifs, 0⟩] scope p2 =>
        ((isNm tg || isTp tg) && (tB ck t tg && (chE y ck e a && (swF ck tg a && stF ck tg a)))) || (ck.calm && (decide (ck.N[i]? = some x) && (decide (ck.sc.kind = .function) && (locB ck x && ((px.line == p2.line) && (!(scope.names.any fun q => q.1 == x && (q.2 == .local || q.2 == .cell)) &&
        (blkC ck.N ck.sc scope (ownOf ck t') && (noSet iter && (tW t' it && (chI y ck tg' it iter && (tB (ck.blk scope) t' tg' && (chTs y (ck.blk scope) cs ifs && chE y (ck.blk scope) elt el))))))))))))
      | _, _, _, _ => (isNm tg || isTp tg) && (tB ck t tg && (chE y ck e a && (swF ck tg a && stF ck tg a))))
    | _ => false)
  | ck, .par is es, st => (match st with
    | .Assign [.Tuple [.Name x px, .Name z pz] _ _] (.Tuple [a, b] _ _) _ => (match is with
      | [i, j] => ck.calm && (decide (ck.sc.kind = .function) && (decide (ck.N[i]? = some x) && (decide (ck.N[j]? = some z) && (decide (i ≠ j) && (decide (x ≠ z) && (locB ck x && (locB ck z && ((px.line == pz.line) && (parB [a, b] && chEs y ck es [a, b])))))))))
      | _ => false)
    | .Assign [.Tuple [.Name x px, .Name z pz, .Name u pu] _ _] (.Tuple [a, b, c] _ _) _ => (match is with
      | [i, j, l] => ck.calm && (decide (ck.sc.kind = .function) && (decide (ck.N[i]? = some x) && (decide (ck.N[j]? = some z) && (decide (ck.N[l]? = some u) && (decide (i ≠ j) && (decide (i ≠ l) && (decide (j ≠ l) && (decide (x ≠ z) && (decide (x ≠ u) && (decide (z ≠ u) && (locB ck x && (locB ck z && (locB ck u && ((px.line == pz.line) && ((px.line == pu.line) && (parB [a, b, c] && chEs y ck es [a, b, c]))))))))))))))))
      | _ => false)
    | _ => false)
  | ck, .setI a i v, st => (match st with
    | .Assign [.Subscript l r _] u _ => notSlc r && (chE y ck a l && (chE y ck i r && chE y ck v u))
    | _ => false)
  | ck, .setF a f cs v, st => (match st with
    | .Assign [.Attribute l g _] u _ => decide (g = Str.ofString f) && ((cs.all fun c => y.attr c f) && (chE y ck a l && chE y ck v u))
    | _ => false)
  | ck, .aug i o e, st => (match st with
    | .AugAssign (.Name x _) p a _ => decide (p = o.toOp) && (nmB ck i x && chE y ck e a)
    | _ => false)
  | ck, .augI a i o e, st => (match st with
    | .AugAssign (.Subscript l r _) p u _ => decide (p = o.toOp) && (notSlc r && (chE y ck a l && (chE y ck i r && chE y ck e u)))
    | _ => false)
  | ck, .ex e, st => (match st with
    | .Expr a _ => noCmp a && chE y ck e a
    | _ => false)
  | ck, .ret e, st => (match st with
    | .Return (some a) _ => chE y ck e a
    | _ => false)
  | ck, .retN, st => (match st with
    | .Return none _ => true
    | _ => false)
  | ck, .ifs c a b, st => (match st with
    | .If t sa sb _ => chE y ck c t && (chSs y ck a sa && chSs y ck b sb)
    | _ => false)
  | ck, .for_ t i b, st => (match st with
    | .For tg iter body [] _ => ck.calm && (noSet iter && (tW t i && (chI y ck tg i iter && (tB ck t tg && chSs y ck b body))))
    | _ => false)
  | ck, .whl c b, st => (match st with
    | .While t body [] _ => chE y ck c t && chSs y ck b body
    | _ => false)
  | ck, .brk, st => (match st with | .Break _ => true | _ => false)
  | ck, .cnt, st => (match st with | .Continue _ => true | _ => false)
  | ck, .pass, st => (match st with | .Pass _ => true | _ => false)
  | ck, .rais c fs es, st => (match st with
    | .Raise (some (.Call (.Name x _) [] [] _)) none _ => ck.calm && (fs.isEmpty && ((match es with | .nil => true | _ => false) && (y.exc c x && (glB ck x && noDbg x))))
    | _ => false)
  | ck, .tryx b hs, st => (match st with
    | .Try body (h₀ :: hds) [] [] _ => ck.calm && (chSs y ck b body && chHs y ck hs (h₀ :: hds))
    | _ => false)
  | ck, .frz i s, st => chS y ck s st
def chSs (y : Sy) : Ck → Ss → List Stmt → Bool
  | ck, .nil, l => (match l with | [] => true | _ => false)
  | ck, .cons s ss, l => (match l with | a :: as => chS y ck s a && chSs y ck ss as | [] => false)
def chHs (y : Sy) : Ck → Hs → List ExceptHandler → Bool
  | ck, .nil, l => (match l with | [] => true | _ => false)
  | ck, .cons c b hs, l => (match l with
    | .ExceptHandler (some (.Name x _)) none (b₀ :: suite) _ :: hds => y.hnd c x && (glB ck x && (noDbg x && (chSs y ck.suite b (b₀ :: suite) && chHs y ck hs hds)))
    | _ => false)
end

/-! ### it holds -/
section
variable {cx : String → Option Addr} {C : Calls} {k : Nat} {an : Anc} {y : Sy}
/-- where statements stand -/
structure SOk (cx : String → Option Addr) (C : Calls) (k : Nat) (an : Anc) (y : Sy) (ck : Ck) (X : Cx) (F : Fx) (Wx : WX) : Prop where
  x : XOk cx C k an y ck X F
  tk : Takes X Wx
  own : PassesOwn (model X.prog X.w) X.A X.env X.xe
  stk : X.stack = X.env :: X.outer
  frm : X.env.frame = some X.env.locals
theorem SOk.tr {ck : Ck} {X : Cx} {F : Fx} {Wx W : WX} (h : SOk cx C k an y ck X F Wx) {pn : List (Addr × Obj)} {xe : Value → Shared → Prop} (t : Takes (X.tr pn xe) W) (p : PassesOwn (model X.prog X.w) X.A X.env xe) : SOk cx C k an y ck (X.tr pn xe) F W :=
  ⟨⟨h.x.sys, h.x.sc, h.x.N, h.x.nd, h.x.fn, h.x.calm, h.x.room, h.x.tab⟩, t, p, h.stk, h.frm⟩
theorem SOk.suite {ck : Ck} {X : Cx} {F : Fx} {Wx : WX} (h : SOk cx C k an y ck X F Wx) {a : Addr} {pn : List (Addr × Obj)} : SOk cx C k an y ck.suite (X.suite a pn) F wNo :=
  ⟨⟨h.x.sys, h.x.sc, h.x.N, h.x.nd, h.x.fn, fun z => (Bool.noConfusion z), fun z => (Bool.noConfusion z), h.x.tab⟩, takes_no, .never, h.stk, h.frm⟩
theorem kind_block {env : PySem.Env} (h : env.scope.kind = .function) : env.blockKind = .function := by
  unfold Env.blockKind
  rw [h]; rfl
theorem sw_yes {env : PySem.Env} {el : Expr} {gs : List Comprehension} {scope : Scope} {p2 py : Pos} {t : Str} {l : Nat} (h1 : env.scope.kind = .function) (h2 : env.scope.names.lookup t = some .local) (h3 : (py.line == p2.line) = true)
    (h4 : (!(scope.names.any fun q => q.1 == t && (q.2 == .local || q.2 == .cell))) = true) : swapsWith (.ListComp el gs scope p2) (some (.Name t py)) l env = pure true := by
  show (pure (env.blockKind == .function && env.kindOf t == some .local && (py.line == p2.line) && !(scope.names.any fun (n, k) => n == t && (k == .local || k == .cell))) : Sem Bool) = pure true
  rw [kind_block h1, show env.kindOf t = _ from h2, h3]
  have e : (scope.names.any fun (n, k) => n == t && (k == .local || k == .cell)) = scope.names.any fun q => q.1 == t && (q.2 == .local || q.2 == .cell) := rfl
  rw [e, h4]
  rfl
theorem parB_no {vs : List Expr} {α : Type} {u v w : α} (hp : parB vs = true) : (vs.any fun | .Starred _ _ => true | _ => false) = false ∧ vs.all (foldedForSure 8) = false ∧ vs.all (constantsAlone 8) = false := by
  obtain ⟨p1, hp⟩ := ba2 hp
  obtain ⟨p3, p4⟩ := ba2 hp
  exact ⟨Bool.not_eq_true' _ |>.mp p1, Bool.not_eq_true' _ |>.mp p3, Bool.not_eq_true' _ |>.mp p4⟩
theorem ff_tt {b : Bool} (h : b = false) (z : b = true) : False := by rw [h] at z; cases z
theorem par2_yes {env : PySem.Env} {x z : Str} {px pz pt p2 : Pos} {kt k2 : Nat} {vs : List Expr} (hv : vs.length = 2) (h1 : env.scope.kind = .function) (hx : env.scope.names.lookup x = some .local) (hz : env.scope.names.lookup z = some .local) (hne : x ≠ z) (hl : (px.line == pz.line) = true) (hp : parB vs = true) :
    swappedStores [.Tuple [.Name x px, .Name z pz] kt pt] (.Tuple vs k2 p2) env = pure (some [x, z]) := by
  obtain ⟨p1, p3, p4⟩ := parB_no (u := ()) (v := ()) (w := ()) hp
  have hl2 : pz.line = px.line := (beq_iff_eq.mp hl).symm
  have d : ([x, z] : List Str).eraseDups = [x, z] := by
    have : (z == x) = false := by simpa using fun e => hne e.symm
    simp [List.eraseDups_cons, this]
  have kx : env.kindOf x = some .local := hx
  have kz : env.kindOf z = some .local := hz
  unfold swappedStores
  simp [kind_block h1, kx, kz, hl2, d, Expr.pos, List.filterMap_cons, hv, -List.any_eq_true, -List.all_eq_true]
  refine (if_neg fun z => ff_tt p1 z).trans ((if_neg fun z => ff_tt p3 z).trans ((if_neg fun z => ff_tt p4 z).trans rfl))
theorem par3_yes {env : PySem.Env} {x z u : Str} {px pz pu pt p2 : Pos} {kt k2 : Nat} {vs : List Expr} (hv : vs.length = 3) (h1 : env.scope.kind = .function) (hx : env.scope.names.lookup x = some .local) (hz : env.scope.names.lookup z = some .local) (hu : env.scope.names.lookup u = some .local)
    (hne : x ≠ z) (hne2 : x ≠ u) (hne3 : z ≠ u) (hl : (px.line == pz.line) = true) (hl' : (px.line == pu.line) = true) (hp : parB vs = true) :
    swappedStores [.Tuple [.Name x px, .Name z pz, .Name u pu] kt pt] (.Tuple vs k2 p2) env = pure (some [x, z, u]) := by
  obtain ⟨p1, p3, p4⟩ := parB_no (u := ()) (v := ()) (w := ()) hp
  have hl2 : pz.line = px.line := (beq_iff_eq.mp hl).symm
  have hl3 : pu.line = px.line := (beq_iff_eq.mp hl').symm
  have d : ([x, z, u] : List Str).eraseDups = [x, z, u] := by
    have e1 : (z == x) = false := by simpa using fun e => hne e.symm
    have e2 : (u == x) = false := by simpa using fun e => hne2 e.symm
    have e3 : (u == z) = false := by simpa using fun e => hne3 e.symm
    simp [List.eraseDups_cons, e1, e2, e3]
  have kx : env.kindOf x = some .local := hx
  have kz : env.kindOf z = some .local := hz
  have ku : env.kindOf u = some .local := hu
  unfold swappedStores
  simp [kind_block h1, kx, kz, ku, hl2, hl3, d, Expr.pos, List.filterMap_cons, hv, -List.any_eq_true, -List.all_eq_true]
  refine (if_neg fun z => ff_tt p1 z).trans ((if_neg fun z => ff_tt p3 z).trans ((if_neg fun z => ff_tt p4 z).trans rfl))
theorem swF_ok {ck : Ck} {X : Cx} {F : Fx} {tg a : Expr} (I : XOk cx C k an y ck X F) (h : swF ck tg a = true) (l : Nat) : swapsWith a (some tg) l X.env = pure false := by
  unfold swF at h
  rcases Bool.or_eq_true _ _ |>.mp h with z | z
  · exact noCmp_ok z _ _ _
  · split at z
    · rename_i x p
      have nl : (X.env.kindOf x == some NameKind.local) = false := by
        have z : decide (ck.sc.names.lookup x = some .local) = false := Bool.not_eq_true' _ |>.mp z
        show (X.env.scope.names.lookup x == some NameKind.local) = false
        rw [I.sc]
        simpa using z
      cases a <;> first
        | rfl
        | (show (pure (X.env.blockKind == .function && X.env.kindOf x == some .local && _ && _) : Sem Bool) = pure false
           rw [nl]; simp)
    · rename_i hn
      cases tg <;> first
        | exact absurd rfl (hn _ _)
        | exact swaps_notNm rfl _ _
theorem filterMap_short {α β : Type} {f : α → Option β} : ∀ {l : List α}, (∃ x ∈ l, f x = none) → (l.filterMap f).length < l.length
  | [], ⟨_, h, _⟩ => by cases h
  | a :: l, ⟨x, h, e⟩ => by
    rcases List.mem_cons.mp h with rfl | h
    · rw [List.filterMap_cons, e]
      exact Nat.lt_succ_of_le (List.length_filterMap_le _ _)
    · have ih := filterMap_short ⟨x, h, e⟩
      rw [List.filterMap_cons]
      split
      · simp only [List.length_cons]; omega
      · simp only [List.length_cons]; omega
theorem stF_ok {ck : Ck} {X : Cx} {F : Fx} {tg a : Expr} (I : XOk cx C k an y ck X F) (h : stF ck tg a = true) : swappedStores [tg] a X.env = pure none := by
  unfold stF at h
  rcases Bool.or_eq_true _ _ |>.mp h with z | z
  · exact noTpT_ok z _
  · rcases Bool.or_eq_true _ _ |>.mp z with z | z
    · exact noTp_ok (Bool.not_eq_true' _ |>.mp z) _
    · split at z
      · rename_i ts k1 p1 vs k2 p2
        unfold swappedStores
        dsimp only
        split
        · rfl
        · split
          · rfl
          · split
            · rfl
            · rename_i hn
              rcases Bool.or_eq_true _ _ |>.mp z with z | z
              · exfalso
                obtain ⟨t, ht, q⟩ := List.any_eq_true.mp z
                apply hn
                rw [Bool.or_eq_true]
                refine .inl (bne_iff_ne.mpr (Nat.ne_of_lt (filterMap_short ⟨t, ht, ?_⟩)))
                cases t <;> first | rfl | skip
                rename_i x px
                have nl : (X.env.kindOf x == some NameKind.local) = false := by
                  have z : decide (ck.sc.names.lookup x = some .local) = false := Bool.not_eq_true' _ |>.mp q
                  show (X.env.scope.names.lookup x == some NameKind.local) = false
                  rw [I.sc]
                  simpa using z
                dsimp only
                rw [nl]
                rfl
              · rw [if_pos z]
      · cases z
end
end D

set_option Elab.async false
set_option linter.all false
set_option maxRecDepth 100000
set_option maxHeartbeats 4000000
/-! Fd29: what the checker says of statements holds. -/
namespace D
open PySem PySem.Spec L2 PyProof.Rows
section
variable {cx : String → Option Addr} {C : Calls} {k : Nat} {an : Anc} {y : Sy}
theorem swapsS_notNm {a t : Expr} (h : isNm t = false) (l : Nat) (env : PySem.Env) : swapsWithSole [t] a l env = pure false := swaps_notNm h l env
theorem locB_ok {ck : Ck} {X : Cx} {F : Fx} (I : XOk cx C k an y ck X F) {x : Str} (h : locB ck x = true) : X.env.scope.names.lookup x = some .local := by
  rw [I.sc]; exact of_decide_eq_true h
theorem asg_ok {ck : Ck} {X : Cx} {F : Fx} {Wx : WX} {t : T} {e : E} {tg a : Expr} {pos : Pos} (I : SOk cx C k an y ck X F Wx) (he : XOk cx C k an y ck X F → chE y ck e a = true → EOk cx C X F Wx e a)
    (h : ((isNm tg || isTp tg) && (tB ck t tg && (chE y ck e a && (swF ck tg a && stF ck tg a)))) = true) : PS X (.Assign [tg] a pos) (tS F cx Wx fun ρ h => exS C F.lo an (.asg t e) ρ h) := by
  obtain ⟨h1, h⟩ := ba2 h
  obtain ⟨h2, h⟩ := ba2 h
  obtain ⟨h3, h⟩ := ba2 h
  obtain ⟨h4, h5⟩ := ba2 h
  have tt : isNm tg = true ∨ isTp tg = true := by simpa [Bool.or_eq_true] using h1
  exact s_asg (he I.x h3).1 (tB_g I.x h2) (swF_ok I.x h4 _) (stF_ok I.x h5) (each_ok tt _)
mutual
theorem chS_ok : ∀ (s : S) {ck : Ck} {X : Cx} {F : Fx} {Wx : WX} {st : Stmt}, SOk cx C k an y ck X F Wx → chS y ck s st = true → PS X st (tS F cx Wx fun ρ h => exS C F.lo an s ρ h)
  | .asg t e, ck, X, F, Wx, st, I, h => by
    unfold chS at h
    split at h
    · rename_i tg a pos
      split at h
      · rename_i x px i m t' it cs elt el tg' iter ifs scope p2
        rcases Bool.or_eq_true _ _ |>.mp h with h | h
        · exact asg_ok I (fun J q => chE_ok (.lc m t' it cs elt) J I.tk q) h
        · obtain ⟨h0, h⟩ := ba2 h
          obtain ⟨h1, h⟩ := ba2 h
          obtain ⟨h2, h⟩ := ba2 h
          obtain ⟨h3, h⟩ := ba2 h
          obtain ⟨h4, h⟩ := ba2 h
          obtain ⟨h5, h⟩ := ba2 h
          obtain ⟨h6, h⟩ := ba2 h
          obtain ⟨h7, h⟩ := ba2 h
          obtain ⟨h8, h⟩ := ba2 h
          obtain ⟨h9, h⟩ := ba2 h
          obtain ⟨h10, h⟩ := ba2 h
          obtain ⟨h11, h12⟩ := ba2 h
          have B := blkOk_by h6
          rw [← I.x.N, ← I.x.sc] at B
          have kd : X.env.scope.kind = .function := by rw [I.x.sc]; exact of_decide_eq_true h2
          exact s_setLc (I.x.calm h0) I.x.nd (by rw [I.x.N]; exact of_decide_eq_true h1) (locB_ok I.x h3) (sw_yes kd (locB_ok I.x h3) h4 h5) (chI_ok it tg' I.x I.tk h9) B (own_slots ck t')
            (fun s H A cl fp F' l => tB_gi (I.x.blk.like l) h10 h8)
            (fun s H A cl fp F' l => by rw [← l.2]; exact chTs_ok cs (I.x.blk.like l) takes_no h11)
            (fun s H A cl fp F' l => by rw [← l.2]; exact (chE_ok elt (I.x.blk.like l) takes_no h12).1) (noSet_ok h7 _)
      · exact asg_ok I (fun J q => chE_ok e J I.tk q) h
    · cases h
  | .par is es, ck, X, F, Wx, st, I, h => by
    unfold chS at h
    split at h
    · split at h
      · obtain ⟨h0, h⟩ := ba2 h
        obtain ⟨h1, h⟩ := ba2 h
        obtain ⟨h2, h⟩ := ba2 h
        obtain ⟨h3, h⟩ := ba2 h
        obtain ⟨h4, h⟩ := ba2 h
        obtain ⟨h5, h⟩ := ba2 h
        obtain ⟨h6, h⟩ := ba2 h
        obtain ⟨h7, h⟩ := ba2 h
        obtain ⟨h8, h⟩ := ba2 h
        obtain ⟨h9, h10⟩ := ba2 h
        have kd : X.env.scope.kind = .function := by rw [I.x.sc]; exact of_decide_eq_true h1
        exact s_par2 (I.x.calm h0) I.x.nd (by rw [I.x.N]; exact of_decide_eq_true h2) (by rw [I.x.N]; exact of_decide_eq_true h3) (of_decide_eq_true h4) (locB_ok I.x h6) (locB_ok I.x h7) (chEs_ok es I.x I.tk h10).pa
          (par2_yes rfl kd (locB_ok I.x h6) (locB_ok I.x h7) (of_decide_eq_true h5) h8 h9)
      · cases h
    · split at h
      · obtain ⟨h0, h⟩ := ba2 h
        obtain ⟨h1, h⟩ := ba2 h
        obtain ⟨h2, h⟩ := ba2 h
        obtain ⟨h3, h⟩ := ba2 h
        obtain ⟨h4, h⟩ := ba2 h
        obtain ⟨h5, h⟩ := ba2 h
        obtain ⟨h6, h⟩ := ba2 h
        obtain ⟨h7, h⟩ := ba2 h
        obtain ⟨h8, h⟩ := ba2 h
        obtain ⟨h9, h⟩ := ba2 h
        obtain ⟨h10, h⟩ := ba2 h
        obtain ⟨h11, h⟩ := ba2 h
        obtain ⟨h12, h⟩ := ba2 h
        obtain ⟨h13, h⟩ := ba2 h
        obtain ⟨h14, h⟩ := ba2 h
        obtain ⟨h15, h⟩ := ba2 h
        obtain ⟨h16, h17⟩ := ba2 h
        have kd : X.env.scope.kind = .function := by rw [I.x.sc]; exact of_decide_eq_true h1
        exact s_par3 (I.x.calm h0) I.x.nd (by rw [I.x.N]; exact of_decide_eq_true h2) (by rw [I.x.N]; exact of_decide_eq_true h3) (by rw [I.x.N]; exact of_decide_eq_true h4) (of_decide_eq_true h5) (of_decide_eq_true h6) (of_decide_eq_true h7) (locB_ok I.x h11) (locB_ok I.x h12) (locB_ok I.x h13) (chEs_ok es I.x I.tk h17).pa
          (par3_yes rfl kd (locB_ok I.x h11) (locB_ok I.x h12) (locB_ok I.x h13) (of_decide_eq_true h8) (of_decide_eq_true h9) (of_decide_eq_true h10) h14 h15 h16)
      · cases h
    · cases h
  | .setI a i v, ck, X, F, Wx, st, I, h => by
    unfold chS at h
    split at h
    · obtain ⟨h1, h⟩ := ba2 h
      obtain ⟨h2, h⟩ := ba2 h
      obtain ⟨h3, h4⟩ := ba2 h
      exact s_setI (chE_ok v I.x I.tk h4).1 (chE_ok a I.x I.tk h2).1 (chE_ok i I.x I.tk h3).1 h1 (swapsS_notNm rfl _ _)
    · cases h
  | .setF a f cs v, ck, X, F, Wx, st, I, h => by
    unfold chS at h
    split at h
    · obtain ⟨h1, h⟩ := ba2 h
      obtain ⟨h2, h⟩ := ba2 h
      obtain ⟨h3, h4⟩ := ba2 h
      have e := of_decide_eq_true h1
      subst e
      exact s_setF (fun c hc A ec => I.x.sys.attr c f (List.all_eq_true.mp h2 c hc) A ec) (chE_ok v I.x I.tk h4).1 (chE_ok a I.x I.tk h3).1 (swaps_notNm rfl _ _)
    · cases h
  | .aug i o e, ck, X, F, Wx, st, I, h => by
    unfold chS at h
    split at h
    · obtain ⟨h1, h⟩ := ba2 h
      obtain ⟨h2, h3⟩ := ba2 h
      have e := of_decide_eq_true h1
      subst e
      exact s_aug (nmB_ok I.x h2) (chE_ok _ I.x I.tk h3).1
    · cases h
  | .augI a i o e, ck, X, F, Wx, st, I, h => by
    unfold chS at h
    split at h
    · obtain ⟨h1, h⟩ := ba2 h
      obtain ⟨h2, h⟩ := ba2 h
      obtain ⟨h3, h⟩ := ba2 h
      obtain ⟨h4, h5⟩ := ba2 h
      have e := of_decide_eq_true h1
      subst e
      exact s_augI (chE_ok a I.x I.tk h3).1 (chE_ok i I.x I.tk h4).1 (chE_ok _ I.x I.tk h5).1 h2
    · cases h
  | .ex e, ck, X, F, Wx, st, I, h => by
    unfold chS at h
    split at h
    · obtain ⟨h1, h2⟩ := ba2 h
      exact s_ex (chE_ok e I.x I.tk h2).1 (noCmp_ok h1 _ _ _)
    · cases h
  | .ret e, ck, X, F, Wx, st, I, h => by
    unfold chS at h
    split at h
    · exact s_ret (chE_ok e I.x I.tk h).1
    · cases h
  | .retN, ck, X, F, Wx, st, I, h => by
    unfold chS at h
    split at h
    · exact s_retN
    · cases h
  | .ifs c a b, ck, X, F, Wx, st, I, h => by
    unfold chS at h
    split at h
    · obtain ⟨h1, h⟩ := ba2 h
      obtain ⟨h2, h3⟩ := ba2 h
      exact s_if (chE_ok c I.x I.tk h1).2 (chSs_ok a I h2) (chSs_ok b I h3)
    · cases h
  | .for_ t i b, ck, X, F, Wx, st, I, h => by
    unfold chS at h
    split at h
    · obtain ⟨h1, h⟩ := ba2 h
      obtain ⟨h2, h⟩ := ba2 h
      obtain ⟨h3, h⟩ := ba2 h
      obtain ⟨h4, h⟩ := ba2 h
      obtain ⟨h5, h6⟩ := ba2 h
      exact s_for I.own (I.x.calm h1) (chI_ok i _ I.x I.tk h4) (tB_gi I.x h5 h3) (chSs_ok b I h6) (noSet_ok h2 _)
    · cases h
  | .whl c b, ck, X, F, Wx, st, I, h => by
    unfold chS at h
    split at h
    · obtain ⟨h1, h2⟩ := ba2 h
      exact s_whl I.own (chE_ok c I.x I.tk h1).2 (chSs_ok b I h2)
    · cases h
  | .brk, ck, X, F, Wx, st, I, h => by
    unfold chS at h
    split at h
    · exact s_brk
    · cases h
  | .cnt, ck, X, F, Wx, st, I, h => by
    unfold chS at h
    split at h
    · exact s_cnt
    · cases h
  | .pass, ck, X, F, Wx, st, I, h => by
    unfold chS at h
    split at h
    · exact s_pass
    · cases h
  | .rais c fs es, ck, X, F, Wx, st, I, h => by
    unfold chS at h
    split at h
    · rename_i x p p2 pos
      obtain ⟨h0, h⟩ := ba2 h
      obtain ⟨h1, h⟩ := ba2 h
      obtain ⟨h2, h⟩ := ba2 h
      obtain ⟨h3, h⟩ := ba2 h
      obtain ⟨h4, h5⟩ := ba2 h
      obtain ⟨A, ec, xc, gm⟩ := I.x.sys.exc c x h3
      obtain rfl : fs = [] := List.isEmpty_iff.mp h1
      cases es with
      | nil => exact s_rais0 (I.x.calm h0) I.tk xc ec gm (glB_ok I.x h4) (noDbg_ok h5)
      | cons => cases h2
    · cases h
  | .tryx b hs, ck, X, F, Wx, st, I, h => by
    unfold chS at h
    split at h
    · obtain ⟨h0, h⟩ := ba2 h
      obtain ⟨h1, h2⟩ := ba2 h
      obtain ⟨l, hd, hk⟩ := chHs_ok hs I h2
      exact s_try I.stk I.frm I.tk (fun W pn xe t p => chSs_ok b (I.tr t p) h1) hd hk
    · cases h
  | .frz i s, ck, X, F, Wx, st, I, h => by
    unfold chS at h
    exact s_frz (chS_ok s I h)
theorem chSs_ok : ∀ (ss : Ss) {ck : Ck} {X : Cx} {F : Fx} {Wx : WX} {l : List Stmt}, SOk cx C k an y ck X F Wx → chSs y ck ss l = true → PSs X l (tS F cx Wx fun ρ h => exSs C F.lo an ss ρ h)
  | .nil, ck, X, F, Wx, l, I, h => by
    cases l with
    | nil => exact s_nil
    | cons => cases h
  | .cons s ss, ck, X, F, Wx, l, I, h => by
    cases l with
    | nil => cases h
    | cons a l =>
      obtain ⟨h1, h2⟩ := ba2 h
      exact s_cons (chS_ok s I h1) (chSs_ok ss I h2)
theorem chHs_ok : ∀ (hs : Hs) {ck : Ck} {X : Cx} {F : Fx} {Wx : WX} {l : List ExceptHandler}, SOk cx C k an y ck X F Wx → chHs y ck hs l = true → ∃ ts, HdsOk X l ts ∧ HsRel F cx X.K (fun e ρ h => exHs C F.lo an hs e ρ h) ts
  | .nil, ck, X, F, Wx, l, I, h => by
    cases l with
    | nil => exact ⟨[], .nil, .nil⟩
    | cons => cases h
  | .cons c b hs, ck, X, F, Wx, l, I, h => by
    unfold chHs at h
    split at h
    · rename_i x np b₀ suite pos hds
      obtain ⟨h1, h⟩ := ba2 h
      obtain ⟨h2, h⟩ := ba2 h
      obtain ⟨h3, h⟩ := ba2 h
      obtain ⟨h4, h5⟩ := ba2 h
      obtain ⟨v, hv, he⟩ := I.x.sys.hnd c x h1
      obtain ⟨ts, hd, hk⟩ := chHs_ok hs I h5
      exact ⟨(v, fun _ _ _ => tS F cx wNo fun ρ h => exSs C F.lo an b ρ h) :: ts, .cons ⟨glB_ok I.x h2, noDbg_ok h3, hv⟩ (fun a oe cls d pn _ _ => chSs_ok b I.suite h4) hd, .cons (p := fun n => c ∈ an n) he hk⟩
    · cases h
end
end
end D

set_option Elab.async false
set_option linter.all false
set_option maxRecDepth 100000
set_option maxHeartbeats 1000000
/-! Fd30: parameters are bound. -/
namespace D
open PySem PySem.Spec L2 PyProof.Rows

theorem zip_lookup {α : Type} {x : Str} : ∀ {ps : List Str} {us : List α} {i : Nat} {u : α}, ps.Nodup → ps[i]? = some x → us[i]? = some u → (ps.zip us).lookup x = some u
  | [], _, _, _, _, h, _ => by simp at h
  | _ :: _, [], _, _, _, _, h => by simp at h
  | p :: ps, v :: us, 0, u, _, h1, h2 => by
    simp at h1 h2
    subst h1 h2
    simp
  | p :: ps, v :: us, i + 1, u, nd, h1, h2 => by
    obtain ⟨n1, n2⟩ := List.nodup_cons.mp nd
    have ne : (x == p) = false := by
      simp only [beq_eq_false_iff_ne]
      rintro rfl
      exact n1 (List.mem_of_getElem? (by simpa using h1))
    show (match x == p with | true => some v | false => (ps.zip us).lookup x) = some u
    rw [ne]
    exact zip_lookup n2 (by simpa using h1) (by simpa using h2)
/-- the parameters found by name -/
theorem find_all {α : Type} (sl : List (Str × α)) : ∀ (ps : List Str) (us : List α), ps.length = us.length → (∀ (i : Nat) (x : Str) (u : α), ps[i]? = some x → us[i]? = some u → sl.lookup x = some u) → (ps.filterMap fun n => (sl.lookup n).map fun v => (n, v)) = ps.zip us
  | [], [], _, _ => rfl
  | [], _ :: _, h, _ => by simp at h
  | _ :: _, [], h, _ => by simp at h
  | p :: ps, u :: us, h, hs => by
    have e := hs 0 p u rfl rfl
    have r := find_all sl ps us (by simpa using h) fun i x v h1 h2 => hs (i + 1) x v (by simpa using h1) (by simpa using h2)
    rw [List.filterMap_cons, e]
    simp only [Option.map_some]
    rw [r]; rfl
theorem none_lacks {α : Type} (sl : List (Str × α)) (ps : List Str) (us : List α) (hl : ps.length = us.length) (hs : ∀ (i : Nat) (x : Str) (u : α), ps[i]? = some x → us[i]? = some u → sl.lookup x = some u) : (ps.filter fun n => (sl.lookup n).isNone) = [] := by
  refine List.filter_eq_nil_iff.mpr fun x hx => ?_
  obtain ⟨i, hi, e⟩ := List.mem_iff_getElem.mp hx
  have := hs i x (us[i]'(by omega)) (by rw [List.getElem?_eq_getElem hi, e]) (List.getElem?_eq_getElem (by omega))
  rw [this]; simp
/-- a def with so many parameters, no more -/
structure Plain (p : Arguments) (ps : List Str) : Prop where
  po : p.posonlyargs = []
  as : p.args.map (·.arg) = ps
  va : p.vararg = none
  ko : p.kwonlyargs = []
  kw : p.kwarg = none
  nd : ps.Nodup
def plainP (p : Arguments) (ps : List Str) : Bool := p.posonlyargs.isEmpty && (decide (p.args.map (·.arg) = ps) && (p.vararg.isNone && (p.kwonlyargs.isEmpty && (p.kwarg.isNone && decide ps.Nodup))))
theorem plainP_ok {p : Arguments} {ps : List Str} (h : plainP p ps = true) : Plain p ps := by
  obtain ⟨h1, h⟩ := ba2 h
  obtain ⟨h2, h⟩ := ba2 h
  obtain ⟨h3, h⟩ := ba2 h
  obtain ⟨h4, h⟩ := ba2 h
  obtain ⟨h5, h6⟩ := ba2 h
  exact ⟨List.isEmpty_iff.mp h1, of_decide_eq_true h2, Option.isNone_iff_eq_none.mp h3, List.isEmpty_iff.mp h4, Option.isNone_iff_eq_none.mp h5, of_decide_eq_true h6⟩
theorem bind_pos {x qual : Str} {params : Arguments} {body : List Stmt} {scope : Scope} {kV doc pm cdv ct : Value} {an : Option Addr} {ps : List Str} (pl : Plain params ps) {us : List Value} (hl : us.length = ps.length) :
    bindArgs (PySem.W.fnOf x qual params body scope .none kV doc pm an cdv ct) ⟨us, []⟩ = pure (ps.zip us) := by
  obtain ⟨p1, p2, p3, p4, p5, p6⟩ := params
  obtain ⟨h1, h2, h3, h4, h5, nd⟩ := pl
  simp only at h1 h2 h3 h4 h5
  subst h1 h3 h4 h5
  have hs : ∀ (i : Nat) (x : Str) (u : Value), ps[i]? = some x → us[i]? = some u → (ps.zip us).lookup x = some u := fun i x u e1 e2 => zip_lookup nd e1 e2
  have e1 := find_all (ps.zip us) ps us hl.symm hs
  have e2 := none_lacks (ps.zip us) ps us hl.symm hs
  unfold bindArgs PySem.W.fnOf
  have sq : seqItems? (.none) = pure none := rfl
  simp [h2, sq, hl]
  rw [e1]
  refine if_neg fun z => ?_
  simp [h2, e2] at z
/-- .. by keywords: ks in the call's order, pm the parameters' places among them -/
theorem pick_get {α : Type} {pm : List Nat} {ys : List α} (hp : ∀ j ∈ pm, j < ys.length) : ∀ i : Nat, (pick pm ys)[i]? = (pm[i]?).bind fun j => ys[j]? := by
  induction pm with
  | nil => intro i; rfl
  | cons j pm ih =>
    intro i
    have hj := hp j (by simp)
    have e : pick (j :: pm) ys = ys[j] :: pick pm ys := by
      unfold pick
      rw [List.filterMap_cons, List.getElem?_eq_getElem hj]
    rw [e]
    cases i with
    | zero => simp [List.getElem?_eq_getElem hj]
    | succ i => simpa using ih (fun j hj => hp j (by simp [hj])) i
theorem pick_len {α : Type} {pm : List Nat} {ys : List α} (hp : ∀ j ∈ pm, j < ys.length) : (pick pm ys).length = pm.length := by
  induction pm with
  | nil => rfl
  | cons j pm ih =>
    have hj := hp j (by simp)
    have e : pick (j :: pm) ys = ys[j] :: pick pm ys := by
      unfold pick
      rw [List.filterMap_cons, List.getElem?_eq_getElem hj]
    rw [e, List.length_cons, List.length_cons, ih fun j hj => hp j (by simp [hj])]
/-- the call's keywords are the parameters in another order -/
def kwP (ps ks : List Str) (pm : List Nat) : Bool := decide (ks.length = ps.length) && (decide ks.Nodup && (decide (pick pm ks = ps) && (pm.all (fun j => decide (j < ks.length)) && ks.all fun x => ps.contains x)))
theorem loop_kw {β : Type} {ps : List Str} (f : Str × β → List (Str × β) × List (Str × β) → Sem (ForInStep (List (Str × β) × List (Str × β)))) (hf : ∀ x u s, x ∈ ps → s.lookup x = none → f (x, u) (s, []) = pure (.yield (s ++ [(x, u)], []))) :
    ∀ (l acc : List (Str × β)), (∀ q ∈ l, q.1 ∈ ps) → ((acc ++ l).map (·.1)).Nodup → forIn l (acc, []) f = pure (acc ++ l, [])
  | [], acc, _, _ => by simp
  | q :: l, acc, h, nd => by
    have hn : acc.lookup q.1 = none := by
      rw [List.lookup_eq_none_iff]
      intro p hp
      simp only [beq_eq_false_iff_ne, ne_eq, bne_iff_ne]
      intro e
      rw [List.map_append, List.nodup_append] at nd
      exact nd.2.2 p.1 (List.mem_map.mpr ⟨p, hp, rfl⟩) q.1 (by simp) e.symm
    rw [List.forIn_cons, hf q.1 q.2 acc (h q (by simp)) hn, pure_bind]
    have := loop_kw f hf l (acc ++ [q]) (fun z hz => h z (by simp [hz])) (by simpa using nd)
    simpa using this
theorem pick_inv {α : Type} {ys : List α} : ∀ {pm : List Nat}, (pick pm ys).length = pm.length → ∀ j ∈ pm, j < ys.length
  | [], _, j, hj => by cases hj
  | i :: pm, h, j, hj => by
    have le : ∀ l : List Nat, (pick l ys).length ≤ l.length := fun l => List.length_filterMap_le _ _
    cases e : ys[i]? with
    | none =>
      have q : pick (i :: pm) ys = pick pm ys := by
        unfold pick
        rw [List.filterMap_cons, e]
      rw [q] at h
      have := le pm
      simp only [List.length_cons] at h
      omega
    | some u =>
      have q : pick (i :: pm) ys = u :: pick pm ys := by
        unfold pick
        rw [List.filterMap_cons, e]
      rw [q] at h
      have h : (pick pm ys).length = pm.length := by simpa using h
      rcases List.mem_cons.mp hj with rfl | hj
      · exact (List.getElem?_eq_some_iff.mp e).1
      · exact pick_inv h j hj
theorem zip_keys {α β : Type} : ∀ (ks : List α) (ws : List β), (ks.zip ws).map (·.1) = ks.take ws.length
  | [], _ => by simp
  | _ :: _, [] => rfl
  | k :: ks, w :: ws => by simp [zip_keys ks ws]
theorem bind_kw {x qual : Str} {params : Arguments} {body : List Stmt} {scope : Scope} {kV doc pm_ cdv ct : Value} {an : Option Addr} {ps ks : List Str} {pm : List Nat} (pl : Plain params ps) (hk : kwP ps ks pm = true) {ws : List Value} (hl : (pick pm ws).length = ps.length) :
    bindArgs (PySem.W.fnOf x qual params body scope .none kV doc pm_ an cdv ct) ⟨[], ks.zip ws⟩ = pure (ps.zip (pick pm ws)) := by
  obtain ⟨k1, hk⟩ := ba2 hk
  obtain ⟨k2, hk⟩ := ba2 hk
  obtain ⟨k3, hk⟩ := ba2 hk
  obtain ⟨k4, k5⟩ := ba2 hk
  have k1 := of_decide_eq_true k1
  have k2 : ks.Nodup := of_decide_eq_true k2
  have k3 : pick pm ks = ps := of_decide_eq_true k3
  simp only [List.all_eq_true, decide_eq_true_eq] at k4 k5
  have hws : ∀ j ∈ pm, j < ws.length := pick_inv (by rw [hl, ← k3, pick_len k4])
  have lp : ps.length = (pick pm ws).length := by rw [← k3, pick_len k4, pick_len hws]
  have hs : ∀ (i : Nat) (x : Str) (u : Value), ps[i]? = some x → (pick pm ws)[i]? = some u → (ks.zip ws).lookup x = some u := fun i x u e1 e2 => by
    rw [← k3, pick_get k4] at e1
    rw [pick_get hws] at e2
    cases e : pm[i]? with
    | none => rw [e] at e1; cases e1
    | some j =>
      rw [e] at e1 e2
      exact zip_lookup k2 e1 e2
  have e1 := find_all (ks.zip ws) ps _ lp hs
  have e2 := none_lacks (ks.zip ws) ps _ lp hs
  obtain ⟨p1, p2, p3, p4, p5, p6⟩ := params
  obtain ⟨h1, h2, h3, h4, h5, nd⟩ := pl
  simp only at h1 h2 h3 h4 h5
  subst h1 h3 h4 h5
  unfold bindArgs PySem.W.fnOf
  have sq : seqItems? (.none) = pure none := rfl
  simp [h2, sq]
  have kz := zip_keys ks ws
  have ks_nd : (ks.take ws.length).Nodup := k2.sublist (List.take_sublist _ _)
  refine (congrArg (· >>= _) (loop_kw (ps := ps) _ (fun x u s hx hn => ?_) (ks.zip ws) [] (fun q hq => ?_) (by simpa [kz] using ks_nd))).trans ?_
  · simp [hx, hn]
  · have hm : q.1 ∈ ks := List.mem_of_mem_take (by rw [← kz]; exact List.mem_map.mpr ⟨q, hq, rfl⟩)
    simpa using k5 q.1 hm
  · rw [List.nil_append, pure_bind]
    rw [e1]
    refine if_neg fun z => ?_
    simp [h2, e2] at z
end D

set_option Elab.async false
set_option linter.all false
set_option maxRecDepth 100000
set_option maxHeartbeats 1000000
/-! Fd31: a law's table of defs; all of them keep what the evaluator says. -/
namespace D
open PySem PySem.Spec L2 PyProof.Rows

/-- a def: its key, what the head tells of it, its parameters, slots, its IR; tab: it has generator expressions -/
structure DE where
  key : String
  d : He.DefD
  ps : List Str
  N : List Str
  fn : Fn
  tab : Bool
/-- a law's table -/
structure Lw where
  T : List DE
  free : List String
  /-- classes, the attributes that their instances have for themselves -/
  cls : List (String × List String)
  exc : List String
  anc : List (String × List String)
  /-- names of constants -/
  con : List (String × PV)
def conB : PV → PV → Bool
  | .int i, .int j => decide (i = j)
  | .str s, .str t => decide (s = t) && okS s
  | _, _ => false
def Lw.an (l : Lw) : Anc := fun n => (l.anc.lookup n).getD []
def Lw.pg (l : Lw) : Pg := ⟨fun f => (l.T.find? fun e => e.key == f).map (·.fn), l.an⟩
def isC (l : Lw) (c : String) : Bool := l.cls.any fun q => q.1 == c
def Lw.sy (l : Lw) : Sy where
  call f x := l.T.any fun e => e.key == f && decide (e.d.at_ = (x, none))
  callK f x ks pm := l.T.any fun e => e.key == f && (decide (e.d.at_ = (x, none)) && kwP e.ps ks pm)
  bn b := l.free.any fun z => z == b
  attr c f := l.cls.any fun q => q.1 == c && q.2.any fun g => g == f
  meth m c f := isC l c && l.T.any fun e => e.key == f && decide (e.d.at_ = (Str.ofString c, some (Str.ofString m)))
  make c f := isC l c && l.T.any fun e => e.key == f && decide (e.d.at_ = (Str.ofString c, some ("__init__" : Str)))
  exc c x := (l.exc.any fun z => z == c) && decide (x = Str.ofString c)
  hnd c x := (l.exc.any fun z => z == c) && decide (x = Str.ofString c)
  con x v := l.con.any fun q => decide (x = Str.ofString q.1) && conB q.2 v
/-- the facts that the head is asked -/
def Lw.fa (l : Lw) : List He.Fa :=
  (l.T.filterMap fun e => match e.d.at_.2 with | none => some (He.Fa.glo e.d.at_.1) | some _ => none) ++
  (l.T.filterMap fun e => match e.d.at_.2 with | none => none | some m => some (He.Fa.meth e.d.at_.1 m)) ++
  l.free.map (fun b => .free (Str.ofString b)) ++
  l.cls.flatMap (fun q => [.glo (Str.ofString q.1), .cls (Str.ofString q.1), .mkr (Str.ofString q.1)] ++ q.2.map fun f => .noat (Str.ofString q.1) (Str.ofString f)) ++
  l.exc.flatMap (fun c => [.glo (Str.ofString c), .exc (Str.ofString c)] ++ l.exc.map fun n => .exm (Str.ofString n) (Str.ofString c) (decide (c ∈ l.an n))) ++
  l.con.filterMap (fun q => match q.2 with | .int i => some (He.Fa.int (Str.ofString q.1) i) | .str s => some (He.Fa.str (Str.ofString q.1) (sOf s)) | _ => none)
def Lw.fn (l : Lw) : List He.DefD := l.T.map (·.d)
def Lw.tf (l : Lw) : List He.Defn := (l.T.filter (·.tab)).map (·.d.at_)
/-- no list at the head -/
def noLists (K : PySem.W.Frag) : Bool := K.all fun q => match q.2.cls with
  | .type c => !(c == "list")
  | _ => true
def scopeB (N ps : List Str) (sc : Scope) : Bool := (match sc.kind with | .function => true | _ => false) && (!sc.isCoroutine && (!sc.isGenerator && (decide N.Nodup && (decide (N.take ps.length = ps) &&
  ((ps.all fun x => match sc.names.lookup x with | some .local => true | some .cell => true | _ => false) && (sc.names.all fun q => decide (q.2 ≠ .free)))))))
theorem scopeB_ok {N ps : List Str} {sc : Scope} (h : scopeB N ps sc = true) : FnScope N ps sc := by
  obtain ⟨h1, h⟩ := ba2 h
  obtain ⟨h2, h⟩ := ba2 h
  obtain ⟨h3, h⟩ := ba2 h
  obtain ⟨h4, h⟩ := ba2 h
  obtain ⟨h5, h⟩ := ba2 h
  obtain ⟨h6, h7⟩ := ba2 h
  refine ⟨?_, by simpa using h2, by simpa using h3, of_decide_eq_true h4, of_decide_eq_true h5, fun x hx => ?_, fun q hq => of_decide_eq_true (List.all_eq_true.mp h7 q hq)⟩
  · split at h1
    · assumption
    · cases h1
  · have z := List.all_eq_true.mp h6 x hx
    split at z <;> first | exact .inl (by assumption) | exact .inr (by assumption) | cases z
/-- a def is looked at -/
def DE.ok (l : Lw) (e : DE) : Bool := plainP e.d.params e.ps && (scopeB e.N e.ps e.d.scope && (decide (e.fn.np = e.ps.length) && (decide (e.fn.ns = e.N.length) && (e.d.dfl.isEmpty && (e.d.kwd.isEmpty &&
  chSs l.sy ⟨e.d.scope, e.N, fun _ => true, true, true, e.tab⟩ e.fn.body e.d.body)))))
def Lw.ok (l : Lw) : Bool := l.T.all fun e => e.ok l
/-- no two of one key -/
def Lw.keys (l : Lw) : Bool := decide (l.T.map (·.key)).Nodup
end D

set_option Elab.async false
set_option linter.all false
set_option maxRecDepth 100000
set_option maxHeartbeats 2000000
/-! Fd32: all defs of a law's table keep what the evaluator says. -/
namespace D
open PySem PySem.Spec L2 PyProof.Rows

def Lw.cl (l : Lw) (K : PySem.W.Frag) (c : String) : Option Addr := if isC l c then some (He.ga K (Str.ofString c)) else none
def Lw.cx (l : Lw) (K : PySem.W.Frag) (c : String) : Option Addr := if (l.exc.any fun z => z == c) then some (He.ga K (Str.ofString c)) else none
def Lw.G (l : Lw) (K : PySem.W.Frag) : Gm := ⟨K, l.cl K, l.tf.map fun p => (He.cT K p).2, []⟩
/-- what the head tells -/
structure Hd (l : Lw) (K : PySem.W.Frag) (mg : Str → Option Value) (base : Heap) : Prop where
  says : He.SaysD l.fa l.fn K
  inK : K.In base
  ns : base.Ns mainGlobals mg
  tab : ∀ p ∈ l.tf, GxR.TabB base mg (He.cT K p).1 (He.cT K p).2
abbrev FunE (K : PySem.W.Frag) (e : DE) (fd : FuncData) : Prop := FunD K e.d.name e.d.qual e.d.params e.d.body e.d.scope [] [] (He.fAd K e.d.at_) fd
section
variable {l : Lw} {P : Program} {w : World} {K : PySem.W.Frag} {mg : Str → Option Value} {base : Heap} {C : Calls} {k : Nat}
theorem Hd.fact (hd : Hd l K mg base) {f : He.Fa} (h : f ∈ l.fa) : f.ok K = true := hd.says.facts h
theorem fa_glo {e : DE} {x : Str} (h : e ∈ l.T) (q : e.d.at_ = (x, none)) : He.Fa.glo x ∈ l.fa := by
  unfold Lw.fa
  refine List.mem_append_left _ (List.mem_append_left _ (List.mem_append_left _ (List.mem_append_left _ (List.mem_append_left _ (List.mem_filterMap.mpr ⟨e, h, by rw [q]⟩)))))
theorem fa_meth {e : DE} {x m : Str} (h : e ∈ l.T) (q : e.d.at_ = (x, some m)) : He.Fa.meth x m ∈ l.fa := by
  unfold Lw.fa
  refine List.mem_append_left _ (List.mem_append_left _ (List.mem_append_left _ (List.mem_append_left _ (List.mem_append_right _ (List.mem_filterMap.mpr ⟨e, h, by rw [q]⟩)))))
theorem fa_free {b : String} (h : b ∈ l.free) : He.Fa.free (Str.ofString b) ∈ l.fa := by
  unfold Lw.fa
  exact List.mem_append_left _ (List.mem_append_left _ (List.mem_append_left _ (List.mem_append_right _ (List.mem_map.mpr ⟨b, h, rfl⟩))))
theorem fa_cls {q : String × List String} {f : He.Fa} (h : q ∈ l.cls) (hf : f ∈ [He.Fa.glo (Str.ofString q.1), .cls (Str.ofString q.1), .mkr (Str.ofString q.1)] ++ q.2.map fun f => .noat (Str.ofString q.1) (Str.ofString f)) : f ∈ l.fa := by
  unfold Lw.fa
  exact List.mem_append_left _ (List.mem_append_left _ (List.mem_append_right _ (List.mem_flatMap.mpr ⟨q, h, hf⟩)))
theorem fa_exc {c : String} {f : He.Fa} (h : c ∈ l.exc) (hf : f ∈ [He.Fa.glo (Str.ofString c), .exc (Str.ofString c)] ++ l.exc.map fun n => .exm (Str.ofString n) (Str.ofString c) (decide (c ∈ l.an n))) : f ∈ l.fa := by
  unfold Lw.fa
  exact List.mem_append_left _ (List.mem_append_right _ (List.mem_flatMap.mpr ⟨c, h, hf⟩))
theorem fa_con {q : String × PV} {f : He.Fa} (h : q ∈ l.con) (e : (match q.2 with | .int i => some (He.Fa.int (Str.ofString q.1) i) | .str s => some (He.Fa.str (Str.ofString q.1) (sOf s)) | _ => none) = some f) : f ∈ l.fa := by
  unfold Lw.fa
  exact List.mem_append_right _ (List.mem_filterMap.mpr ⟨q, h, e⟩)
theorem isC_mem {c : String} (h : isC l c = true) : ∃ q ∈ l.cls, q.1 = c := by
  obtain ⟨q, hq, e⟩ := List.any_eq_true.mp h
  exact ⟨q, hq, eq_of_beq e⟩
theorem cl_some {c : String} {A : Addr} (h : l.cl K c = some A) : isC l c = true ∧ A = He.ga K (Str.ofString c) := by
  unfold Lw.cl at h
  split at h
  · rename_i z; cases h; exact ⟨z, rfl⟩
  · cases h
theorem cx_some {c : String} {A : Addr} (h : l.cx K c = some A) : c ∈ l.exc ∧ A = He.ga K (Str.ofString c) := by
  unfold Lw.cx at h
  split at h
  · rename_i z
    obtain ⟨q, hq, e⟩ := List.any_eq_true.mp z
    cases h
    exact ⟨by rw [← eq_of_beq e]; exact hq, rfl⟩
  · cases h
/-- what is known of each def -/
def AllK (l : Lw) (P : Program) (w : World) (K : PySem.W.Frag) (mg : Str → Option Value) (base : Heap) (C : Calls) (k : Nat) : Prop :=
  ∀ e ∈ l.T, Plain e.d.params e.ps ∧ ∃ fd, FunE K e fd ∧ FnOk P w K mg base (L2.CX P w) k (He.fAd K e.d.at_) fd e.ps (spC (l.G K) (l.cx K) C e.key)
theorem AllK.fnK (h : AllK l P w K mg base C k) {e : DE} (he : e ∈ l.T) : FnK P w K mg base (l.G K) (l.cx K) C k e.key (He.fAd K e.d.at_) := by
  obtain ⟨pl, fd, F, ok⟩ := h e he
  exact ⟨⟨fd, e.ps, ok, F.bindsN fun kV doc pm an cdv ct us hl => bind_pos pl hl⟩, F.kp⟩
theorem sys_ok (hd : Hd l K mg base) (hf : AllK l P w K mg base C k) : Sys P w K mg base (l.G K) (l.cx K) C k l.an l.sy := by
  refine ⟨fun f x h => ?_, fun f x ks pm h => ?_, fun b h => ?_, fun c f h A ec => ?_, fun m c f h A ec => ?_, fun c f h => ?_, fun c x h => ?_, fun c x h => ?_, fun x v h => ?_⟩
  · obtain ⟨e, he, q⟩ := List.any_eq_true.mp h
    obtain ⟨q1, q2⟩ := ba2 q
    have q2 := of_decide_eq_true q2
    have g := He.glo_ok hd.inK hd.ns (hd.fact (fa_glo he q2))
    have z := hf.fnK he
    rw [q2, eq_of_beq q1] at z
    exact ⟨_, g, z⟩
  · obtain ⟨e, he, q⟩ := List.any_eq_true.mp h
    obtain ⟨q1, q⟩ := ba2 q
    obtain ⟨q2, q3⟩ := ba2 q
    have q2 := of_decide_eq_true q2
    have g := He.glo_ok hd.inK hd.ns (hd.fact (fa_glo he q2))
    obtain ⟨pl, fd, F, ok⟩ := hf e he
    rw [q2, eq_of_beq q1] at ok
    refine ⟨_, g, ⟨⟨fd, e.ps, ok, fun s ws _ hl => ?_⟩, ?_⟩⟩
    · obtain ⟨oc, od, dV, kV, doc, pm', an, cdv, ct, osl, rfl, lk, hcd, hD, hK⟩ := F.ex
      rcases hD with ⟨_, rfl⟩ | ⟨e, _⟩
      · exact .of_eq (bind_kw pl q3 hl)
      · exact absurd rfl e
    · have := F.kp
      rw [q2] at this
      exact this
  · obtain ⟨z, hz, e⟩ := List.any_eq_true.mp h
    rw [← eq_of_beq e]
    exact He.free_ok hd.inK hd.ns (hd.fact (fa_free hz))
  · obtain ⟨q, hq, e⟩ := List.any_eq_true.mp h
    obtain ⟨e1, e2⟩ := ba2 e
    obtain ⟨f', hf', e3⟩ := List.any_eq_true.mp e2
    have e1 := eq_of_beq e1
    have e3 := eq_of_beq e3
    subst e1 e3
    obtain ⟨_, rfl⟩ := cl_some ec
    refine ⟨He.cls_ok (hd.fact (fa_cls hq (by simp))), He.noat_ok (hd.fact (fa_cls hq (List.mem_append_right _ (List.mem_map.mpr ⟨_, hf', rfl⟩))))⟩
  · obtain ⟨h1, h2⟩ := ba2 h
    obtain ⟨q, hq, rfl⟩ := isC_mem h1
    obtain ⟨e, he, z⟩ := List.any_eq_true.mp h2
    obtain ⟨z1, z2⟩ := ba2 z
    have z2 := of_decide_eq_true z2
    obtain ⟨_, rfl⟩ := cl_some ec
    have fk := hf.fnK he
    rw [z2, eq_of_beq z1] at fk
    exact ⟨He.cls_ok (hd.fact (fa_cls hq (by simp))), _, He.meth_ok (hd.fact (fa_meth he z2)), fk⟩
  · obtain ⟨h1, h2⟩ := ba2 h
    obtain ⟨q, hq, rfl⟩ := isC_mem h1
    obtain ⟨e, he, z⟩ := List.any_eq_true.mp h2
    obtain ⟨z1, z2⟩ := ba2 z
    have z2 := of_decide_eq_true z2
    have fk := hf.fnK he
    rw [z2, eq_of_beq z1] at fk
    refine ⟨_, _, (if_pos h1 : l.cl K q.1 = _), He.mkr_ok (hd.fact (fa_cls hq (by simp))), fk, He.glo_ok hd.inK hd.ns (hd.fact (fa_cls hq (by simp)))⟩
  · obtain ⟨h1, h2⟩ := ba2 h
    obtain rfl := of_decide_eq_true h2
    obtain ⟨c', hc, e⟩ := List.any_eq_true.mp h1
    have e := eq_of_beq e
    subst e
    obtain ⟨x1, x2, x3, x4⟩ := He.exc_ok (hd.fact (f := .exc (Str.ofString c')) (fa_exc hc (by simp)))
    exact ⟨_, (if_pos h1 : l.cx K c' = _), ⟨⟨_, _, _, _, PySem.F.excBase_ValueError, x1⟩, x2, x3, x4⟩, He.glo_ok hd.inK hd.ns (hd.fact (f := .glo (Str.ofString c')) (fa_exc hc (by simp)))⟩
  · obtain ⟨h1, h2⟩ := ba2 h
    obtain rfl := of_decide_eq_true h2
    obtain ⟨c', hc, e⟩ := List.any_eq_true.mp h1
    have e := eq_of_beq e
    subst e
    refine ⟨_, .inl (He.glo_ok hd.inK hd.ns (hd.fact (f := .glo (Str.ofString c')) (fa_exc hc (by simp)))), fun n A en => ?_⟩
    obtain ⟨hn, rfl⟩ := cx_some en
    exact He.exm_ok (hd.fact (fa_exc hc (List.mem_append_right _ (List.mem_map.mpr ⟨n, hn, rfl⟩))))
  · obtain ⟨⟨nm, cv⟩, hq, h⟩ := List.any_eq_true.mp h
    obtain ⟨h1, h2⟩ := ba2 h
    obtain rfl := of_decide_eq_true h1
    unfold conB at h2
    dsimp only at h2
    split at h2
    · rename_i a0 b0 h0
      have e0 := of_decide_eq_true h2
      subst e0
      obtain ⟨t, e⟩ := He.int_ok hd.inK hd.ns (hd.fact (fa_con (f := .int (Str.ofString nm) _) hq rfl))
      exact ⟨.int _, _, e, ⟨t, rfl⟩, fun _ _ _ => .int _⟩
    · rename_i a0 b0 h0
      obtain ⟨h3, h4⟩ := ba2 h2
      have e0 := of_decide_eq_true h3
      subst e0
      obtain ⟨t, e⟩ := He.str_ok hd.inK hd.ns (hd.fact (fa_con (f := .str (Str.ofString nm) (sOf _)) hq rfl))
      exact ⟨.str (sOf _), _, e, ⟨t, rfl⟩, fun _ _ _ => .str _ h4⟩
    · cases h2
end
end D

set_option Elab.async false
set_option linter.all false
set_option maxRecDepth 100000
set_option maxHeartbeats 2000000
/-! Fd33: levels; the law's end. -/
namespace D
open PySem PySem.Spec L2 PyProof.Rows
section
variable {l : Lw} {P : Program} {w : World} {K : PySem.W.Frag} {mg : Str → Option Value} {base : Heap}
theorem find_key {e : DE} : ∀ {T : List DE}, (T.map (·.key)).Nodup → e ∈ T → T.find? (fun z => z.key == e.key) = some e
  | [], _, h => by cases h
  | z :: T, nd, h => by
    simp only [List.map_cons, List.nodup_cons] at nd
    rcases List.mem_cons.mp h with rfl | h
    · simp
    · have ne : (z.key == e.key) = false := by
        simp only [beq_eq_false_iff_ne]
        intro q
        exact nd.1 (by rw [q]; exact List.mem_map.mpr ⟨e, h, rfl⟩)
      rw [List.find?_cons, ne]
      exact find_key nd.2 h
theorem all_ok (hd : Hd l K mg base) (hok : l.ok = true) (hk : l.keys = true) : ∀ n : Nat, AllK l P w K mg base (callN l.pg n) (5 * n)
  | 0 => fun e he => by
    have ok := List.all_eq_true.mp hok e he
    obtain ⟨o1, ok⟩ := ba2 ok
    obtain ⟨o2, ok⟩ := ba2 ok
    obtain ⟨o3, ok⟩ := ba2 ok
    obtain ⟨o4, ok⟩ := ba2 ok
    obtain ⟨o5, ok⟩ := ba2 ok
    obtain ⟨o6, o7⟩ := ba2 ok
    obtain ⟨fd, F⟩ := hd.says.defs (d := e.d) (List.mem_map.mpr ⟨e, he, rfl⟩)
    rw [show e.d.dvs K = [] by unfold He.DefD.dvs; rw [List.isEmpty_iff.mp o5]; rfl, show e.d.kws K = [] by unfold He.DefD.kws; rw [List.isEmpty_iff.mp o6]; rfl] at F
    exact ⟨plainP_ok o1, fd, F, ⟨fun vs H Q E ⟨_, _, _, _, _, _, _, z⟩ => z.elim, fun A outer s H args us vs Q E _ _ _ _ ⟨_, _, _, _, _, _, _, z⟩ => z.elim⟩⟩
  | n + 1 => fun e he => by
    have ih := all_ok hd hok hk n
    have ok := List.all_eq_true.mp hok e he
    obtain ⟨o1, ok⟩ := ba2 ok
    obtain ⟨o2, ok⟩ := ba2 ok
    obtain ⟨o3, ok⟩ := ba2 ok
    obtain ⟨o4, ok⟩ := ba2 ok
    obtain ⟨o5, ok⟩ := ba2 ok
    obtain ⟨o6, o7⟩ := ba2 ok
    obtain ⟨fd, F⟩ := hd.says.defs (d := e.d) (List.mem_map.mpr ⟨e, he, rfl⟩)
    rw [show e.d.dvs K = [] by unfold He.DefD.dvs; rw [List.isEmpty_iff.mp o5]; rfl, show e.d.kws K = [] by unfold He.DefD.kws; rw [List.isEmpty_iff.mp o6]; rfl] at F
    refine ⟨plainP_ok o1, fd, F, ?_⟩
    obtain ⟨oc, od, dV, kV, doc, pm, an, cdv, ct, osl, rfl, lk, hcd, _, _⟩ := F.ex
    have S := scopeB_ok o2
    have fk : l.pg.fn e.key = some e.fn := by
      show (l.T.find? fun z => z.key == e.key).map (·.fn) = _
      rw [find_key (of_decide_eq_true hk) he]; rfl
    refine fn_body (G := l.G K) lk hcd S fk (of_decide_eq_true o3) (of_decide_eq_true o4) fun A outer s H E F' eG hr => ?_
    have eG' : F'.G.base = l.G K := eG
    have ht : F'.G.tabs = (l.G K).tabs := show F'.G.base.tabs = _ from congrArg Gm.tabs eG'
    refine chSs_ok (k := 5 * n) (an := l.an) (y := l.sy) e.fn.body (ck := ⟨e.d.scope, e.N, fun _ => true, true, true, e.tab⟩) ⟨⟨?_, rfl, rfl, S.nd, fun _ _ => rfl, fun _ => rfl, fun _ => hr, fun t => ?_⟩, takes_of rfl rfl rfl rfl, passes_of rfl, rfl, rfl⟩ o7
    · show Sys P w K mg base F'.G.base _ _ _ _ _
      rw [eG']
      exact sys_ok hd ih
    · obtain ⟨c, rfl⟩ := He.codeIn_ref hcd
      have ec := He.codeOf_eq lk rfl
      have m : e.d.at_ ∈ l.tf := List.mem_map.mpr ⟨e, List.mem_filter.mpr ⟨he, t⟩, rfl⟩
      have tb := hd.tab _ m
      refine ⟨c, (He.cT K e.d.at_).2, rfl, ?_, ?_⟩
      · have e1 : (He.cT K e.d.at_).1 = c := ec
        rw [e1] at tb
        exact tb
      · rw [ht]
        exact List.mem_map.mpr ⟨_, m, rfl⟩
/-- no list stands in what the head tells -/
theorem noLists_ok (h : noLists K = true) {a : Addr} {o : Obj} (e : K.lookup a = some o) : o.cls ≠ .type "list" := fun z => by
  have q := List.all_eq_true.mp h _ (He.lookup_mem e)
  simp only [z] at q
  cases q
/-- the law's call, from the evaluator's -/
theorem law_sp {n : Nat} {sp : Calls} {cx : String → Option Addr} (G : Gm) (hid : G.hid = []) (nl : noLists K = true) {H : Hp} {a : Addr} {ns : List Int} (hl : ns.length ≤ line) (ht : ∀ t ∈ G.tabs, H t = some (.tbl #[])) (hS : SqL K H a (ns.map V.int))
    (hv : ∃ h', sp "law" [.pv (.lst (ns.map PV.int))] [] = .ok (.pv (.bl true)) h') : spC G cx sp "law" [.ref a] H (fun v _ => v = .bl true) fun _ _ _ => False := by
  have hS : Rd H a (.lst (ns.map V.int)) := by
    rcases hS with h | ⟨o, its, n, e, h, _⟩
    · exact h
    · exact (noLists_ok nl e h).elim
  have nw : ¬ wr G [] [] a := by
    rintro ((z | z) | ⟨p, o, z, _⟩)
    · have := ht a z
      rcases hS with e | ⟨o, e⟩ <;> rw [this] at e <;> cases e
    · rw [hid] at z; cases z
    · cases z
  have inT : ∀ ns : List Int, PRels G H (wr G [] []) (ns.map PV.int) (ns.map V.int) := fun ns => by
    induction ns with
    | nil => exact .nil
    | cons i ns ih => exact .cons (.int i) ih
  refine ⟨⟨G, 0, []⟩, [], [], [.pv (.lst (ns.map PV.int))], rfl, ⟨rfl, .nil, fun t z => ⟨⟨#[], ht t z, ?_⟩, by simp⟩, fun t z => ?_, fun p o a e _ => (by cases e), Nat.le_refl _, fun p o z => absurd z (Nat.not_lt_zero _), fun p o z => absurd z (Nat.not_lt_zero _)⟩, .cons (.pv (.lst hS nw (by simpa using hl) (inT ns))) .nil, ?_⟩
  · first | exact trivial | exact TriplesOk.nil | simp [TriplesOk]
  · rw [hid] at z; cases z
  · obtain ⟨h', e⟩ := hv
    rw [e]
    intro μ' H' _ _ x rx
    exact rx.bl_inv
theorem walk_law {R : PySem.W.OpenLaw} {l : Lw} {n N m : Nat} {q : Program} {loose : List Str} {XP : (Str → Option Value) → Heap → Prop} {d : DefRec} {e : DE} (hn : R.most = some n) (hn2 : n ≤ sizeLine) (hn3 : n ≤ line) (hdf : d.params.defaults = []) (hr : Room (5 * N) callerA)
    (he : e ∈ l.T) (hkey : e.key = "law") (hat : e.d.at_ = (d.name, none)) (hps : e.ps = [("script" : Str)]) (hok : l.ok = true) (hk : l.keys = true)
    (pure : ∀ ns : List Int, ns.length ≤ n → (∀ z ∈ ns, Builtin.Int.intBits z ≤ 1048576) → ∃ h', callN l.pg N "law" [.pv (.lst (ns.map PV.int))] [] = .ok (.pv (.bl true)) h') :
    PySem.W.WalkO q loose XP (He.hookX m l.fa l.fn [] l.tf noLists).says R.row.toRowW d [] (fun f vs => PySem.call f vs) := by
  refine LamX.walk_ofTsE (CX := fun w => L2.CX R.prog w) (n := n) (k := 5 * N) (x := "script") hn hn2 hdf hr (fun w mg fa h Y G hmg => ?_) (fun w H s e s' z => by obtain ⟨_, _, _, _, _, _, _, _, _, _, _, _, f⟩ := z; exact f)
  obtain ⟨K, hK, c⟩ := Y
  have dd := He.SaysT.d c.t
  have gl := He.glo_ok hK G (dd.facts (fa_glo he hat))
  have efa : fa = He.fAd K e.d.at_ := by
    rw [hat]
    have z := hmg.symm.trans gl
    injection z with z
    injection z with z
  obtain ⟨fd, F⟩ := dd.defs (d := e.d) (List.mem_map.mpr ⟨e, he, rfl⟩)
  have ok := List.all_eq_true.mp hok e he
  obtain ⟨o1, ok⟩ := ba2 ok
  obtain ⟨o2, ok⟩ := ba2 ok
  obtain ⟨o3, ok⟩ := ba2 ok
  obtain ⟨o4, ok⟩ := ba2 ok
  obtain ⟨o5, ok⟩ := ba2 ok
  obtain ⟨o6, o7⟩ := ba2 ok
  rw [show e.d.dvs K = [] by unfold He.DefD.dvs; rw [List.isEmpty_iff.mp o5]; rfl, show e.d.kws K = [] by unfold He.DefD.kws; rw [List.isEmpty_iff.mp o6]; rfl] at F
  have pl := plainP_ok o1
  refine ⟨K, hK, fd, l.tf.map fun p => He.cT K p, spC (l.G K) (l.cx K) (callN l.pg N) "law", ?_, ?_, ?_, fun s u => ?_, fun H a ns h1 h2 ht hS => ?_, fun base hB nB tb => ?_⟩
  · intro p hp
    obtain ⟨t, ht, rfl⟩ := List.mem_map.mp hp
    exact c.empty t ht
  · intro p hp
    obtain ⟨t, ht, rfl⟩ := List.mem_map.mp hp
    exact c.out t ht
  · intro p hp
    obtain ⟨t, ht, rfl⟩ := List.mem_map.mp hp
    exact PySem.W.codeHd_of_K hK (c.hd t ht)
  · have b := FunD.bindsA (ps := [("script" : Str)]) F (fun kV doc pm an cdv ct us hl => by
      rw [← hps] at hl ⊢
      exact bind_pos pl hl)
    exact b s [u] rfl
  · refine law_sp (n := n) (l.G K) rfl c.more (Nat.le_trans h1 hn3) (fun t z => ?_) hS (pure ns h1 h2)
    obtain ⟨p, hp, rfl⟩ := List.mem_map.mp z
    exact ht _ (List.mem_map.mpr ⟨p, hp, rfl⟩)
  · have hd : Hd l K mg base := ⟨dd, hB, nB, fun p hp => by
      have z := tb _ (List.mem_map.mpr ⟨p, hp, rfl⟩)
      exact ⟨z.code, z.bm, z.gP⟩⟩
    obtain ⟨_, fd', F', ok'⟩ := all_ok (P := R.prog) (w := w) hd hok hk N e he
    rw [hkey, hps] at ok'
    rw [efa]
    have : fd' = fd := by
      obtain ⟨oc, od, dV, kV, doc, pm, an, cdv, ct, osl, r1, lk, _⟩ := F.ex
      obtain ⟨oc', od', dV', kV', doc', pm', an', cdv', ct', osl', r1', lk', _⟩ := F'.ex
      rw [lk] at lk'
      cases lk'
      rfl
    rw [this] at ok'
    exact ok'
end
end D

set_option Elab.async false
set_option linter.all false
set_option maxRecDepth 100000
set_option maxHeartbeats 0
namespace D.k64
open PySem PySem.Spec L2 PyProof.Rows D
def topS (i : Nat) : Stmt := PySem.Challenge.pw_councilwise_k64_whole_the_majoritys_plan.main.body.getD i (.Pass ⟨0, 0, 0, 0⟩)
def innS (i j : Nat) : Stmt := match topS i with
  | .ClassDef _ _ _ b _ _ _ _ _ _ _ => b.getD j (.Pass ⟨0, 0, 0, 0⟩)
  | s => s
def tbl : List DE := [
  ⟨"Plans.__init__", ⟨("Plans", some "__init__"), "__init__", "Plans.__init__", defArgs (innS 5 0), defBody (innS 5 0), defScope (innS 5 0), [], []⟩, ["self", "questions", "can"], ["self", "questions", "can", "number", "flag"], f_Plans____init__, false⟩,
  ⟨"Plans.code_of", ⟨("Plans", some "code_of"), "code_of", "Plans.code_of", defArgs (innS 5 1), defBody (innS 5 1), defScope (innS 5 1), [], []⟩, ["self", "answer"], ["self", "answer"], f_Plans__code_of, false⟩,
  ⟨"Plans.answer_of", ⟨("Plans", some "answer_of"), "answer_of", "Plans.answer_of", defArgs (innS 5 2), defBody (innS 5 2), defScope (innS 5 2), [], []⟩, ["self", "code"], ["self", "code"], f_Plans__answer_of, false⟩,
  ⟨"Plans.codes_of", ⟨("Plans", some "codes_of"), "codes_of", "Plans.codes_of", defArgs (innS 5 3), defBody (innS 5 3), defScope (innS 5 3), [], []⟩, ["self", "answers"], ["self", "answers", "answer"], f_Plans__codes_of, true⟩,
  ⟨"Plans.lot_of", ⟨("Plans", some "lot_of"), "lot_of", "Plans.lot_of", defArgs (innS 5 4), defBody (innS 5 4), defScope (innS 5 4), [], []⟩, ["self", "codes"], ["self", "codes", "code"], f_Plans__lot_of, true⟩,
  ⟨"Plans.number_of", ⟨("Plans", some "number_of"), "number_of", "Plans.number_of", defArgs (innS 5 5), defBody (innS 5 5), defScope (innS 5 5), [], []⟩, ["self", "plan"], ["self", "plan", "number", "answer"], f_Plans__number_of, false⟩,
  ⟨"Plans.codes_at", ⟨("Plans", some "codes_at"), "codes_at", "Plans.codes_at", defArgs (innS 5 6), defBody (innS 5 6), defScope (innS 5 6), [], []⟩, ["self", "number"], ["self", "number", "last", "place"], f_Plans__codes_at, true⟩,
  ⟨"Plans.plan_of", ⟨("Plans", some "plan_of"), "plan_of", "Plans.plan_of", defArgs (innS 5 7), defBody (innS 5 7), defScope (innS 5 7), [], []⟩, ["self", "number"], ["self", "number"], f_Plans__plan_of, false⟩,
  ⟨"Plans.bits_of", ⟨("Plans", some "bits_of"), "bits_of", "Plans.bits_of", defArgs (innS 5 8), defBody (innS 5 8), defScope (innS 5 8), [], []⟩, ["self", "codes"], ["self", "codes", "mask", "want", "code", "bit"], f_Plans__bits_of, false⟩,
  ⟨"flags_of", ⟨("flags_of", none), "flags_of", "flags_of", defArgs (topS 6), defBody (topS 6), defScope (topS 6), [], []⟩, ["agenda"], ["agenda", "maker", "left", "bar", "questions", "bars", "mask", "want", "number"], f_flags_of, false⟩,
  ⟨"flags_from", ⟨("flags_from", none), "flags_from", "flags_from", defArgs (topS 7), defBody (topS 7), defScope (topS 7), [], []⟩, ["questions", "numbers"], ["questions", "numbers", "can", "number"], f_flags_from, false⟩,
  ⟨"plans_in", ⟨("plans_in", none), "plans_in", "plans_in", defArgs (topS 8), defBody (topS 8), defScope (topS 8), [], []⟩, ["agenda"], ["agenda"], f_plans_in, false⟩,
  ⟨"far_sums", ⟨("far_sums", none), "far_sums", "far_sums", defArgs (topS 10), defBody (topS 10), defScope (topS 10), [], []⟩, ["inner", "numbers"], ["inner", "numbers", "totals", "shift", "yeses", "costs", "number", "total"], f_far_sums, true⟩,
  ⟨"nearest_plans", ⟨("nearest_plans", none), "nearest_plans", "nearest_plans", defArgs (topS 11), defBody (topS 11), defScope (topS 11), [], []⟩, ["agenda", "ballots"], ["agenda", "ballots", "inner", "totals", "least", "ballot", "number", "total"], f_nearest_plans, true⟩,
  ⟨"majority_plan", ⟨("majority_plan", none), "majority_plan", "majority_plan", defArgs (topS 12), defBody (topS 12), defScope (topS 12), [], []⟩, ["ballots"], ["ballots", "answers", "place", "answer", "yeses", "ballot"], f_majority_plan, true⟩,
  ⟨"is_number", ⟨("is_number", none), "is_number", "is_number", defArgs (topS 14), defBody (topS 14), defScope (topS 14), [], []⟩, ["value"], ["value"], f_is_number, false⟩,
  ⟨"is_between", ⟨("is_between", none), "is_between", "is_between", defArgs (topS 15), defBody (topS 15), defScope (topS 15), [], []⟩, ["value", "low", "high"], ["value", "low", "high"], f_is_between, false⟩,
  ⟨"is_pair", ⟨("is_pair", none), "is_pair", "is_pair", defArgs (topS 16), defBody (topS 16), defScope (topS 16), [], []⟩, ["value"], ["value"], f_is_pair, false⟩,
  ⟨"is_question", ⟨("is_question", none), "is_question", "is_question", defArgs (topS 17), defBody (topS 17), defScope (topS 17), [], []⟩, ["questions", "value"], ["questions", "value"], f_is_question, false⟩,
  ⟨"is_answer", ⟨("is_answer", none), "is_answer", "is_answer", defArgs (topS 18), defBody (topS 18), defScope (topS 18), [], []⟩, ["questions", "value"], ["questions", "value"], f_is_answer, false⟩,
  ⟨"is_lot", ⟨("is_lot", none), "is_lot", "is_lot", defArgs (topS 19), defBody (topS 19), defScope (topS 19), [], []⟩, ["questions", "value"], ["questions", "value", "last", "answer"], f_is_lot, false⟩,
  ⟨"is_plan", ⟨("is_plan", none), "is_plan", "is_plan", defArgs (topS 20), defBody (topS 20), defScope (topS 20), [], []⟩, ["questions", "value"], ["questions", "value"], f_is_plan, false⟩,
  ⟨"is_allowed", ⟨("is_allowed", none), "is_allowed", "is_allowed", defArgs (topS 22), defBody (topS 22), defScope (topS 22), [], []⟩, ["agenda", "value"], ["agenda", "value", "inner"], f_is_allowed, false⟩,
  ⟨"_law_reel", ⟨("_law_reel", none), "_law_reel", "_law_reel", defArgs (topS 24), defBody (topS 24), defScope (topS 24), [], []⟩, ["script"], ["script", "great", "mixed", "cell"], f__law_reel, false⟩,
  ⟨"_law_next", ⟨("_law_next", none), "_law_next", "_law_next", defArgs (topS 25), defBody (topS 25), defScope (topS 25), [], []⟩, ["reel", "many"], ["reel", "many", "got"], f__law_next, false⟩,
  ⟨"_law_one", ⟨("_law_one", none), "_law_one", "_law_one", defArgs (topS 26), defBody (topS 26), defScope (topS 26), [], []⟩, ["reel", "row"], ["reel", "row"], f__law_one, false⟩,
  ⟨"_law_mixed", ⟨("_law_mixed", none), "_law_mixed", "_law_mixed", defArgs (topS 27), defBody (topS 27), defScope (topS 27), [], []⟩, ["reel", "row"], ["reel", "row", "rest", "k"], f__law_mixed, false⟩,
  ⟨"_law_alike", ⟨("_law_alike", none), "_law_alike", "_law_alike", defArgs (topS 28), defBody (topS 28), defScope (topS 28), [], []⟩, ["told", "due"], ["told", "due", "k"], f__law_alike, false⟩,
  ⟨"_law_names", ⟨("_law_names", none), "_law_names", "_law_names", defArgs (topS 29), defBody (topS 29), defScope (topS 29), [], []⟩, ["reel", "many"], ["reel", "many", "end", "letter"], f__law_names, false⟩,
  ⟨"_law_all_plans", ⟨("_law_all_plans", none), "_law_all_plans", "_law_all_plans", defArgs (topS 31), defBody (topS 31), defScope (topS 31), [], []⟩, ["questions"], ["questions", "found", "question"], f__law_all_plans, false⟩,
  ⟨"_law_longer", ⟨("_law_longer", none), "_law_longer", "_law_longer", defArgs (topS 32), defBody (topS 32), defScope (topS 32), [], []⟩, ["found", "question"], ["found", "question", "one"], f__law_longer, false⟩,
  ⟨"_law_plans", ⟨("_law_plans", none), "_law_plans", "_law_plans", defArgs (topS 33), defBody (topS 33), defScope (topS 33), [], []⟩, ["agenda"], ["agenda", "questions", "bars", "plan", "bar", "answer"], f__law_plans, false⟩,
  ⟨"_law_clashes", ⟨("_law_clashes", none), "_law_clashes", "_law_clashes", defArgs (topS 34), defBody (topS 34), defScope (topS 34), [], []⟩, ["questions", "allowed"], ["questions", "allowed", "lots", "question", "clashes", "lot", "plan", "one", "answer"], f__law_clashes, false⟩,
  ⟨"_law_with_bars", ⟨("_law_with_bars", none), "_law_with_bars", "_law_with_bars", defArgs (topS 35), defBody (topS 35), defScope (topS 35), [], []⟩, ["reel", "questions", "allowed"], ["reel", "questions", "allowed", "least", "others", "bars", "plan"], f__law_with_bars, false⟩,
  ⟨"_law_kind", ⟨("_law_kind", none), "_law_kind", "_law_kind", defArgs (topS 36), defBody (topS 36), defScope (topS 36), [], []⟩, ["reel", "many"], ["reel", "many", "places", "way", "signs", "some", "hits", "n", "k", "one"], f__law_kind, false⟩,
  ⟨"_law_linked", ⟨("_law_linked", none), "_law_linked", "_law_linked", defArgs (topS 37), defBody (topS 37), defScope (topS 37), [], []⟩, ["reel", "most"], ["reel", "most", "many", "questions", "premises", "rules", "allowed", "n", "line", "plan", "question", "k"], f__law_linked, false⟩,
  ⟨"_law_drawn", ⟨("_law_drawn", none), "_law_drawn", "_law_drawn", defArgs (topS 38), defBody (topS 38), defScope (topS 38), [], []⟩, ["reel", "most"], ["reel", "most", "way", "questions", "some", "agenda"], f__law_drawn, false⟩,
  ⟨"_law_apart", ⟨("_law_apart", none), "_law_apart", "_law_apart", defArgs (topS 39), defBody (topS 39), defScope (topS 39), [], []⟩, ["one", "other"], ["one", "other", "answer"], f__law_apart, false⟩,
  ⟨"_law_far", ⟨("_law_far", none), "_law_far", "_law_far", defArgs (topS 40), defBody (topS 40), defScope (topS 40), [], []⟩, ["plan", "ballots"], ["plan", "ballots", "one"], f__law_far, false⟩,
  ⟨"_law_nearest", ⟨("_law_nearest", none), "_law_nearest", "_law_nearest", defArgs (topS 41), defBody (topS 41), defScope (topS 41), [], []⟩, ["allowed", "ballots"], ["allowed", "ballots", "least", "plan"], f__law_nearest, false⟩,
  ⟨"_law_majority", ⟨("_law_majority", none), "_law_majority", "_law_majority", defArgs (topS 42), defBody (topS 42), defScope (topS 42), [], []⟩, ["ballots"], ["ballots", "found", "k", "question", "plan"], f__law_majority, false⟩,
  ⟨"law", ⟨("law", none), "law", "law", defArgs (topS 43), defBody (topS 43), defScope (topS 43), [], []⟩, ["script"], ["script", "reel", "turn", "agenda", "allowed", "ballots", "told", "number", "due", "near", "k", "lot"], f_law, false⟩]
def lw : Lw := ⟨tbl, ["int", "str", "bool", "list", "tuple", "range", "enumerate", "zip", "dict", "len", "abs", "min", "max", "sum", "sorted", "isinstance"], [("Plans", ["names", "many", "can", "allowed"])], ["Even"], ancs, []⟩
theorem keys_ok : lw.keys = true := by decide +kernel
theorem lw_ok : lw.ok = true := by decide +kernel
theorem find_look (f : String) : ∀ T : List DE, (T.find? fun e => e.key == f).map (·.fn) = lookF f (T.map fun e => (e.key, e.fn))
  | [] => rfl
  | e :: T => by
    rw [List.find?_cons, List.map_cons]
    unfold lookF
    by_cases q : f = e.key
    · rw [if_pos q, q, beq_self_eq_true]; rfl
    · rw [if_neg q, beq_eq_false_iff_ne.mpr (Ne.symm q)]; exact find_look f T
theorem tbl_fns : tbl.map (fun e => (e.key, e.fn)) = fns := rfl
theorem lw_pg : lw.pg = pg := by
  unfold Lw.pg pg
  congr 1
  funext f
  rw [show lw.T = tbl from rfl, find_look, tbl_fns]
def loose0 : List Str := ["_wall", "__name__", "CouncilError", "Even", "Plans", "flags_of", "flags_from", "plans_in", "far_sums", "nearest_plans", "majority_plan", "is_number", "is_between", "is_pair", "is_question", "is_answer", "is_lot", "is_plan", "is_allowed", "_law_reel", "_law_next", "_law_one", "_law_mixed", "_law_alike", "_law_names", "_law_subsets", "_law_all_plans", "_law_longer", "_law_plans", "_law_clashes"]
def loose1 : List Str := ["_law_with_bars", "_law_kind", "_law_linked", "_law_drawn", "_law_apart", "_law_far", "_law_nearest", "_law_majority"]
def loose : List Str := loose0 ++ loose1
abbrev R : PySem.W.OpenRow := PySem.W.OpenLaw.row PySem.Challenge.rw_councilwise_k64_whole_the_majoritys_plan
abbrev qv : Program := PySem.W.view R.prog [43]
abbrev hk : PySem.W.Hook := He.hookX 7 lw.fa lw.fn [] lw.tf noLists
def ob (s : PySem.W.SharedT) : He.AlX := He.obsX 7 lw.fa lw.fn [] lw.tf noLists (HandSHeadRun.getT s)
theorem ob_eq (s : PySem.W.SharedT) : ob s = hk.obs s.abs := He.obsX_eq (HandSHeadRun.getT_eq s)
theorem headRun (w : World) : HandSHeadRun.RunEq R qv hk ob 3000 loose w := by
  intro os
  kernel_rfl
end D.k64

set_option Elab.async false
set_option linter.all false
set_option maxRecDepth 100000
set_option maxHeartbeats 0
namespace D.k64
open PySem PySem.Spec PyProof.Rows L2
def eLaw : DE := (tbl.getLast?).getD ⟨"", ⟨("", none), "", "", defArgs (topS 0), defBody (topS 0), defScope (topS 0), [], []⟩, [], [], ⟨0, 0, .nil, false⟩, false⟩
theorem eLaw_mem : eLaw ∈ lw.T := List.mem_of_getLast? (by rfl)
theorem pure : ∀ ns : List Int, ns.length ≤ 63 → (∀ z ∈ ns, Builtin.Int.intBits z ≤ 1048576) → ∃ h', callN lw.pg 30 "law" [.pv (.lst (ns.map PV.int))] [] = .ok (.pv (.bl true)) h' := by
  intro ns h1 h2
  rw [lw_pg]
  exact law_eq 21 ns h1
end D.k64
open PySem PySem.W PySem.Calls PyProof.Rows D.k64
theorem PySem.Challenge.cw_councilwise_k64_whole_the_majoritys_plan_holds : PySem.Challenge.rw_councilwise_k64_whole_the_majoritys_plan.Holds := by
  w_on; o_law
  refine HandSHeadRun.head_any (r := R) (q := qv) (H := hk) (ob := ob) (M := 3000) (loose := loose) (d := HandSHeadRun.topDef R.prog 43) (kwd := []) ob_eq
    (by kernel_rfl) (fun s => by kernel_rfl) headRun (by kernel_rfl) (by kernel_rfl) (by kernel_rfl) (by rfl) (by first | assumption | decide +kernel) (by decide +kernel) ⟨rfl, rfl, rfl, rfl, rfl, by decide +kernel⟩ ?hw ?hc
  case hw => w_witness2
  case hc => exact D.walk_law (n := 63) (N := 30) (e := eLaw) rfl (by decide) (by decide) (by kernel_rfl) ⟨rfl, by decide, by decide⟩ eLaw_mem (by kernel_rfl) (by kernel_rfl) (by kernel_rfl) lw_ok keys_ok pure

