import PyProof.Rows.All
import Wide.All
import OpenK.AllK
import Wide.FinOn
import HandS.ForMost
import KE.KIntText
import HandS.Slots
import HandS.SlotsOwn
import HandS.ExcInit
import HandS.IsInst
import HandS.Lambda
import HandS.ForExc
import HandS.ExcValue
import HandS.Wide
import PyProof.Rows.StrOr
import HandS.TupAny
import HandS.TupMul
import HandS.StrMore
import HandS.Deep
import HandS.RaiseMore
import HandS.Conv
import HandS.Dict
import HandS.Style
import KE.KExcSuper
import HandS.IterNext
import HandS.Walk
import HandS.ExcIs
import HandS.FStr
import HandS.Star
import HandS.Zip
import OpenK.KOps
import KE.KOpsOwn
import PyProof.FactsAll.int_1
import HandS.New
import HandS.ExcOwn
import HandS.Codes
import HandS.Ends
import HandS.EndBits
import HandS.EndTab
import HandS.Defaults
import PyProof.StrLawsRepr
import PyProof.ReprLen
import PyProof.StrLawsChain
import PyProof.StrLawsTight
import PySem.Challenge.RW_loosemirrors_k01_ratios_made
import PyProof.Rows.ReprOcc
set_option Elab.async false
set_option linter.all false
set_option maxRecDepth 100000
set_option maxHeartbeats 4000000
/-! G1: the values, the store, the IR, its meaning. -/
namespace G
open PySem

/-- a value of the interpreter: what never changes is told whole, what may change by its number in the store -/
inductive D where
  | non | bl (b : Bool) | int (i : Int) | str (s : Str) | tup (xs : List D) | obj (n : Nat)
  | ins (c : Nat) (xs : List D) | exc (c : Nat) (v : D) | fn (f : Nat) | cls (c : Nat) | ty (n : String) | scr (xs : List Int)
  deriving Inhabited
mutual
def D.beq : D → D → Bool
  | .non, .non => true
  | .bl a, .bl b => a == b
  | .int a, .int b => decide (a = b)
  | .str a, .str b => decide (a = b)
  | .tup a, .tup b => D.beqL a b
  | .obj a, .obj b => a == b
  | .ins c a, .ins d b => c == d && D.beqL a b
  | .exc c a, .exc d b => c == d && D.beq a b
  | .fn a, .fn b => a == b
  | .cls a, .cls b => a == b
  | .ty a, .ty b => a == b
  | .scr a, .scr b => decide (a = b)
  | _, _ => false
def D.beqL : List D → List D → Bool
  | [], [] => true
  | x :: xs, y :: ys => D.beq x y && D.beqL xs ys
  | _, _ => false
end
mutual
theorem D.beq_eq : ∀ (x y : D), D.beq x y = true → x = y
  | .non, y, h => by cases y <;> simp_all [D.beq]
  | .bl a, y, h => by cases y <;> simp_all [D.beq]
  | .int a, y, h => by cases y <;> simp_all [D.beq]
  | .str a, y, h => by cases y <;> simp_all [D.beq]
  | .tup a, y, h => by
    cases y <;> simp [D.beq] at h
    rw [D.beqL_eq _ _ h]
  | .obj a, y, h => by cases y <;> simp_all [D.beq]
  | .ins c a, y, h => by
    cases y <;> simp [D.beq] at h
    rw [h.1, D.beqL_eq _ _ h.2]
  | .exc c a, y, h => by
    cases y <;> simp [D.beq] at h
    rw [h.1, D.beq_eq _ _ h.2]
  | .fn a, y, h => by cases y <;> simp_all [D.beq]
  | .cls a, y, h => by cases y <;> simp_all [D.beq]
  | .ty a, y, h => by cases y <;> simp_all [D.beq]
  | .scr a, y, h => by cases y <;> simp_all [D.beq]
theorem D.beqL_eq : ∀ (x y : List D), D.beqL x y = true → x = y
  | [], y, h => by cases y <;> simp_all [D.beqL]
  | a :: xs, y, h => by
    cases y <;> simp [D.beqL] at h
    rw [D.beq_eq _ _ h.1, D.beqL_eq _ _ h.2]
end
mutual
theorem D.beq_refl : ∀ (x : D), D.beq x x = true
  | .non => rfl
  | .bl a => by simp [D.beq]
  | .int a => by simp [D.beq]
  | .str a => by simp [D.beq]
  | .tup a => by simp [D.beq, D.beqL_refl a]
  | .obj a => by simp [D.beq]
  | .ins c a => by simp [D.beq, D.beqL_refl a]
  | .exc c a => by simp [D.beq, D.beq_refl a]
  | .fn a => by simp [D.beq]
  | .cls a => by simp [D.beq]
  | .ty a => by simp [D.beq]
  | .scr a => by simp [D.beq]
theorem D.beqL_refl : ∀ (x : List D), D.beqL x x = true
  | [] => rfl
  | a :: xs => by simp [D.beqL, D.beq_refl a, D.beqL_refl xs]
end
instance : DecidableEq D := fun x y => match h : D.beq x y with
  | true => .isTrue (D.beq_eq x y h)
  | false => .isFalse fun e => by rw [e, D.beq_refl] at h; cases h

/-- what stands in the store -/
inductive O where
  | lst (xs : List D)
  | dic (kvs : List (D × D))
  | sl (c : Nat) (fs : List (Option D))
  | ins (c : Nat) (fs : List (Nat × D))
  | gone
  deriving DecidableEq, Inhabited
abbrev Store := List O

/-! ### no number from n on -/
mutual
def D.lt (n : Nat) : D → Bool
  | .tup xs => D.ltL n xs
  | .obj k => Nat.blt k n
  | .ins _ xs => D.ltL n xs
  | .exc _ v => D.lt n v
  | _ => true
def D.ltL (n : Nat) : List D → Bool
  | [] => true
  | x :: xs => D.lt n x && D.ltL n xs
end
def O.lt (n : Nat) : O → Bool
  | .lst xs => D.ltL n xs
  | .dic kvs => kvs.all fun p => D.lt n p.1 && D.lt n p.2
  | .sl _ fs => fs.all fun o => match o with | some d => D.lt n d | none => true
  | .ins _ fs => fs.all fun p => D.lt n p.2
  | .gone => true

/-! ### results -/
inductive R (α : Type) where
  | ok (a : α) (s : Store)
  | exc (c : Nat) (v : D) (s : Store)
  | stuck
def M (α : Type) := Store → R α
@[reducible] def M.pure {α : Type} (a : α) : M α := fun s => .ok a s
def M.bind {α β : Type} (m : M α) (f : α → M β) : M β := fun s => match m s with
  | .ok a s => f a s
  | .exc c v s => .exc c v s
  | .stuck => .stuck
instance : Monad M where
  pure := M.pure
  bind := M.bind
def stuck {α : Type} : M α := fun _ => .stuck
def raise {α : Type} (c : Nat) (v : D) : M α := fun s => .exc c v s
def need (b : Bool) : M Unit := fun s => match b with | true => .ok () s | false => .stuck
def ofO {α : Type} : Option α → M α
  | some a => fun s => .ok a s
  | none => stuck
def getO (n : Nat) : M O := fun s => match s[n]? with
  | some o => .ok o s
  | none => .stuck
def setO (n : Nat) (o : O) : M Unit := fun s => .ok () (s.set n o)
def newO (o : O) : M D := fun s => .ok (.obj s.length) (s ++ [o])

section
variable {α β : Type}
@[simp] theorem pure_run (a : α) (s : Store) : (pure a : M α) s = .ok a s := rfl
@[simp] theorem bind_run (m : M α) (f : α → M β) (s : Store) : (m >>= f) s = match m s with | .ok a s => f a s | .exc c v s => .exc c v s | .stuck => .stuck := rfl
@[simp] theorem stuck_run (s : Store) : (stuck : M α) s = .stuck := rfl
@[simp] theorem raise_run (c : Nat) (v : D) (s : Store) : (raise c v : M α) s = .exc c v s := rfl
@[simp] theorem need_true (s : Store) : need true s = .ok () s := rfl
@[simp] theorem need_false (s : Store) : need false s = .stuck := rfl
@[simp] theorem ofO_some (a : α) (s : Store) : (ofO (some a)) s = .ok a s := rfl
@[simp] theorem ofO_none (s : Store) : (ofO (none : Option α)) s = .stuck := rfl
@[simp] theorem newO_run (o : O) (s : Store) : newO o s = .ok (.obj s.length) (s ++ [o]) := rfl
@[simp] theorem setO_run (n : Nat) (o : O) (s : Store) : setO n o s = .ok () (s.set n o) := rfl
theorem getO_run (n : Nat) (s : Store) : getO n s = match s[n]? with | some o => .ok o s | none => .stuck := rfl
theorem getO_some {n : Nat} {s : Store} {o : O} (h : s[n]? = some o) : getO n s = .ok o s := by rw [getO_run, h]
end

/-! ### the IR -/
/-- classes as isinstance asks for them -/
inductive Cl where
  | ty (n : String) | own (c : Nat)
  deriving DecidableEq
/-- operations on values -/
inductive Pr where
  | add | sub | mul | fdiv | mod | pow | neg | inv
  | eq | ne | lt | le | gt | ge | isN | isnotN | inn | notin
  | idx | slRev | slice (lo hi : Bool)
  | len | abs | int1 | max2 | min2 | str1 | repr | tuple1 | list1 | all1 | any1
  | isi
  | join | split | startswith | removeprefix
  | append | extend | pop | fmt | fmtR
  | tup | lst | dic0 | dicS (ks : List D)
  deriving DecidableEq
/-- targets -/
inductive Tg where
  | n (i : Nat) | t (ts : List Tg)
  deriving Inhabited
mutual
def Tg.slots : Tg → List Nat
  | .n i => [i]
  | .t ts => Tg.slotsL ts
def Tg.slotsL : List Tg → List Nat
  | [] => []
  | a :: l => a.slots ++ Tg.slotsL l
end
mutual
inductive E where
  | var (i : Nat) | con (d : D)
  | prim (p : Pr) (as : List E) | bm (p : Pr) (o : E) (as : List E)
  | call (f : Nat) (as : List E)
  | make (c : Nat) (as : List E)
  | meth (m : Nat) (o : E) (as : List E)
  | att (a : Nat) (o : E)
  | and (a b : E) | or (a b : E) | not (a : E) | ifx (t a b : E)
  | chain (p q : Pr) (a b c : E)
  | comp (tg : Tg) (own : List Nat) (it : It) (ifs : Option E) (elt : E)
  | lrange (e : E)
  | slc (o : E) (lo hi : Option E)
  | told (c : Nat) (body : E)
  | refd (c : Nat) (body v r : E)
  | tups (as : List E)
  | fstr (parts : List E)
  | never
/-- what is walked -/
inductive It where
  | seq (e : E) | range1 (e : E) | range2 (a b : E) | enum (e : E) | zip (a b : E) | items (e : E) | never
end
instance : Inhabited E := ⟨.never⟩
instance : Inhabited It := ⟨.never⟩
inductive S where
  | expr (e : E) | asg (t : Tg) (e : E) | ret (e : E) | retN
  | ifS (c : E) (a b : List S) | forS (t : Tg) (it : It) (b : List S) | whileS (c : E) (b : List S)
  | setAtt (a : Nat) (o v : E) | setIdx (o i v : E) | raise (c : Nat) (e : E)
  | tryAs (b : List S) (c : Nat) (i : Nat) (h : List S) | tryOnly (b : List S) (c : Nat) (h : List S)
  | pass | brk | cont | never
  deriving Inhabited

/-- a def: how many names it has (parameters first), how many parameters, its body -/
structure Fn where
  names : Nat
  pars : Nat
  body : List S
inductive Kind where
  | slots | inst | exc
  deriving DecidableEq
/-- a class: the attributes in its slots, its methods, its properties, whether its instances never change behind __init__, its own classes by mro -/
structure Cls where
  kind : Kind
  slots : List Nat
  meths : List (Nat × Nat)
  props : List (Nat × Nat)
  value : Bool
  mro : List Nat
structure Tab where
  fns : List (Nat × Fn)
  cls : List (Nat × Cls)
  /-- whether it may ask for the repr of a list, a tuple, a dict -/
  rp : Bool := true
/-- .. it may not -/
def Tab.t0 (T : Tab) : Tab := { T with rp := false }
def Tab.fn (T : Tab) (f : Nat) : Option Fn := T.fns.lookup f
def Tab.cl (T : Tab) (c : Nat) : Option Cls := T.cls.lookup c

abbrev Env := List (Option D)
def envGet (σ : Env) (i : Nat) : M D := fun s => match σ[i]? with
  | some (some d) => .ok d s
  | _ => .stuck
theorem envGet_run (σ : Env) (i : Nat) (s : Store) : envGet σ i s = match σ[i]? with | some (some d) => .ok d s | _ => .stuck := rfl
inductive Fl where
  | nx (σ : Env) | rt (d : D) | bk (σ : Env) | ct (σ : Env) | xc (σ : Env) (c : Nat) (v : D)
end G
set_option Elab.async false
set_option linter.all false
set_option maxRecDepth 100000
set_option maxHeartbeats 4000000
/-! G2: the meaning of the IR. -/
namespace G
open PySem L2

/-! ### data without objects of one's own -/
def oAll {α : Type} : List (Option α) → Option (List α)
  | [] => some []
  | some a :: r => match oAll r with
    | some l => some (a :: l)
    | none => none
  | none :: _ => none
def toP (s : Store) : Nat → D → Option PyData
  | 0, _ => none
  | n + 1, d => match d with
    | .non => some .none
    | .bl b => some (.bool b)
    | .int i => some (.int i)
    | .str x => some (.str x)
    | .tup xs => (oAll (xs.map (toP s n))).map PyData.tuple
    | .obj k => match s[k]? with
      | some (.lst xs) => (oAll (xs.map (toP s n))).map PyData.list
      | some (.dic kvs) => match oAll (kvs.map fun p => toP s n p.1), oAll (kvs.map fun p => toP s n p.2) with
        | some a, some b => some (.dict (a.zip b))
        | _, _ => none
      | _ => none
    | _ => none
def deep : Nat := 40
abbrev line : Nat := 16777216

/-! ### what a run needs: the tables, the calls of defs, the turns of a while -/
structure Ct where
  T : Tab
  call : Nat → List D → M D
  w : Nat
  /-- calls of defs below the repr of a tuple -/
  call0 : Nat → List D → M D
/-- names of methods that operators ask for -/
abbrev mAdd : Nat := 1
abbrev mSub : Nat := 2
abbrev mMul : Nat := 3
abbrev mEq : Nat := 4
abbrev mLt : Nat := 5
abbrev mLe : Nat := 6
abbrev mGt : Nat := 7
abbrev mGe : Nat := 8
abbrev mNeg : Nat := 9
abbrev mInv : Nat := 10
abbrev mLen : Nat := 11
abbrev mGet : Nat := 12
abbrev mIn : Nat := 13
abbrev mRadd : Nat := 14
abbrev mRsub : Nat := 15
abbrev mRmul : Nat := 16
abbrev mRepr : Nat := 17
abbrev mInit : Nat := 20
abbrev aValue : Nat := 1

/-- the class of an instance -/
def clsOf (s : Store) : D → Option Nat
  | .ins c _ => some c
  | .obj n => match s[n]? with
    | some (.sl c _) => some c
    | some (.ins c _) => some c
    | _ => none
  | _ => none
def Tab.meth (T : Tab) (c m : Nat) : Option Nat := match T.cl c with
  | some k => k.meths.lookup m
  | none => none
/-- the def of a value's class for a method -/
def methOf (ct : Ct) (d : D) (m : Nat) : M (Option Nat) := fun s => .ok (match clsOf s d with
  | some c => ct.T.meth c m
  | none => none) s

/-! ### truth, order, equality -/
def truth : D → M Bool
  | .non => pure false
  | .bl b => pure b
  | .int i => pure (i != 0)
  | .str x => do
    need (Nat.ble x.length line)
    pure (x.length != 0)
  | .tup xs => pure (!xs.isEmpty)
  | .obj n => do match ← getO n with
    | .lst xs => pure (!xs.isEmpty)
    | .dic kvs => pure (!kvs.isEmpty)
    | _ => stuck
  | _ => stuck
/-- the items of a list or a tuple -/
def seqOf : D → M (List D)
  | .tup xs => pure xs
  | .obj n => do match ← getO n with
    | .lst xs => pure xs
    | _ => stuck
  | _ => stuck
def asB : D → M Bool
  | .bl b => pure b
  | _ => stuck
/-- flat values -/
def flat : D → Bool
  | .non | .bl _ | .int _ | .str _ => true
  | _ => false
def b2 (b : Bool) : Int := if b then 1 else 0
def eqFlat : D → D → Bool
  | .non, .non => true
  | .bl a, .bl b => a == b
  | .bl a, .int j => b2 a == j
  | .int i, .bl b => i == b2 b
  | .int i, .int j => i == j
  | .str x, .str y => x == y
  | _, _ => false
/-- the type of a value is told -/
def tyOf (s : Store) : D → Option String
  | .non => some "NoneType"
  | .bl _ => some "bool"
  | .int _ => some "int"
  | .str _ => some "str"
  | .tup _ => some "tuple"
  | .obj n => match s[n]? with
    | some (.lst _) => some "list"
    | some (.dic _) => some "dict"
    | _ => none
  | _ => none
def tyKnown (T : Tab) (s : Store) (d : D) : Bool := (tyOf s d).isSome || (clsOf s d).any fun c => (T.cl c).isSome
def hasTy (ct : Ct) (d : D) : M Unit := fun s => if tyKnown ct.T s d then .ok () s else .stuck
/-- a == b -/
def eqD (ct : Ct) (a b : D) : M Bool := do
  match ← methOf ct a mEq with
  | some f => do
    hasTy ct b
    asB (← ct.call f [a, b])
  | none => fun s => match toP s deep a, toP s deep b with
    | some p, some q => if SeqAt.shaped p && SeqAt.shaped q then .ok (PyData.eqv p q) s else .stuck
    | _, _ => .stuck

/-! ### operations -/
def mulOk (i j : Int) : Bool := decide (i.natAbs.log2 + j.natAbs.log2 < 1000000)
def divOk (j : Int) : Bool := decide (j ≠ 0) && decide (j.natAbs.log2 < 9000)
def fdivI (i j : Int) : Int := if 0 < j then i / j else i.fdiv j
def powOk (i j : Int) : Bool := decide (0 ≤ j) && decide (j ≤ 1000) && decide (i.natAbs.log2 < 50000)
def atN (xs : List D) (i : Int) : Option D := if 0 ≤ i then xs[i.toNat]? else if -(xs.length : Int) ≤ i then xs[(i + xs.length).toNat]? else none
def newL (xs : List D) : M D := do
  need (Nat.ble xs.length line)
  newO (.lst xs)
/-- a sign of a text by its place -/
def chAt (x : Str) (i : Int) : Option Nat := if 0 ≤ i then x.cps.toList[i.toNat]? else if -(x.length : Int) ≤ i then x.cps.toList[(i + x.length).toNat]? else none
def cutD {α : Type} (xs : List α) (lo hi : Option Int) : List α := (xs.drop (HT.sIx xs.length 0 lo)).take (HT.sIx xs.length xs.length hi - HT.sIx xs.length 0 lo)
def lenD (ct : Ct) (d : D) : M Int := match d with
  | .str x => do
    need (Nat.ble x.length line)
    pure x.length
  | .tup xs => pure xs.length
  | .scr xs => pure xs.length
  | d => do match ← methOf ct d mLen with
    | some f => do match ← ct.call f [d] with
      | .int i => do
        need (decide (0 ≤ i) && decide (i < 2 ^ 62))
        pure i
      | _ => stuck
    | none => match d with
      | .obj n => do match ← getO n with
        | .lst xs => pure xs.length
        | .dic kvs => pure kvs.length
        | _ => stuck
      | _ => stuck
/-- the class of an instance or an exception -/
def clsX (s : Store) (d : D) : Option Nat := match d with
  | .exc c _ => some c
  | d => clsOf s d
def tyNames : List String := ["int", "bool", "str", "tuple", "list", "dict"]
def isExc (d : D) : Bool := match d with
  | .exc _ _ => true
  | _ => false
def isiD (ct : Ct) (d : D) (c : Cl) : M Bool := fun s => match tyOf s d with
  | some u => match c with
    | .ty t => if tyNames.contains t then .ok (u == t || (u == "bool" && t == "int")) s else .stuck
    | .own m => match ct.T.cl m with
      | none => .stuck
      | some _ => .ok false s
  | none => match clsX s d with
    | none => .stuck
    | some k => match ct.T.cl k with
      | none => .stuck
      | some x => if (x.kind == .exc) == isExc d then (match c with
        | .ty t => if tyNames.contains t || t == "ValueError" then .ok (t == "ValueError" && x.kind == .exc) s else .stuck
        | .own m => match ct.T.cl m with
          | none => .stuck
          | some _ => .ok (x.mro.contains m) s) else .stuck
def strsD : List D → Option (List Str)
  | [] => some []
  | .str x :: r => match strsD r with
    | some l => some (x :: l)
    | none => none
  | _ :: _ => none
def joinD (sep : D) (xs : List D) : M D := match sep, strsD xs with
  | .str x, some l => do
    need (Nat.ble ((l.map (·.length)).sum + x.length * l.length) line)
    pure (.str (Txt.join x l))
  | _, _ => stuck
def bools : List D → Option (List Bool)
  | [] => some []
  | .bl x :: r => match bools r with
    | some l => some (x :: l)
    | none => none
  | _ :: _ => none
/-- x in a row: flat values -/
def inRow (x : D) (xs : List D) : M Bool := do
  need (flat x && xs.all flat)
  pure (xs.any fun y => eqFlat y x)
def upto (n : Nat) : Nat → List D
  | 0 => []
  | k + 1 => .int n :: upto (n + 1) k
def intsD (a : Int) : Nat → List D
  | 0 => []
  | k + 1 => .int a :: intsD (a + 1) k
/-- an own method as an operator -/
def own2 (ct : Ct) (m : Nat) (a b : D) : M D := do match ← methOf ct a m with
  | some f => ct.call f [a, b]
  | none => stuck
def own1 (ct : Ct) (m : Nat) (a : D) : M D := do match ← methOf ct a m with
  | some f => ct.call f [a]
  | none => stuck
def isIns : D → Bool
  | .ins _ _ => true
  | _ => false
/-- an operator that a class answers: m from the left, r from the right -/
def ownBin (ct : Ct) (m r : Nat) (a b : D) : M D := match a, b with
  | .ins c xs, .ins d ys => if c = d then own2 ct m (.ins c xs) (.ins d ys) else stuck
  | .ins c xs, .int j => do match ← methOf ct (.ins c xs) r with
    | some _ => own2 ct m (.ins c xs) (.int j)
    | none => stuck
  | .int i, .ins d ys => do match ← methOf ct (.ins d ys) m with
    | some _ => own2 ct r (.ins d ys) (.int i)
    | none => stuck
  | _, _ => stuck
def addD0 (a b : D) : M D := match a, b with
  | .int i, .int j => pure (.int (i + j))
  | .str x, .str y => do
    need (Nat.ble (x.length + y.length) line)
    pure (.str (x ++ y))
  | .tup x, .tup y => do
    need (Nat.ble (x.length + y.length) line)
    pure (.tup (x ++ y))
  | .obj m, .obj n => do match ← getO m, ← getO n with
    | .lst x, .lst y => newL (x ++ y)
    | _, _ => stuck
  | _, _ => stuck
def subD0 (a b : D) : M D := match a, b with
  | .int i, .int j => pure (.int (i - j))
  | _, _ => stuck
/-- a text, so many times -/
def repS (x : Str) (n : Nat) : Str := ⟨(List.replicate n x.cps).foldl (· ++ ·) #[]⟩
def mulD0 (a b : D) : M D := match a, b with
  | .str x, .int j => do
    need (decide (2 ≤ j) && (decide (j ≤ 1000) && (Nat.ble 1 x.length && (Nat.ble x.length 1000 && Nat.ble (repS x j.toNat).length line))))
    pure (.str (repS x j.toNat))
  | .int i, .int j => do
    need (mulOk i j)
    pure (.int (i * j))
  | .tup xs, .int j => do
    need (decide (-(2 ^ 63) ≤ j) && (decide (j < 2 ^ 63) && Nat.ble (xs.length * j.toNat) line))
    pure (.tup (List.replicate j.toNat xs).flatten)
  | .obj n, .int j => do match ← getO n with
    | .lst xs => do
      need (decide (-(2 ^ 63) ≤ j) && decide (j < 2 ^ 63))
      newL (List.replicate j.toNat xs).flatten
    | _ => stuck
  | _, _ => stuck
def addD (ct : Ct) (a b : D) : M D := if isIns a || isIns b then ownBin ct mAdd mRadd a b else addD0 a b
def subD (ct : Ct) (a b : D) : M D := if isIns a || isIns b then ownBin ct mSub mRsub a b else subD0 a b
def mulD (ct : Ct) (a b : D) : M D := if isIns a || isIns b then ownBin ct mMul mRmul a b else mulD0 a b
def fdivD (a b : D) : M D := match a, b with
  | .int i, .int j => do
    need (divOk j)
    pure (.int (fdivI i j))
  | _, _ => stuck
def modD (a b : D) : M D := match a, b with
  | .int i, .int j => do
    need (decide (0 < j))
    pure (.int (i % j))
  | _, _ => stuck
def powD (a b : D) : M D := match a, b with
  | .int i, .int j => do
    need (powOk i j)
    pure (.int (i ^ j.toNat))
  | _, _ => stuck
def negD (ct : Ct) (a : D) : M D := match a with
  | .int i => pure (.int (-i))
  | .ins c xs => own1 ct mNeg (.ins c xs)
  | _ => stuck
def invD (ct : Ct) (a : D) : M D := match a with
  | .ins c xs => own1 ct mInv (.ins c xs)
  | _ => stuck
def ltD0 (a b : D) : M D := match a, b with
  | .int i, .int j => pure (.bl (decide (i < j)))
  | _, _ => stuck
def leD0 (a b : D) : M D := match a, b with
  | .int i, .int j => pure (.bl (decide (i ≤ j)))
  | _, _ => stuck
def gtD0 (a b : D) : M D := match a, b with
  | .int i, .int j => pure (.bl (decide (j < i)))
  | _, _ => stuck
def geD0 (a b : D) : M D := match a, b with
  | .int i, .int j => pure (.bl (decide (j ≤ i)))
  | _, _ => stuck
def ltD (ct : Ct) (a b : D) : M D := if isIns a || isIns b then ownBin ct mLt mGt a b else ltD0 a b
def leD (ct : Ct) (a b : D) : M D := if isIns a || isIns b then ownBin ct mLe mGe a b else leD0 a b
def gtD (ct : Ct) (a b : D) : M D := if isIns a || isIns b then ownBin ct mGt mLt a b else gtD0 a b
def geD (ct : Ct) (a b : D) : M D := if isIns a || isIns b then ownBin ct mGe mLe a b else geD0 a b
/-- x in y -/
def innD (x y : D) : M Bool := match x, y with
  | .str a, .str b => pure (Txt.contains b a)
  | x, .tup ys => inRow x ys
  | x, .obj n => do match ← getO n with
    | .lst ys => inRow x ys
    | _ => stuck
  | _, _ => stuck
def idxD (a i : D) : M D := match a, i with
  | .str x, .int i => do
    need (Nat.ble x.length line)
    match chAt x i with
    | some c => pure (.str ⟨#[c]⟩)
    | none => stuck
  | .scr xs, .int i => match atN (xs.map D.int) i with
    | some d => pure d
    | none => stuck
  | a, .int i => do
    let xs ← seqOf a
    ofO (atN xs i)
  | _, _ => stuck
def sliceD (a : D) (lo hi : Option Int) : M D := match a with
  | .str x => do
    need (Nat.ble x.length line)
    pure (.str (cutS x lo hi))
  | .tup xs => pure (.tup (cutD xs lo hi))
  | .obj n => do match ← getO n with
    | .lst xs => newL (cutD xs lo hi)
    | _ => stuck
  | _ => stuck
/-- what repr shows: small whole numbers at any place, great ones in a tuple or by themselves -/
def okEl (p : PyData) : Bool := match p with
  | .int i => decide (i.natAbs.log2 < 9000)
  | p => PyData.showable p
def okTop (p : PyData) : Bool := match p with
  | .int i => decide (i.natAbs.log2 < 9000)
  | .tuple xs => xs.all okEl
  | p => PyData.showable p
theorem okEl_show {p : PyData} (h : PyData.showable p = true) : okEl p = true := by
  cases p <;> first | exact h | skip
  exact decide_eq_true (Nat.lt_trans (of_decide_eq_true h) (by decide))
theorem okEls_show : ∀ xs : List PyData, PyData.showableAll xs = true → xs.all okEl = true
  | [], _ => rfl
  | x :: xs, h => by
    have h : (PyData.showable x && PyData.showableAll xs) = true := h
    rw [Bool.and_eq_true] at h
    rw [List.all_cons, okEl_show h.1, okEls_show xs h.2]
    rfl
theorem okTop_show {p : PyData} (h : PyData.showable p = true) : okTop p = true := by
  cases p <;> first | exact h | skip
  · exact decide_eq_true (Nat.lt_trans (of_decide_eq_true h) (by decide))
  · exact okEls_show _ h
def reprD (a : D) : M D := fun s => match toP s deep a with
  | some p => if okTop p && (decide (p.depth ≤ 64) && Nat.ble (PyData.shown p).length line) then .ok (.str (PyData.shown p)) s else .stuck
  | none => .stuck
/-- {x}, {x!r} in an f-string -/
def fmtD (a : D) : M D := match a with
  | .str y => do
    need (Nat.ble y.length line)
    pure (.str y)
  | .int i => do
    need (decide (i.natAbs.log2 < 9000))
    pure (.str (toString i))
  | _ => stuck
def fmtRD (a : D) : M D := match a with
  | .str y => do
    need (Nat.ble (PySem.reprText y).length line)
    pure (.str (PySem.reprText y))
  | .int i => do
    need (decide (i.natAbs.log2 < 1920))
    pure (.str (toString i))
  | _ => stuck
/-- an item of a tuple that holds an instance -/
def reprOw (ct : Ct) (d : D) : M Str := do match ← methOf ct d mRepr with
  | some f => do match ← ct.call0 f [d] with
    | .str x => pure x
    | _ => stuck
  | none => stuck
def reprI (ct : Ct) (d : D) : M Str := match d with
  | .int i => do
    need (decide (i.natAbs.log2 < 9000))
    pure (toString i)
  | d => reprOw ct d
def reprIs (ct : Ct) (m : Nat) : List D → M (List Str)
  | [] => pure []
  | d :: ds => do
    need (Nat.blt m line)
    let x ← reprI ct d
    let r ← reprIs ct (m + (x.length + 2)) ds
    pure (x :: r)
def reprT (ct : Ct) (xs : List D) : M D := do
  let ts ← reprIs ct 0 xs
  need (Nat.ble (PySem.tupleText ts).length line)
  pure (.str (PySem.tupleText ts))
def reprN (ct : Ct) (a : D) : M D := fun s => match ct.T.rp with
  | true => match a with
    | .tup xs => match toP s deep a with
      | some _ => reprD a s
      | none => reprT ct xs s
    | _ => reprD a s
  | false => .stuck
/-- .. or what the class says -/
def reprO (ct : Ct) (a : D) : M D := do match ← methOf ct a mRepr with
  | some f => do match ← ct.call f [a] with
    | .str x => pure (.str x)
    | _ => stuck
  | none => reprN ct a
def appendD (o v : D) : M D := match o with
  | .obj n => do match ← getO n with
    | .lst xs => do
      need (Nat.blt xs.length line)
      setO n (.lst (xs ++ [v]))
      pure .non
    | _ => stuck
  | _ => stuck
def extendD (o v : D) : M D := match o, v with
  | .obj n, .obj m => do match ← getO n, ← getO m with
    | .lst xs, .lst ys => do
      need (Nat.ble (xs.length + ys.length) line)
      setO n (.lst (xs ++ ys))
      pure .non
    | _, _ => stuck
  | _, _ => stuck
def popD (o : D) : M D := match o with
  | .obj n => do match ← getO n with
    | .lst xs => match xs[xs.length - 1]? with
      | some y => do
        setO n (.lst xs.dropLast)
        pure y
      | none => stuck
    | _ => stuck
  | _ => stuck
def strD (a : D) : M D := match a with
  | .int i => do
    need (decide (i.natAbs.log2 < 9000))
    pure (.str (toString i))
  | _ => stuck
def int1D (a : D) : M D := match a with
  | .int i => pure (.int i)
  | .bl b => pure (.int (if b then 1 else 0))
  | .str x => match PySem.intText? x with
    | some n => do
      need (Nat.ble x.length 640 || (Nat.blt 640 (PySem.numSeenOf x).length && Nat.ble x.length line))
      pure (.int n)
    | none => stuck
  | _ => stuck
def absD (a : D) : M D := match a with
  | .int i => pure (.int (if i < 0 then -i else i))
  | _ => stuck
def max2D (a b : D) : M D := match a, b with
  | .int i, .int j => pure (.int (if j > i then j else i))
  | _, _ => stuck
def min2D (a b : D) : M D := match a, b with
  | .int i, .int j => pure (.int (if j < i then j else i))
  | _, _ => stuck
def allD (any : Bool) (a : D) : M D := match a with
  | .obj n => do match ← getO n with
    | .lst xs => match bools xs with
      | some l => pure (.bl (if any then l.any id else l.all id))
      | none => stuck
    | _ => stuck
  | _ => stuck
def splitD (a b : D) : M D := match a, b with
  | .str x, .str y => do
    need (!(y.length == 0) && Nat.ble (x.length + 2) line)
    newL ((Txt.split x y).map D.str)
  | _, _ => stuck
def startswithD (a b : D) : M D := match a, b with
  | .str x, .str y => pure (.bl (Txt.startswith x y))
  | _, _ => stuck
def removeprefixD (a b : D) : M D := match a, b with
  | .str x, .str y => do
    need (Nat.ble x.length line)
    pure (.str (Txt.removeprefix x y))
  | _, _ => stuck
def slRevD (a : D) : M D := match a with
  | .tup xs => pure (.tup xs.reverse)
  | .obj n => do match ← getO n with
    | .lst xs => newL xs.reverse
    | _ => stuck
  | _ => stuck
def partD : D → M (Option Int)
  | .int i => pure (some i)
  | _ => stuck
def prim (ct : Ct) (p : Pr) (as : List D) : M D := match p, as with
  | .add, [a, b] => addD ct a b
  | .sub, [a, b] => subD ct a b
  | .mul, [a, b] => mulD ct a b
  | .fdiv, [a, b] => fdivD a b
  | .mod, [a, b] => modD a b
  | .pow, [a, b] => powD a b
  | .neg, [a] => negD ct a
  | .inv, [a] => invD ct a
  | .eq, [a, b] => do return .bl (← eqD ct a b)
  | .ne, [a, b] => do return .bl (!(← eqD ct a b))
  | .lt, [a, b] => ltD ct a b
  | .le, [a, b] => leD ct a b
  | .gt, [a, b] => gtD ct a b
  | .ge, [a, b] => geD ct a b
  | .isN, [a] => pure (.bl (decide (a = .non)))
  | .isnotN, [a] => pure (.bl (!decide (a = .non)))
  | .inn, [a, b] => do return .bl (← innD a b)
  | .notin, [a, b] => do return .bl (!(← innD a b))
  | .idx, [a, b] => idxD a b
  | .slRev, [a] => slRevD a
  | .slice false false, [a] => sliceD a none none
  | .slice true false, [a, l] => do sliceD a (← partD l) none
  | .slice false true, [a, h] => do sliceD a none (← partD h)
  | .slice true true, [a, l, h] => do
    let l ← partD l
    sliceD a l (← partD h)
  | .len, [a] => do return .int (← lenD ct a)
  | .abs, [a] => absD a
  | .int1, [a] => int1D a
  | .max2, [a, b] => max2D a b
  | .min2, [a, b] => min2D a b
  | .str1, [a] => strD a
  | .repr, [a] => reprO ct a
  | .fmt, [a] => fmtD a
  | .fmtR, [a] => fmtRD a
  | .tuple1, [a] => do return .tup (← seqOf a)
  | .list1, [a] => do newL (← seqOf a)
  | .all1, [a] => allD false a
  | .any1, [a] => allD true a
  | .isi, [a, .ty t] => do return .bl (← isiD ct a (.ty t))
  | .isi, [a, .cls c] => do return .bl (← isiD ct a (.own c))
  | .join, [a, b] => do joinD a (← seqOf b)
  | .split, [a, b] => splitD a b
  | .startswith, [a, b] => startswithD a b
  | .removeprefix, [a, b] => removeprefixD a b
  | .append, [a, b] => appendD a b
  | .extend, [a, b] => extendD a b
  | .pop, [a] => popD a
  | .tup, xs => do
    need (Nat.ble xs.length line)
    pure (.tup xs)
  | .lst, xs => newL xs
  | .dic0, [] => newO (.dic [])
  | .dicS ks, vs => do
    need (decide (ks.length = vs.length))
    newO (.dic (ks.zip vs))
  | _, _ => stuck

/-- the receiver of a built-in method is what the method wants -/
def recvOk (p : Pr) (x : D) : M Unit := match p with
  | .append | .extend | .pop => match x with
    | .obj n => do match ← getO n with
      | .lst _ => pure ()
      | _ => stuck
    | _ => stuck
  | .join | .split | .startswith | .removeprefix => match x with
    | .str _ => pure ()
    | _ => stuck
  | _ => stuck
/-! ### attributes -/
def idxOf (a : Nat) : List Nat → Option Nat
  | [] => none
  | b :: r => if a == b then some 0 else (idxOf a r).map (· + 1)
/-- a run that raises nothing -/
def noExc {α : Type} (m : M α) : M α := fun s => match m s with
  | .ok a s => .ok a s
  | _ => .stuck
def attD (ct : Ct) (a : Nat) (d : D) : M D := match d with
  | .exc c v => match ct.T.cl c with
    | some k => if a == aValue && k.kind == .exc then pure v else stuck
    | none => stuck
  | d => fun s => match clsOf s d with
    | none => .stuck
    | some c => match ct.T.cl c with
      | none => .stuck
      | some k => match idxOf a k.slots with
        | some i => match d with
          | .ins _ fs => ofO fs[i]? s
          | .obj n => match s[n]? with
            | some (.sl _ fs) => match fs[i]? with
              | some (some v) => .ok v s
              | _ => .stuck
            | _ => .stuck
          | _ => .stuck
        | none => match k.props.lookup a with
          | some f => noExc (ct.call f [d]) s
          | none => match d with
            | .obj n => match s[n]? with
              | some (.ins _ fs) => ofO (fs.lookup a) s
              | _ => .stuck
            | _ => .stuck
def putI (a : Nat) (v : D) : List (Nat × D) → List (Nat × D)
  | [] => [(a, v)]
  | (b, x) :: r => if a == b then (b, v) :: r else (b, x) :: putI a v r
def setAttD (ct : Ct) (a : Nat) (d v : D) : M Unit := match d with
  | .obj n => fun s => match s[n]? with
    | some (.sl c fs) => match ct.T.cl c with
      | some k => match idxOf a k.slots with
        | some i => if i < fs.length then .ok () (s.set n (.sl c (fs.set i (some v)))) else .stuck
        | none => .stuck
      | none => .stuck
    | some (.ins c fs) => match ct.T.cl c with
      | some k => if k.kind == .inst && ((k.props.lookup a).isNone && Nat.blt fs.length 900) then .ok () (s.set n (.ins c (putI a v fs))) else .stuck
      | none => .stuck
    | _ => .stuck
  | _ => stuck
def setIdxD (o i v : D) : M Unit := match o, i with
  | .obj n, .int i => do match ← getO n with
    | .lst xs => do
      need (decide (0 ≤ i) && decide (i < xs.length))
      setO n (.lst (xs.set i.toNat v))
    | _ => stuck
  | _, _ => stuck
/-! ### calls -/
/-- what a call leaves of the store: what it made is let go if nothing of it is told and nothing elder has changed -/
def trunc (s0 : Store) (d : D) (s1 : Store) : Store := if s1.take s0.length = s0 ∧ D.lt s0.length d = true then s0 else s1
def allSome : List (Option D) → Option (List D)
  | [] => some []
  | some d :: r => match allSome r with
    | some l => some (d :: l)
    | none => none
  | none :: _ => none
def makeD (ct : Ct) (c : Nat) (as : List D) : M D := fun s => match ct.T.cl c with
  | none => .stuck
  | some k => match k.kind with
    | .exc => match as with
      | [v] => .ok (.exc c v) s
      | _ => .stuck
    | .slots => match k.meths.lookup mInit with
      | none => .stuck
      | some f => match ct.call f (.obj s.length :: as) (s ++ [.sl c (k.slots.map fun _ => none)]) with
        | .ok .non s1 => match k.value with
          | false => .ok (.obj s.length) s1
          | true => match s1[s.length]? with
            | some (.sl c' fs) => match allSome fs with
              | some l => if c' = c ∧ s1.take s.length = s ∧ D.ltL s.length l = true then .ok (.ins c l) s else .stuck
              | none => .stuck
            | _ => .stuck
        | .ok _ _ => .stuck
        | .exc e v s1 => .exc e v (trunc s v s1)
        | .stuck => .stuck
    | .inst => match k.meths.lookup mInit with
      | none => .stuck
      | some f => match ct.call f (.obj s.length :: as) (s ++ [.ins c []]) with
        | .ok .non s1 => .ok (.obj s.length) s1
        | .ok _ _ => .stuck
        | .exc e v s1 => .exc e v (trunc s v s1)
        | .stuck => .stuck
def methD (ct : Ct) (m : Nat) (o : D) (as : List D) : M D := do
  match ← methOf ct o m with
  | some f => ct.call f (o :: as)
  | none => stuck

/-! ### targets -/
mutual
def assign : Tg → D → Env → Option Env
  | .n i, v, σ => match Nat.blt i σ.length with
    | true => some (σ.set i (some v))
    | false => none
  | .t ts, v, σ => match v with
    | .tup xs => assigns ts xs σ
    | _ => none
def assigns : List Tg → List D → Env → Option Env
  | [], [], σ => some σ
  | t :: ts, x :: xs, σ => match assign t x σ with
    | some σ' => assigns ts xs σ'
    | none => none
  | _, _, _ => none
end
/-- what is walked: the items, and the lists' numbers where they may change meanwhile -/
abbrev Gd := List (Nat × List D)
def walkD : D → M (List D × Gd)
  | .tup xs => pure (xs, [])
  | .str x => pure (x.cps.toList.map (fun c => .str ⟨#[c]⟩), [])
  | .obj n => do match ← getO n with
    | .lst xs => pure (xs, [(n, xs)])
    | _ => stuck
  | _ => stuck
def still (g : Gd) : M Unit := fun s => if (∀ p ∈ g, s[p.1]? = some (.lst p.2)) then .ok () s else .stuck
/-- pairs of two walks -/
def pairsD : List D → List D → List D
  | x :: xs, y :: ys => .tup [x, y] :: pairsD xs ys
  | _, _ => []
def enumD : Int → List D → List D
  | _, [] => []
  | i, x :: xs => .tup [.int i, x] :: enumD (i + 1) xs
/-- zip of two lists, of two tuples -/
def zipD (a b : D) : M (List D × Gd) := match a, b with
  | .tup xs, .tup ys => pure (pairsD xs ys, [])
  | .obj n, .obj m => do match ← getO n, ← getO m with
    | .lst xs, .lst ys => pure (pairsD xs ys, [(n, xs), (m, ys)])
    | _, _ => stuck
  | _, _ => stuck
def wipeE (σ : Env) : List Nat → Env
  | [] => σ
  | v :: vs => (wipeE σ vs).set v none

/-- a comprehension's turns; the list that is made has the number n -/
def compL (g : Gd) (tg : Tg) (own : List Nat) (test : Env → M Bool) (elt : Env → M D) (σ : Env) (n : Nat) : List D → M Unit
  | [] => still g
  | x :: xs => do
    still g
    let σ' ← ofO (assign tg x (wipeE σ own))
    match ← test σ' with
    | true => do
      let y ← elt σ'
      let _ ← appendD (.obj n) y
      compL g tg own test elt σ n xs
    | false => compL g tg own test elt σ n xs
/-- .. and the list -/
def compR (w : List D × Gd) (tg : Tg) (own : List Nat) (test : Env → M Bool) (elt : Env → M D) (σ : Env) : M D := fun s =>
  match compL w.2 tg own test elt σ s.length w.1 (s ++ [.lst []]) with
  | .ok _ s' => .ok (.obj s.length) s'
  | _ => .stuck
/-- a for's turns -/
def forL (g : Gd) (tg : Tg) (body : Env → M Fl) : List D → Env → M Fl
  | [], σ => do
    still g
    pure (.nx σ)
  | x :: xs, σ => do
    still g
    let σ' ← ofO (assign tg x σ)
    match ← body σ' with
    | .nx σ => forL g tg body xs σ
    | .ct σ => forL g tg body xs σ
    | .bk σ => pure (.nx σ)
    | .rt d => pure (.rt d)
    | .xc σ c v => pure (.xc σ c v)
def whileL (test : Env → M Bool) (body : Env → M Fl) : Nat → Env → M Fl
  | 0, _ => stuck
  | n + 1, σ => fun s => match test σ s with
    | .stuck => .stuck
    | .exc c v s => .ok (.xc σ c v) s
    | .ok false s => .ok (.nx σ) s
    | .ok true s => match body σ s with
      | .ok (.nx σ) s => whileL test body n σ s
      | .ok (.ct σ) s => whileL test body n σ s
      | .ok (.bk σ) s => .ok (.nx σ) s
      | .ok (.rt d) s => .ok (.rt d) s
      | .ok (.xc σ c v) s => .ok (.xc σ c v) s
      | .exc c v s => .exc c v s
      | .stuck => .stuck
/-- whether an error of the class e is one of the class c -/
def isE (T : Tab) (e c : Nat) : Option Bool := (T.cl e).map fun k => k.mro.contains c
/-- a def that is handed a lambda b and a value v: what b raised is told, then r -/
def refdD (ct : Ct) (c : Nat) (b v : M D) (r : D → D → M D) : M D := fun s => match v s with
  | .ok x s => (match b s with
    | .ok _ s => noExc (r x .non) s
    | .exc e y s => (match isE ct.T e c with
      | some true => noExc (r x (.exc e y)) s
      | _ => .stuck)
    | .stuck => .stuck)
  | .exc e y s => .exc e y s
  | .stuck => .stuck
/-! ### expressions, statements -/
mutual
def ev (ct : Ct) : E → Env → M D
  | .var i, σ => envGet σ i
  | .con d, _ => pure d
  | .prim p as, σ => do prim ct p (← evs ct as σ)
  | .bm p o as, σ => do
    let x ← ev ct o σ
    recvOk p x
    prim ct p (x :: (← evs ct as σ))
  | .call f as, σ => do ct.call f (← evs ct as σ)
  | .make c as, σ => do makeD ct c (← evs ct as σ)
  | .meth m o as, σ => do
    let x ← ev ct o σ
    match ← methOf ct x m with
    | some f => do ct.call f (x :: (← evs ct as σ))
    | none => stuck
  | .slc o lo hi, σ => do
    let x ← ev ct o σ
    let l ← evP ct lo σ
    let h ← evP ct hi σ
    sliceD x l h
  | .att a o, σ => do attD ct a (← ev ct o σ)
  | .and a b, σ => do
    let x ← ev ct a σ
    match ← truth x with
    | true => ev ct b σ
    | false => pure x
  | .or a b, σ => do
    let x ← ev ct a σ
    match ← truth x with
    | true => pure x
    | false => ev ct b σ
  | .not a, σ => do return .bl (!(← truth (← ev ct a σ)))
  | .ifx t a b, σ => do
    match ← evT ct t σ with
    | true => ev ct a σ
    | false => ev ct b σ
  | .chain p q a b c, σ => do
    let x ← ev ct a σ
    let y ← ev ct b σ
    match ← asB (← prim ct p [x, y]) with
    | true => do
      let z ← ev ct c σ
      prim ct q [y, z]
    | false => pure (.bl false)
  | .comp tg own it ifs elt, σ => do
    let w ← evI ct it σ
    compR w tg own (fun σ => evO ct ifs σ) (fun σ => ev ct elt σ) σ
  | .told c b, σ => fun s => match ev ct b σ s with
    | .ok d s => .ok (.tup [.non, d]) s
    | .exc e v s => match isE ct.T e c with
      | some true => .ok (.tup [.exc e v, .non]) s
      | _ => .stuck
    | .stuck => .stuck
  | .refd c b v r, σ => refdD ct c (ev ct b σ) (ev ct v σ) (fun x d => ev ct r [none, some x, some d])
  | .lrange e, σ => do
    match ← ev ct e σ with
    | .int n => do
      need (decide (-(2 ^ 62) ≤ n) && decide (n < 2 ^ 62))
      newL (intsD 0 n.toNat)
    | _ => stuck
  | .tups as, σ => do
    let xs ← evS ct as σ
    need (Nat.ble xs.length line)
    pure (.tup xs)
  | .fstr as, σ => do return .str (← evJ ct as PySem.Str.empty σ)
  | .never, _ => stuck
def evI (ct : Ct) : It → Env → M (List D × Gd)
  | .seq e, σ => do walkD (← ev ct e σ)
  | .range1 e, σ => do
    match ← ev ct e σ with
    | .int n => do
      need (decide (-(2 ^ 62) ≤ n) && decide (n < 2 ^ 62))
      pure (intsD 0 n.toNat, [])
    | _ => stuck
  | .zip a b, σ => do
    let x ← ev ct a σ
    let y ← ev ct b σ
    zipD x y
  | _, _ => stuck
def evs (ct : Ct) : List E → Env → M (List D)
  | [], _ => pure []
  | e :: es, σ => do
    let x ← ev ct e σ
    return x :: (← evs ct es σ)
/-- tuples, one behind the other -/
def evS (ct : Ct) : List E → Env → M (List D)
  | [], _ => pure []
  | e :: es, σ => do
    match ← ev ct e σ with
    | .tup l => do return l ++ (← evS ct es σ)
    | _ => stuck
/-- texts, one behind the other -/
def evJ (ct : Ct) : List E → PySem.Str → Env → M PySem.Str
  | [], acc, _ => pure acc
  | e :: es, acc, σ => do
    match ← ev ct e σ with
    | .str y => do
      need (Nat.ble (acc ++ y).length line)
      evJ ct es (acc ++ y) σ
    | _ => stuck
def evT (ct : Ct) : E → Env → M Bool
  | .and a b, σ => do
    match ← evT ct a σ with
    | true => evT ct b σ
    | false => pure false
  | .or a b, σ => do
    match ← evT ct a σ with
    | true => pure true
    | false => evT ct b σ
  | .not a, σ => do return !(← evT ct a σ)
  | .var i, σ => do truth (← envGet σ i)
  | .con d, _ => truth d
  | .prim p as, σ => do truth (← prim ct p (← evs ct as σ))
  | .bm p o as, σ => do
    let x ← ev ct o σ
    recvOk p x
    truth (← prim ct p (x :: (← evs ct as σ)))
  | .call f as, σ => do truth (← ct.call f (← evs ct as σ))
  | .meth m o as, σ => do
    let x ← ev ct o σ
    match ← methOf ct x m with
    | some f => do truth (← ct.call f (x :: (← evs ct as σ)))
    | none => stuck
  | .att a o, σ => do truth (← attD ct a (← ev ct o σ))
  | .chain p q a b c, σ => do
    let x ← ev ct a σ
    let y ← ev ct b σ
    match ← asB (← prim ct p [x, y]) with
    | true => do
      let z ← ev ct c σ
      truth (← prim ct q [y, z])
    | false => pure false
  | .comp tg own it ifs elt, σ => do
    let w ← evI ct it σ
    truth (← compR w tg own (fun σ => evO ct ifs σ) (fun σ => ev ct elt σ) σ)
  | .refd c b v r, σ => do truth (← refdD ct c (ev ct b σ) (ev ct v σ) (fun x d => ev ct r [none, some x, some d]))
  | _, _ => stuck
/-- a part of a slice -/
def evP (ct : Ct) : Option E → Env → M (Option Int)
  | none, _ => pure none
  | some e, σ => do partD (← ev ct e σ)
def evO (ct : Ct) : Option E → Env → M Bool
  | none, _ => pure true
  | some e, σ => evT ct e σ
end
/-- an expression in a statement: what is raised is told with the names as they are -/
def eb {α : Type} (m : M α) (σ : Env) (k : α → M Fl) : M Fl := fun s => match m s with
  | .ok a s => k a s
  | .exc c v s => .ok (.xc σ c v) s
  | .stuck => .stuck
mutual
def ex (ct : Ct) : S → Env → M Fl
  | .expr e, σ => eb (ev ct e σ) σ fun _ => pure (.nx σ)
  | .asg t e, σ => eb (ev ct e σ) σ fun v => do return .nx (← ofO (assign t v σ))
  | .ret e, σ => eb (ev ct e σ) σ fun v => pure (.rt v)
  | .retN, _ => pure (.rt .non)
  | .ifS c a b, σ => eb (evT ct c σ) σ fun t => match t with
    | true => exs ct a σ
    | false => exs ct b σ
  | .forS t it b, σ => eb (evI ct it σ) σ fun w => forL w.2 t (fun σ => exs ct b σ) w.1 σ
  | .whileS c b, σ => whileL (fun σ => evT ct c σ) (fun σ => exs ct b σ) ct.w σ
  | .setAtt a o v, σ => eb (ev ct v σ) σ fun x => eb (ev ct o σ) σ fun y => do
    setAttD ct a y x
    return .nx σ
  | .setIdx o i v, σ => eb (ev ct v σ) σ fun x => eb (ev ct o σ) σ fun y => eb (ev ct i σ) σ fun z => do
    setIdxD y z x
    return .nx σ
  | .raise c e, σ => eb (ev ct e σ) σ fun v => pure (.xc σ c v)
  | .tryAs b c i h, σ => do
    match ← exs ct b σ with
    | .xc σ' e v => match isE ct.T e c with
      | some false => pure (.xc σ' e v)
      | some true => do
        need (Nat.blt i σ'.length)
        match ← exs ct h (σ'.set i (some (.exc e v))) with
        | .nx σ => pure (.nx (σ.set i none))
        | .rt d => pure (.rt d)
        | _ => stuck
      | none => stuck
    | f => pure f
  | .tryOnly b c h, σ => do
    match ← exs ct b σ with
    | .xc σ' e v => match isE ct.T e c with
      | some false => pure (.xc σ' e v)
      | some true => do
        match ← exs ct h σ' with
        | .nx σ => pure (.nx σ)
        | .rt d => pure (.rt d)
        | _ => stuck
      | none => stuck
    | f => pure f
  | .pass, σ => pure (.nx σ)
  | .brk, σ => pure (.bk σ)
  | .cont, σ => pure (.ct σ)
  | .never, _ => stuck
def exs (ct : Ct) : List S → Env → M Fl
  | [], σ => pure (.nx σ)
  | s :: r, σ => do
    match ← ex ct s σ with
    | .nx σ => exs ct r σ
    | f => pure f
end
def runFn (ct : Ct) (f : Fn) (as : List D) : M D := fun s => if as.length = f.pars ∧ f.pars ≤ f.names then
    match exs ct f.body (as.map some ++ List.replicate (f.names - f.pars) none) s with
    | .ok (.rt d) s1 => .ok d (trunc s d s1)
    | .ok (.nx _) s1 => .ok .non (trunc s .non s1)
    | .ok (.xc _ c v) s1 => .exc c v (trunc s v s1)
    | _ => .stuck
  else .stuck
def callN (w : Nat) : Nat → Tab → Nat → List D → M D
  | 0, _, _, _ => stuck
  | n + 1, T, f, as => match T.fn f with
    | some fn => runFn ⟨T, callN w n T, w, callN w n T.t0⟩ fn as
    | none => stuck
@[reducible] def callF (T : Tab) (w n : Nat) : Nat → List D → M D := callN w n T
abbrev ctF (T : Tab) (wl n : Nat) : Ct := ⟨T, callF T wl n, wl, callF T.t0 wl n⟩
theorem force_ev {ct : Ct} {σ : Env} : ev ct .never σ = stuck := by simp only [ev]
theorem force_evT {ct : Ct} {σ : Env} : evT ct .never σ = stuck := by simp only [evT]
theorem force_exs {ct : Ct} {σ : Env} : exs ct [] σ = pure (.nx σ) := by simp only [exs]
theorem force_ex {ct : Ct} {σ : Env} : ex ct .pass σ = pure (.nx σ) := by simp only [ex]
end G
set_option Elab.async false
set_option linter.all false
set_option maxRecDepth 100000
set_option maxHeartbeats 4000000
/-! G3: how values and the store stand in the abstract heap. -/
namespace G
open PySem PySem.Spec PyProof.Rows L2 SlX LamX

/-- where the defs and the classes of the text stand -/
structure Gx where
  K : PySem.W.Frag
  ca : Nat → Addr
  fa : Nat → Addr
  fd : Nat → FuncData
  ps : Nat → List Str
  /-- whole numbers that stand for the last parameters where they are left out -/
  dv : Nat → List Int
  /-- the tables of code objects, by the name that their codes bear -/
  tabs : List (Addr × Str)
  /-- whether a repr of a list, a tuple, a dict may be asked for: then nothing guards -/
  rp : Bool
abbrev Loc := Addr × Addr
def Inn (as : List Loc) (b : Addr) : Prop := ∃ p ∈ as, b = p.1 ∨ b = p.2
def xValue : Str := "value"
/-- an exception object of the class C, its dict at d -/
def ExH (C a d : Addr) : HO := .ext fun h => ∃ (oe : Obj) (vs : Array Value), h.get? a = some oe ∧ Zc (.ref C) (some d) oe ∧ oe.data = .fields vs
/-- a tuple that stands in the written part -/
def KTup (K : PySem.W.Frag) (a : Addr) (xs : List V) : Prop := ∃ (o : Obj) (its : Array Value) (n : Nat), K.lookup a = some o ∧ o.cls = .type "tuple" ∧ o.data = .seq its n ∧ its.size ≤ sizeLine ∧ Vals xs its.toList
def TupAt (Γ : Gx) (as : List Loc) (H : Hp) (a : Addr) (vs : List V) : Prop := (¬ Inn as a ∧ H a = some (.tup vs)) ∨ KTup Γ.K a vs
theorem TupAt.sq {Γ : Gx} {as : List Loc} {H : Hp} {a : Addr} {vs : List V} (h : TupAt Γ as H a vs) : SqT Γ.K H a vs := by
  rcases h with ⟨_, h⟩ | h
  · exact .of h
  · exact .inr h
/-- the law's script -/
def ScrAt (Γ : Gx) (as : List Loc) (H : Hp) (a : Addr) (vs : List V) : Prop := SqL Γ.K H a vs ∧ ((¬ Inn as a ∧ ∃ o, H a = some o) ∨ ∃ (o : Obj) (its : Array Value) (n : Nat), Γ.K.lookup a = some o ∧ o.cls = .type "list" ∧ o.dict = none ∧ o.data = .seq its n ∧ its.size ≤ sizeLine ∧ Vals vs its.toList)
mutual
def Rep (Γ : Gx) (as : List Loc) (H : Hp) : D → V → Prop
  | .non, v => v = .non
  | .bl b, v => v = .bl b
  | .int i, v => v = .int i
  | .str x, v => v = .str x
  | .tup ds, v => ∃ a vs, v = .ref a ∧ TupAt Γ as H a vs ∧ Reps Γ as H ds vs
  | .obj n, v => ∃ p, as[n]? = some p ∧ v = .ref p.1
  | .ins c ds, v => ∃ a dx vs ws, v = .ref a ∧ ¬ Inn as a ∧ ¬ Inn as dx ∧ Slt H a (Γ.ca c) dx vs ∧ (∃ o, H dx = some o) ∧ Reps Γ as H ds ws ∧ ∀ (i : Nat) w, ws[i]? = some w → vs[i]? = some (some w)
  | .exc c d, v => ∃ a dx w, v = .ref a ∧ ¬ Inn as a ∧ ¬ Inn as dx ∧ H a = some (ExH (Γ.ca c) a dx) ∧ H dx = some (.xd [(xValue, w)]) ∧ Rep Γ as H d w
  | .fn f, v => v = .ref (Γ.fa f)
  | .cls c, v => v = .ref (Γ.ca c)
  | .ty n, v => v = .ty n
  | .scr xs, v => ∃ a, v = .ref a ∧ ScrAt Γ as H a (xs.map V.int)
def Reps (Γ : Gx) (as : List Loc) (H : Hp) : List D → List V → Prop
  | [], vs => vs = []
  | d :: ds, vs => ∃ v r, vs = v :: r ∧ Rep Γ as H d v ∧ Reps Γ as H ds r
end

/-- what stays from one state to a later one -/
structure Kp (as : List Loc) (H : Hp) (as' : List Loc) (H' : Hp) : Prop where
  pre : ∃ more, as' = as ++ more ∧ ∀ p ∈ more, (H p.1 = none ∧ H p.2 = none) ∧ ¬ Inn as p.1 ∧ ¬ Inn as p.2
  kept : ∀ b o, H b = some o → ¬ Inn as b → (∀ ps, o ≠ .tbl ps) → H' b = some o
  tbl : ∀ b ps, H b = some (.tbl ps) → ∃ ps', H' b = some (.tbl ps')
theorem Kp.refl (as : List Loc) (H : Hp) : Kp as H as H := ⟨⟨[], by simp, fun p hp => absurd hp (by simp)⟩, fun _ _ h _ _ => h, fun _ _ h => ⟨_, h⟩⟩
theorem Kp.there {as as' : List Loc} {H H' : Hp} (k : Kp as H as' H') {b : Addr} {o : HO} (h : H b = some o) (n : ¬ Inn as b) : ∃ o', H' b = some o' := by
  by_cases q : ∃ ps, o = .tbl ps
  · obtain ⟨ps, rfl⟩ := q
    obtain ⟨ps', e⟩ := k.tbl b ps h
    exact ⟨_, e⟩
  · exact ⟨o, k.kept b o h n fun ps z => q ⟨ps, z⟩⟩
theorem Inn.app {as more : List Loc} {b : Addr} : Inn (as ++ more) b ↔ Inn as b ∨ Inn more b := by
  unfold Inn
  constructor
  · rintro ⟨p, hp, h⟩
    rcases List.mem_append.mp hp with q | q
    · exact .inl ⟨p, q, h⟩
    · exact .inr ⟨p, q, h⟩
  · rintro (⟨p, hp, h⟩ | ⟨p, hp, h⟩)
    · exact ⟨p, List.mem_append_left _ hp, h⟩
    · exact ⟨p, List.mem_append_right _ hp, h⟩
theorem Kp.ninn {as as' : List Loc} {H H' : Hp} (k : Kp as H as' H') {b : Addr} {o : HO} (h : H b = some o) (n : ¬ Inn as b) : ¬ Inn as' b := by
  obtain ⟨more, e, hm⟩ := k.pre
  rw [e, Inn.app]
  rintro (q | ⟨p, hp, q⟩)
  · exact n q
  · obtain ⟨⟨h1, h2⟩, _⟩ := hm p hp
    rcases q with q | q
    · rw [q, h1] at h
      cases h
    · rw [q, h2] at h
      cases h
theorem Kp.trans {as as1 as2 : List Loc} {H H1 H2 : Hp} (a : Kp as H as1 H1) (b : Kp as1 H1 as2 H2) : Kp as H as2 H2 := by
  obtain ⟨m1, e1, h1⟩ := a.pre
  obtain ⟨m2, e2, h2⟩ := b.pre
  have up : ∀ c, ¬ Inn as1 c → ¬ Inn as c := fun c n q => n (by rw [e1, Inn.app]; exact .inl q)
  have no : ∀ c, H1 c = none → ¬ Inn as c → H c = none := fun c n q => by
    cases e : H c with
    | none => rfl
    | some o =>
      obtain ⟨o', e'⟩ := a.there e q
      rw [e'] at n
      cases n
  refine ⟨⟨m1 ++ m2, by rw [e2, e1, List.append_assoc], fun p hp => ?_⟩, fun c o h n x => b.kept c o (a.kept c o h n x) (a.ninn h n) x, fun c ps h => let ⟨ps', h'⟩ := a.tbl c ps h; b.tbl c ps' h'⟩
  rcases List.mem_append.mp hp with q | q
  · exact h1 p q
  · obtain ⟨⟨x1, x2⟩, y1, y2⟩ := h2 p q
    exact ⟨⟨no _ x1 (up _ y1), no _ x2 (up _ y2)⟩, up _ y1, up _ y2⟩
/-- the same numbers -/
theorem Kp.same {as as1 : List Loc} {H H1 : Hp} (a : Kp as H as1 H1) : Kp as H as H1 := ⟨⟨[], by simp, fun p hp => absurd hp (by simp)⟩, a.kept, a.tbl⟩
theorem Kp.get {as as1 : List Loc} {H H1 : Hp} (a : Kp as H as1 H1) {n : Nat} {p : Loc} (h : as[n]? = some p) : as1[n]? = some p := by
  obtain ⟨m, e, _⟩ := a.pre
  rw [e, List.getElem?_append_left (List.getElem?_eq_some_iff.mp h).1]
  exact h
theorem slt_keep {as as1 : List Loc} {H H1 : Hp} (k : Kp as H as1 H1) {a C dx : Addr} {vs : List (Option V)} (h : Slt H a C dx vs) (n1 : ¬ Inn as a) (n2 : ¬ Inn as dx) : Slt H1 a C dx vs := by
  rcases h with ⟨h1, h2⟩ | ⟨h1, h2⟩
  · exact .inl ⟨k.kept _ _ h1 n1 (fun ps z => nomatch z), h2⟩
  · exact .inr ⟨k.kept _ _ h1 n1 (fun ps z => by unfold SlO at z; cases z), k.kept _ _ h2 n2 (fun ps z => nomatch z)⟩
section
variable {Γ : Gx} {as as1 : List Loc} {H H1 : Hp}
theorem ScrAt.mono (k : Kp as H as1 H1) {a : Addr} {vs : List V} (h : ScrAt Γ as H a vs) : ScrAt Γ as1 H1 a vs := by
  obtain ⟨h1, h2⟩ := h
  rcases h2 with ⟨n, o, ho⟩ | h2
  · refine ⟨?_, .inl ⟨k.ninn ho n, k.there ho n⟩⟩
    rcases h1 with (q | ⟨u, q⟩) | q
    · exact .inl (.inl (k.kept _ _ q n (fun ps z => nomatch z)))
    · exact .inl (.inr ⟨u, k.kept _ _ q n (fun ps z => nomatch z)⟩)
    · exact .inr q
  · exact ⟨.inr h2, .inr h2⟩
mutual
theorem Rep.mono (k : Kp as H as1 H1) : ∀ {d : D} {v : V}, Rep Γ as H d v → Rep Γ as1 H1 d v
  | .non, _, h => by unfold Rep at h ⊢; exact h
  | .bl _, _, h => by unfold Rep at h ⊢; exact h
  | .int _, _, h => by unfold Rep at h ⊢; exact h
  | .str _, _, h => by unfold Rep at h ⊢; exact h
  | .tup ds, _, h => by
    unfold Rep at h ⊢
    obtain ⟨a, vs, e, t, r⟩ := h
    refine ⟨a, vs, e, ?_, Reps.mono k r⟩
    rcases t with ⟨n, t⟩ | t
    · exact .inl ⟨k.ninn t n, k.kept _ _ t n (fun ps z => nomatch z)⟩
    · exact .inr t
  | .obj n, _, h => by
    unfold Rep at h ⊢
    obtain ⟨p, e, q⟩ := h
    exact ⟨p, k.get e, q⟩
  | .ins c ds, _, h => by
    unfold Rep at h ⊢
    obtain ⟨a, dx, vs, ws, e, n1, n2, s, hx, r, w⟩ := h
    have ha : ∃ o, H a = some o := by
      rcases s with ⟨h1, _⟩ | ⟨h1, _⟩
      · exact ⟨_, h1⟩
      · exact ⟨_, h1⟩
    obtain ⟨oa, ha⟩ := ha
    obtain ⟨od, hx⟩ := hx
    exact ⟨a, dx, vs, ws, e, k.ninn ha n1, k.ninn hx n2, slt_keep k s n1 n2, k.there hx n2, Reps.mono k r, w⟩
  | .exc c d, _, h => by
    unfold Rep at h ⊢
    obtain ⟨a, dx, w, e, n1, n2, s, x, r⟩ := h
    exact ⟨a, dx, w, e, k.ninn s n1, k.ninn x n2, k.kept _ _ s n1 (fun ps z => by unfold ExH at z; cases z), k.kept _ _ x n2 (fun ps z => nomatch z), Rep.mono k r⟩
  | .fn _, _, h => by unfold Rep at h ⊢; exact h
  | .cls _, _, h => by unfold Rep at h ⊢; exact h
  | .ty _, _, h => by unfold Rep at h ⊢; exact h
  | .scr xs, _, h => by
    unfold Rep at h ⊢
    obtain ⟨a, e, t⟩ := h
    exact ⟨a, e, ScrAt.mono k t⟩
theorem Reps.mono (k : Kp as H as1 H1) : ∀ {ds : List D} {vs : List V}, Reps Γ as H ds vs → Reps Γ as1 H1 ds vs
  | [], _, h => by unfold Reps at h ⊢; exact h
  | d :: ds, _, h => by
    unfold Reps at h ⊢
    obtain ⟨v, r, e, a, b⟩ := h
    exact ⟨v, r, e, Rep.mono k a, Reps.mono k b⟩
end
theorem Reps.len : ∀ {ds : List D} {vs : List V}, Reps Γ as H ds vs → vs.length = ds.length
  | [], _, h => by unfold Reps at h; rw [h]; rfl
  | d :: ds, _, h => by
    unfold Reps at h
    obtain ⟨v, r, rfl, _, b⟩ := h
    rw [List.length_cons, List.length_cons, Reps.len b]
theorem Reps.get : ∀ {ds : List D} {vs : List V} {i : Nat} {d : D}, Reps Γ as H ds vs → ds[i]? = some d → ∃ v, vs[i]? = some v ∧ Rep Γ as H d v
  | [], _, _, _, _, e => by simp at e
  | d :: ds, _, 0, x, h, e => by
    unfold Reps at h
    obtain ⟨v, r, rfl, a, _⟩ := h
    simp at e
    subst e
    exact ⟨v, rfl, a⟩
  | d :: ds, _, i + 1, x, h, e => by
    unfold Reps at h
    obtain ⟨v, r, rfl, _, b⟩ := h
    simp at e
    obtain ⟨u, e1, q⟩ := Reps.get b e
    exact ⟨u, by simpa using e1, q⟩
theorem Reps.app : ∀ {ds es : List D} {vs us : List V}, Reps Γ as H ds vs → Reps Γ as H es us → Reps Γ as H (ds ++ es) (vs ++ us)
  | [], _, _, _, h, h' => by
    unfold Reps at h
    rw [h]
    exact h'
  | d :: ds, _, _, _, h, h' => by
    unfold Reps at h
    obtain ⟨v, r, rfl, a, b⟩ := h
    rw [List.cons_append, List.cons_append]
    unfold Reps
    exact ⟨v, _, rfl, a, Reps.app b h'⟩
theorem Reps.nil : Reps Γ as H [] [] := by unfold Reps; rfl
theorem Reps.cons {d : D} {ds : List D} {v : V} {vs : List V} (a : Rep Γ as H d v) (b : Reps Γ as H ds vs) : Reps Γ as H (d :: ds) (v :: vs) := by
  unfold Reps
  exact ⟨v, vs, rfl, a, b⟩
theorem Reps.inv {d : D} {ds : List D} {vs : List V} (h : Reps Γ as H (d :: ds) vs) : ∃ v r, vs = v :: r ∧ Rep Γ as H d v ∧ Reps Γ as H ds r := by
  unfold Reps at h
  exact h
theorem Reps.one {d : D} {vs : List V} (h : Reps Γ as H [d] vs) : ∃ v, vs = [v] ∧ Rep Γ as H d v := by
  obtain ⟨v, r, rfl, a, b⟩ := h.inv
  unfold Reps at b
  exact ⟨v, by rw [b], a⟩
theorem Reps.two {d e : D} {vs : List V} (h : Reps Γ as H [d, e] vs) : ∃ v u, vs = [v, u] ∧ Rep Γ as H d v ∧ Rep Γ as H e u := by
  obtain ⟨v, r, rfl, a, b⟩ := h.inv
  obtain ⟨u, rfl, c⟩ := b.one
  exact ⟨v, u, rfl, a, c⟩
theorem Reps.nil' {vs : List V} (h : Reps Γ as H [] vs) : vs = [] := by unfold Reps at h; exact h
theorem Reps.rep {d : D} {v : V} (h : Rep Γ as H d v) : ∀ n, Reps Γ as H (List.replicate n d) (List.replicate n v)
  | 0 => .nil
  | n + 1 => by rw [List.replicate_succ, List.replicate_succ]; exact .cons h (Reps.rep h n)
theorem Reps.set : ∀ {ds : List D} {vs : List V} {d : D} {v : V} (i : Nat), Reps Γ as H ds vs → Rep Γ as H d v → Reps Γ as H (ds.set i d) (vs.set i v)
  | [], _, _, _, _, h, _ => by rw [h.nil']; exact .nil
  | _ :: _, _, _, _, 0, h, r => by
    obtain ⟨x, y, rfl, a, b⟩ := h.inv
    exact .cons r b
  | _ :: _, _, _, _, i + 1, h, r => by
    obtain ⟨x, y, rfl, a, b⟩ := h.inv
    exact .cons a (Reps.set i b r)
theorem Rep.non {v : V} (h : Rep Γ as H .non v) : v = .non := by unfold Rep at h; exact h
theorem Rep.bl {b : Bool} {v : V} (h : Rep Γ as H (.bl b) v) : v = .bl b := by unfold Rep at h; exact h
theorem Rep.int {i : Int} {v : V} (h : Rep Γ as H (.int i) v) : v = .int i := by unfold Rep at h; exact h
theorem Rep.str {x : Str} {v : V} (h : Rep Γ as H (.str x) v) : v = .str x := by unfold Rep at h; exact h
theorem Rep.tup {ds : List D} {v : V} (h : Rep Γ as H (.tup ds) v) : ∃ a vs, v = .ref a ∧ TupAt Γ as H a vs ∧ Reps Γ as H ds vs := by unfold Rep at h; exact h
theorem Rep.obj {n : Nat} {v : V} (h : Rep Γ as H (.obj n) v) : ∃ p, as[n]? = some p ∧ v = .ref p.1 := by unfold Rep at h; exact h
theorem Rep.ofBl {b : Bool} : Rep Γ as H (.bl b) (.bl b) := by unfold Rep; rfl
theorem Rep.ofInt {b : Int} : Rep Γ as H (.int b) (.int b) := by unfold Rep; rfl
theorem Rep.ofStr {b : Str} : Rep Γ as H (.str b) (.str b) := by unfold Rep; rfl
theorem Rep.ofNon : Rep Γ as H .non .non := by unfold Rep; rfl

/-! ### the store -/
def keyD : D → Option Key
  | .int i => some (Sum.inl i)
  | .str x => some (Sum.inr x)
  | _ => none
def ORep (Γ : Gx) (as : List Loc) (H : Hp) (p : Loc) : O → Prop
  | .lst xs => p.2 = p.1 ∧ ∃ vs, H p.1 = some (.lst vs) ∧ Reps Γ as H xs vs
  | .sl c fs => p.2 ≠ p.1 ∧ (∃ o, H p.2 = some o) ∧ ∃ vs, Slt H p.1 (Γ.ca c) p.2 vs ∧ ∀ (i : Nat) d, fs[i]? = some (some d) → ∃ v, vs[i]? = some (some v) ∧ Rep Γ as H d v
  | .dic kvs => p.2 = p.1 ∧ ∃ us, H p.1 = some (.dK us) ∧ Paired (fun (x : D × D) (y : Key × V) => keyD x.1 = some y.1 ∧ Rep Γ as H x.2 y.2) kvs us
  | .ins c fs => p.2 ≠ p.1 ∧ (∃ o, H p.2 = some o) ∧ ∃ gs, H p.1 = some (.ins (Γ.ca c) p.2 gs) ∧ False
  | .gone => False
/-- the tables of code objects -/
structure TabG (Γ : Gx) (as : List Loc) (H : Hp) : Prop where
  all : ∀ b ps, H b = some (.tbl ps) → ∃ q, (b, q) ∈ Γ.tabs
  tabs : ∀ p ∈ Γ.tabs, ¬ Inn as p.1 ∧ ∃ ps : Array Value, H p.1 = some (.tbl ps) ∧ TriplesOk ps.toList ∧ ∀ (pos : Pos) (cv : Value), codeAmong pos ps.toList = some cv → ∃ c, cv = .ref c ∧ H c = some (CodeO c p.2) ∧ ¬ Inn as c
structure Mt (Γ : Gx) (as : List Loc) (st : Store) (H : Hp) : Prop where
  len : as.length = st.length
  apart : ∀ (i j : Nat) (p q : Loc), as[i]? = some p → as[j]? = some q → i ≠ j → p.1 ≠ q.1 ∧ p.1 ≠ q.2 ∧ p.2 ≠ q.1 ∧ p.2 ≠ q.2
  obj : ∀ (i : Nat) (o : O) (p : Loc), st[i]? = some o → as[i]? = some p → ORep Γ as H p o
  tab : TabG Γ as H
theorem ORep.there {p : Loc} {o : O} (h : ORep Γ as H p o) : (∃ x, H p.1 = some x) ∧ ∃ x, H p.2 = some x := by
  cases o with
  | lst xs =>
    obtain ⟨e, vs, h1, _⟩ := h
    exact ⟨⟨_, h1⟩, ⟨_, by rw [e]; exact h1⟩⟩
  | sl c fs =>
    obtain ⟨_, h2, vs, s, _⟩ := h
    refine ⟨?_, h2⟩
    rcases s with ⟨h1, _⟩ | ⟨h1, _⟩
    · exact ⟨_, h1⟩
    · exact ⟨_, h1⟩
  | dic kvs =>
    obtain ⟨e, us, h1, _⟩ := h
    exact ⟨⟨_, h1⟩, ⟨_, by rw [e]; exact h1⟩⟩
  | ins c fs =>
    obtain ⟨_, _, _, _, z⟩ := h
    exact z.elim
  | gone => exact h.elim
theorem Mt.at_ {st : Store} (m : Mt Γ as st H) {n : Nat} {p : Loc} (h : as[n]? = some p) : ∃ o, st[n]? = some o ∧ ORep Γ as H p o := by
  have hn : n < st.length := by rw [← m.len]; exact (List.getElem?_eq_some_iff.mp h).1
  exact ⟨st[n], List.getElem?_eq_getElem hn, m.obj n _ p (List.getElem?_eq_getElem hn) h⟩
theorem Mt.loc {st : Store} (m : Mt Γ as st H) {n : Nat} {o : O} (h : st[n]? = some o) : ∃ p, as[n]? = some p ∧ ORep Γ as H p o := by
  have hn : n < as.length := by rw [m.len]; exact (List.getElem?_eq_some_iff.mp h).1
  exact ⟨as[n], List.getElem?_eq_getElem hn, m.obj n _ _ h (List.getElem?_eq_getElem hn)⟩
theorem Mt.inn {st : Store} (m : Mt Γ as st H) {b : Addr} (h : Inn as b) : ∃ o, H b = some o := by
  obtain ⟨p, hp, q⟩ := h
  obtain ⟨n, hn⟩ := List.getElem?_of_mem hp
  obtain ⟨o, _, r⟩ := m.at_ hn
  obtain ⟨h1, h2⟩ := r.there
  rcases q with q | q
  · rw [q]; exact h1
  · rw [q]; exact h2
theorem Mt.ninn {st : Store} (m : Mt Γ as st H) {b : Addr} (h : H b = none) : ¬ Inn as b := fun q => by
  obtain ⟨o, e⟩ := m.inn q
  rw [h] at e
  cases e
theorem Paired.imp {α β : Type} {F F' : α → β → Prop} (i : ∀ a b, F a b → F' a b) : ∀ {xs : List α} {ys : List β}, Paired F xs ys → Paired F' xs ys
  | _, _, .nil => .nil
  | _, _, .cons r t => .cons (i _ _ r) (Paired.imp i t)
/-- an object stays as it is where its own addresses are as they were -/
theorem ORep.mono (k : Kp as H as1 H1) {p : Loc} {o : O} (h : ORep Γ as H p o) (e1 : ∀ x, H p.1 = some x → H1 p.1 = some x) (e2 : ∀ x, H p.2 = some x → H1 p.2 = some x) : ORep Γ as1 H1 p o := by
  cases o with
  | lst xs =>
    obtain ⟨e, vs, h1, r⟩ := h
    exact ⟨e, vs, e1 _ h1, Reps.mono k r⟩
  | sl c fs =>
    obtain ⟨e, ⟨x, hx⟩, vs, s, r⟩ := h
    refine ⟨e, ⟨x, e2 _ hx⟩, vs, ?_, fun i d q => ?_⟩
    · rcases s with ⟨h1, h2⟩ | ⟨h1, h2⟩
      · exact .inl ⟨e1 _ h1, h2⟩
      · exact .inr ⟨e1 _ h1, e2 _ h2⟩
    · obtain ⟨v, a, b⟩ := r i d q
      exact ⟨v, a, Rep.mono k b⟩
  | dic kvs =>
    obtain ⟨e, us, h1, r⟩ := h
    exact ⟨e, us, e1 _ h1, Paired.imp (fun a b q => ⟨q.1, Rep.mono k q.2⟩) r⟩
  | ins c fs =>
    obtain ⟨_, _, _, _, z⟩ := h
    exact z.elim
  | gone => exact h.elim
theorem TabG.free {Γ : Gx} {as : List Loc} {H : Hp} (t : TabG Γ as H) {b : Addr} {ps : Array Value} (h : H b = some (.tbl ps)) : ¬ Inn as b := by
  obtain ⟨q, hq⟩ := t.all b ps h
  exact (t.tabs _ hq).1
theorem codeO_nt {c : Addr} {q : Str} (ps : Array Value) : CodeO c q ≠ .tbl ps := fun z => by
  unfold CodeO at z
  cases z
/-- .. stay where all tables are as they were -/
theorem TabG.step {Γ : Gx} {as as1 : List Loc} {H H1 : Hp} (t : TabG Γ as H) (k : Kp as H as1 H1) (h : ∀ b ps, H1 b = some (.tbl ps) → H b = some (.tbl ps)) (h2 : ∀ b ps, H b = some (.tbl ps) → H1 b = some (.tbl ps)) : TabG Γ as1 H1 := by
  refine ⟨fun b ps e => t.all b ps (h b ps e), fun p hp => ?_⟩
  obtain ⟨n, ps, e, o, c⟩ := t.tabs p hp
  refine ⟨k.ninn e n, ps, h2 _ _ e, o, fun pos cv q => ?_⟩
  obtain ⟨c, e1, e2, e3⟩ := c pos cv q
  exact ⟨c, e1, k.kept _ _ e2 e3 codeO_nt, k.ninn e2 e3⟩
theorem ORep.nt {p : Loc} {o : O} (h : ORep Γ as H p o) (ps : Array Value) : H p.1 ≠ some (.tbl ps) := fun z => by
  cases o with
  | lst xs =>
    obtain ⟨e, vs, h1, _⟩ := h
    rw [h1] at z
    cases z
  | sl c fs =>
    obtain ⟨_, h2, vs, s, _⟩ := h
    rcases s with ⟨h1, _⟩ | ⟨h1, _⟩
    · rw [h1] at z
      cases z
    · rw [h1] at z
      unfold SlO at z
      cases z
  | dic kvs =>
    obtain ⟨e, us, h1, _⟩ := h
    rw [h1] at z
    cases z
  | ins c fs =>
    obtain ⟨_, _, _, _, z⟩ := h
    exact z.elim
  | gone => exact h.elim
/-- something new is laid that the store doesn't tell -/
theorem Kp.laid {st : Store} (m : Mt Γ as st H) {p : Addr} {o : HO} (hp : H p = none) : Kp as H as (upd H p o) :=
  ⟨⟨[], by simp, fun p hp => absurd hp (by simp)⟩, fun b u h _ _ => by rw [upd_ne (ne_of_none h hp)]; exact h, fun b ps h => ⟨ps, by rw [upd_ne (ne_of_none h hp)]; exact h⟩⟩
theorem tab_laid {as1 : List Loc} {p : Addr} {o : HO} (t : TabG Γ as H) (k : Kp as H as1 (upd H p o)) (hp : H p = none) (ho : ∀ ps, o ≠ .tbl ps) : TabG Γ as1 (upd H p o) := t.step k (fun b ps h => by
    by_cases e : b = p
    · subst e
      rw [upd_same] at h
      exact absurd (Option.some.inj h) (ho ps)
    · rwa [upd_ne e] at h) fun b ps h => by rw [upd_ne (ne_of_none h hp)]; exact h
theorem Mt.laid {st : Store} (m : Mt Γ as st H) {p : Addr} {o : HO} (hp : H p = none) (ho : ∀ ps, o ≠ .tbl ps) : Mt Γ as st (upd H p o) :=
  ⟨m.len, m.apart, fun i x q h1 h2 => (m.obj i x q h1 h2).mono (Kp.laid m hp) (fun u e => by rw [upd_ne (ne_of_none e hp)]; exact e) fun u e => by rw [upd_ne (ne_of_none e hp)]; exact e, tab_laid m.tab (Kp.laid m hp) hp ho⟩
/-- a new object of the store, of one address -/
theorem Kp.new {st : Store} (m : Mt Γ as st H) {p : Addr} {o : HO} (hp : H p = none) : Kp as H (as ++ [(p, p)]) (upd H p o) :=
  ⟨⟨[(p, p)], rfl, fun q hq => by
    simp only [List.mem_singleton] at hq
    subst hq
    exact ⟨⟨hp, hp⟩, m.ninn hp, m.ninn hp⟩⟩, fun b u h _ _ => by rw [upd_ne (ne_of_none h hp)]; exact h, fun b ps h => ⟨ps, by rw [upd_ne (ne_of_none h hp)]; exact h⟩⟩
theorem Mt.new {st : Store} (m : Mt Γ as st H) {p : Addr} {ho : HO} {o : O} (hp : H p = none) (r : ORep Γ (as ++ [(p, p)]) (upd H p ho) (p, p) o) : Mt Γ (as ++ [(p, p)]) (st ++ [o]) (upd H p ho) := by
  have ln := m.len
  refine ⟨by simp [ln], fun i j a b h1 h2 ne => ?_, fun i x q h1 h2 => ?_, tab_laid m.tab (Kp.new m hp) hp fun ps z => r.nt ps (by rw [z]; exact upd_same)⟩
  · have key : ∀ {i : Nat} {a : Loc}, as[i]? = some a → a.1 ≠ p ∧ a.2 ≠ p := fun {i a} h => by
      obtain ⟨o, _, z⟩ := m.at_ h
      obtain ⟨⟨x, hx⟩, ⟨y, hy⟩⟩ := z.there
      exact ⟨ne_of_none hx hp, ne_of_none hy hp⟩
    rw [List.getElem?_append] at h1 h2
    split at h1
    · split at h2
      · exact m.apart i j a b h1 h2 ne
      · rw [List.getElem?_singleton] at h2
        split at h2
        · cases h2
          obtain ⟨z1, z2⟩ := key h1
          exact ⟨z1, z1, z2, z2⟩
        · cases h2
    · rw [List.getElem?_singleton] at h1
      split at h1
      · cases h1
        split at h2
        · obtain ⟨z1, z2⟩ := key h2
          exact ⟨z1.symm, z2.symm, z1.symm, z2.symm⟩
        · rw [List.getElem?_singleton] at h2
          split at h2
          · omega
          · cases h2
      · cases h1
  · rw [List.getElem?_append] at h1 h2
    split at h2
    · rw [if_pos (by omega)] at h1
      exact (m.obj i x q h1 h2).mono (Kp.new m hp) (fun u e => by rw [upd_ne (ne_of_none e hp)]; exact e) fun u e => by rw [upd_ne (ne_of_none e hp)]; exact e
    · rw [if_neg (by omega)] at h1
      rw [List.getElem?_singleton] at h1 h2
      split at h2
      · cases h2
        rw [if_pos (by omega)] at h1
        cases h1
        exact r
      · cases h2
/-- the list of a number is changed -/
theorem Kp.upd {st : Store} (m : Mt Γ as st H) {n : Nat} {p : Loc} {o : HO} (hp : as[n]? = some p) : Kp as H as (upd H p.1 o) :=
  ⟨⟨[], by simp, fun p hp => absurd hp (by simp)⟩, fun b u h nb _ => by rw [upd_ne fun z => nb ⟨p, List.mem_of_getElem? hp, .inl z⟩]; exact h, fun b ps h => ⟨ps, by rw [upd_ne fun z => m.tab.free h ⟨p, List.mem_of_getElem? hp, .inl z⟩]; exact h⟩⟩
theorem Mt.upd {st : Store} (m : Mt Γ as st H) {n : Nat} {p : Loc} {ho : HO} {o : O} (hp : as[n]? = some p) (r : ORep Γ as (upd H p.1 ho) p o) : Mt Γ as (st.set n o) (upd H p.1 ho) := by
  refine ⟨by rw [List.length_set]; exact m.len, m.apart, fun i x q h1 h2 => ?_, m.tab.step (Kp.upd m hp) (fun b ps h => ?_) fun b ps h => by rw [upd_ne fun z => m.tab.free h ⟨p, List.mem_of_getElem? hp, .inl z⟩]; exact h⟩
  rotate_left
  · by_cases e : b = p.1
    · subst e
      exact absurd h (r.nt ps)
    · rwa [upd_ne e] at h
  by_cases e : i = n
  · subst e
    rw [hp] at h2
    cases h2
    have hl : i < st.length := by rw [← m.len]; exact (List.getElem?_eq_some_iff.mp hp).1
    rw [List.getElem?_set_self hl] at h1
    cases h1
    exact r
  · rw [List.getElem?_set_ne (Ne.symm e)] at h1
    obtain ⟨a1, a2, a3, a4⟩ := m.apart i n q p h2 hp e
    exact (m.obj i x q h1 h2).mono (Kp.upd m hp) (fun u z => by rw [upd_ne a1]; exact z) fun u z => by rw [upd_ne a3]; exact z

/-! ### names -/
def EnvR (Γ : Gx) (as : List Loc) (H : Hp) (ρ : Env) (σ : L2.St) : Prop := ρ.length = σ.length ∧ ∀ (i : Nat) d, ρ[i]? = some (some d) → ∃ v, σ[i]? = some (some v) ∧ Rep Γ as H d v
theorem EnvR.mono (k : Kp as H as1 H1) {ρ : Env} {σ : L2.St} (h : EnvR Γ as H ρ σ) : EnvR Γ as1 H1 ρ σ := ⟨h.1, fun i d e => let ⟨v, a, b⟩ := h.2 i d e; ⟨v, a, Rep.mono k b⟩⟩
theorem EnvR.set {ρ : Env} {σ : L2.St} (h : EnvR Γ as H ρ σ) (i : Nat) {d : D} {v : V} (r : Rep Γ as H d v) : EnvR Γ as H (ρ.set i (some d)) (σ.set i (some v)) := by
  refine ⟨by rw [List.length_set, List.length_set]; exact h.1, fun j x e => ?_⟩
  by_cases q : j = i
  · subst q
    have hl : j < ρ.length := by
      have := (List.getElem?_eq_some_iff.mp e).1
      rwa [List.length_set] at this
    rw [List.getElem?_set_self hl] at e
    cases e
    exact ⟨v, List.getElem?_set_self (by rw [← h.1]; exact hl), r⟩
  · rw [List.getElem?_set_ne (Ne.symm q)] at e ⊢
    exact h.2 j x e
theorem EnvR.set0 {ρ : Env} {σ : L2.St} (h : EnvR Γ as H ρ σ) (i : Nat) : EnvR Γ as H (ρ.set i none) (σ.set i none) := by
  refine ⟨by rw [List.length_set, List.length_set]; exact h.1, fun j x e => ?_⟩
  by_cases q : j = i
  · subst q
    have hl : j < ρ.length := by
      have := (List.getElem?_eq_some_iff.mp e).1
      rwa [List.length_set] at this
    rw [List.getElem?_set_self hl] at e
    cases e
  · rw [List.getElem?_set_ne (Ne.symm q)] at e ⊢
    exact h.2 j x e
theorem EnvR.wipe {ρ : Env} {σ : L2.St} (h : EnvR Γ as H ρ σ) : ∀ vs : List Nat, EnvR Γ as H (wipeE ρ vs) (L2.wipe σ vs)
  | [] => h
  | v :: vs => (EnvR.wipe h vs).set0 v
end
end G
set_option Elab.async false
set_option linter.all false
set_option maxRecDepth 100000
set_option maxHeartbeats 4000000
/-! G4: what soundness says. -/
namespace G
open PySem PySem.Spec PyProof.Rows L2 SlX

instance : LawfulMonad M := LawfulMonad.mk'
  (id_map := fun x => by funext s; show (match x s with | .ok a s => _ | .exc c v s => _ | .stuck => _) = _; cases x s <;> rfl)
  (pure_bind := fun x f => rfl)
  (bind_assoc := fun x f g => by funext s; show (match (match x s with | .ok a s => f a s | .exc c v s => R.exc c v s | .stuck => R.stuck) with | .ok a s => g a s | .exc c v s => R.exc c v s | .stuck => R.stuck) = (match x s with | .ok a s => _ | .exc c v s => _ | .stuck => _); cases x s <;> rfl)

abbrev Rl (α β : Type) := List Loc → Hp → α → β → Prop
/-- what is wanted of a run's end: Q of what comes back, E of an error -/
def Po {α β : Type} (Γ : Gx) (rl : Rl α β) (as : List Loc) (H : Hp) (r : R α) (Q : β → Hp → Prop) (E : XK) : Prop := match r with
  | .ok d st' => ∀ as' v H', Kp as H as' H' → Mt Γ as' st' H' → rl as' H' d v → Q v H'
  | .exc c x st' => ∀ as' H' dx w, Kp as H as' H' → Mt Γ as' st' H' → H' dx = some (.xd [(xValue, w)]) → ¬ Inn as' dx → Rep Γ as' H' x w → E (.ref (Γ.ca c)) (some dx) H'
  | .stuck => False
section
variable {α β γ δ : Type} {Γ : Gx} {rl : Rl α β} {rl' : Rl γ δ} {as as1 : List Loc} {H H1 : Hp} {Q : β → Hp → Prop} {E : XK}
theorem Po.trans {r : R α} (k : Kp as H as1 H1) (h : Po Γ rl as H r Q E) : Po Γ rl as1 H1 r Q E := by
  cases r with
  | ok d st => exact fun as' v H' k' => h as' v H' (k.trans k')
  | exc c x st => exact fun as' H' dx w k' => h as' H' dx w (k.trans k')
  | stuck => exact h
theorem Po.ok {d : α} {st : Store} {v : β} (h : Po Γ rl as H (.ok d st) Q E) (m : Mt Γ as st H) (r : rl as H d v) : Q v H := h as v H (.refl as H) m r
theorem Po.okK {d : α} {st : Store} {v : β} (h : Po Γ rl as H (.ok d st) Q E) (k : Kp as H as1 H1) (m : Mt Γ as1 st H1) (r : rl as1 H1 d v) : Q v H1 := h as1 v H1 k m r
theorem Po.pure {d : α} {st : Store} {v : β} (h : Po Γ rl as H ((pure d : M α) st) Q E) (m : Mt Γ as st H) (r : rl as H d v) : Q v H := h as v H (.refl as H) m r
theorem Po.imp {r : R α} {Q' : β → Hp → Prop} {E' : XK} (h : Po Γ rl as H r Q E) (hq : ∀ v H, Q v H → Q' v H) (he : ∀ c d H, E c d H → E' c d H) : Po Γ rl as H r Q' E' := by
  cases r with
  | ok d st => exact fun as' v H' k m r => hq _ _ (h as' v H' k m r)
  | exc c x st => exact fun as' H' dx w k m e n r => he _ _ _ (h as' H' dx w k m e n r)
  | stuck => exact h
/-- the first part of a run in two parts -/
def Mid (Γ : Gx) (rl : Rl α β) (rl' : Rl γ δ) (as : List Loc) (H : Hp) (f : γ → M α) (Q : β → Hp → Prop) (E : XK) (v : δ) (H1 : Hp) : Prop :=
  ∃ x as1 st1, Kp as H as1 H1 ∧ Mt Γ as1 st1 H1 ∧ rl' as1 H1 x v ∧ Po Γ rl as1 H1 (f x st1) Q E
theorem Po.bind {m : M γ} {f : γ → M α} {st : Store} (h : Po Γ rl as H ((m >>= f) st) Q E) : Po Γ rl' as H (m st) (Mid Γ rl rl' as H f Q E) E := by
  rw [bind_run] at h
  cases e : m st with
  | ok x st1 =>
    rw [e] at h
    exact fun as' v H' k mt r => ⟨x, as', st1, k, mt, r, Po.trans k h⟩
  | exc c x st1 =>
    rw [e] at h
    exact h
  | stuck =>
    rw [e] at h
    exact h
theorem Po.need {b : Bool} {f : Unit → M α} {st : Store} (h : Po Γ rl as H ((need b >>= f) st) Q E) : b = true ∧ Po Γ rl as H (f () st) Q E := by
  cases b with
  | true => exact ⟨rfl, h⟩
  | false => exact h.elim
theorem Po.stuck {st : Store} (h : Po Γ rl as H ((stuck : M α) st) Q E) : False := h
/-- a list is looked up -/
theorem Po.getO {n : Nat} {f : O → M α} {st : Store} (m : Mt Γ as st H) (h : Po Γ rl as H ((getO n >>= f) st) Q E) : ∃ o p, st[n]? = some o ∧ as[n]? = some p ∧ ORep Γ as H p o ∧ Po Γ rl as H (f o st) Q E := by
  rw [bind_run, getO_run] at h
  cases e : st[n]? with
  | none =>
    rw [e] at h
    exact h.elim
  | some o =>
    rw [e] at h
    obtain ⟨p, h1, h2⟩ := m.loc e
    exact ⟨o, p, rfl, h1, h2, h⟩

/-! ### readings -/
def rd (Γ : Gx) (W : WX) (rl : Rl α β) (m : Env → M α) : L2.St → Hp → (β → Hp → Prop) → Prop := fun σ H Q => ∃ as st ρ, Mt Γ as st H ∧ EnvR Γ as H ρ σ ∧ Po Γ rl as H (m ρ st) Q (WE W σ)
theorem rd_bnd {W : WX} {σ : L2.St} {ρ : Env} {st : Store} {ma : Env → M γ} {f : γ → M α} {T : δ → Hp → Prop} (mt : Mt Γ as st H) (er : EnvR Γ as H ρ σ) (h : Po Γ rl as H ((ma ρ >>= f) st) Q (WE W σ))
    (k : ∀ x as1 st1 H1 v, Kp as H as1 H1 → Mt Γ as1 st1 H1 → EnvR Γ as1 H1 ρ σ → rl' as1 H1 x v → Po Γ rl as1 H1 (f x st1) Q (WE W σ) → T v H1) : rd Γ W rl' ma σ H T :=
  ⟨as, st, ρ, mt, er, (Po.bind (rl' := rl') h).imp (fun v H1 ⟨x, as1, st1, k1, m1, rx, p1⟩ => k x as1 st1 H1 v k1 m1 (er.mono k1) rx p1) fun _ _ _ h => h⟩
theorem rd_fin {W : WX} {σ : L2.St} {ρ : Env} {st : Store} {ma : Env → M α} (mt : Mt Γ as st H) (er : EnvR Γ as H ρ σ) (h : Po Γ rl as H (ma ρ st) Q (WE W σ)) : rd Γ W rl ma σ H Q := ⟨as, st, ρ, mt, er, h⟩
theorem rd_imp {W : WX} {ma : Env → M α} {σ : L2.St} {Q' : β → Hp → Prop} (h : rd Γ W rl ma σ H Q) (hq : ∀ v H, Q v H → Q' v H) : rd Γ W rl ma σ H Q' :=
  let ⟨as, st, ρ, mt, er, p⟩ := h
  ⟨as, st, ρ, mt, er, p.imp hq fun _ _ _ h => h⟩
end
abbrev RB : Rl Bool Bool := fun _ _ a b => a = b
abbrev SE (Γ : Gx) (X : Cx) (W : WX) (e : Expr) (m : Env → M D) : Prop := PE X e (rd Γ W (Rep Γ) m)
abbrev ST (Γ : Gx) (X : Cx) (W : WX) (e : Expr) (m : Env → M Bool) : Prop := PT X e (rd Γ W RB m)
abbrev SW (Γ : Gx) (X : Cx) (W : WX) (e : Expr) (m : Env → M Bool) : Prop := PW X e (rd Γ W RB m)
abbrev SA (Γ : Gx) (X : Cx) (W : WX) (es : List Expr) (m : Env → M (List D)) : Prop := PA X es (rd Γ W (Reps Γ) m)
section
variable {X : Cx} {e : Expr} {es : List Expr} {st : Stmt} {sts : List Stmt}
theorem PE_imp {t t' : TE} (h : PE X e t) (i : ∀ σ H Q, t' σ H Q → t σ H Q) : PE X e t' := ⟨fun pins s σ H Q I hq => h.run pins s σ H Q I (i _ _ _ hq)⟩
theorem PT_imp {t t' : TT} (h : PT X e t) (i : ∀ σ H Q, t' σ H Q → t σ H Q) : PT X e t' := ⟨fun pins s σ H Q I hq => h.run pins s σ H Q I (i _ _ _ hq)⟩
theorem PW_imp {t t' : TT} (h : PW X e t) (i : ∀ σ H Q, t' σ H Q → t σ H Q) : PW X e t' := ⟨fun wh pins s σ H Q I hq => h.run wh pins s σ H Q I (i _ _ _ hq)⟩
theorem PA_imp {t t' : TA} (h : PA X es t) (i : ∀ σ H Q, t' σ H Q → t σ H Q) : PA X es t' := ⟨fun pos pins s σ H Q I hq => h.run pos pins s σ H Q I (i _ _ _ hq)⟩
theorem PS_imp {t t' : TS} (h : PS X st t) (i : ∀ D σ H, t' D σ H → t D σ H) : PS X st t' := ⟨fun pins s σ H D I hq => h.run pins s σ H D I (i _ _ _ hq)⟩
theorem PSs_imp {t t' : TS} (h : PSs X sts t) (i : ∀ D σ H, t' D σ H → t D σ H) : PSs X sts t' := ⟨fun pins s σ H D I hq => h.run pins s σ H D I (i _ _ _ hq)⟩
end

section
variable {Γ : Gx} {X : Cx} {W : WX} {a : Expr} {ma : Env → M D} {pins : List (Addr × Obj)} {s : Shared} {σ : L2.St} {H : Hp} {as : List Loc} {st : Store} {ρ : Env}
/-- first this expression, then what follows -/
theorem SE.bnd {α β : Type} {rl : Rl α β} {f : D → M α} {Q : β → Hp → Prop} {P : Value → Shared → Prop} (ha : SE Γ X W a ma) (I : Inv X pins σ H s) (mt : Mt Γ as st H) (er : EnvR Γ as H ρ σ)
    (h : Po Γ rl as H ((ma ρ >>= f) st) Q (WE W σ))
    (k : ∀ x as1 st1 H1 v u s1, Kp as H as1 H1 → Inv X pins σ H1 s1 → Mt Γ as1 st1 H1 → EnvR Γ as1 H1 ρ σ → Rep Γ as1 H1 x v → RelV v u → Po Γ rl as1 H1 (f x st1) Q (WE W σ) → P u s1) :
    wpAny (model X.prog X.w) X.A (eval a X.env) P X.xe s := by
  refine thn (ha.run pins s σ H _ I (rd_bnd (rl' := Rep Γ) (T := fun v H1 => ∃ x as1 st1, Kp as H as1 H1 ∧ Mt Γ as1 st1 H1 ∧ EnvR Γ as1 H1 ρ σ ∧ Rep Γ as1 H1 x v ∧ Po Γ rl as1 H1 (f x st1) Q (WE W σ)) mt er h fun x as1 st1 H1 v k1 m1 e1 rx p1 => ⟨x, as1, st1, k1, m1, e1, rx, p1⟩)) fun u s1 ⟨v, H1, I1, r1, x, as1, st1, k1, m1, e1, rx, p1⟩ => ?_
  exact k x as1 st1 H1 v u s1 k1 I1 m1 e1 rx r1 p1
theorem ST.bnd {m : Env → M Bool} {α β : Type} {rl : Rl α β} {f : Bool → M α} {Q : β → Hp → Prop} {P : Bool → Shared → Prop} (ha : ST Γ X W a m) (I : Inv X pins σ H s) (mt : Mt Γ as st H) (er : EnvR Γ as H ρ σ)
    (h : Po Γ rl as H ((m ρ >>= f) st) Q (WE W σ))
    (k : ∀ x as1 st1 H1 s1, Kp as H as1 H1 → Inv X pins σ H1 s1 → Mt Γ as1 st1 H1 → EnvR Γ as1 H1 ρ σ → Po Γ rl as1 H1 (f x st1) Q (WE W σ) → P x s1) :
    wpAny (model X.prog X.w) X.A (isTrue a X.env (eval a X.env)) P X.xe s := by
  refine thn (ha.run pins s σ H _ I (rd_bnd (rl' := RB) (T := fun v H1 => ∃ as1 st1, Kp as H as1 H1 ∧ Mt Γ as1 st1 H1 ∧ EnvR Γ as1 H1 ρ σ ∧ Po Γ rl as1 H1 (f v st1) Q (WE W σ)) mt er h fun x as1 st1 H1 v k1 m1 e1 rx p1 => ⟨as1, st1, k1, m1, e1, by subst rx; exact p1⟩)) fun u s1 ⟨H1, I1, as1, st1, k1, m1, e1, p1⟩ => ?_
  exact k u as1 st1 H1 s1 k1 I1 m1 e1 p1
theorem SA.bnd {es : List Expr} {ms : Env → M (List D)} {α β : Type} {rl : Rl α β} {f : List D → M α} {Q : β → Hp → Prop} {P : List Value → Shared → Prop} {pos : Pos} (ha : SA Γ X W es ms) (I : Inv X pins σ H s) (mt : Mt Γ as st H) (er : EnvR Γ as H ρ σ)
    (h : Po Γ rl as H ((ms ρ >>= f) st) Q (WE W σ))
    (k : ∀ xs as1 st1 H1 vs us s1, Kp as H as1 H1 → Inv X pins σ H1 s1 → Mt Γ as1 st1 H1 → EnvR Γ as1 H1 ρ σ → Reps Γ as1 H1 xs vs → Vals vs us → Po Γ rl as1 H1 (f xs st1) Q (WE W σ) → P us s1) :
    wpAny (model X.prog X.w) X.A (spliced (backTo pos (starEach es X.env))) P X.xe s := by
  refine thn (ha.run pos pins s σ H _ I (rd_bnd (rl' := Reps Γ) (T := fun v H1 => ∃ x as1 st1, Kp as H as1 H1 ∧ Mt Γ as1 st1 H1 ∧ EnvR Γ as1 H1 ρ σ ∧ Reps Γ as1 H1 x v ∧ Po Γ rl as1 H1 (f x st1) Q (WE W σ)) mt er h fun x as1 st1 H1 v k1 m1 e1 rx p1 => ⟨x, as1, st1, k1, m1, e1, rx, p1⟩)) fun u s1 ⟨v, H1, I1, r1, x, as1, st1, k1, m1, e1, rx, p1⟩ => ?_
  exact k x as1 st1 H1 v u s1 k1 I1 m1 e1 rx r1 p1
end

/-! ### operations on values -/
section
variable (Γ : Gx) (X : Cx) (W : WX)
def V2 (F : Value → Value → Sem Value) (g : D → D → M D) : Prop := ∀ (pins : List (Addr × Obj)) (s : Shared) (σ : L2.St) (H : Hp) (as : List Loc) (st : Store) (x y : D) (vx vy : V) (ux uy : Value) (Q : VK), Inv X pins σ H s → Mt Γ as st H → Rep Γ as H x vx → Rep Γ as H y vy →
  RelV vx ux → RelV vy uy → Po Γ (Rep Γ) as H (g x y st) Q (WE W σ) → wpAny (model X.prog X.w) X.A (F ux uy) (EP X pins σ Q) X.xe s
def V1 (F : Value → Sem Value) (g : D → M D) : Prop := ∀ (pins : List (Addr × Obj)) (s : Shared) (σ : L2.St) (H : Hp) (as : List Loc) (st : Store) (x : D) (vx : V) (ux : Value) (Q : VK), Inv X pins σ H s → Mt Γ as st H → Rep Γ as H x vx →
  RelV vx ux → Po Γ (Rep Γ) as H (g x st) Q (WE W σ) → wpAny (model X.prog X.w) X.A (F ux) (EP X pins σ Q) X.xe s
/-- a call of a value with values -/
def VC (F : List Value → Sem Value) (g : List D → M D) : Prop := ∀ (pins : List (Addr × Obj)) (s : Shared) (σ : L2.St) (H : Hp) (as : List Loc) (st : Store) (xs : List D) (vs : List V) (us : List Value) (Q : VK), Inv X pins σ H s → Mt Γ as st H → Reps Γ as H xs vs →
  Vals vs us → Po Γ (Rep Γ) as H (g xs st) Q (WE W σ) → wpAny (model X.prog X.w) X.A (F us) (EP X pins σ Q) X.xe s
def VT (g : D → M Bool) : Prop := ∀ (pins : List (Addr × Obj)) (s : Shared) (σ : L2.St) (H : Hp) (as : List Loc) (st : Store) (x : D) (vx : V) (ux : Value) (Q : Bool → Hp → Prop), Inv X pins σ H s → Mt Γ as st H → Rep Γ as H x vx →
  RelV vx ux → Po Γ RB as H (g x st) Q (WE W σ) → wpAny (model X.prog X.w) X.A (truthy ux) (TP X pins σ Q) X.xe s
end
theorem VT.bnd {Γ : Gx} {X : Cx} {W : WX} {pins : List (Addr × Obj)} {s : Shared} {σ : L2.St} {H : Hp} {as : List Loc} {st : Store} {x : D} {v : V} {u : Value} {α β : Type} {rl : Rl α β} {f : Bool → M α} {Q : β → Hp → Prop} {P : Bool → Shared → Prop} {g : D → M Bool}
    (ht : VT Γ X W g) (I : Inv X pins σ H s) (mt : Mt Γ as st H) (rx : Rep Γ as H x v) (ru : RelV v u) (h : Po Γ rl as H ((g x >>= f) st) Q (WE W σ))
    (k : ∀ b as1 st1 H1 s1, Kp as H as1 H1 → Inv X pins σ H1 s1 → Mt Γ as1 st1 H1 → Po Γ rl as1 H1 (f b st1) Q (WE W σ) → P b s1) : wpAny (model X.prog X.w) X.A (truthy u) P X.xe s := by
  refine thn (ht pins s σ H as st x v u (fun b H1 => ∃ as1 st1, Kp as H as1 H1 ∧ Mt Γ as1 st1 H1 ∧ Po Γ rl as1 H1 (f b st1) Q (WE W σ)) I mt rx ru ((Po.bind (rl' := RB) h).imp (fun b H1 ⟨z, as1, st1, k1, m1, rz, p1⟩ => by subst rz; exact ⟨as1, st1, k1, m1, p1⟩) fun _ _ _ h => h)) fun b s1 ⟨H1, I1, as1, st1, k1, m1, p1⟩ => ?_
  exact k b as1 st1 H1 s1 k1 I1 m1 p1
theorem V2.bnd {Γ : Gx} {X : Cx} {W : WX} {pins : List (Addr × Obj)} {s : Shared} {σ : L2.St} {H : Hp} {as : List Loc} {st : Store} {x y : D} {vx vy : V} {ux uy : Value} {α β : Type} {rl : Rl α β} {f : D → M α} {Q : β → Hp → Prop} {P : Value → Shared → Prop} {F : Value → Value → Sem Value} {g : D → D → M D}
    (ht : V2 Γ X W F g) (I : Inv X pins σ H s) (mt : Mt Γ as st H) (rx : Rep Γ as H x vx) (ry : Rep Γ as H y vy) (rux : RelV vx ux) (ruy : RelV vy uy) (h : Po Γ rl as H ((g x y >>= f) st) Q (WE W σ))
    (k : ∀ z as1 st1 H1 v u s1, Kp as H as1 H1 → Inv X pins σ H1 s1 → Mt Γ as1 st1 H1 → Rep Γ as1 H1 z v → RelV v u → Po Γ rl as1 H1 (f z st1) Q (WE W σ) → P u s1) : wpAny (model X.prog X.w) X.A (F ux uy) P X.xe s := by
  refine thn (ht pins s σ H as st x y vx vy ux uy (fun v H1 => ∃ z as1 st1, Kp as H as1 H1 ∧ Mt Γ as1 st1 H1 ∧ Rep Γ as1 H1 z v ∧ Po Γ rl as1 H1 (f z st1) Q (WE W σ)) I mt rx ry rux ruy ((Po.bind (rl' := Rep Γ) h).imp (fun b H1 ⟨z, as1, st1, k1, m1, rz, p1⟩ => ⟨z, as1, st1, k1, m1, rz, p1⟩) fun _ _ _ h => h)) fun u s1 ⟨v, H1, I1, r1, z, as1, st1, k1, m1, rz, p1⟩ => ?_
  exact k z as1 st1 H1 v u s1 k1 I1 m1 rz r1 p1
section
variable {Γ : Gx} {X : Cx} {W : WX} {a b c : Expr} {ma mb mc : Env → M D} {pos : Pos}
theorem V2.of {F : Value → Value → Sem Value} {r : R2} {g : D → D → M D} (ho : OpR X F r) (i : ∀ as st H x y vx vy Q E, Mt Γ as st H → Rep Γ as H x vx → Rep Γ as H y vy → Po Γ (Rep Γ) as H (g x y st) Q E → r vx vy H Q) : V2 Γ X W F g :=
  fun pins s σ H as st x y vx vy ux uy Q I mt rx ry vx' vy' p => ho pins s σ H vx vy ux uy Q I vx' vy' (i as st H x y vx vy Q _ mt rx ry p)
theorem VC.of {f : Value} {r : List V → Hp → VK → Prop} {g : List D → M D} (ho : CallR X f r) (i : ∀ as st H xs vs Q E, Mt Γ as st H → Reps Γ as H xs vs → Po Γ (Rep Γ) as H (g xs st) Q E → r vs H Q) : VC Γ X W (fun us => call f us) g :=
  fun pins s σ H as st xs vs us Q I mt rx rv p => ho pins s σ H vs us Q I rv (i as st H xs vs Q _ mt rx p)
theorem se_bin {op : Operator} {g : D → D → M D} (ho : V2 Γ X W (binaryOp op) g) (ha : SE Γ X W a ma) (hb : SE Γ X W b mb) : SE Γ X W (.BinOp a op b pos) (fun ρ => do
    let x ← ma ρ
    let y ← mb ρ
    g x y) := by
  refine ⟨fun pins s σ H Q I ⟨as, st, ρ, mt, er, p⟩ => ?_⟩
  refine wpAny_BinOp (SE.bnd ha I mt er p fun x as1 st1 H1 v u s1 k1 I1 m1 e1 rx ru p1 => SE.bnd hb I1 m1 e1 p1 fun y as2 st2 H2 v' u' s2 k2 I2 m2 e2 ry ru' p2 => ?_)
  exact ho pins s2 σ H2 as2 st2 x y v v' u u' Q I2 m2 (rx.mono k2) ry ru ru' p2
theorem se_un {op : UnaryOp} {g : D → M D} (ho : V1 Γ X W (unaryOp op) g) (ha : SE Γ X W a ma) : SE Γ X W (.UnaryOp op a pos) (fun ρ => do
    let x ← ma ρ
    g x) := by
  refine ⟨fun pins s σ H Q I ⟨as, st, ρ, mt, er, p⟩ => ?_⟩
  refine UnaryOp_ (SE.bnd ha I mt er p fun x as1 st1 H1 v u s1 k1 I1 m1 e1 rx ru p1 => ?_)
  exact ho pins s1 σ H1 as1 st1 x v u Q I1 m1 rx ru p1
theorem se_cmp {op : CmpOp} {g : D → D → M D} (ho : V2 Γ X W (compareOp op) g) (ha : SE Γ X W a ma) (hb : SE Γ X W b mb) (h1 : behindInMarks op b = false) : SE Γ X W (.Compare a [op] [b] pos) (fun ρ => do
    let x ← ma ρ
    let y ← mb ρ
    g x y) := by
  refine ⟨fun pins s σ H Q I ⟨as, st, ρ, mt, er, p⟩ => ?_⟩
  refine wpAny_Compare1 (SE.bnd ha I mt er p fun x as1 st1 H1 v u s1 k1 I1 m1 e1 rx ru p1 => SE.bnd hb I1 m1 e1 p1 fun y as2 st2 H2 v' u' s2 k2 I2 m2 e2 ry ru' p2 => ?_) h1
  exact ho pins s2 σ H2 as2 st2 x y v v' u u' Q I2 m2 (rx.mono k2) ry ru ru' p2
/-- a comparison as a test -/
theorem st_cmp {op : CmpOp} {g : D → D → M D} (tr : VT Γ X W truth) (ho : V2 Γ X W (compareOp op) g) (ha : SE Γ X W a ma) (hb : SE Γ X W b mb) (h1 : behindInMarks op b = false) : ST Γ X W (.Compare a [op] [b] pos) (fun ρ => do
    let x ← ma ρ
    let y ← mb ρ
    truth (← g x y)) := by
  refine ⟨fun pins s σ H Q I ⟨as, st, ρ, mt, er, p⟩ => ?_⟩
  refine wpAny_isTrue_Compare1 (SE.bnd ha I mt er p fun x as1 st1 H1 v u s1 k1 I1 m1 e1 rx ru p1 => SE.bnd hb I1 m1 e1 p1 fun y as2 st2 H2 v' u' s2 k2 I2 m2 e2 ry ru' p2 => ?_) h1
  refine V2.bnd ho I2 m2 (rx.mono k2) ry ru ru' p2 fun z as3 st3 H3 v u s3 k3 I3 m3 rz ruz p3 => ?_
  exact tr pins s3 σ H3 as3 st3 z v u Q I3 m3 rz ruz p3

/-! ### and, or, not, if -/
theorem se_if {mc : Env → M Bool} (hc : ST Γ X W c mc) (ha : SE Γ X W a ma) (hb : SE Γ X W b mb) : SE Γ X W (.IfExp c a b pos) (fun ρ => do
    match ← mc ρ with
    | true => ma ρ
    | false => mb ρ) := by
  refine PE_imp (pe_ifExp hc ha hb) fun σ H Q ⟨as, st, ρ, mt, er, p⟩ => rd_bnd (rl' := RB) mt er p fun x as1 st1 H1 v k1 m1 e1 rx p1 => ?_
  subst rx
  cases x with
  | true => exact rd_fin m1 e1 p1
  | false => exact rd_fin m1 e1 p1
theorem st_not {m : Env → M Bool} (ha : ST Γ X W a m) : ST Γ X W (.UnaryOp .Not a pos) (fun ρ => do return !(← m ρ)) := by
  refine PT_imp (pt_not ha) fun σ H Q ⟨as, st, ρ, mt, er, p⟩ => rd_bnd (rl' := RB) mt er p fun x as1 st1 H1 v k1 m1 e1 rx p1 => ?_
  subst rx
  exact p1.pure m1 rfl
theorem st_and {m n : Env → M Bool} {rest : List Expr} (ha : ST Γ X W a m) (hb : SW Γ X W (.BoolOp .And (b :: rest) pos) n) : SW Γ X W (.BoolOp .And (a :: b :: rest) pos) (fun ρ => do
    match ← m ρ with
    | true => n ρ
    | false => pure false) := by
  refine PW_imp (pw_and ha hb) fun σ H Q ⟨as, st, ρ, mt, er, p⟩ => rd_bnd (rl' := RB) mt er p fun x as1 st1 H1 v k1 m1 e1 rx p1 => ?_
  subst rx
  cases x with
  | true => exact rd_fin m1 e1 p1
  | false => exact p1.pure m1 rfl
theorem st_or {m n : Env → M Bool} {rest : List Expr} (ha : ST Γ X W a m) (hb : SW Γ X W (.BoolOp .Or (b :: rest) pos) n) : SW Γ X W (.BoolOp .Or (a :: b :: rest) pos) (fun ρ => do
    match ← m ρ with
    | true => pure true
    | false => n ρ) := by
  refine PW_imp (pw_or ha hb) fun σ H Q ⟨as, st, ρ, mt, er, p⟩ => rd_bnd (rl' := RB) mt er p fun x as1 st1 H1 v k1 m1 e1 rx p1 => ?_
  subst rx
  cases x with
  | true => exact p1.pure m1 rfl
  | false => exact rd_fin m1 e1 p1
/-- .. as values -/
theorem se_and {rest : List Expr} (tr : VT Γ X W truth) (ha : SE Γ X W a ma) (hb : SE Γ X W (.BoolOp .And (b :: rest) pos) mb) : SE Γ X W (.BoolOp .And (a :: b :: rest) pos) (fun ρ => do
    let x ← ma ρ
    match ← truth x with
    | true => mb ρ
    | false => pure x) := by
  refine ⟨fun pins s σ H Q I ⟨as, st, ρ, mt, er, p⟩ => ?_⟩
  refine BoolOp_and (SE.bnd ha I mt er p fun x as1 st1 H1 v u s1 k1 I1 m1 e1 rx ru p1 => VT.bnd tr I1 m1 rx ru p1 fun z as2 st2 H2 s2 k2 I2 m2 p2 => ?_)
  cases z with
  | true => exact hb.run pins s2 σ H2 Q I2 (rd_fin m2 (e1.mono k2) p2)
  | false => exact ⟨v, H2, I2, ru, p2.pure m2 (rx.mono k2)⟩
theorem se_or {rest : List Expr} (tr : VT Γ X W truth) (ha : SE Γ X W a ma) (hb : SE Γ X W (.BoolOp .Or (b :: rest) pos) mb) : SE Γ X W (.BoolOp .Or (a :: b :: rest) pos) (fun ρ => do
    let x ← ma ρ
    match ← truth x with
    | true => pure x
    | false => mb ρ) := by
  refine ⟨fun pins s σ H Q I ⟨as, st, ρ, mt, er, p⟩ => ?_⟩
  refine BoolOp_or (SE.bnd ha I mt er p fun x as1 st1 H1 v u s1 k1 I1 m1 e1 rx ru p1 => VT.bnd tr I1 m1 rx ru p1 fun z as2 st2 H2 s2 k2 I2 m2 p2 => ?_)
  cases z with
  | true => exact ⟨v, H2, I2, ru, p2.pure m2 (rx.mono k2)⟩
  | false => exact hb.run pins s2 σ H2 Q I2 (rd_fin m2 (e1.mono k2) p2)
theorem se_not (tr : VT Γ X W truth) (ha : SE Γ X W a ma) : SE Γ X W (.UnaryOp .Not a pos) (fun ρ => do
    let x ← ma ρ
    let b ← truth x
    pure (.bl (!b))) := by
  refine ⟨fun pins s σ H Q I ⟨as, st, ρ, mt, er, p⟩ => ?_⟩
  refine UnaryOp_ (SE.bnd ha I mt er p fun x as1 st1 H1 v u s1 k1 I1 m1 e1 rx ru p1 => not_of (VT.bnd tr I1 m1 rx ru p1 fun z as2 st2 H2 s2 k2 I2 m2 p2 => ?_))
  exact ⟨.bl (!z), H2, I2, rfl, p2.pure m2 .ofBl⟩
/-- an expression as a test -/
theorem st_val {e : Expr} {m : Env → M D} (tr : VT Γ X W truth) (h : SE Γ X W e m) (he : ∀ whole, isTrue e X.env whole = (do let v ← whole; standAt e.pos; holding [v] (truthy v))) : ST Γ X W e (fun ρ => do
    let x ← m ρ
    truth x) := by
  refine ⟨fun pins s σ H Q I ⟨as, st, ρ, mt, er, p⟩ => ?_⟩
  refine isTrue_plain (SE.bnd h I mt er p fun x as1 st1 H1 v u s1 k1 I1 m1 e1 rx ru p1 => ?_) (he _)
  exact tr pins s1 σ H1 as1 st1 x v u Q I1 m1 rx ru p1
theorem st_one {op : BoolOp} {m : Env → M Bool} (h : ST Γ X W a m) : SW Γ X W (.BoolOp op [a] pos) m := by
  cases op with
  | And => exact pw_and1 h
  | Or => exact pw_or1 h
end

/-! ### the plain expressions -/
section
variable {Γ : Gx} {X : Cx} {W : WX}
theorem se_never {e : Expr} {m : Env → M D} (hm : ∀ ρ, m ρ = stuck) : SE Γ X W e m := ⟨fun _ _ _ _ _ _ ⟨_, _, ρ, _, _, p⟩ => by
  rw [hm] at p
  exact p.elim⟩
theorem st_never {e : Expr} {m : Env → M Bool} (hm : ∀ ρ, m ρ = stuck) : ST Γ X W e m := ⟨fun _ _ _ _ _ _ ⟨_, _, ρ, _, _, p⟩ => by
  rw [hm] at p
  exact p.elim⟩
theorem se_var {i : Nat} {x : Str} {pos : Pos} (hN : X.N[i]? = some x) (hv : Vis X.env.scope x) (hd : (x == ("__debug__" : Str)) = false) (hcd : (x == ("__classdict__" : Str)) = false) : SE Γ X W (.Name x pos) (fun ρ => envGet ρ i) := by
  refine PE_imp (pe_var (i := i) hN hv hd hcd) fun σ H Q ⟨as, st, ρ, mt, er, h⟩ => ?_
  replace h : Po Γ (Rep Γ) as H (envGet ρ i st) Q (WE W σ) := h
  rw [envGet_run] at h
  cases e : ρ[i]? with
  | none =>
    rw [e] at h
    exact h.elim
  | some o =>
    cases o with
    | none =>
      rw [e] at h
      exact h.elim
    | some d =>
      rw [e] at h
      obtain ⟨v, e1, r⟩ := er.2 i d e
      exact ⟨v, e1, h.ok mt r⟩
theorem se_con {d : D} {v : V} {e : Expr} (h : PE X e (tC v)) (r : ∀ as H, Rep Γ as H d v) : SE Γ X W e (fun _ => pure d) :=
  PE_imp h fun σ H Q ⟨as, st, ρ, mt, er, h⟩ => h.pure mt (r as H)
theorem sa_nil : SA Γ X W [] (fun _ => pure []) := PA_imp pa_nil fun σ H Q ⟨as, st, ρ, mt, er, h⟩ => h.pure mt .nil
theorem sa_cons {e : Expr} {es : List Expr} {m : Env → M D} {ms : Env → M (List D)} (h : SE Γ X W e m) (hs : SA Γ X W es ms) (hst : starEach (e :: es) X.env = (false, eval e X.env) :: starEach es X.env) : SA Γ X W (e :: es) (fun ρ => do
    let x ← m ρ
    return x :: (← ms ρ)) := by
  refine PA_imp (pa_cons h hs hst) fun σ H Q ⟨as, st, ρ, mt, er, p⟩ => rd_bnd (rl' := Rep Γ) mt er p fun x as1 st1 H1 v k1 m1 e1 rx p1 => ?_
  exact rd_bnd (rl' := Reps Γ) m1 e1 p1 fun xs as2 st2 H2 vs k2 m2 e2 rxs p2 => p2.pure m2 (.cons (rx.mono k2) rxs)
theorem starEach_cons {e : Expr} {es : List Expr} {env : PySem.Env} (h : (match e with | .Starred _ _ => true | _ => false) = false) : starEach (e :: es) env = (false, eval e env) :: starEach es env := by
  cases e <;> first | rfl | cases h
end
end G
set_option Elab.async false
set_option linter.all false
set_option maxRecDepth 100000
set_option maxHeartbeats 4000000
/-! G5: operations on values. -/
namespace G
open PySem PySem.Spec PyProof.Rows L2 SlX

theorem line_eq : sizeLine = line := sizeLine_eq
theorem ble_line {n : Nat} (h : Nat.ble n line = true) : n ≤ sizeLine := by rw [line_eq]; exact Nat.le_of_ble_eq_true h
section
variable {Γ : Gx} {as : List Loc} {H : Hp} {st : Store} {Q : VK} {E : XK} {xs ys : List D} {vs ws : List V}
theorem Po.newO {o : O} {ho : HO} (h : Po Γ (Rep Γ) as H (newO o st) Q E) (mt : Mt Γ as st H) {p : Addr} (hp : H p = none) (r : ORep Γ (as ++ [(p, p)]) (upd H p ho) (p, p) o) : Q (.ref p) (upd H p ho) := by
  refine h (as ++ [(p, p)]) (.ref p) (upd H p ho) (Kp.new mt hp) (mt.new hp r) ?_
  unfold Rep
  exact ⟨(p, p), by rw [← mt.len, List.getElem?_append_right (Nat.le_refl _)]; simp, rfl⟩
theorem Po.newL (h : Po Γ (Rep Γ) as H (newL xs st) Q E) (mt : Mt Γ as st H) (rs : Reps Γ as H xs vs) : vs.length ≤ sizeLine ∧ ∀ p, H p = none → Q (.ref p) (upd H p (.lst vs)) := by
  obtain ⟨hn, h⟩ := Po.need h
  refine ⟨by rw [rs.len]; exact ble_line hn, fun p hp => ?_⟩
  refine Po.newO h mt hp ⟨rfl, vs, upd_same, rs.mono (Kp.new mt hp)⟩
theorem Po.newT {ds : List D} (h : Po Γ (Rep Γ) as H (.ok (.tup ds) st) Q E) (mt : Mt Γ as st H) (rs : Reps Γ as H ds vs) : ∀ p, H p = none → Q (.ref p) (upd H p (.tup vs)) := fun p hp => by
  refine h.okK (Kp.laid mt hp) (mt.laid hp fun ps z => nomatch z) ?_
  unfold Rep
  exact ⟨p, vs, rfl, .inl ⟨mt.ninn hp, upd_same⟩, rs.mono (Kp.laid mt hp)⟩
/-- the list of a number -/
theorem ORep.lstE {p : Loc} (h : ORep Γ as H p (.lst xs)) : p.2 = p.1 ∧ ∃ vs, H p.1 = some (.lst vs) ∧ Reps Γ as H xs vs := h
theorem Po.setL {n : Nat} {p : Loc} {α β : Type} {rl : Rl α β} {a : α} {v : β} {Q : β → Hp → Prop} (h : Po Γ rl as H (.ok a (st.set n (.lst ys))) Q E) (mt : Mt Γ as st H) (hp : as[n]? = some p) (e : p.2 = p.1) (rs : Reps Γ as H ys ws) (r : ∀ H', Kp as H as H' → rl as H' a v) : Q v (upd H p.1 (.lst ws)) := by
  have k := Kp.upd (o := .lst ws) mt hp
  exact h.okK k (mt.upd hp ⟨e, ws, upd_same, rs.mono k⟩) (r _ k)
theorem rep_obj_eq {n : Nat} {v : V} {p : Loc} (r : Rep Γ as H (.obj n) v) (hp : as[n]? = some p) : v = .ref p.1 := by
  obtain ⟨q, e, rfl⟩ := r.obj
  rw [hp] at e
  cases e
  rfl
theorem SqT_of {K : PySem.W.Frag} (hK : K = Γ.K) {a : Addr} (h : TupAt Γ as H a vs) : SqT K H a vs := by rw [hK]; exact h.sq
end

/-- what stands below all that a law makes -/
structure BaseOk (base : Heap) : Prop where
  mo : ∃ o, base.get? sysModules = some o
  nd : base.NoDigits
/-- a body's context as the proofs want it -/
structure XG (Γ : Gx) (X : Cx) (W : WX) (k : Nat) : Prop where
  hK : X.K = Γ.K
  calm : X.calm = true
  nd : X.N.Nodup
  tk : Takes X W
  hr : Room k X.A
  gd : Γ.rp = true → X.A.guards = some []
  sm : BaseOk X.base
section
variable {Γ : Gx} {X : Cx} {W : WX} {k : Nat}
theorem v_sub : V2 Γ X W (binaryOp .Sub) subD0 := V2.of op_sub fun as st H x y vx vy Q E mt rx ry p => by
  cases x <;> cases y <;> first | exact False.elim p | skip
  exact ⟨_, _, rx.int, ry.int, p.pure mt .ofInt⟩
def CDivX (_ j : Int) : Prop := j ≠ 0 ∧ j.natAbs.log2 < 9000
theorem op_fdivX : OpR X (binaryOp .FloorDiv) (rI CDivX fun i j => .int (fdivI i j)) := opI fun i j _ _ _ _ _ hc q => by
  refine floordiv_int hc.1 ?_ (.inl (PyProof.noPylong_of_log2 hc.2))
  have e : i.fdiv j = fdivI i j := by
    unfold fdivI
    split
    · exact Int.fdiv_eq_ediv_of_nonneg i (by omega)
    · rfl
  rw [e]
  exact q
theorem v_fdiv : V2 Γ X W (binaryOp .FloorDiv) fdivD := V2.of op_fdivX fun as st H x y vx vy Q E mt rx ry p => by
  cases x <;> cases y <;> first | exact False.elim p | skip
  rename_i i j
  obtain ⟨hn, p⟩ := Po.need p
  unfold divOk at hn
  rw [Bool.and_eq_true] at hn
  exact ⟨_, _, rx.int, ry.int, ⟨of_decide_eq_true hn.1, of_decide_eq_true hn.2⟩, p.pure mt .ofInt⟩
theorem v_mod : V2 Γ X W (binaryOp .Mod) modD := V2.of op_mod fun as st H x y vx vy Q E mt rx ry p => by
  cases x <;> cases y <;> first | exact False.elim p | skip
  obtain ⟨hn, p⟩ := Po.need p
  exact ⟨_, _, rx.int, ry.int, of_decide_eq_true hn, p.pure mt .ofInt⟩
theorem v_lt : V2 Γ X W (compareOp .Lt) ltD0 := V2.of op_lt fun as st H x y vx vy Q E mt rx ry p => by
  cases x <;> cases y <;> first | exact False.elim p | skip
  exact ⟨_, _, rx.int, ry.int, p.pure mt .ofBl⟩
theorem v_le : V2 Γ X W (compareOp .LtE) leD0 := V2.of op_le fun as st H x y vx vy Q E mt rx ry p => by
  cases x <;> cases y <;> first | exact False.elim p | skip
  exact ⟨_, _, rx.int, ry.int, p.pure mt .ofBl⟩
theorem v_gt : V2 Γ X W (compareOp .Gt) gtD0 := V2.of op_gt fun as st H x y vx vy Q E mt rx ry p => by
  cases x <;> cases y <;> first | exact False.elim p | skip
  exact ⟨_, _, rx.int, ry.int, p.pure mt .ofBl⟩
theorem v_ge : V2 Γ X W (compareOp .GtE) geD0 := V2.of op_ge fun as st H x y vx vy Q E mt rx ry p => by
  cases x <;> cases y <;> first | exact False.elim p | skip
  exact ⟨_, _, rx.int, ry.int, p.pure mt .ofBl⟩
/-- a ** b, b from 0 to 1000 -/
theorem v_pow : V2 Γ X W (binaryOp .Pow) powD := fun pins s σ H as st x y vx vy ux uy Q I mt rx ry rux ruy p => by
  cases x <;> cases y <;> first | exact False.elim p | skip
  rename_i i j
  obtain ⟨hn, p⟩ := Po.need p
  have q := p.pure mt .ofInt
  cases rx.int
  cases ry.int
  obtain ⟨t, rfl⟩ := rux
  obtain ⟨t', rfl⟩ := ruy
  unfold powOk at hn
  simp only [Bool.and_eq_true, decide_eq_true_eq] at hn
  obtain ⟨⟨h0, h1⟩, h2⟩ := hn
  have fin : EP X pins σ Q (.int (i ^ j.toNat) s.toks) { s with toks := s.toks + 1 } := ⟨.int (i ^ j.toNat), H, I.tok _, ⟨_, rfl⟩, q⟩
  by_cases hs : i.natAbs < 2 ^ 64
  · exact pow_int_small h0 (by omega) hs fin
  · have e0 : ¬ (j == 0) = true ∨ (j == 0) = true := by cases (j == 0) <;> simp
    have i64 : 2 ^ 64 ≤ i.natAbs := by omega
    by_cases hj : j = 0
    · subst hj
      exact PySem.AutoIntOps.pow_0 (by decide) (by decide) (show (EP X pins σ Q) (.int 1 s.toks) { s with toks := s.toks + 1 } by simpa using fin)
    · refine PySem.AutoIntOps.pow_4 (by omega) (by simp [hj]) ?_ ?_ ?_ fin
      · have h1 : i ≠ 0 := by rintro rfl; simp at i64
        have h2 : i ≠ 1 := by rintro rfl; simp at i64
        simp [h1, h2]
      · have h1 : i ≠ -1 := by rintro rfl; simp at i64
        simp [h1]
      · have e : bitsLine = 134217728 := by decide
        have b : Builtin.Int.intBits i ≤ i.natAbs.log2 + 1 := by
          unfold Builtin.Int.intBits
          split <;> omega
        unfold Builtin.Int.intTooBig
        rw [e]
        intro z
        have z3 := of_decide_eq_true z
        have hm : ((Builtin.Int.intBits i : Nat) : Int) * j ≤ 50000 * 1000 := by
          have h3 : ((Builtin.Int.intBits i : Nat) : Int) ≤ 50000 := by omega
          calc ((Builtin.Int.intBits i : Nat) : Int) * j ≤ 50000 * j := Int.mul_le_mul_of_nonneg_right h3 h0
            _ ≤ 50000 * 1000 := Int.mul_le_mul_of_nonneg_left h1 (by decide)
        omega
theorem v_neg0 {ct : Ct} (own : V1 Γ X W (unaryOp .USub) (fun a => match a with | .ins c xs => own1 ct mNeg (.ins c xs) | _ => stuck)) : V1 Γ X W (unaryOp .USub) (negD ct) := fun pins s σ H as st x vx ux Q I mt rx rux p => by
  cases x <;> first | exact False.elim p | skip
  case ins => exact own pins s σ H as st _ vx ux Q I mt rx rux p
  cases rx.int
  exact un_neg pins s σ H _ ux Q I rux ⟨_, rfl, p.pure mt .ofInt⟩
/-- two lists -/
theorem two_lists {m n : Nat} {f : O → O → M D} {as : List Loc} {H : Hp} {st : Store} {Q : VK} {E : XK} (mt : Mt Γ as st H) (p : Po Γ (Rep Γ) as H ((do let a ← getO m; let b ← getO n; f a b) st) Q E) :
    ∃ a b p1 p2, st[m]? = some a ∧ st[n]? = some b ∧ as[m]? = some p1 ∧ as[n]? = some p2 ∧ ORep Γ as H p1 a ∧ ORep Γ as H p2 b ∧ Po Γ (Rep Γ) as H (f a b st) Q E := by
  obtain ⟨a, p1, h1, h2, h3, p⟩ := Po.getO mt p
  obtain ⟨b, p2, g1, g2, g3, p⟩ := Po.getO mt p
  exact ⟨a, b, p1, p2, h1, g1, h2, g2, h3, g3, p⟩
theorem v_add (c : XG Γ X W k) : V2 Γ X W (binaryOp .Add) addD0 := fun pins s σ H as st x y vx vy ux uy Q I mt rx ry rux ruy p => by
  cases x <;> cases y <;> first | exact False.elim p | skip
  · exact op_add pins s σ H _ _ ux uy Q I rux ruy ⟨_, _, rx.int, ry.int, p.pure mt .ofInt⟩
  · obtain ⟨hn, p⟩ := Po.need p
    exact op_add_str pins s σ H _ _ ux uy Q I rux ruy ⟨_, _, rx.str, ry.str, ble_line hn, p.pure mt .ofStr⟩
  · obtain ⟨hn, p⟩ := Po.need p
    obtain ⟨a, vs, rfl, t1, r1⟩ := rx.tup
    obtain ⟨b, ws, rfl, t2, r2⟩ := ry.tup
    have rr := r1.app r2
    have e1 := r1.len
    have e2 := r2.len
    refine op_catA pins s σ H _ _ ux uy Q I rux ruy ⟨a, b, vs, ws, rfl, rfl, SqT_of c.hK t1, SqT_of c.hK t2, by rw [e1, e2]; exact ble_line hn, fun e => ?_, fun _ e => ?_, fun _ _ q hq => ?_⟩
    · subst e
      refine p.pure mt ?_
      unfold Rep
      exact ⟨b, ws, rfl, t2, rr⟩
    · subst e
      refine p.pure mt ?_
      unfold Rep
      rw [List.append_nil] at rr
      exact ⟨a, vs, rfl, t1, rr⟩
    · exact Po.newT p mt rr q hq
  · obtain ⟨a, b, p1, p2, h1, h2, g1, g2, o1, o2, p⟩ := two_lists mt p
    cases a <;> cases b <;> first | exact False.elim p | skip
    obtain ⟨_, vs, e1, r1⟩ := o1.lstE
    obtain ⟨_, ws, e2, r2⟩ := o2.lstE
    obtain ⟨hz, q⟩ := Po.newL p mt (r1.app r2)
    rw [List.length_append] at hz
    exact op_cat pins s σ H _ _ ux uy Q I rux ruy ⟨p1.1, p2.1, vs, ws, rep_obj_eq rx g1, rep_obj_eq ry g2, e1, e2, hz, q⟩
theorem tuple_mul1 (l : Addr) (items : Array Value) (n : Nat) (dd : Option Addr) (sl : Array (Option Value)) (x : Int) (u : Tok) (c0 : (decide (x < -(2 ^ 63)) || decide (x ≥ 2 ^ 63)) = false) (c1 : (items.isEmpty || x == 1) = true) :
    Meets (Builtin.«tuple.__mul__» ⟨[.ref l, .int x u], []⟩) (fun _ R s => s.heap.get? l = some { cls := .type "tuple", dict := dd, data := .seq items n, slots := sl } ∧ R (.ok (.ret (Value.ref l))) s) :=
  .of_wp fun prog w A R s h => by
    obtain ⟨hp, g, d, tk, os⟩ := s
    obtain ⟨hl, h⟩ := h
    have f1 := AutoSeq1.idx_int
    wp_walk using wpAny_loadPart' hl
    repeat (first
      | (refine wpAny_ite_false (decide_eq_false (by rw [c0]; exact Bool.false_ne_true)) ?_; wp_walk using wpAny_loadPart' hl)
      | (refine wpAny_ite_true (decide_eq_true c1) ?_; wp_walk using wpAny_loadPart' hl))
    exact ⟨_, rfl, h⟩
theorem tuple_mul0 (l : Addr) (items : Array Value) (n : Nat) (dd : Option Addr) (sl : Array (Option Value)) (x : Int) (u : Tok) (c0 : (decide (x < -(2 ^ 63)) || decide (x ≥ 2 ^ 63)) = false) (c1 : (items.isEmpty || x == 1) = false) (c2 : (decide (x ≤ 0) || items.isEmpty) = true) :
    Meets (Builtin.«tuple.__mul__» ⟨[.ref l, .int x u], []⟩) (fun _ R s => s.heap.get? l = some { cls := .type "tuple", dict := dd, data := .seq items n, slots := sl } ∧
      R (.ok (.ret (Value.ref s.heap.objs.size))) { s with heap := s.heap.push { cls := Value.type "tuple", data := Data.seq #[] }, toks := s.toks }) :=
  .of_wp fun prog w A R s h => by
    obtain ⟨hp, g, d, tk, os⟩ := s
    obtain ⟨hl, h⟩ := h
    have f1 := AutoSeq1.idx_int
    wp_walk using wpAny_loadPart' hl
    repeat (first
      | (refine wpAny_ite_false (decide_eq_false (by rw [c0]; exact Bool.false_ne_true)) ?_; wp_walk using wpAny_loadPart' hl)
      | (refine wpAny_ite_false (decide_eq_false (by rw [c1]; exact Bool.false_ne_true)) ?_; wp_walk using wpAny_loadPart' hl)
      | (refine wpAny_ite_true (decide_eq_true c2) ?_; wp_walk using wpAny_loadPart' hl))
    exact ⟨_, rfl, h⟩
/-- t * k -/
def rRepA (K : PySem.W.Frag) : R2 := fun x y H Q => ∃ l k xs, x = .ref l ∧ y = .int k ∧ SqT K H l xs ∧ -(2 ^ 63) ≤ k ∧ k < 2 ^ 63 ∧ xs.length * k.toNat ≤ sizeLine ∧
  ((xs = [] ∨ k = 1) → Q (.ref l) H) ∧ (¬ (xs = [] ∨ k = 1) → ∀ p, H p = none → Q (.ref p) (upd H p (.tup (List.replicate k.toNat xs).flatten)))
theorem op_repA : OpR X (binaryOp .Mult) (rRepA X.K) := by
  intro pins s σ H x y v u Q I rx ry h
  obtain ⟨l, k, xs, rfl, rfl, hT, h1, h2, hz, q1, q2⟩ := h
  cases rx
  obtain ⟨t, rfl⟩ := ry
  obtain ⟨its, r, ⟨⟨cls, dd, data, sl⟩, ho, hc, n, hd⟩, hs⟩ := I.tuple hT
  simp only at hc hd
  subst hc hd
  have hle : its.length = xs.length := r.length.symm
  have c0 : (decide (k < -(2 ^ 63)) || decide (k ≥ 2 ^ 63)) = false := by
    rw [decide_eq_false (by omega), decide_eq_false (by omega)] <;> rfl
  have hi : its.toArray.isEmpty = decide (xs = []) := by
    cases its with
    | nil =>
      have : xs = [] := List.eq_nil_of_length_eq_zero hle.symm
      rw [this]
      rfl
    | cons a b =>
      cases xs with
      | nil => simp at hle
      | cons c d => rfl
  refine wpAny_binaryOp_repeat_ref (T := "tuple") (U := "int") (by decide) ⟨_, ho, rfl⟩ (fun s' => typeIs_int s' k t) noFill_tuple_mul F.fills_int_mul F.slot_int_rmul repeat_tuple F.slot_int_index.lookup
    (call_meets F.slot_int_rmul (typeIs_int s k t) F.entry_int_rmul (F.args_int_rmul_2 _ _) (int_rmul_tuple k t l its.toArray n dd sl) ⟨ho, rfl, ⟨_, ho, rfl⟩, ?_⟩)
  by_cases e : xs = [] ∨ k = 1
  · have c1 : (its.toArray.isEmpty || k == 1) = true := by
      rw [hi]
      rcases e with e | e
      · rw [decide_eq_true e] <;> rfl
      · rw [e]; simp
    exact call_meets F.slot_tuple_mul ⟨_, ho, rfl⟩ F.entry_tuple_mul (F.args_tuple_mul_2 _ _) (tuple_mul1 l its.toArray n dd sl k t c0 c1) ⟨ho, ⟨.ref l, H, I, rfl, q1 e⟩⟩
  · have e1 : xs ≠ [] := fun z => e (.inl z)
    have e2 : k ≠ 1 := fun z => e (.inr z)
    have hi2 : its.toArray.isEmpty = false := by rw [hi]; exact decide_eq_false e1
    have c1 : (its.toArray.isEmpty || k == 1) = false := by
      rw [hi2, Bool.false_or]
      exact beq_eq_false_iff_ne.mpr e2
    by_cases hk : k ≤ 0
    · have c2 : (decide (k ≤ 0) || its.toArray.isEmpty) = true := by rw [decide_eq_true hk] <;> rfl
      refine call_meets F.slot_tuple_mul ⟨_, ho, rfl⟩ F.entry_tuple_mul (F.args_tuple_mul_2 _ _) (tuple_mul0 l its.toArray n dd sl k t c0 c1 c2) ⟨ho, ?_⟩
      have q := q2 e s.heap.objs.size (I.hok.fresh (Nat.le_refl _))
      have z : k.toNat = 0 := by omega
      rw [z] at q
      exact ⟨.ref s.heap.objs.size, _, I.laid (t' := s.toks) (o := .tup []) (fun b ob q => Heap.get?_push_of_some _ q) (Nat.le_refl _) ⟨Nat.zero_le _, [], .nil, IsTup.new _ _⟩, rfl, by simpa using q⟩
    · have c2 : (decide (k ≤ 0) || its.toArray.isEmpty) = false := by
        rw [hi2, Bool.or_false]
        exact decide_eq_false hk
      have hsz0 : its.toArray.size = xs.length := by rw [List.size_toArray, hle]
      have hm : ((its.toArray.size : Nat) : Int) * k ≤ 16777216 := by
        rw [hsz0]
        have hk' : k = ((k.toNat : Nat) : Int) := by omega
        rw [hk', ← Int.natCast_mul]
        rw [sizeLine_eq] at hz
        exact Int.ofNat_le.mpr hz
      have flen : (List.replicate k.toNat its).flatten.length ≤ sizeLine := by
        rw [PyProof.Rows.lm_len_rep_flat, hle, Nat.mul_comm]
        exact hz
      have c4 : Builtin.Tuple.tupleTooMany (((its.toArray.size : Nat) : Int) * k) = false := by
        unfold Builtin.Tuple.tupleTooMany
        rw [sizeLine_eq]
        exact decide_eq_false (by omega)
      refine call_meets F.slot_tuple_mul ⟨_, ho, rfl⟩ F.entry_tuple_mul (F.args_tuple_mul_2 _ _) (tuple_mulW l its.toArray n dd sl k t c0 c1 c2 (by omega) c4 (by rw [size_rep, List.size_toArray]; exact flen)) ⟨ho, ?_⟩
      rw [size_rep]
      refine ⟨.ref s.heap.objs.size, _, I.laid (t' := s.toks) (o := .tup (List.replicate k.toNat xs).flatten) (fun b ob q => Heap.get?_push_of_some _ q) (Nat.le_refl _) ?_, rfl, q2 e _ (I.hok.fresh (Nat.le_refl _))⟩
      exact ⟨by rw [PyProof.Rows.lm_len_rep_flat, Nat.mul_comm]; exact hz, _, r.rep k.toNat, IsTup.new _ _⟩
theorem Reps.rep_flat {as : List Loc} {H : Hp} {ds : List D} {vs : List V} (h : Reps Γ as H ds vs) : ∀ n, Reps Γ as H (List.replicate n ds).flatten (List.replicate n vs).flatten
  | 0 => .nil
  | n + 1 => by
    rw [List.replicate_succ, List.replicate_succ, List.flatten_cons, List.flatten_cons]
    exact h.app (Reps.rep_flat h n)
theorem v_mul (c : XG Γ X W k) : V2 Γ X W (binaryOp .Mult) mulD0 := fun pins s σ H as st x y vx vy ux uy Q I mt rx ry rux ruy p => by
  cases x <;> cases y <;> first | exact False.elim p | skip
  · obtain ⟨hn, p⟩ := Po.need p
    exact op_mulW pins s σ H _ _ ux uy Q I rux ruy ⟨_, _, rx.int, ry.int, of_decide_eq_true (p := _ + _ < _) hn, p.pure mt .ofInt⟩
  · rename_i x j
    obtain ⟨hn, p⟩ := Po.need p
    simp only [Bool.and_eq_true, decide_eq_true_eq] at hn
    obtain ⟨h1, h2, h3, h4, h5⟩ := hn
    have h3 := Nat.le_of_ble_eq_true h3
    have h4 := Nat.le_of_ble_eq_true h4
    have q := p.pure mt .ofStr
    cases rx.str
    cases ry.int
    obtain ⟨t, rfl⟩ := rux
    obtain ⟨t', rfl⟩ := ruy
    have fin : EP X pins σ Q (.str (repS x j.toNat) s.toks) { s with toks := s.toks + 1 } := ⟨.str _, H, I.tok _, ⟨_, rfl⟩, q⟩
    have e1 : ¬ j < 1 := by omega
    have e2 : (j == 1 || x.length == 0) = false := by
      rw [beq_eq_false_iff_ne.mpr (show j ≠ 1 by omega), beq_eq_false_iff_ne.mpr (show x.length ≠ 0 by omega)]
      rfl
    refine PySem.P.mul_str (by
        rw [decide_eq_false (show ¬ j < -(2 ^ 63 : Int) by omega), decide_eq_false (show ¬ j ≥ 2 ^ 63 by omega)]
        rfl) (fun _ _ => ?_) (fun _ _ => ?_) ?_
    · have : (1000 : Int) ≤ (2 ^ 63 - 1) / j := (Int.le_ediv_iff_mul_le (by omega)).mpr (by omega)
      omega
    · have hm : x.length * j.toNat ≤ 1000 * 1000 := Nat.mul_le_mul h4 (by omega)
      unfold Builtin.Str.tooLong
      rw [decide_eq_false]
      rw [sizeLine_eq]
      omega
    · rw [if_neg e1, if_neg (by rw [e2]; simp)]
      exact ⟨ble_line h5, fin⟩
  · obtain ⟨hn, p⟩ := Po.need p
    simp only [Bool.and_eq_true, decide_eq_true_eq] at hn
    obtain ⟨h1, h2, h3⟩ := hn
    obtain ⟨a, vs, rfl, t1, r1⟩ := rx.tup
    refine op_repA pins s σ H _ _ ux uy Q I rux ruy ⟨a, _, vs, rfl, ry.int, SqT_of c.hK t1, h1, h2, by rw [r1.len]; exact ble_line h3, fun e => p.pure mt ?_, fun _ => Po.newT p mt (r1.rep_flat _)⟩
    unfold Rep
    refine ⟨a, vs, rfl, t1, ?_⟩
    have rr := r1.rep_flat (Int.toNat ‹Int›)
    rcases e with e | e
    · subst e
      have e0 := List.eq_nil_of_length_eq_zero r1.len.symm
      rw [e0, List.flatten_eq_nil_iff.mpr (by simp)]
      exact .nil
    · subst e
      simpa using rr
  · obtain ⟨o, p1, h1, h2, h3, p⟩ := Po.getO mt p
    cases o <;> first | exact False.elim p | skip
    obtain ⟨hn, p⟩ := Po.need p
    simp only [Bool.and_eq_true, decide_eq_true_eq] at hn
    obtain ⟨_, vs, e1, r1⟩ := h3.lstE
    obtain ⟨hz, q⟩ := Po.newL p mt (r1.rep_flat _)
    rw [PyProof.Rows.lm_len_rep_flat, Nat.mul_comm] at hz
    exact op_rep pins s σ H _ _ ux uy Q I rux ruy ⟨p1.1, _, vs, rep_obj_eq rx h2, ry.int, e1, hn.1, hn.2, hz, q⟩
/-- an operator that a class may answer -/
theorem V2.ite {F : Value → Value → Sem Value} {b : D → D → Bool} {g g0 : D → D → M D} (h1 : V2 Γ X W F g) (h0 : V2 Γ X W F g0) : V2 Γ X W F (fun x y => if b x y then g x y else g0 x y) := fun pins s σ H as st x y vx vy ux uy Q I mt rx ry rux ruy p => by
  replace p : Po Γ (Rep Γ) as H ((if b x y then g x y else g0 x y) st) Q (WE W σ) := p
  cases e : b x y with
  | true =>
    rw [e] at p
    exact h1 pins s σ H as st x y vx vy ux uy Q I mt rx ry rux ruy p
  | false =>
    rw [e] at p
    exact h0 pins s σ H as st x y vx vy ux uy Q I mt rx ry rux ruy p
end
end G
set_option Elab.async false
set_option linter.all false
set_option maxRecDepth 100000
set_option maxHeartbeats 4000000
/-! G6: truth, equality of data, repr, sequences, texts. -/
namespace G
open PySem PySem.Spec PyProof.Rows L2 SlX

section
variable {Γ : Gx} {X : Cx} {W : WX} {k : Nat}
theorem Reps.isEmpty {as : List Loc} {H : Hp} {ds : List D} {vs : List V} (h : Reps Γ as H ds vs) : vs.isEmpty = ds.isEmpty := by
  have e := h.len
  cases ds <;> cases vs <;> first | rfl | simp at e
theorem Paired.isEmpty {α β : Type} {F : α → β → Prop} {xs : List α} {ys : List β} (h : Paired F xs ys) : ys.isEmpty = xs.isEmpty := by cases h <;> rfl
theorem v_truth (c : XG Γ X W k) : VT Γ X W truth := fun pins s σ H as st x vx ux Q I mt rx rux p => by
  refine tru_ok pins s σ H vx ux Q I rux ?_
  cases x with
  | non => exact ⟨false, by rw [rx.non]; rfl, p.pure mt rfl⟩
  | bl b => exact ⟨b, by rw [rx.bl]; rfl, p.pure mt rfl⟩
  | int i => exact ⟨i != 0, by rw [rx.int]; rfl, p.pure mt rfl⟩
  | str x =>
    obtain ⟨hn, p⟩ := Po.need p
    refine ⟨x.length != 0, ?_, p.pure mt rfl⟩
    rw [rx.str]
    refine ⟨ble_line hn, ?_⟩
    cases x.length <;> simp [bne] <;> omega
  | tup xs =>
    obtain ⟨a, vs, rfl, t1, r1⟩ := rx.tup
    exact ⟨!xs.isEmpty, .inr (.inl ⟨vs, SqT_of c.hK t1, by rw [r1.isEmpty]⟩), p.pure mt rfl⟩
  | obj n =>
    obtain ⟨o, p1, h1, h2, h3, p⟩ := Po.getO mt p
    cases o <;> first | exact False.elim p | skip
    · obtain ⟨_, vs, e1, r1⟩ := h3.lstE
      rw [rep_obj_eq rx h2]
      exact ⟨_, .inl ⟨vs, SqL.of e1, by rw [r1.isEmpty]⟩, p.pure mt rfl⟩
    · obtain ⟨_, us, e1, r1⟩ := h3
      rw [rep_obj_eq rx h2]
      exact ⟨_, .inr (.inr ⟨us, e1, by rw [Paired.isEmpty r1]⟩), p.pure mt rfl⟩
  | _ => exact False.elim p

/-! ### data -/
theorem oAll_nil {α : Type} : oAll ([] : List (Option α)) = some [] := rfl
theorem oAll_inv {α β : Type} {f : α → Option β} {x : α} {xs : List α} {l : List β} (h : oAll ((x :: xs).map f) = some l) : ∃ y r, f x = some y ∧ oAll (xs.map f) = some r ∧ l = y :: r := by
  rw [List.map_cons] at h
  cases e : f x with
  | none => rw [e] at h; cases h
  | some y =>
    rw [e] at h
    unfold oAll at h
    cases e2 : oAll (xs.map f) with
    | none => rw [e2] at h; cases h
    | some r => rw [e2] at h; cases h; exact ⟨y, r, rfl, rfl, rfl⟩
/-- a value as data stands in the heap -/
def RdP (h : Heap) (u : Value) (p : PyData) : Prop := ∃ bs, Reads h u p bs ∧ sysModules ∉ bs
def RdPs (h : Heap) (us : List Value) (ps : List PyData) : Prop := ∃ bs, ReadsAll h us ps bs ∧ sysModules ∉ bs
theorem RdPs.cons {h : Heap} {u : Value} {us : List Value} {p : PyData} {ps : List PyData} (a : RdP h u p) (b : RdPs h us ps) : RdPs h (u :: us) (p :: ps) := by
  obtain ⟨x, h1, h2⟩ := a
  obtain ⟨y, g1, g2⟩ := b
  exact ⟨_, .cons h1 g1, by rw [List.mem_append]; rintro (z | z); exact h2 z; exact g2 z⟩
section
variable {pins : List (Addr × Obj)} {s : Shared} {σ : L2.St} {H : Hp} {as : List Loc} {st : Store}
theorem Inv.sys (c : XG Γ X W k) (I : Inv X pins σ H s) {a : Addr} {o : HO} (h : H a = some o) : a ≠ sysModules := fun e => by
  obtain ⟨ob, hb⟩ := c.sm.mo
  have := (I.bs _ _ hb).2
  rw [← e, h] at this
  cases this
theorem rdps_of {n : Nat} (ih : ∀ (d : D) (p : PyData) (v : V) (u : Value), toP st n d = some p → Rep Γ as H d v → RelV v u → RdP s.heap u p) : ∀ (ds : List D) (ps : List PyData) (vs : List V) (us : List Value), oAll (ds.map (toP st n)) = some ps → Reps Γ as H ds vs → Vals vs us → RdPs s.heap us ps
  | [], ps, vs, us, h, r, q => by
    cases h
    rw [r.nil'] at q
    cases q
    exact ⟨[], .nil, by simp⟩
  | d :: ds, ps, vs, us, h, r, q => by
    obtain ⟨p, pr, h1, h2, rfl⟩ := oAll_inv h
    obtain ⟨v, vr, rfl, r1, r2⟩ := r.inv
    cases q with
    | cons q1 q2 => exact .cons (ih d p v _ h1 r1 q1) (rdps_of ih ds pr vr _ h2 r2 q2)
theorem keys_read (K' : Nat) {h : Heap} {knd : PySem.KeyKind X.prog X.w Key} (hk : knd = mixKind X.prog X.w) : ∀ {kvs : List (D × D)} {us : List (Key × V)} {vs : List (Key × Value)} {es : List DictEntry} {ps : List PyData}, Paired (fun (x : D × D) (y : Key × V) => keyD x.1 = some y.1 ∧ Rep Γ as H x.2 y.2) kvs us → KV us vs → Pairs knd es vs →
    oAll (kvs.map fun p => toP st (K' + 1) p.1) = some ps → ∃ bs, ReadsAll h (es.map (·.key)) ps bs ∧ bs = []
  | _, _, _, _, ps, .nil, q, r, e => by
    cases q
    cases r
    cases e
    exact ⟨[], .nil, rfl⟩
  | _, _, _, _, ps, .cons (a := x) (b := y) (l₁ := xs) h1 h2, q, r, e => by
    cases q with
    | cons q1 q2 =>
      cases r with
      | @cons en kvp es' _ r1 r2 r3 =>
        obtain ⟨p, pr, e1, e2, rfl⟩ := oAll_inv (f := fun p : D × D => toP st (K' + 1) p.1) e
        obtain ⟨bs, z1, z2⟩ := keys_read K' hk h2 q2 r3 e2
        subst hk
        have z : keyIs y.1 en.key = true := by rw [q1.1]; exact r1
        have kd := h1.1
        obtain ⟨xk, xv⟩ := x
        have head : ∃ b0, Reads h en.key p b0 ∧ b0 = [] := by
          rcases keyIs_shape z with ⟨i, t, ek, ev⟩ | ⟨w, t, ek, ev⟩
          · rw [ek] at kd
            cases xk <;> simp [keyD] at kd
            subst kd
            simp [toP] at e1
            subst e1
            rw [ev]
            exact ⟨[], .int _ _, rfl⟩
          · rw [ek] at kd
            cases xk <;> simp [keyD] at kd
            subst kd
            simp [toP] at e1
            subst e1
            rw [ev]
            exact ⟨[], .str _ _, rfl⟩
        obtain ⟨b0, w1, w2⟩ := head
        exact ⟨_, .cons w1 z1, by rw [z2, w2]; rfl⟩
theorem vals_of_kv {knd : PySem.KeyKind X.prog X.w Key} : ∀ {kvs : List (D × D)} {us : List (Key × V)} {vs : List (Key × Value)} {es : List DictEntry}, Paired (fun (x : D × D) (y : Key × V) => keyD x.1 = some y.1 ∧ Rep Γ as H x.2 y.2) kvs us → KV us vs → Pairs knd es vs →
    Reps Γ as H (kvs.map (·.2)) (us.map (·.2)) ∧ Vals (us.map (·.2)) (es.map (·.val))
  | _, _, _, _, .nil, q, r => by
    cases q
    cases r
    exact ⟨.nil, .nil⟩
  | _, _, _, _, .cons h1 h2, q, r => by
    cases q with
    | cons q1 q2 =>
      cases r with
      | cons r1 r2 r3 =>
        obtain ⟨a, b⟩ := vals_of_kv h2 q2 r3
        refine ⟨.cons h1.2 a, .cons ?_ b⟩
        show L2.RelV _ (DictEntry.val _)
        rw [r2]
        exact q1.2
theorem toP_reads (c : XG Γ X W k) (I : Inv X pins σ H s) (mt : Mt Γ as st H) : ∀ (n : Nat) (d : D) (p : PyData) (v : V) (u : Value), toP st n d = some p → Rep Γ as H d v → RelV v u → RdP s.heap u p
  | 0, d, p, v, u, h, r, q => by cases h
  | n + 1, d, p, v, u, h, r, q => by
    unfold toP at h
    cases d with
    | non =>
      cases h
      rw [r.non] at q
      cases q
      exact ⟨[], .none, by simp⟩
    | bl b =>
      cases h
      rw [r.bl] at q
      cases q
      exact ⟨[], .bool b, by simp⟩
    | int i =>
      cases h
      rw [r.int] at q
      obtain ⟨t, rfl⟩ := q
      exact ⟨[], .int i t, by simp⟩
    | str x =>
      cases h
      rw [r.str] at q
      obtain ⟨t, rfl⟩ := q
      exact ⟨[], .str x t, by simp⟩
    | tup xs =>
      simp only at h
      cases e : oAll (xs.map (toP st n)) with
      | none => rw [e] at h; cases h
      | some ps =>
        rw [e] at h
        cases h
        obtain ⟨a, vs, rfl, t1, r1⟩ := r.tup
        cases q
        obtain ⟨its, rv, ⟨o, ho, hc, m, hd⟩, _⟩ := I.tuple (SqT_of c.hK t1)
        obtain ⟨bs, h1, h2⟩ := rdps_of (fun d p v u h r q => toP_reads c I mt n d p v u h r q) xs ps vs its e r1 rv
        exact ⟨bs, .tuple ho hc hd (by simpa using h1), h2⟩
    | obj m =>
      simp only at h
      cases eo : st[m]? with
      | none => rw [eo] at h; cases h
      | some o =>
        rw [eo] at h
        obtain ⟨pl, hp, ho⟩ := mt.loc eo
        rw [rep_obj_eq r hp] at q
        cases q
        cases o with
        | lst xs =>
          simp only at h
          cases e : oAll (xs.map (toP st n)) with
          | none => rw [e] at h; cases h
          | some ps =>
            rw [e] at h
            cases h
            obtain ⟨_, vs, e1, r1⟩ := ho.lstE
            obtain ⟨its, rv, ⟨o, m2, ho, hc, _, hd⟩, _⟩ := I.list (SqL.of e1)
            obtain ⟨bs, h1, h2⟩ := rdps_of (fun d p v u h r q => toP_reads c I mt n d p v u h r q) xs ps vs its e r1 rv
            refine ⟨_, .list ho hc hd (by simpa using h1), ?_⟩
            rw [List.mem_cons]
            rintro (z | z)
            · exact Inv.sys c I e1 z.symm
            · exact h2 z
        | dic kvs =>
          simp only at h
          cases e : oAll (kvs.map fun p => toP st n p.1) with
          | none => rw [e] at h; cases h
          | some ks =>
            cases e2 : oAll (kvs.map fun p => toP st n p.2) with
            | none => rw [e, e2] at h; cases h
            | some ws =>
              rw [e, e2] at h
              cases h
              obtain ⟨_, us, e1, r1⟩ := ho
              obtain ⟨_, hS, vs, kv, o, es, ep, ho, hx, hd, _, hpairs, _⟩ := I.hok _ _ e1
              obtain ⟨rr, vv⟩ := vals_of_kv r1 kv hpairs
              have lk : ks.length = ws.length := by
                have len : ∀ {β : Type} {f : D × D → Option β} (l : List (D × D)) (r : List β), oAll (l.map f) = some r → r.length = l.length := by
                  intro β f l
                  induction l with
                  | nil => intro r z; cases z; rfl
                  | cons a b ih =>
                    intro r z
                    obtain ⟨y, r', z1, z2, rfl⟩ := oAll_inv z
                    rw [List.length_cons, List.length_cons, ih _ z2]
                rw [len _ _ e, len _ _ e2]
              obtain ⟨b2, g1, g2⟩ := rdps_of (fun d p v u h r q => toP_reads c I mt n d p v u h r q) (kvs.map (·.2)) ws _ _ (by rw [List.map_map]; exact e2) rr vv
              have hk1 : ∃ bs, ReadsAll s.heap (es.toList.map (·.key)) ks bs ∧ bs = [] := by
                cases n with
                | zero =>
                  cases kvs with
                  | nil =>
                    cases e
                    cases r1
                    cases kv
                    generalize es.toList = l at hpairs
                    cases hpairs
                    exact ⟨[], .nil, rfl⟩
                  | cons a b =>
                    rw [List.map_cons] at e
                    cases e
                | succ n => exact keys_read n rfl r1 kv hpairs e
              obtain ⟨b1, f1, f2⟩ := hk1
              refine ⟨_, .dict ho hx.1 hd (by rw [List.map_fst_zip (by omega)]; exact f1) (by rw [List.map_snd_zip (by omega)]; exact g1), ?_⟩
              rw [f2]
              show sysModules ∉ pl.1 :: ([] ++ b2)
              rw [List.mem_cons]
              rintro (z | z)
              · exact Inv.sys c I e1 z.symm
              · exact g2 (by simpa using z)
        | _ => cases h
    | _ => cases h
end
end
end G
set_option Elab.async false
set_option linter.all false
set_option maxRecDepth 100000
set_option maxHeartbeats 4000000
/-! GB6: the texts of great whole numbers (more than 1920 bits): the world keeps no bound of its own. -/
namespace G
open PySem PySem.Spec PyProof.Rows L2 SlX
open PySem.Builtin PySem.Builtin.Str PySem.Builtin.Int

section
variable {prog : Program} {w : World} {A : Around} {E : Value → Shared → Prop} {s : Shared} {a : Int} {t : Tok}
theorem lt_4300 (h : a.natAbs.log2 < 9000) : a.natAbs < 10 ^ 4300 := Nat.lt_of_lt_of_le (lt_of_log2 (Nat.lt_trans h (by decide))) pow_lo
theorem overDigit_great {M : Model} {Q : Option Nat → Shared → Prop} (hn : s.heap.NoDigits) (hb : a.natAbs.log2 < 9000) (h : Q none s) : wpAny M A (Builtin.overDigitLimit? a) Q E s :=
  overDigitLimit_any hn (fun _ => h) fun q => absurd (lt_4300 hb) (Nat.not_lt.mpr q)
theorem call_int_reprG {Q : Value → Shared → Prop} (hn : s.heap.NoDigits) (hb : a.natAbs.log2 < 9000) (h : Q (.str (toString a) s.toks) { s with toks := s.toks + 1 }) :
    wpAny (model prog w) A (call (.builtin "int.__repr__") [.int a t]) Q E s := by
  refine wpAny_call_entry F.slot_int_repr (typeIs_int s a t) F.entry_int_repr ?_ (F.args_int_repr_1 _)
  unfold Builtin.«int.__repr__»
  show wpAny _ _ (do let r ← Builtin.overDigitLimit? a; _) _ _ s
  exact wpAny_bind (overDigit_great hn hb (wpAny_bind (wpAny_mkStr (wpAny_pure ⟨_, rfl, h⟩) (int_text_fits10 (lt_4300 hb)))))
theorem pyReprObj_intG {Q : Value → Shared → Prop} (hu : A.units < cLine) (hn : s.heap.NoDigits) (hb : a.natAbs.log2 < 9000) (h : Q (.str (toString a) s.toks) { s with toks := s.toks + 1 }) : wpAny (model prog w) A (pyReprObj (.int a t)) Q E s :=
  wpAny_pyReprObj_slot hu (typeIs_int s a t) F.slot_int_repr.toG (call_int_reprG hn hb ⟨_, _, rfl, h⟩)
theorem repr_of_intG {Q : Value → Shared → Prop} (hu : A.units + 1 < cLine) (hn : s.heap.NoDigits) (hb : a.natAbs.log2 < 9000) (h : Q (.str (toString a) s.toks) { s with toks := s.toks + 1 }) : wpAny (model prog w) A (call (.builtin "repr") [.int a t]) Q E s :=
  call_repr_slot hu (typeIs_int s a t) F.slot_int_repr.toG (call_int_reprG hn hb ⟨_, _, rfl, h⟩)
theorem strOf_intG {Q : Value → Shared → Prop} (hn : s.heap.NoDigits) (hb : a.natAbs.log2 < 9000) (h : Q (.str (toString a) s.toks) { s with toks := s.toks + 1 }) :
    wpAny (model prog w) A (Builtin.Str.strOf (.int a t)) Q E s := by
  unfold Builtin.Str.strOf
  rw [show isExactStr (.int a t) = false from rfl]
  try (have hv : [Value.int a t].any Value.onHeap = false := rfl; simp only [cRoomFor, hv, Bool.false_eq_true, if_false, pure_bind])
  refine wpAny_bind (m := callSpecial? (.int a t) (Str.ofString "__str__")) (wpAny_callSpecial?_slot (name := Str.ofString "__str__") (typeIs_int s a t) F.slot_int_str ?_)
  refine wpAny_call_entry F.slot_int_str (typeIs_int s a t) entry_object_str ?_ (args_object_str _)
  unfold Builtin.«object.__str__»
  refine wpAny_bind (m := slotArgs "__str__" 0 _) (wpAny_pure ?_)
  try (have hv : [Value.int a t].any Value.onHeap = false := rfl; simp only [cRoomFor, hv, Bool.false_eq_true, if_false, pure_bind])
  refine wpAny_bind (m := callSpecialIfBound? (.int a t) (Str.ofString "__repr__")) (wpAny_callSpecialIfBound?_slot (name := Str.ofString "__repr__") (typeIs_int s a t) F.slot_int_repr
    (call_int_reprG hn hb ?_))
  exact wpAny_pure ⟨_, rfl, wpAny_pure h⟩
theorem str_of_intG {Q : Value → Shared → Prop} (hn : s.heap.NoDigits) (hb : a.natAbs.log2 < 9000) (h : Q (.str (toString a) s.toks) { s with toks := s.toks + 1 }) :
    wpAny (model prog w) A (call (.type "str") [.int a t]) Q E s :=
  callType_new F.called_str (by decide) (F.typeCall_str_1 _) (F.newCall_str_1 _) (fun obj => F.args_object_init_2 obj _) F.entry_str_new
    (meets_str_new (S := fun A R s => s.heap.NoDigits ∧ R (.ok (.ret (.str (toString a) s.toks))) { s with toks := s.toks + 1 })
      fun _ _ _ _ _ hq => strOf_intG hq.1 hb hq.2)
    ⟨hn, typeIs_str _ _ _, h⟩

theorem code_int_reprG {R : Result → Shared → Prop} (hn : s.heap.NoDigits) (hb : a.natAbs.log2 < 9000) (h : R (.ok (.ret (.str (toString a) s.toks))) { s with toks := s.toks + 1 }) :
    codeAny (model prog w) A (.builtin "int.__repr__" ⟨[.int a t], []⟩) R s := by
  refine codeAny_builtin F.entry_int_repr ?_
  rw [Around.under_plainId plain_int_repr _]
  unfold Builtin.«int.__repr__»
  show wpAny _ _ (do let r ← Builtin.overDigitLimit? a; _) _ _ s
  exact wpAny_bind (overDigit_great hn hb (wpAny_bind (wpAny_mkStr (wpAny_pure h) (int_text_fits10 (lt_4300 hb)))))
theorem formatField_intG {Q : Value → Shared → Prop} (hn : s.heap.NoDigits) (hb : a.natAbs.log2 < 9000) (h : Q (.str (toString a) (s.toks + 1)) { s with toks := s.toks + 1 + 1 }) :
    wpAny (model prog w) A (formatField (.int a t) Str.empty) Q E s := by
  show wpAny _ _ (holding [.int a t] (pyFormat (.int a t) Str.empty)) Q E s
  refine wpAny_holding ?_
  unfold pyFormat
  refine wpAny_bind (wpAny_mkStr ?_ (by decide))
  refine wpAny_bind (m := callSpecial? (.int a t) (Str.ofString "__format__") [.str Str.empty s.toks]) (wpAny_callSpecial?_slot (name := Str.ofString "__format__") (typeIs_int _ a t) PyProof.Rows.slot_int_format ?_)
  refine wpAny_call (codeAny_call_builtin PyProof.Rows.slot_int_format.plain PyProof.Rows.entry_int_format (PyProof.Rows.slot_int_format.check _ _ _ _ _ _ _ _ (typeIs_int _ a t) (PyProof.Rows.args_int_format _ _) ?_))
  show wpAny _ _ (do let _kind ← typeNameOf (.str Str.empty s.toks); (do rule "int.format.empty"; again (.builtin "int.__repr__" ⟨[.int a t], []⟩))) _ _ _
  refine wpAny_bind (wpAny_typeNameOf (T := "str") (typeIs_str _ _ _) (by decide) fun _ => wpAny_bind (wpAny_rule (wpAny_pure ⟨plainId_quiet plain_int_repr _, code_int_reprG hn hb ?_⟩)))
  show wpAny _ _ (do if ← isInstance (.str (toString a) (s.toks + 1)) (.type "str") then return (.str (toString a) (s.toks + 1)) else _) Q E _
  exact wpAny_bind (wpAny_isInstance (typeIs_str _ _ _) isSubtype_str_str (wpAny_pure h))
theorem ReprIsG {h₀ : Heap} {as : List Addr} {d : Nat} (hn : h₀.NoDigits) (hb : a.natAbs.log2 < 9000) : ReprK prog w as h₀ d (.int a t) (toString a) := fun n hz A g E s Q hg hcl hu hk0 hQ => by
  have hn' : n ≤ sizeLine := by omega
  rw [pyReprUnder_leaf (v := .int a t) hn' (fun _ e => nomatch e)]
  unfold pyRepr
  exact wpAny_bind (pyReprObj_intG (by omega) (hn.keeps hk0) hb (wpAny_pure (hQ s.heap _ fun _ _ e => e)))
end

section
variable {prog : Program} {w : World} {h₀ : Heap}
theorem reprEl {v : Value} {d : PyData} {as : List Addr} (hn : h₀.NoDigits) (r : Reads h₀ v d as) (h : okEl d = true) (hs : d.hasDict = true → sysModules ∉ as) (hl : d.shown.length ≤ sizeLine) : ∃ bs, ReadAtMost h₀ d.depth bs ∧ ReprK prog w bs h₀ d.depth v d.shown := by
  cases r with
  | int i t => exact ⟨[], (fun _ h => nomatch h), by simp only [PyData.shown]; exact ReprIsG hn (of_decide_eq_true h)⟩
  | none => exact ReprK.of_reads .none h hs hl
  | bool b => exact ReprK.of_reads (.bool b) h hs hl
  | str x t => exact ReprK.of_reads (.str x t) h hs hl
  | list g1 g2 g3 g4 => exact ReprK.of_reads (.list g1 g2 g3 g4) h hs hl
  | tuple g1 g2 g3 g4 => exact ReprK.of_reads (.tuple g1 g2 g3 g4) h hs hl
  | dict g1 g2 g3 g4 g5 => exact ReprK.of_reads (.dict g1 g2 g3 g4 g5) h hs hl
theorem reprEls {vs : List Value} {ds : List PyData} {as : List Addr} (hn : h₀.NoDigits) (r : ReadsAll h₀ vs ds as) : ds.all okEl = true → (PyData.hasDictAll ds = true → sysModules ∉ as) → (∀ t ∈ PyData.shownAll ds, t.length ≤ sizeLine) →
    ∃ bs, ReadAtMost h₀ (PyData.depthAll ds) bs ∧ ReprAllK prog w bs h₀ (PyData.depthAll ds) vs (PyData.shownAll ds) := by
  induction ds generalizing vs as with
  | nil =>
    cases r
    exact fun _ _ _ => ⟨[], (fun _ h => nomatch h), by simp only [PyData.shownAll]; exact .nil⟩
  | cons d ds ih =>
    cases r with
    | cons r rs =>
      intro h hs hz
      rw [List.all_cons, Bool.and_eq_true] at h
      obtain ⟨b1, m1, k1⟩ := reprEl (prog := prog) (w := w) hn r h.1 (fun q z => hs (by simp only [PyData.hasDictAll, q, Bool.true_or]) (List.mem_append_left _ z)) (hz _ (by simp only [PyData.shownAll]; exact List.mem_cons_self ..))
      obtain ⟨b2, m2, k2⟩ := ih rs h.2 (fun q z => hs (by simp only [PyData.hasDictAll, q, Bool.or_true]) (List.mem_append_right _ z)) (fun t ht => hz t (by simp only [PyData.shownAll]; exact List.mem_cons_of_mem _ ht))
      refine ⟨b1 ++ b2, (m1.mono (Nat.le_max_left _ _)).append (m2.mono (Nat.le_max_right _ _)), ?_⟩
      simp only [PyData.depthAll, PyData.shownAll]
      exact .cons ((k1.more fun b hb => List.mem_append_left _ hb).level_le (Nat.le_max_left _ _)) (k2.more_le (fun b hb => List.mem_append_right _ hb) (Nat.le_max_right _ _))
/-- repr of a tuple whose elements are as above -/
theorem repr_tupG {A : Around} {E : Value → Shared → Prop} {s : Shared} {Q : Value → Shared → Prop} {a : Addr} {xs : List PyData} {as : List Addr} (hn : s.heap.NoDigits) (r : Reads s.heap (.ref a) (.tuple xs) as) (h : xs.all okEl = true) (hs : sysModules ∉ as) (hg : A.guards = some []) (hu : A.units + ((PyData.tuple xs).depth + 1) < cLine)
    (hQ : ∀ h' u tk, (∀ b o, s.heap.get? b = some o → h'.get? b = some o) → Q (.str (PyData.shown (.tuple xs)) u) { s with heap := h', toks := tk }) (hl : (PyData.shown (.tuple xs)).length ≤ sizeLine) :
    wpAny (model prog w) A (call (.builtin "repr") [.ref a]) Q E s := by
  cases r with
  | tuple h1 h2 h3 h4 =>
    rename_i o vs n
    have hz : (tupleText (PyData.shownAll xs)).length ≤ sizeLine := by simpa only [PyData.shown] using hl
    obtain ⟨bs, hb, hk⟩ := reprEls (prog := prog) (w := w) hn h4 h (fun _ => hs) (fun t ht => Nat.le_trans (tupleText_mem_le ht) hz)
    have hna : a ∉ bs := not_mem_of_deeper (.tuple h1 h2 h3 h4) (by simp only [PyData.depth]; omega) hb
    simp only [PyData.depth] at hu
    simp only [PyData.shown] at hQ
    exact call_repr_slot (T := "tuple") (by omega) ⟨o, h1, h2⟩ F.slot_tuple_repr (call_tuple_reprK h1 h2 h3 hna hk hg (fun b _ => Clear.nil b) (by show A.units + 1 + _ < cLine; omega) (fun _ _ e => e) (fun h' u tk hk => ⟨_, _, rfl, hQ h' u tk hk⟩) hz)
end
section
variable {Γ : Gx} {X : Cx} {W : WX} {k : Nat} {pins : List (Addr × Obj)} {s : Shared} {σ : L2.St} {H : Hp}
theorem Inv.nodigits (c : XG Γ X W k) (I : Inv X pins σ H s) : s.heap.NoDigits := c.sm.nd.keeps fun b o e => (I.bs b o e).1
/-- str of a whole number, however great -/
theorem call_str_intG (c : XG Γ X W k) : CallR X (.type "str") (fun xs H Q => ∃ i, xs = [.int i] ∧ i.natAbs.log2 < 9000 ∧ Q (.str (toString i)) H) := by
  intro pins s σ H xs us Q I r h
  obtain ⟨i, rfl, hz, q⟩ := h
  obtain ⟨u, rfl, t, rfl⟩ := vals1 r
  exact str_of_intG (Inv.nodigits c I) hz ⟨.str _, H, I.tok _, ⟨_, rfl⟩, q⟩
/-- {x}: a text or a whole number, however great -/
def tFmtG (te : TE) : TE := fun σ H Q => te σ H fun x H1 => (∃ y : Str, x = .str y ∧ y.length ≤ sizeLine ∧ Q (.str y) H1) ∨ ∃ i : Int, x = .int i ∧ i.natAbs.log2 < 9000 ∧ Q (.str (toString i)) H1
theorem pe_fmtG (c : XG Γ X W k) {e : Expr} {te : TE} {pos : Pos} (he : PE X e te) : PE X (.FormattedValue e (-1) none pos) (tFmtG te) := by
  refine ⟨fun pins s σ H Q I h => ?_⟩
  refine wpAny_FormattedValue_plain (thn (he.run pins s σ H _ I h) fun v s1 hv => ?_)
  obtain ⟨x, H1, I1, r1, q⟩ := hv
  rcases q with ⟨y, rfl, hz, q⟩ | ⟨i, rfl, hz, q⟩
  · obtain ⟨t, rfl⟩ := r1
    exact wpAny_formatField_str ⟨.str y, H1, I1, ⟨t, rfl⟩, q⟩ ⟨.str y, H1, I1.tok _, ⟨_, rfl⟩, q⟩ hz
  · obtain ⟨t, rfl⟩ := r1
    exact formatField_intG (Inv.nodigits c I1) hz ⟨.str (toString i), H1, I1.tok _, ⟨_, rfl⟩, q⟩
end
end G
set_option Elab.async false
set_option linter.all false
set_option maxRecDepth 100000
set_option maxHeartbeats 4000000
/-! GB7: whole numbers read from long texts. -/
namespace G
open PySem PySem.Spec PyProof.Rows L2 SlX PySem.NumText
open PySem.Calls

theorem wp_textG {M : Model} {A : Around} {E : Value → Shared → Prop} {s : Shared} {Q : Value → Shared → Prop} {v : Value} {text : List Nat} {n : Int} (hn : s.heap.NoDigits)
    (hs : ¬ (text.takeWhile (· != 0)).length ≤ 640) (hr : (int_private% "readNumeral") 4300 10 (text.takeWhile (· != 0)) = (int_private% "Numeral.value") n)
    (ha : ((text.takeWhile (· != 0)).length == text.length) = true) (h : Q (.int n s.toks) { s with toks := s.toks + 1 }) :
    wpAny M A ((int_private% "intFromText") v text 10) Q E s := by
  obtain ⟨mc, hns, hnone⟩ := hn
  have lim : ∀ {Q : Nat → Shared → Prop}, Q 4300 s → wpAny M A Builtin.intMaxStrDigits Q E s := fun q => by
    unfold Builtin.intMaxStrDigits
    refine wpAny_bind (wpAny_nsGet hns ?_)
    rw [hnone]
    exact wpAny_pure q
  clear hns hnone
  with_unfolding_all refine (show wpAny M A (ite ((text.takeWhile (· != 0)).length ≤ 640) _ (bind Builtin.intMaxStrDigits _)) Q E s from ?_)
  rw [if_neg hs]
  refine wpAny_bind (lim ?_)
  dsimp only
  rw [hr]
  dsimp only
  rw [if_pos ha]
  clear lim
  obtain ⟨hp, g, d, tk, os⟩ := s
  repeat (any_goals (first | assumption | wp_step))
set_option maxHeartbeats 4000000 in
theorem wp_intText {M : Model} {A : Around} {E : Value → Shared → Prop} {s : Shared} {Q : Value → Shared → Prop} {x : PySem.Str} {u : Tok} {n : Int} (hn : s.heap.NoDigits) (hl : x.length ≤ sizeLine) (hs : ¬ (numSeenOf x).length ≤ 640) (hv : PySem.intText? x = some n) (h : ∀ tk tk', Q (.int n tk) { s with toks := tk' }) :
    wpAny M A (Builtin.«int.__new__» ⟨[.type "int", .str x u], []⟩) (fun r s' => ∃ t, r = .done (.ret (.int n t)) ∧ Q (.int n t) s') E s := by
  have hr : (int_private% "readNumeral") 4300 10 (numSeenOf x) = (int_private% "Numeral.value") n ∧ ((numSeenOf x).length == (numTextOf x).length) = true := by
    rcases read4300 x hl with ⟨m, h1, h2, h3⟩ | ⟨h1, _⟩
    · rw [hv] at h1
      injection h1 with h1
      subst h1
      exact ⟨h3, h2⟩
    · rw [hv] at h1
      cases h1
  have hk := PySem.W.KIN.Hid.mk (And.intro hs hr)
  have f1 := F.conv_sub_int
  have f2 := F.madeHere_int
  have f3 := PySem.W.KIN.str_int
  have f4 := PySem.W.KIN.str_idx
  have f5 := PySem.W.KIN.str_trunc
  have f6 : typeOf (.str x u) = pure (.type "str") := rfl
  clear hs hr hl hv
  obtain ⟨hp, g, d, tk, os⟩ := s
  repeat (any_goals (first
    | assumption
    | ((with_reducible show wpAny _ _ ((int_private% "intFromText") _ _ _) _ _ _); refine wp_textG hn hk.out.1 hk.out.2.1 hk.out.2.2 ?_)
    | wp_step))
  all_goals first | exact ⟨_, rfl, h _ _⟩ | skip
/-- int of a long text -/
theorem call_int_textG {prog : Program} {w : World} {A : Around} {E : Value → Shared → Prop} {s : Shared} {Q : Value → Shared → Prop} {x : PySem.Str} {t : Tok} {n : Int} (hn : s.heap.NoDigits) (hl : x.length ≤ sizeLine) (hs : ¬ (numSeenOf x).length ≤ 640) (hv : PySem.intText? x = some n)
    (h : ∀ tk tk', Q (.int n tk) { s with toks := tk' }) : wpAny (model prog w) A (call (.type "int") [.str x t]) Q E s :=
  call_int_1 (S := fun A R s => s.heap.NoDigits ∧ ∀ tk tk', R (.ok (.ret (.int n tk))) { s with toks := tk' })
    (Meets.of_wp fun prog w A R s q => wpAny_mono (wp_intText (Q := fun v s' => R (.ok (.ret v)) s') q.1 hl hs hv q.2) (fun r s' ⟨t', e, z⟩ => ⟨_, e, z⟩) fun _ _ e => e)
    ⟨hn, fun tk tk' => ⟨typeIs_int _ _ _, h tk tk'⟩⟩
end G
set_option Elab.async false
set_option linter.all false
set_option maxRecDepth 100000
set_option maxHeartbeats 4000000
/-! G7: equality, repr, in, subscripts, the built-ins. -/
namespace G
open PySem PySem.Spec PyProof.Rows L2 SlX

section
variable {Γ : Gx} {X : Cx} {W : WX} {k : Nat}
theorem XG.u64 (c : XG Γ X W k) : X.A.units + 65 < cLine := by have := c.hr.un; omega
/-- == of data -/
def datEq (a b : D) : M Bool := fun s => match toP s deep a, toP s deep b with
  | some p, some q => if SeqAt.shaped p && SeqAt.shaped q then .ok (PyData.eqv p q) s else .stuck
  | _, _ => .stuck
theorem dat_inv {α β : Type} {rl : Rl α β} {f : Bool → M α} {as : List Loc} {H : Hp} {st : Store} {a b : D} {Q : β → Hp → Prop} {E : XK} (p : Po Γ rl as H ((datEq a b >>= f) st) Q E) : ∃ x y, toP st deep a = some x ∧ toP st deep b = some y ∧ SeqAt.shaped x = true ∧ SeqAt.shaped y = true ∧ Po Γ rl as H (f (PyData.eqv x y) st) Q E := by
  rw [bind_run] at p
  unfold datEq at p
  cases e1 : toP st deep a with
  | none => rw [e1] at p; exact p.elim
  | some x =>
    cases e2 : toP st deep b with
    | none => rw [e1, e2] at p; exact p.elim
    | some y =>
      rw [e1, e2] at p
      simp only at p
      by_cases h : (SeqAt.shaped x && SeqAt.shaped y) = true
      · rw [if_pos h] at p
        rw [Bool.and_eq_true] at h
        exact ⟨x, y, rfl, rfl, h.1, h.2, p⟩
      · rw [if_neg h] at p
        exact p.elim
theorem v_eqDat (c : XG Γ X W k) : V2 Γ X W (compareOp .Eq) (fun a b => do return .bl (← datEq a b)) := fun pins s σ H as st x y vx vy ux uy Q I mt rx ry rux ruy p => by
  obtain ⟨p1, p2, e1, e2, h1, h2, p⟩ := dat_inv p
  obtain ⟨_, r1, _⟩ := toP_reads c I mt deep x p1 vx ux e1 rx rux
  obtain ⟨_, r2, _⟩ := toP_reads c I mt deep y p2 vy uy e2 ry ruy
  have hu := c.u64
  exact SeqAt.compareEq_shaped r1 r2 h1 h2 (by omega) ⟨.bl _, H, I, rfl, p.pure mt .ofBl⟩
theorem v_neDat (c : XG Γ X W k) : V2 Γ X W (compareOp .NotEq) (fun a b => do return .bl (!(← datEq a b))) := fun pins s σ H as st x y vx vy ux uy Q I mt rx ry rux ruy p => by
  obtain ⟨p1, p2, e1, e2, h1, h2, p⟩ := dat_inv p
  obtain ⟨_, r1, _⟩ := toP_reads c I mt deep x p1 vx ux e1 rx rux
  obtain ⟨_, r2, _⟩ := toP_reads c I mt deep y p2 vy uy e2 ry ruy
  have hu := c.u64
  exact SeqAt.compareNe_shaped r1 r2 h1 h2 (by omega) ⟨.bl _, H, I, rfl, p.pure mt .ofBl⟩

/-- repr -/
theorem vc_repr0 (c : XG Γ X W k) (hrp : Γ.rp = true) : VC Γ X W (fun us => call (.builtin "repr") us) (fun xs => match xs with | [x] => reprD x | _ => stuck) := fun pins s σ H as st xs vs us Q I mt rx rv p => by
  rcases xs with _ | ⟨x, _ | ⟨y, r⟩⟩
  · exact False.elim p
  · obtain ⟨v, rfl, r1⟩ := rx.one
    obtain ⟨u, rfl, ru⟩ := vals1 rv
    replace p : Po Γ (Rep Γ) as H (reprD x st) Q (WE W σ) := p
    unfold reprD at p
    cases e : toP st deep x with
    | none => rw [e] at p; exact p.elim
    | some d =>
      rw [e] at p
      simp only at p
      by_cases h : (okTop d && (decide (d.depth ≤ 64) && Nat.ble (PyData.shown d).length line)) = true
      · rw [if_pos h] at p
        simp only [Bool.and_eq_true, decide_eq_true_eq] at h
        obtain ⟨h1, h2, h3⟩ := h
        obtain ⟨bs, rd, hs⟩ := toP_reads c I mt deep x d v u e r1 ru
        have q := p.ok mt .ofStr
        have hu := c.u64
        have fin : ∀ (s' : Shared) (t : Tok), Inv X pins σ H s' → EP X pins σ Q (.str (PyData.shown d) t) s' := fun s' t J => ⟨.str (PyData.shown d), H, J, ⟨t, rfl⟩, q⟩
        cases rd with
        | none => exact PySem.P.repr_of_none (fin _ _ (I.tok _))
        | bool b => exact PySem.P.repr_of_bool (fin _ _ (I.tok _))
        | int i t => exact repr_of_intG (by omega) (Inv.nodigits c I) (of_decide_eq_true h1) (fin _ _ (I.tok _))
        | str y t => exact PySem.P.repr_of_str (fin _ _ (I.tok _)) (ble_line h3)
        | list g1 g2 g3 g4 => exact repr_of_reads' (.list g1 g2 g3 g4) h1 (fun _ => hs) (c.gd hrp) (by omega) (fun _ _ e => e) (fun h' u tk hk => fin _ _ (I.kept hk)) (ble_line h3)
        | tuple g1 g2 g3 g4 => exact repr_tupG (Inv.nodigits c I) (.tuple g1 g2 g3 g4) h1 hs (c.gd hrp) (by omega) (fun h' u tk hk => fin _ _ (I.kept hk)) (ble_line h3)
        | dict g1 g2 g3 g4 g5 => exact repr_of_reads' (.dict g1 g2 g3 g4 g5) h1 (fun _ => hs) (c.gd hrp) (by omega) (fun _ _ e => e) (fun h' u tk hk => fin _ _ (I.kept hk)) (ble_line h3)
      · rw [if_neg h] at p
        exact p.elim
  · exact False.elim p

/-! ### sequences -/
/-- a list or a tuple by its number or as it is -/
theorem seq_of {α β : Type} {rl : Rl α β} {f : List D → M α} {as : List Loc} {H : Hp} {st : Store} {x : D} {v : V} {Q : β → Hp → Prop} {E : XK} (hK : X.K = Γ.K) (mt : Mt Γ as st H) (rx : Rep Γ as H x v) (p : Po Γ rl as H ((seqOf x >>= f) st) Q E) :
    ∃ a xs vs, v = .ref a ∧ (SqL X.K H a vs ∧ (∃ n, x = .obj n) ∨ SqT X.K H a vs ∧ x = .tup xs) ∧ Reps Γ as H xs vs ∧ Po Γ rl as H (f xs st) Q E := by
  cases x with
  | tup xs =>
    obtain ⟨a, vs, rfl, t1, r1⟩ := rx.tup
    exact ⟨a, xs, vs, rfl, .inr ⟨SqT_of hK t1, rfl⟩, r1, p⟩
  | obj n =>
    replace p : Po Γ rl as H ((getO n >>= fun o => (match o with | .lst xs => pure xs | _ => stuck) >>= f) st) Q E := by
      rw [← LawfulMonad.bind_assoc]
      exact p
    obtain ⟨o, p1, h1, h2, h3, p⟩ := Po.getO mt p
    cases o <;> first | exact False.elim p | skip
    obtain ⟨_, vs, e1, r1⟩ := h3.lstE
    exact ⟨p1.1, _, vs, rep_obj_eq rx h2, .inl ⟨SqL.of e1, n, rfl⟩, r1, p⟩
  | _ => exact False.elim p
theorem atN_eq {α : Type} (xs : List α) (i : Int) : atI xs i = (if 0 ≤ i then xs[i.toNat]? else if -(xs.length : Int) ≤ i then xs[(i + xs.length).toNat]? else none) := by
  unfold atI ixN
  by_cases h : 0 ≤ i
  · rw [if_pos h, if_pos h]
    by_cases h2 : i < xs.length
    · rw [if_pos h2]; rfl
    · rw [if_neg h2]
      exact (List.getElem?_eq_none (by omega)).symm
  · rw [if_neg h, if_neg h]
    by_cases h2 : -(xs.length : Int) ≤ i
    · rw [if_pos h2, if_pos h2]; rfl
    · rw [if_neg h2, if_neg h2]; rfl
theorem atN_rep {as : List Loc} {H : Hp} {ds : List D} {vs : List V} {i : Int} {d : D} (h : Reps Γ as H ds vs) (e : atN ds i = some d) : ∃ v, atI vs i = some v ∧ Rep Γ as H d v := by
  rw [atN_eq]
  unfold atN at e
  rw [h.len]
  split at e
  · rw [if_pos ‹_›]
    exact h.get e
  · rw [if_neg ‹_›]
    split at e
    · rw [if_pos ‹_›]
      exact h.get e
    · cases e
/-- a subscript by values -/
theorem se_ix {a b : Expr} {ma mb : Env → M D} {pos : Pos} (c : XG Γ X W k) (ha : SE Γ X W a ma) (hb : SE Γ X W b mb) (hs : PlainIx b) : SE Γ X W (.Subscript a b pos) (fun ρ => do
    let x ← ma ρ
    let y ← mb ρ
    idxD x y) := by
  refine ⟨fun pins s σ H Q I ⟨as, st, ρ, mt, er, p⟩ => ?_⟩
  refine Subscript_ (SE.bnd ha I mt er p fun x as1 st1 H1 v u s1 k1 I1 m1 e1 rx ru p1 => SE.bnd hb I1 m1 e1 p1 fun y as2 st2 H2 v' u' s2 k2 I2 m2 e2 ry ru' p2 => ?_)
  replace rx := rx.mono k2
  have hK := c.hK
  cases y with
  | int i =>
    refine ix_seq a b pins s2 σ H2 v v' u u' Q I2 ru ru' ?_ (hs _ _)
    have ev := ry.int
    cases x with
    | str x =>
      obtain ⟨hn, p2⟩ := Po.need p2
      refine .inr (.inr ⟨x, i, ?_⟩)
      have e1 : chAt x i = atI x.cps.toList i := by
        rw [atN_eq]
        unfold chAt
        have : (x.length : Int) = (x.cps.toList.length : Int) := by simp [Str.length]
        rw [this]
      cases e : chAt x i with
      | none => rw [e] at p2; exact p2.elim
      | some ch =>
        rw [e] at p2
        exact ⟨ch, rx.str, ev, ble_line hn, by rw [← e1]; exact e, p2.pure m2 .ofStr⟩
    | tup xs =>
      obtain ⟨a, zs, vs, rfl, hq, r1, p2⟩ := seq_of c.hK m2 rx p2
      cases e : atN zs i with
      | none => rw [e] at p2; exact p2.elim
      | some d =>
        rw [e] at p2
        obtain ⟨w, e1, r2⟩ := atN_rep r1 e
        rcases hq with ⟨hq, _⟩ | ⟨hq, _⟩
        · exact .inl ⟨a, vs, i, w, rfl, ev, hq, e1, p2.ok m2 r2⟩
        · exact .inr (.inl ⟨a, vs, i, w, rfl, ev, hq, e1, p2.ok m2 r2⟩)
    | obj n =>
      obtain ⟨a, zs, vs, rfl, hq, r1, p2⟩ := seq_of c.hK m2 rx p2
      cases e : atN zs i with
      | none => rw [e] at p2; exact p2.elim
      | some d =>
        rw [e] at p2
        obtain ⟨w, e1, r2⟩ := atN_rep r1 e
        rcases hq with ⟨hq, _⟩ | ⟨hq, _⟩
        · exact .inl ⟨a, vs, i, w, rfl, ev, hq, e1, p2.ok m2 r2⟩
        · exact .inr (.inl ⟨a, vs, i, w, rfl, ev, hq, e1, p2.ok m2 r2⟩)
    | scr xs =>
      unfold Rep at rx
      obtain ⟨a, rfl, hq, _⟩ := rx
      replace p2 : Po Γ (Rep Γ) as2 H2 ((match atN (xs.map D.int) i with | some d => pure d | none => stuck : M D) st2) Q (WE W σ) := p2
      cases e : atN (xs.map D.int) i with
      | none => rw [e] at p2; exact p2.elim
      | some d =>
        rw [e] at p2
        have rr : ∀ l : List Int, Reps Γ as2 H2 (l.map D.int) (l.map V.int) := fun l => by
          induction l with
          | nil => exact .nil
          | cons x l ih => exact .cons .ofInt ih
        obtain ⟨w, e1, r2⟩ := atN_rep (rr xs) e
        exact .inl ⟨a, _, i, w, rfl, ev, by rw [hK]; exact hq, e1, p2.pure m2 r2⟩
    | _ => exact False.elim p2
  | _ => cases x <;> exact False.elim p2

/-! ### in -/
def flatDV : D → V → Prop
  | .non, v => v = .non
  | .bl b, v => v = .bl b
  | .int i, v => v = .int i
  | .str x, v => v = .str x
  | _, _ => False
theorem flat_dv {as : List Loc} {H : Hp} {d : D} {v : V} (h : flat d = true) (r : Rep Γ as H d v) : flatDV d v := by
  cases d <;> simp [flat] at h
  · exact r.non
  · exact r.bl
  · exact r.int
  · exact r.str
end
end G
set_option Elab.async false
set_option linter.all false
set_option maxRecDepth 100000
set_option maxHeartbeats 4000000
/-! G8: in, slices, built-in functions and methods, displays. -/
namespace G
open PySem PySem.Spec PyProof.Rows L2 SlX

section
variable {Γ : Gx} {X : Cx} {W : WX} {k : Nat}
def toV : D → V
  | .bl b => .bl b
  | .int i => .int i
  | .str x => .str x
  | _ => .non
theorem flat_v {as : List Loc} {H : Hp} {d : D} {v : V} (h : flat d = true) (r : Rep Γ as H d v) : v = toV d ∧ flatV v = true := by
  cases d <;> simp [flat] at h
  · rw [r.non]; exact ⟨rfl, rfl⟩
  · rw [r.bl]; exact ⟨rfl, rfl⟩
  · rw [r.int]; exact ⟨rfl, rfl⟩
  · rw [r.str]; exact ⟨rfl, rfl⟩
theorem eqFlat_v {a b : D} (ha : flat a = true) (hb : flat b = true) : eqFlat a b = eqV (toV a) (toV b) := by
  cases a <;> simp [flat] at ha <;> cases b <;> simp [flat] at hb <;> rfl
theorem flats_v {as : List Loc} {H : Hp} : ∀ {ds : List D} {vs : List V}, ds.all flat = true → Reps Γ as H ds vs → vs = ds.map toV ∧ vs.all flatV = true
  | [], vs, h, r => by rw [r.nil']; exact ⟨rfl, rfl⟩
  | d :: ds, vs, h, r => by
    rw [List.all_cons, Bool.and_eq_true] at h
    obtain ⟨v, vr, rfl, r1, r2⟩ := r.inv
    obtain ⟨e1, f1⟩ := flat_v h.1 r1
    obtain ⟨e2, f2⟩ := flats_v h.2 r2
    exact ⟨by rw [List.map_cons, ← e1, ← e2], by rw [List.all_cons, f1, f2] <;> rfl⟩
theorem inRow_v {x : D} : ∀ {xs : List D}, flat x = true → xs.all flat = true → (xs.any fun y => eqFlat y x) = inV (toV x) (xs.map toV)
  | [], _, _ => rfl
  | y :: ys, hx, h => by
    rw [List.all_cons, Bool.and_eq_true] at h
    unfold inV
    rw [List.any_cons, List.map_cons, List.any_cons]
    have ih := inRow_v (x := x) (xs := ys) hx h.2
    unfold inV at ih
    rw [ih]
    rw [eqFlat_v h.1 hx]
theorem inRow_inv {α β : Type} {rl : Rl α β} {f : Bool → M α} {as : List Loc} {H : Hp} {st : Store} {x : D} {xs : List D} {Q : β → Hp → Prop} {E : XK} (p : Po Γ rl as H ((inRow x xs >>= f) st) Q E) : flat x = true ∧ xs.all flat = true ∧ Po Γ rl as H (f (xs.any fun y => eqFlat y x) st) Q E := by
  unfold inRow at p
  rw [LawfulMonad.bind_assoc] at p
  obtain ⟨hn, p⟩ := Po.need p
  rw [Bool.and_eq_true] at hn
  exact ⟨hn.1, hn.2, p⟩
theorem v_in (c : XG Γ X W k) (neg : Bool) (op : CmpOp) (hop : op = if neg then .NotIn else .In) : V2 Γ X W (compareOp op) (fun a b => do
    let t ← innD a b
    pure (D.bl (if neg then !t else t))) := fun pins s σ H as st x y vx vy ux uy Q I mt rx ry rux ruy p => by
  have hs : ∀ (q : Po Γ (Rep Γ) as H ((do let t ← innD x y; pure (D.bl (if neg then !t else t))) st) Q (WE W σ)) (i j : Str), x = .str i → y = .str j → wpAny (model X.prog X.w) X.A (compareOp op ux uy) (EP X pins σ Q) X.xe s := by
    intro q i j e1 e2
    subst e1 e2
    have q2 := q.pure mt .ofBl
    cases neg with
    | false =>
      subst hop
      exact op_in_str pins s σ H _ _ ux uy Q I rux ruy ⟨i, j, rx.str, ry.str, q2⟩
    | true =>
      subst hop
      exact op_notIn_str pins s σ H _ _ ux uy Q I rux ruy ⟨i, j, rx.str, ry.str, q2⟩
  have row : ∀ (a : Addr) (zs : List D) (ws : List V), vy = .ref a → (SqL X.K H a ws ∨ SqT X.K H a ws) → Reps Γ as H zs ws → Po Γ (Rep Γ) as H ((inRow x zs >>= fun t => pure (D.bl (if neg then !t else t))) st) Q (WE W σ) → wpAny (model X.prog X.w) X.A (compareOp op ux uy) (EP X pins σ Q) X.xe s := by
    intro a zs ws e hq r1 p
    obtain ⟨h1, h2, p⟩ := inRow_inv p
    obtain ⟨e1, f1⟩ := flat_v h1 rx
    obtain ⟨e2, f2⟩ := flats_v h2 r1
    rw [inRow_v h1 h2, ← e1, ← e2] at p
    have q2 := p.pure mt .ofBl
    cases neg with
    | false =>
      subst hop
      exact op_in_seq pins s σ H vx vy ux uy Q I rux ruy ⟨a, ws, e, hq, f1, f2, q2⟩
    | true =>
      subst hop
      exact op_notIn_seq pins s σ H vx vy ux uy Q I rux ruy ⟨a, ws, e, hq, f1, f2, q2⟩
  have tupc : ∀ ys, y = .tup ys → wpAny (model X.prog X.w) X.A (compareOp op ux uy) (EP X pins σ Q) X.xe s := by
    intro ys e
    subst e
    obtain ⟨a, ws, e1, t1, r1⟩ := ry.tup
    exact row a ys ws e1 (.inr (SqT_of c.hK t1)) r1 (by cases x <;> exact p)
  have objc : ∀ n, y = .obj n → wpAny (model X.prog X.w) X.A (compareOp op ux uy) (EP X pins σ Q) X.xe s := by
    intro n e
    subst e
    have p' : Po Γ (Rep Γ) as H ((getO n >>= fun o => (match o with | .lst ys => inRow x ys | _ => stuck) >>= fun t => pure (D.bl (if neg then !t else t))) st) Q (WE W σ) := by
      rw [← LawfulMonad.bind_assoc]
      cases x <;> exact p
    obtain ⟨o, p1, h1, h2, h3, p'⟩ := Po.getO mt p'
    cases o <;> first | exact False.elim p' | skip
    obtain ⟨_, ws, e1, r1⟩ := h3.lstE
    exact row p1.1 _ ws (rep_obj_eq ry h2) (.inl (SqL.of e1)) r1 p'
  cases y with
  | tup ys => exact tupc ys rfl
  | obj n => exact objc n rfl
  | str j => cases x <;> first | exact False.elim p | exact hs p _ _ rfl rfl
  | _ => cases x <;> exact False.elim p

/-! ### built-in functions -/
theorem len_lst {as : List Loc} {H : Hp} {ds : List D} {vs : List V} (h : Reps Γ as H ds vs) : (vs.length : Int) = (ds.length : Int) := by rw [h.len]
theorem vc_abs {ct : Ct} : VC Γ X W (fun us => call (.builtin "abs") us) (prim ct .abs) := VC.of call_abs fun as st H xs vs Q E mt rx p => by
  rcases xs with _ | ⟨x, _ | ⟨y, r⟩⟩ <;> try exact False.elim p
  obtain ⟨v, rfl, r1⟩ := rx.one
  cases x <;> try exact False.elim p
  exact ⟨_, by rw [r1.int], p.pure mt .ofInt⟩
theorem vc_max2 {ct : Ct} (c : XG Γ X W k) : VC Γ X W (fun us => call (.builtin "max") us) (prim ct .max2) := VC.of (call_max2 c.calm) fun as st H xs vs Q E mt rx p => by
  rcases xs with _ | ⟨x, _ | ⟨y, _ | ⟨z, r⟩⟩⟩ <;> try exact False.elim p
  obtain ⟨v, u, rfl, r1, r2⟩ := rx.two
  cases x <;> cases y <;> try exact False.elim p
  exact ⟨_, _, by rw [r1.int, r2.int], p.pure mt .ofInt⟩
theorem vc_min2 {ct : Ct} (c : XG Γ X W k) : VC Γ X W (fun us => call (.builtin "min") us) (prim ct .min2) := VC.of (call_min2 c.calm) fun as st H xs vs Q E mt rx p => by
  rcases xs with _ | ⟨x, _ | ⟨y, _ | ⟨z, r⟩⟩⟩ <;> try exact False.elim p
  obtain ⟨v, u, rfl, r1, r2⟩ := rx.two
  cases x <;> cases y <;> try exact False.elim p
  exact ⟨_, _, by rw [r1.int, r2.int], p.pure mt .ofInt⟩
theorem vc_int1 {ct : Ct} (c : XG Γ X W k) : VC Γ X W (fun us => call (.type "int") us) (prim ct .int1) := fun pins s σ H as st xs vs us Q I mt rx rv p => by
  by_cases hs : ∃ x, xs = [.str x]
  · obtain ⟨x, rfl⟩ := hs
    obtain ⟨v, rfl, r1⟩ := rx.one
    cases r1.str
    obtain ⟨u, rfl, ru⟩ : ∃ u, us = [u] ∧ RelV (.str x) u := by
      cases rv with
      | cons h t =>
        cases t
        exact ⟨_, rfl, h⟩
    obtain ⟨t, rfl⟩ := ru
    replace p : Po Γ (Rep Γ) as H ((match PySem.intText? x with | some n => (do need (Nat.ble x.length 640 || (Nat.blt 640 (PySem.numSeenOf x).length && Nat.ble x.length line)); pure (.int n) : M D) | none => stuck) st) Q (WE W σ) := p
    cases e : PySem.intText? x with
    | none => rw [e] at p; exact p.elim
    | some n =>
      rw [e] at p
      obtain ⟨hn, p⟩ := Po.need p
      have q := p.pure mt .ofInt
      by_cases h6 : Nat.ble x.length 640 = true
      · exact PySem.W.KIN.call_text e (Nat.le_of_ble_eq_true h6) ⟨.int n, H, I.tok _, ⟨_, rfl⟩, q⟩
      · rw [Bool.or_eq_true, Bool.and_eq_true] at hn
        obtain ⟨b1, b2⟩ := hn.resolve_left h6
        have b3 : 640 < (PySem.numSeenOf x).length := Nat.blt_eq.mp b1
        exact call_int_textG (Inv.nodigits c I) (ble_line b2) (Nat.not_le.mpr b3) e fun tk tk' => ⟨.int n, H, I.tok _, ⟨_, rfl⟩, q⟩
  revert p
  intro p
  refine (VC.of (g := fun xs => match xs with | [.str _] => stuck | xs => prim ct .int1 xs) call_int1 fun as st H xs vs Q E mt rx p => ?_) pins s σ H as st xs vs us Q I mt rx rv (by
    rcases xs with _ | ⟨x, _ | ⟨y, r⟩⟩ <;> first | exact p | (cases x <;> first | exact p | exact absurd ⟨_, rfl⟩ hs))
  rcases xs with _ | ⟨x, _ | ⟨y, r⟩⟩
  · exact False.elim p
  rotate_left
  · cases x <;> exact False.elim p
  obtain ⟨v, rfl, r1⟩ := rx.one
  cases x <;> try exact False.elim p
  · exact .inr ⟨_, by rw [r1.bl], p.pure mt .ofInt⟩
  · exact .inl ⟨_, by rw [r1.int], p.pure mt .ofInt⟩
theorem vc_str1 {ct : Ct} (c : XG Γ X W k) : VC Γ X W (fun us => call (.type "str") us) (prim ct .str1) := VC.of (call_str_intG c) fun as st H xs vs Q E mt rx p => by
  rcases xs with _ | ⟨x, _ | ⟨y, r⟩⟩ <;> try exact False.elim p
  obtain ⟨v, rfl, r1⟩ := rx.one
  cases x <;> try exact False.elim p
  obtain ⟨hn, p⟩ := Po.need p
  exact ⟨_, by rw [r1.int], of_decide_eq_true hn, p.pure mt .ofStr⟩
theorem vc_tuple1 {ct : Ct} (c : XG Γ X W k) : VC Γ X W (fun us => call (.type "tuple") us) (prim ct .tuple1) := VC.of call_tuple_of fun as st H xs vs Q E mt rx p => by
  rcases xs with _ | ⟨x, _ | ⟨y, r⟩⟩ <;> try exact False.elim p
  obtain ⟨v, rfl, r1⟩ := rx.one
  obtain ⟨a, zs, ws, rfl, hq, r2, p⟩ := seq_of c.hK mt r1 p
  refine ⟨a, ws, rfl, ?_⟩
  rcases hq with ⟨hq, _⟩ | ⟨hq, rfl⟩
  · exact .inl ⟨hq, Po.newT p mt r2⟩
  · exact .inr ⟨hq, p.pure mt r1⟩
theorem vc_list1 {ct : Ct} (c : XG Γ X W k) : VC Γ X W (fun us => call (.type "list") us) (prim ct .list1) := VC.of call_list_of fun as st H xs vs Q E mt rx p => by
  rcases xs with _ | ⟨x, _ | ⟨y, r⟩⟩ <;> try exact False.elim p
  obtain ⟨v, rfl, r1⟩ := rx.one
  obtain ⟨a, zs, ws, rfl, hq, r2, p⟩ := seq_of c.hK mt r1 p
  obtain ⟨hz, q⟩ := Po.newL p mt r2
  exact ⟨a, ws, rfl, hq.imp (·.1) (·.1), q⟩
theorem bools_v {as : List Loc} {H : Hp} : ∀ {ds : List D} {vs : List V} {bs : List Bool}, bools ds = some bs → Reps Γ as H ds vs → vs = bs.map V.bl
  | [], vs, bs, h, r => by cases h; exact r.nil'
  | d :: ds, vs, bs, h, r => by
    cases d <;> try cases h
    rename_i b
    unfold bools at h
    cases e : bools ds with
    | none => rw [e] at h; cases h
    | some l =>
      rw [e] at h
      cases h
      obtain ⟨v, vr, rfl, r1, r2⟩ := r.inv
      rw [r1.bl, bools_v e r2] <;> rfl
theorem vc_all {ct : Ct} (c : XG Γ X W k) : VC Γ X W (fun us => call (.builtin "all") us) (prim ct .all1) := VC.of (cr_all c.calm) fun as st H xs vs Q E mt rx p => by
  rcases xs with _ | ⟨x, _ | ⟨y, r⟩⟩ <;> try exact False.elim p
  obtain ⟨v, rfl, r1⟩ := rx.one
  cases x <;> try exact False.elim p
  obtain ⟨o, p1, h1, h2, h3, p⟩ := Po.getO mt p
  cases o <;> try exact False.elim p
  rename_i zs
  obtain ⟨_, ws, e1, r2⟩ := h3.lstE
  replace p : Po Γ (Rep Γ) as H ((match bools zs with | some l => pure (.bl (if false then l.any id else l.all id)) | none => stuck : M D) st) Q E := p
  cases e : bools zs with
  | none => rw [e] at p; exact p.elim
  | some l =>
    rw [e] at p
    have hv := bools_v e r2
    subst hv
    exact ⟨p1.1, l, by rw [rep_obj_eq r1 h2], SqL.of e1, p.pure mt .ofBl⟩
theorem vc_any {ct : Ct} (c : XG Γ X W k) : VC Γ X W (fun us => call (.builtin "any") us) (prim ct .any1) := VC.of (cr_any c.calm) fun as st H xs vs Q E mt rx p => by
  rcases xs with _ | ⟨x, _ | ⟨y, r⟩⟩ <;> try exact False.elim p
  obtain ⟨v, rfl, r1⟩ := rx.one
  cases x <;> try exact False.elim p
  obtain ⟨o, p1, h1, h2, h3, p⟩ := Po.getO mt p
  cases o <;> try exact False.elim p
  rename_i zs
  obtain ⟨_, ws, e1, r2⟩ := h3.lstE
  replace p : Po Γ (Rep Γ) as H ((match bools zs with | some l => pure (.bl (if true then l.any id else l.all id)) | none => stuck : M D) st) Q E := p
  cases e : bools zs with
  | none => rw [e] at p; exact p.elim
  | some l =>
    rw [e] at p
    have hv := bools_v e r2
    subst hv
    exact ⟨p1.1, l, by rw [rep_obj_eq r1 h2], SqL.of e1, p.pure mt .ofBl⟩
end
end G
set_option Elab.async false
set_option linter.all false
set_option maxRecDepth 100000
set_option maxHeartbeats 4000000
/-! G9: slices, methods of texts and lists, displays, ranges. -/
namespace G
open PySem PySem.Spec PyProof.Rows L2 SlX

/-- no call of a name without arguments -/
def plainBase : Expr → Bool
  | .Call (.Name _ _) [] [] _ => false
  | _ => true
theorem plainBase_ok {o : Expr} {a : Str} {env : PySem.Env} {w : Sem Value} (h : plainBase o = true) : attributeBase o a env w = w := by
  unfold attributeBase
  cases o with
  | Call f as kws pos =>
    cases f with
    | Name id p =>
      cases as with
      | nil =>
        cases kws with
        | nil => cases h
        | cons a b => rfl
      | cons a b => rfl
    | _ => rfl
  | _ => rfl
def noStar (e : Expr) : Bool := match e with | .Starred _ _ => false | _ => true
theorem star_cons {e : Expr} {es : List Expr} {env : PySem.Env} (h : noStar e = true) : starEach (e :: es) env = (false, eval e env) :: starEach es env := by
  cases e <;> first | rfl | cases h
theorem star_any {pos : Pos} {env : PySem.Env} : ∀ {es : List Expr}, es.all noStar = true → (backTo pos (starEach es env)).any (·.1) = false
  | [], _ => rfl
  | e :: es, h => by
    rw [List.all_cons, Bool.and_eq_true] at h
    rw [star_cons h.1]
    show (false || (backTo pos (starEach es env)).any (·.1)) = false
    rw [star_any h.2] <;> rfl
theorem star_all {pos : Pos} {env : PySem.Env} : ∀ {es : List Expr}, es.all noStar = true → (backTo pos (starEach es env)).all (fun x => !x.1) = true
  | [], _ => rfl
  | e :: es, h => by
    rw [List.all_cons, Bool.and_eq_true] at h
    rw [star_cons h.1]
    show (!false && (backTo pos (starEach es env)).all (fun x => !x.1)) = true
    rw [star_all h.2] <;> rfl
section
variable {Γ : Gx} {X : Cx} {W : WX} {k : Nat}
/-- what a method call of a built-in asks of the text -/
def bmOk (o : Expr) (es : List Expr) (apos cpos : Pos) : Bool := plainBase o && (es.all noStar && (Nat.blt es.length 25 && (apos.endLine == cpos.line)))
theorem bmOk_inv {o : Expr} {es : List Expr} {apos cpos : Pos} (h : bmOk o es apos cpos = true) : plainBase o = true ∧ es.all noStar = true ∧ es.length < 25 ∧ (apos.endLine == cpos.line) = true := by
  unfold bmOk at h
  simp only [Bool.and_eq_true] at h
  exact ⟨h.1, h.2.1, Nat.blt_eq.mp h.2.2.1, h.2.2.2⟩
theorem se_bm {ct : Ct} {p : Pr} {T id : String} {name : Str} {r : V → List V → Hp → VK → Prop} {o e : Expr} {es : List Expr} {mo : Env → M D} {ms : Env → M (List D)} {apos cpos : Pos}
    (pa : PlainAttrs T) (slot : Slot T name id) (hty : typeOf (.builtin id) = pure (.type "method_descriptor")) (hm : MtR X id r) (ho : SE Γ X W o mo) (ha : SA Γ X W (e :: es) ms) (ok : bmOk o (e :: es) apos cpos = true)
    (h1 : ∀ {as H st x v} {f : Unit → M D} {Q : VK} {E : XK}, Mt Γ as st H → Rep Γ as H x v → Po Γ (Rep Γ) as H ((recvOk p x >>= f) st) Q E → tyV X.K T v H ∧ Po Γ (Rep Γ) as H (f () st) Q E)
    (h2 : ∀ {as H st x v xs vs} {Q : VK} {E : XK}, Mt Γ as st H → Rep Γ as H x v → Reps Γ as H xs vs → Po Γ (Rep Γ) as H (prim ct p (x :: xs) st) Q E → r v vs H Q) :
    SE Γ X W (.Call (.Attribute o name apos) (e :: es) [] cpos) (fun ρ => do
      let x ← mo ρ
      recvOk p x
      let xs ← ms ρ
      prim ct p (x :: xs)) := by
  obtain ⟨k1, k2, k3, k4⟩ := bmOk_inv ok
  have k2' := k2
  rw [List.all_cons, Bool.and_eq_true] at k2'
  refine PE_imp (pe_bm (r := r) pa slot hty hm ho ha (plainBase_ok k1) ?_ k4 (star_cons k2'.1) (star_any k2'.2)) fun σ H Q ⟨as, st, ρ, mt, er, q⟩ => ?_
  · rw [star_all k2]
    show (true && (true && decide ((e :: es).length + 0 + 0 < 30))) = true
    rw [decide_eq_true (by omega)] <;> rfl
  · refine rd_bnd (rl' := Rep Γ) mt er q fun x as1 st1 H1 v q1 m1 e1 rx p1 => ?_
    obtain ⟨t1, p1⟩ := h1 m1 rx p1
    exact ⟨t1, rd_bnd (rl' := Reps Γ) m1 e1 p1 fun xs as2 st2 H2 vs q2 m2 e2 rxs p2 => h2 m2 (rx.mono q2) rxs p2⟩
theorem se_bm0 {ct : Ct} {p : Pr} {T id : String} {name : Str} {r : V → List V → Hp → VK → Prop} {o : Expr} {mo : Env → M D} {apos cpos : Pos}
    (pa : PlainAttrs T) (slot : Slot T name id) (hty : typeOf (.builtin id) = pure (.type "method_descriptor")) (hm : MtR X id r) (ho : SE Γ X W o mo) (ok : bmOk o [] apos cpos = true)
    (h1 : ∀ {as H st x v} {f : Unit → M D} {Q : VK} {E : XK}, Mt Γ as st H → Rep Γ as H x v → Po Γ (Rep Γ) as H ((recvOk p x >>= f) st) Q E → tyV X.K T v H ∧ Po Γ (Rep Γ) as H (f () st) Q E)
    (h2 : ∀ {as H st x v xs vs} {Q : VK} {E : XK}, Mt Γ as st H → Rep Γ as H x v → Reps Γ as H xs vs → Po Γ (Rep Γ) as H (prim ct p (x :: xs) st) Q E → r v vs H Q) :
    SE Γ X W (.Call (.Attribute o name apos) [] [] cpos) (fun ρ => do
      let x ← mo ρ
      recvOk p x
      let xs ← (pure [] : M (List D))
      prim ct p (x :: xs)) := by
  obtain ⟨k1, k2, k3, k4⟩ := bmOk_inv ok
  refine PE_imp (pe_bm0 (r := r) pa slot hty hm ho (plainBase_ok k1) k4) fun σ H Q ⟨as, st, ρ, mt, er, q⟩ => ?_
  refine rd_bnd (rl' := Rep Γ) mt er q fun x as1 st1 H1 v q1 m1 e1 rx p1 => ?_
  obtain ⟨t1, p1⟩ := h1 m1 rx p1
  exact ⟨t1, h2 m1 rx .nil p1⟩
/-- receivers -/
theorem recv_str {p : Pr} (hp : p = .join ∨ p = .split ∨ p = .startswith ∨ p = .removeprefix) {as : List Loc} {H : Hp} {st : Store} {x : D} {v : V} {f : Unit → M D} {Q : VK} {E : XK} (mt : Mt Γ as st H) (rx : Rep Γ as H x v) (q : Po Γ (Rep Γ) as H ((recvOk p x >>= f) st) Q E) :
    tyV X.K "str" v H ∧ Po Γ (Rep Γ) as H (f () st) Q E := by
  have : ∃ y, x = .str y ∧ Po Γ (Rep Γ) as H (f () st) Q E := by
    rcases hp with rfl | rfl | rfl | rfl <;> cases x <;> first | exact False.elim q | exact ⟨_, rfl, q⟩
  obtain ⟨y, rfl, q2⟩ := this
  rw [rx.str]
  exact ⟨rfl, q2⟩
theorem recv_lst {p : Pr} (hp : p = .append ∨ p = .extend ∨ p = .pop) {as : List Loc} {H : Hp} {st : Store} {x : D} {v : V} {f : Unit → M D} {Q : VK} {E : XK} (mt : Mt Γ as st H) (rx : Rep Γ as H x v) (q : Po Γ (Rep Γ) as H ((recvOk p x >>= f) st) Q E) :
    tyV X.K "list" v H ∧ Po Γ (Rep Γ) as H (f () st) Q E := by
  have : ∃ n, x = .obj n ∧ Po Γ (Rep Γ) as H ((getO n >>= fun o => (match o with | .lst _ => pure () | _ => stuck) >>= f) st) Q E := by
    rcases hp with rfl | rfl | rfl <;> cases x <;> first | exact False.elim q | exact ⟨_, rfl, by rw [← LawfulMonad.bind_assoc]; exact q⟩
  obtain ⟨n, rfl, q2⟩ := this
  obtain ⟨o, p1, h1, h2, h3, q2⟩ := Po.getO mt q2
  cases o <;> first | exact False.elim q2 | skip
  obtain ⟨_, vs, e1, r1⟩ := h3.lstE
  rw [rep_obj_eq rx h2]
  exact ⟨.inl ⟨rfl, vs, SqL.of e1⟩, q2⟩
theorem strs_v {as : List Loc} {H : Hp} : ∀ {ds : List D} {vs : List V} {bs : List Str}, strsD ds = some bs → Reps Γ as H ds vs → vs = bs.map V.str
  | [], vs, bs, h, r => by cases h; exact r.nil'
  | d :: ds, vs, bs, h, r => by
    cases d <;> try cases h
    rename_i b
    unfold strsD at h
    cases e : strsD ds with
    | none => rw [e] at h; cases h
    | some l =>
      rw [e] at h
      cases h
      obtain ⟨v, vr, rfl, r1, r2⟩ := r.inv
      rw [r1.str, strs_v e r2] <;> rfl
theorem join_of {as : List Loc} {H : Hp} {st : Store} {x : D} {v : V} {zs : List D} {ws : List V} {Q : VK} {E : XK} (mt : Mt Γ as st H) (rx : Rep Γ as H x v) (rr : Reps Γ as H zs ws) (p : Po Γ (Rep Γ) as H (joinD x zs st) Q E) :
    ∃ a ys, v = .str a ∧ ws = ys.map V.str ∧ (ys.map (·.length)).sum + ys.length * a.length ≤ 16777216 ∧ Q (.str (Txt.join a ys)) H := by
  cases x <;> try exact False.elim p
  rename_i a
  unfold joinD at p
  cases e : strsD zs with
  | none => rw [e] at p; exact p.elim
  | some l =>
    rw [e] at p
    obtain ⟨hn, p⟩ := Po.need p
    have := Nat.le_of_ble_eq_true hn
    exact ⟨a, l, rx.str, strs_v e rr, by rw [Nat.mul_comm] at this; exact this, p.pure mt .ofStr⟩
theorem bm_join {ct : Ct} {o e : Expr} {mo : Env → M D} {ms : Env → M (List D)} {apos cpos : Pos} (c : XG Γ X W k) (ho : SE Γ X W o mo) (ha : SA Γ X W [e] ms) (ok : bmOk o [e] apos cpos = true) :
    SE Γ X W (.Call (.Attribute o "join" apos) [e] [] cpos) (fun ρ => do
      let x ← mo ρ
      recvOk .join x
      let xs ← ms ρ
      prim ct .join (x :: xs)) := by
  refine se_bm PySem.F.plainAttrs_str PySem.F.slot_str_join PySem.F.type_str_join mt_join ho ha ok (recv_str (.inl rfl)) fun {as H st x v xs vs Q E} mt rx rxs p => ?_
  rcases xs with _ | ⟨y, _ | ⟨z, r⟩⟩ <;> try exact False.elim p
  obtain ⟨w, rfl, r1⟩ := rxs.one
  obtain ⟨a, zs, ws, rfl, hq, r2, p⟩ := seq_of c.hK mt r1 p
  obtain ⟨b, ys, rfl, rfl, hz, q⟩ := join_of mt rx r2 p
  exact ⟨b, a, ys, rfl, rfl, hq.imp (·.1) (·.1), hz, q⟩
theorem bm_split {ct : Ct} {o e : Expr} {mo : Env → M D} {ms : Env → M (List D)} {apos cpos : Pos} (ho : SE Γ X W o mo) (ha : SA Γ X W [e] ms) (ok : bmOk o [e] apos cpos = true) :
    SE Γ X W (.Call (.Attribute o "split" apos) [e] [] cpos) (fun ρ => do
      let x ← mo ρ
      recvOk .split x
      let xs ← ms ρ
      prim ct .split (x :: xs)) := by
  refine se_bm PySem.F.plainAttrs_str PySem.F.slot_str_split PySem.F.type_str_split mt_split ho ha ok (recv_str (.inr (.inl rfl))) fun {as H st x v xs vs Q E} mt rx rxs p => ?_
  rcases xs with _ | ⟨y, _ | ⟨z, r⟩⟩ <;> try exact False.elim p
  obtain ⟨w, rfl, r1⟩ := rxs.one
  cases x <;> cases y <;> try exact False.elim p
  obtain ⟨hn, p⟩ := Po.need p
  rw [Bool.and_eq_true] at hn
  have rr : ∀ l : List Str, Reps Γ as H (l.map D.str) (l.map V.str) := fun l => by
    induction l with
    | nil => exact .nil
    | cons x l ih => exact .cons .ofStr ih
  obtain ⟨hz, q⟩ := Po.newL p mt (rr _)
  exact ⟨_, _, rx.str, by rw [r1.str], by simpa using hn.1, ble_line hn.2, q⟩
theorem bm_startswith {ct : Ct} {o e : Expr} {mo : Env → M D} {ms : Env → M (List D)} {apos cpos : Pos} (ho : SE Γ X W o mo) (ha : SA Γ X W [e] ms) (ok : bmOk o [e] apos cpos = true) :
    SE Γ X W (.Call (.Attribute o "startswith" apos) [e] [] cpos) (fun ρ => do
      let x ← mo ρ
      recvOk .startswith x
      let xs ← ms ρ
      prim ct .startswith (x :: xs)) := by
  refine se_bm PySem.F.plainAttrs_str PySem.F.slot_str_startswith PySem.F.type_str_startswith mt_startswith ho ha ok (recv_str (.inr (.inr (.inl rfl)))) fun {as H st x v xs vs Q E} mt rx rxs p => ?_
  rcases xs with _ | ⟨y, _ | ⟨z, r⟩⟩ <;> try exact False.elim p
  obtain ⟨w, rfl, r1⟩ := rxs.one
  cases x <;> cases y <;> try exact False.elim p
  exact ⟨_, _, rx.str, by rw [r1.str], p.pure mt .ofBl⟩
theorem bm_removeprefix {ct : Ct} {o e : Expr} {mo : Env → M D} {ms : Env → M (List D)} {apos cpos : Pos} (ho : SE Γ X W o mo) (ha : SA Γ X W [e] ms) (ok : bmOk o [e] apos cpos = true) :
    SE Γ X W (.Call (.Attribute o "removeprefix" apos) [e] [] cpos) (fun ρ => do
      let x ← mo ρ
      recvOk .removeprefix x
      let xs ← ms ρ
      prim ct .removeprefix (x :: xs)) := by
  refine se_bm PySem.F.plainAttrs_str PySem.F.slot_str_removeprefix PySem.F.type_str_removeprefix mt_removeprefix ho ha ok (recv_str (.inr (.inr (.inr rfl)))) fun {as H st x v xs vs Q E} mt rx rxs p => ?_
  rcases xs with _ | ⟨y, _ | ⟨z, r⟩⟩ <;> try exact False.elim p
  obtain ⟨w, rfl, r1⟩ := rxs.one
  cases x <;> cases y <;> try exact False.elim p
  obtain ⟨hn, p⟩ := Po.need p
  exact ⟨_, _, rx.str, by rw [r1.str], ble_line hn, p.pure mt .ofStr⟩
theorem MtM.r {id : String} {r : V → List V → Hp → VK → Prop} (h : MtM X id r) : MtR X id r := h
theorem bm_append {ct : Ct} {o e : Expr} {mo : Env → M D} {ms : Env → M (List D)} {apos cpos : Pos} (ho : SE Γ X W o mo) (ha : SA Γ X W [e] ms) (ok : bmOk o [e] apos cpos = true) :
    SE Γ X W (.Call (.Attribute o "append" apos) [e] [] cpos) (fun ρ => do
      let x ← mo ρ
      recvOk .append x
      let xs ← ms ρ
      prim ct .append (x :: xs)) := by
  refine se_bm PySem.F.plainAttrs_list PySem.F.slot_list_append PySem.F.type_list_append (MtM.r mt_append) ho ha ok (recv_lst (.inl rfl)) fun {as H st x v xs vs Q E} mt rx rxs p => ?_
  rcases xs with _ | ⟨y, _ | ⟨z, r⟩⟩ <;> try exact False.elim p
  obtain ⟨w, rfl, r1⟩ := rxs.one
  cases x <;> try exact False.elim p
  obtain ⟨o, p1, h1, h2, h3, p⟩ := Po.getO mt p
  cases o <;> try exact False.elim p
  obtain ⟨hn, p⟩ := Po.need p
  obtain ⟨e0, ws, e1, r2⟩ := h3.lstE
  refine ⟨p1.1, ws, w, rep_obj_eq rx h2, rfl, e1, ?_, Po.setL (v := V.non) p mt h2 e0 (r2.app (.cons r1 .nil)) fun _ _ => .ofNon⟩
  rw [r2.len, line_eq]
  exact Nat.blt_eq.mp hn
theorem bm_extend {ct : Ct} {o e : Expr} {mo : Env → M D} {ms : Env → M (List D)} {apos cpos : Pos} (ho : SE Γ X W o mo) (ha : SA Γ X W [e] ms) (ok : bmOk o [e] apos cpos = true) :
    SE Γ X W (.Call (.Attribute o "extend" apos) [e] [] cpos) (fun ρ => do
      let x ← mo ρ
      recvOk .extend x
      let xs ← ms ρ
      prim ct .extend (x :: xs)) := by
  refine se_bm PySem.F.plainAttrs_list PySem.F.slot_list_extend PySem.F.type_list_extend (MtM.r mt_extend) ho ha ok (recv_lst (.inr (.inl rfl))) fun {as H st x v xs vs Q E} mt rx rxs p => ?_
  rcases xs with _ | ⟨y, _ | ⟨z, r⟩⟩ <;> try exact False.elim p
  obtain ⟨w, rfl, r1⟩ := rxs.one
  cases x <;> cases y <;> try exact False.elim p
  obtain ⟨a, b, p1, p2, h1, h2, g1, g2, o1, o2, p⟩ := two_lists mt p
  cases a <;> cases b <;> try exact False.elim p
  obtain ⟨hn, p⟩ := Po.need p
  obtain ⟨e0, ws, e1, r2⟩ := o1.lstE
  obtain ⟨_, us, e2, r3⟩ := o2.lstE
  refine ⟨p1.1, p2.1, ws, us, rep_obj_eq rx g1, by rw [rep_obj_eq r1 g2], e1, e2, ?_, Po.setL (v := V.non) p mt g1 e0 (r2.app r3) fun _ _ => .ofNon⟩
  rw [r2.len, r3.len]
  exact ble_line hn
theorem Reps.dropLast {as : List Loc} {H : Hp} : ∀ {ds : List D} {vs : List V}, Reps Γ as H ds vs → Reps Γ as H ds.dropLast vs.dropLast
  | [], _, h => by rw [h.nil']; exact .nil
  | [d], _, h => by
    obtain ⟨v, rfl, _⟩ := h.one
    exact .nil
  | d :: e :: ds, _, h => by
    obtain ⟨v, r, rfl, a, b⟩ := h.inv
    obtain ⟨u, q, rfl, a2, b2⟩ := b.inv
    rw [List.dropLast_cons₂, List.dropLast_cons₂]
    exact .cons a (Reps.dropLast (.cons a2 b2))
theorem bm_pop {ct : Ct} {o : Expr} {mo : Env → M D} {apos cpos : Pos} (ho : SE Γ X W o mo) (ok : bmOk o [] apos cpos = true) :
    SE Γ X W (.Call (.Attribute o "pop" apos) [] [] cpos) (fun ρ => do
      let x ← mo ρ
      recvOk .pop x
      let xs ← (pure [] : M (List D))
      prim ct .pop (x :: xs)) := by
  refine se_bm0 PySem.F.plainAttrs_list PySem.F.slot_list_pop PySem.F.type_list_pop (MtM.r mt_pop) ho ok (recv_lst (.inr (.inr rfl))) fun {as H st x v xs vs Q E} mt rx rxs p => ?_
  rcases xs with _ | ⟨y, r⟩ <;> try exact False.elim p
  cases x <;> try exact False.elim p
  obtain ⟨o, p1, h1, h2, h3, p⟩ := Po.getO mt p
  cases o <;> try exact False.elim p
  rename_i zs
  obtain ⟨e0, ws, e1, r2⟩ := h3.lstE
  replace p : Po Γ (Rep Γ) as H ((match zs[zs.length - 1]? with | some y => (do setO _ (.lst zs.dropLast); pure y) | none => stuck : M D) st) Q E := p
  cases e : zs[zs.length - 1]? with
  | none => rw [e] at p; exact p.elim
  | some d =>
    rw [e] at p
    obtain ⟨u, eu, ru⟩ := r2.get e
    exact ⟨p1.1, ws, u, rep_obj_eq rx h2, rxs.nil', e1, by rw [r2.len]; exact eu, Po.setL (v := u) p mt h2 e0 r2.dropLast fun H' k => ru.mono k⟩

/-! ### displays -/
theorem se_tup {es : List Expr} {ms : Env → M (List D)} {n : Nat} {pos : Pos} {ct : Ct} (h : SA Γ X W es ms) : SE Γ X W (.Tuple es n pos) (fun ρ => do
    let xs ← ms ρ
    prim ct .tup xs) := by
  refine PE_imp (pe_tup h) fun σ H Q ⟨as, st, ρ, mt, er, p⟩ => rd_bnd (rl' := Reps Γ) mt er p fun xs as1 st1 H1 vs k1 m1 e1 rx p1 => ?_
  obtain ⟨hn, p1⟩ := Po.need p1
  exact ⟨by rw [rx.len]; exact ble_line hn, Po.newT p1 m1 rx⟩
theorem se_lst {es : List Expr} {ms : Env → M (List D)} {pos : Pos} {ct : Ct} (h : SA Γ X W es ms) : SE Γ X W (.List es pos) (fun ρ => do
    let xs ← ms ρ
    prim ct .lst xs) := by
  refine PE_imp (pe_lst h) fun σ H Q ⟨as, st, ρ, mt, er, p⟩ => rd_bnd (rl' := Reps Γ) mt er p fun xs as1 st1 H1 vs k1 m1 e1 rx p1 => ?_
  exact Po.newL p1 m1 rx
theorem se_dic0 {pos : Pos} {ct : Ct} : SE Γ X W (.Dict [] [] pos) (fun _ => prim ct .dic0 []) := by
  refine PE_imp pe_dnewK fun σ H Q ⟨as, st, ρ, mt, er, p⟩ => fun q hq => ?_
  exact Po.newO (ho := .dK []) p mt hq ⟨rfl, [], upd_same, .nil⟩
/-- {key: constant} -/
theorem se_dic1 {pos : Pos} {ct : Ct} {kd vd : D} {ke ve : Expr} {ky : Key} {vv : V} (hk : keyD kd = some ky) (hke : PE X ke (tC (kV ky))) (hve : PE X ve (tC vv)) (rv : ∀ as H, Rep Γ as H vd vv) :
    SE Γ X W (.Dict [some ke] [ve] pos) (fun _ => prim ct (.dicS [kd]) [vd]) := by
  refine PE_imp (pe_disp (pps_cons hke hve pps_nil) rfl rfl (by simp) (by simp)) fun σ H Q ⟨as, st, ρ, mt, er, p⟩ => fun q hq => ?_
  refine ⟨upd_same, [(ky, vv)], rfl, by simp, ?_⟩
  rw [upd_upd]
  obtain ⟨hn, p⟩ := Po.need p
  exact Po.newO (ho := .dK [(ky, vv)]) p mt hq ⟨rfl, _, upd_same, .cons ⟨hk, rv _ _⟩ .nil⟩
theorem intsD_v {as : List Loc} {H : Hp} : ∀ (n : Nat) (a : Int), Reps Γ as H (intsD a n) ((List.range n).map fun i => V.int (a + (i : Nat)))
  | 0, _ => .nil
  | n + 1, a => by
    rw [List.range_succ_eq_map, List.map_cons, List.map_map]
    refine .cons ?_ ?_
    · rw [show a + ((0 : Nat) : Int) = a by simp]
      exact .ofInt
    · have e : ((fun i : Nat => V.int (a + (i : Nat))) ∘ Nat.succ) = fun i : Nat => V.int (a + 1 + (i : Nat)) := by
        funext i
        simp only [Function.comp]
        congr 1
        omega
      rw [e]
      exact intsD_v n (a + 1)
/-- list(range(e)) -/
theorem se_lrange {a : Expr} {ma : Env → M D} {p1 p2 q1 q2 : Pos} (c : XG Γ X W k) (hg : Gl X "range") (hm : X.mg "range" = none) (hg2 : Gl X "list") (hm2 : X.mg "list" = none) (ha : SE Γ X W a ma) (hs : noStar a = true) : SE Γ X W (.Call (.Name "list" p1) [.Call (.Name "range" q1) [a] [] q2] [] p2) (fun ρ => do
    match ← ma ρ with
    | .int n => do
      need (decide (-(2 ^ 62) ≤ n) && decide (n < 2 ^ 62))
      newL (intsD 0 n.toNat)
    | _ => stuck) := by
  refine PE_imp (pe_listRg c.calm hg2 hm2 (prg_1 hg hm ha (star_cons hs)) rfl) fun σ H Q ⟨as, st, ρ, mt, er, p⟩ => rd_bnd (rl' := Rep Γ) mt er p fun x as1 st1 H1 v k1 m1 e1 rx p1 => ?_
  cases x <;> try exact False.elim p1
  rename_i n
  obtain ⟨hn, p1⟩ := Po.need p1
  simp only [Bool.and_eq_true, decide_eq_true_eq] at hn
  have rr := intsD_v (Γ := Γ) (as := as1) (H := H1) n.toNat 0
  obtain ⟨hz, q⟩ := Po.newL p1 m1 rr
  rw [List.length_map, List.length_range, sizeLine_eq] at hz
  refine ⟨n, rx.int, ⟨by omega, by omega, hn.1, hn.2, by simpa using hz⟩, fun q' hq' => ?_⟩
  have := q q' hq'
  unfold rgV
  rw [show n - 0 = n by omega]
  exact this
end
end G
set_option Elab.async false
set_option linter.all false
set_option maxRecDepth 100000
set_option maxHeartbeats 4000000
/-! G10: slices, chains, calls of built-in functions. -/
namespace G
open PySem PySem.Spec PyProof.Rows L2 SlX

section
variable {Γ : Gx} {X : Cx} {W : WX} {k : Nat}
abbrev RO : Rl (Option Int) (Option Int) := fun _ _ a b => a = b
theorem Reps.cut {as : List Loc} {H : Hp} {ds : List D} {vs : List V} (h : Reps Γ as H ds vs) : ∀ n, Reps Γ as H (ds.drop n) (vs.drop n)
  | 0 => h
  | n + 1 => by
    cases ds with
    | nil => rw [h.nil']; exact .nil
    | cons d ds =>
      obtain ⟨v, r, rfl, a, b⟩ := h.inv
      exact Reps.cut b n
theorem Reps.take {as : List Loc} {H : Hp} {ds : List D} {vs : List V} (h : Reps Γ as H ds vs) : ∀ n, Reps Γ as H (ds.take n) (vs.take n)
  | 0 => .nil
  | n + 1 => by
    cases ds with
    | nil => rw [h.nil']; exact .nil
    | cons d ds =>
      obtain ⟨v, r, rfl, a, b⟩ := h.inv
      exact .cons a (Reps.take b n)
theorem Reps.cutV {as : List Loc} {H : Hp} {ds : List D} {vs : List V} (h : Reps Γ as H ds vs) (lo hi : Option Int) : Reps Γ as H (cutD ds lo hi) (L2.cutV vs lo hi) := by
  unfold cutD L2.cutV
  rw [h.len]
  exact (h.cut _).take _
/-- the parts of a slice -/
def mPart (b : Bool) (m : Env → M D) : Env → M (Option Int) := fun ρ => match b with
  | false => pure none
  | true => do partD (← m ρ)
def ePart (b : Bool) (e : Expr) : Option Expr := match b with
  | false => none
  | true => some e
theorem so_part {b : Bool} {e : Expr} {m : Env → M D} (h : b = true → SE Γ X W e m) : PO X (ePart b e) (rd Γ W RO (mPart b m)) := by
  cases b with
  | false =>
    refine ⟨fun pins s σ H Q I ⟨as, st, ρ, mt, er, p⟩ => po_none.run pins s σ H Q I ?_⟩
    exact p.pure mt rfl
  | true =>
    refine ⟨fun pins s σ H Q I ⟨as, st, ρ, mt, er, p⟩ => (po_some (h rfl)).run pins s σ H Q I ?_⟩
    refine rd_bnd (rl' := Rep Γ) mt er p fun x as1 st1 H1 v k1 m1 e1 rx p1 => ?_
    cases x <;> try exact False.elim p1
    exact ⟨_, rx.int, p1.pure m1 rfl⟩
/-- a[lo:hi] -/
theorem se_slice {a l h : Expr} {bl bh : Bool} {ma ml mh : Env → M D} {p2 pos : Pos} (c : XG Γ X W k) (ha : SE Γ X W a ma) (hl : bl = true → SE Γ X W l ml) (hh : bh = true → SE Γ X W h mh) : SE Γ X W (.Subscript a (.Slice (ePart bl l) (ePart bh h) none p2) pos) (fun ρ => do
    let x ← ma ρ
    let lo ← mPart bl ml ρ
    let hi ← mPart bh mh ρ
    sliceD x lo hi) := by
  refine PE_imp (pe_slice (SlR.or sl_list (SlR.or sl_tupA sl_str)) ha (so_part hl) (so_part hh)) fun σ H Q ⟨as, st, ρ, mt, er, p⟩ => ?_
  refine rd_bnd (rl' := Rep Γ) mt er p fun x as1 st1 H1 v k1 m1 e1 rx p1 => rd_bnd (rl' := RO) m1 e1 p1 fun lo as2 st2 H2 lo' k2 m2 e2 rl p2 => rd_bnd (rl' := RO) m2 e2 p2 fun hi as3 st3 H3 hi' k3 m3 e3 rh p3 => ?_
  subst rl
  subst rh
  replace rx := (rx.mono k2).mono k3
  cases x <;> try exact False.elim p3
  · rename_i x
    obtain ⟨hn, p3⟩ := Po.need p3
    exact .inr (.inr ⟨x, rx.str, ble_line hn, p3.pure m3 .ofStr⟩)
  · obtain ⟨q, vs, rfl, t1, r1⟩ := rx.tup
    have rc := r1.cutV lo hi
    refine .inr (.inl ⟨q, vs, rfl, SqT_of c.hK t1, fun e => p3.pure m3 ?_, fun _ => Po.newT p3 m3 rc⟩)
    unfold Rep
    refine ⟨q, vs, rfl, t1, ?_⟩
    have ez : L2.cutV vs lo hi = vs := by
      unfold L2.cutV
      rw [e.1, e.2]
      simp
    rw [ez] at rc
    exact rc
  · obtain ⟨o, p1', h1, h2, h3, p3⟩ := Po.getO m3 p3
    cases o <;> try exact False.elim p3
    obtain ⟨_, vs, e1, r1⟩ := h3.lstE
    obtain ⟨hz, q⟩ := Po.newL p3 m3 (r1.cutV lo hi)
    exact .inl ⟨p1'.1, vs, rep_obj_eq rx h2, SqL.of e1, q⟩
/-- xs[::-1] of a list -/
def revD (a : D) : M D := match a with
  | .obj n => do match ← getO n with
    | .lst xs => newL xs.reverse
    | _ => stuck
  | _ => stuck
theorem Reps.rev {as : List Loc} {H : Hp} : ∀ {ds : List D} {vs : List V}, Reps Γ as H ds vs → Reps Γ as H ds.reverse vs.reverse
  | [], _, h => by rw [h.nil']; exact .nil
  | d :: ds, _, h => by
    obtain ⟨v, r, rfl, a, b⟩ := h.inv
    rw [List.reverse_cons, List.reverse_cons]
    exact (Reps.rev b).app (.cons a .nil)
theorem se_revL {a : Expr} {ma : Env → M D} {n : Nat} {p1 p2 p3 pos : Pos} (ha : SE Γ X W a ma) : SE Γ X W (.Subscript a (.Slice none none (some (.UnaryOp .USub (.Constant (.int 1) n p1) p2)) p3) pos) (fun ρ => do
    let x ← ma ρ
    revD x) := by
  refine PE_imp (pe_revL ha) fun σ H Q ⟨as, st, ρ, mt, er, p⟩ => rd_bnd (rl' := Rep Γ) mt er p fun x as1 st1 H1 v k1 m1 e1 rx p1 => ?_
  cases x <;> try exact False.elim p1
  obtain ⟨o, p1', h1, h2, h3, p1⟩ := Po.getO m1 p1
  cases o <;> try exact False.elim p1
  obtain ⟨_, vs, e1, r1⟩ := h3.lstE
  obtain ⟨hz, q⟩ := Po.newL p1 m1 r1.rev
  exact ⟨p1'.1, vs, rep_obj_eq rx h2, SqL.of e1, q⟩

/-! ### a op b op c -/
theorem asB_inv {α β : Type} {rl : Rl α β} {f : Bool → M α} {as : List Loc} {H : Hp} {st : Store} {z : D} {v : V} {u : Value} {Q : β → Hp → Prop} {E : XK} (rz : Rep Γ as H z v) (ru : RelV v u) (p : Po Γ rl as H ((asB z >>= f) st) Q E) : ∃ b, u = .bool b ∧ Po Γ rl as H (f b st) Q E := by
  cases z <;> try exact False.elim p
  rw [rz.bl] at ru
  cases ru
  exact ⟨_, rfl, p⟩
theorem se_chain {op op' : CmpOp} {g g' : D → D → M D} {a b c : Expr} {ma mb mc : Env → M D} {pos : Pos} (ho : V2 Γ X W (compareOp op) g) (ho' : V2 Γ X W (compareOp op') g') (ha : SE Γ X W a ma) (hb : SE Γ X W b mb) (hc : SE Γ X W c mc) (hm : lastMarks [op, op'] [b, c] = false) : SE Γ X W (.Compare a [op, op'] [b, c] pos) (fun ρ => do
    let x ← ma ρ
    let y ← mb ρ
    let t ← g x y
    match ← asB t with
    | true => do
      let z ← mc ρ
      g' y z
    | false => pure (.bl false)) := by
  refine ⟨fun pins s σ H Q I ⟨as, st, ρ, mt, er, p⟩ => ?_⟩
  refine Compare_chain (SE.bnd ha I mt er p fun x as1 st1 H1 v u s1 k1 I1 m1 e1 rx ru p1 => chain_link (SE.bnd hb I1 m1 e1 p1 fun y as2 st2 H2 v' u' s2 k2 I2 m2 e2 ry ru' p2 => ?_)) hm
  refine V2.bnd ho I2 m2 (rx.mono k2) ry ru ru' p2 fun t as3 st3 H3 v3 u3 s3 k3 I3 m3 rt rut p3 => ?_
  obtain ⟨d, rfl, p3⟩ := asB_inv rt rut p3
  refine wpAny_truthy_bool ?_
  cases d with
  | false => exact ite_ff ⟨.bl false, H3, I3, rfl, p3.pure m3 .ofBl⟩
  | true => exact ite_tt (chain_last (SE.bnd hc I3 m3 ((e2).mono k3) p3 fun z as4 st4 H4 v4 u4 s4 k4 I4 m4 e4 rz ruz p4 => ho' pins s4 σ H4 as4 st4 y z v' v4 u' u4 Q I4 m4 ((ry.mono k3).mono k4) rz ru' ruz p4))
theorem st_chain {op op' : CmpOp} {g g' : D → D → M D} {a b c : Expr} {ma mb mc : Env → M D} {pos : Pos} (tr : VT Γ X W truth) (ho : V2 Γ X W (compareOp op) g) (ho' : V2 Γ X W (compareOp op') g') (ha : SE Γ X W a ma) (hb : SE Γ X W b mb) (hc : SE Γ X W c mc) (hm : lastMarks [op, op'] [b, c] = false) : ST Γ X W (.Compare a [op, op'] [b, c] pos) (fun ρ => do
    let x ← ma ρ
    let y ← mb ρ
    let t ← g x y
    match ← asB t with
    | true => do
      let z ← mc ρ
      truth (← g' y z)
    | false => pure false) := by
  refine ⟨fun pins s σ H Q I ⟨as, st, ρ, mt, er, p⟩ => ?_⟩
  refine isTrue_chain (SE.bnd ha I mt er p fun x as1 st1 H1 v u s1 k1 I1 m1 e1 rx ru p1 => test_link (SE.bnd hb I1 m1 e1 p1 fun y as2 st2 H2 v' u' s2 k2 I2 m2 e2 ry ru' p2 => ?_)) hm
  refine V2.bnd ho I2 m2 (rx.mono k2) ry ru ru' p2 fun t as3 st3 H3 v3 u3 s3 k3 I3 m3 rt rut p3 => ?_
  obtain ⟨d, rfl, p3⟩ := asB_inv rt rut p3
  refine wpAny_truthy_bool ?_
  cases d with
  | false => exact ite_ff ⟨H3, I3, p3.pure m3 rfl⟩
  | true => exact ite_tt (test_last (SE.bnd hc I3 m3 ((e2).mono k3) p3 fun z as4 st4 H4 v4 u4 s4 k4 I4 m4 e4 rz ruz p4 => V2.bnd ho' I4 m4 ((ry.mono k3).mono k4) rz ru' ruz p4 fun t as5 st5 H5 v5 u5 s5 k5 I5 m5 rt rut p5 => tr pins s5 σ H5 as5 st5 t v5 u5 Q I5 m5 rt rut p5))

/-! ### calls of built-ins -/
theorem se_callB {id : String} {x : Str} {g : List D → M D} {e : Expr} {es : List Expr} {ms : Env → M (List D)} {p pos : Pos} (hc : VC Γ X W (fun us => call (.builtin id) us) g) (hg : Gl X x) (hm : X.mg x = none) (hv : bootBuiltins x = some (.builtin id)) (ha : SA Γ X W (e :: es) ms) (hn : x ≠ "__name__") (hdb : (x == ("__debug__" : Str)) = false)
    (hs : (e :: es).all noStar = true) : SE Γ X W (.Call (.Name x p) (e :: es) [] pos) (fun ρ => do
      let xs ← ms ρ
      g xs) := by
  rw [List.all_cons, Bool.and_eq_true] at hs
  refine ⟨fun pins s σ H Q I ⟨as, st, ρ, mt, er, q⟩ => ?_⟩
  refine wpAny_Call_Name_kw (ld_blt I hg hm hv ?_ hn hdb)
  refine PyProof.Rows.callWith_builtin1 (SA.bnd ha I mt er q fun xs as1 st1 H1 vs us s1 k1 I1 m1 e1 rx rv p1 => ?_) (star_cons hs.1) (star_any hs.2)
  exact hc pins s1 σ H1 as1 st1 xs vs us Q I1 m1 rx rv p1
theorem se_callTy {T : String} {x : Str} {g : List D → M D} {e : Expr} {es : List Expr} {ms : Env → M (List D)} {p pos : Pos} (hc : VC Γ X W (fun us => call (.type T) us) g) (hg : Gl X x) (hm : X.mg x = none) (hv : bootBuiltins x = some (.type T)) (ha : SA Γ X W (e :: es) ms) (hn : x ≠ "__name__") (hdb : (x == ("__debug__" : Str)) = false)
    (hs : (e :: es).all noStar = true) : SE Γ X W (.Call (.Name x p) (e :: es) [] pos) (fun ρ => do
      let xs ← ms ρ
      g xs) := by
  rw [List.all_cons, Bool.and_eq_true] at hs
  refine ⟨fun pins s σ H Q I ⟨as, st, ρ, mt, er, q⟩ => ?_⟩
  refine wpAny_Call_Name_kw (ld_blt I hg hm hv ?_ hn hdb)
  refine PyProof.Rows.callWith_type1 (SA.bnd ha I mt er q fun xs as1 st1 H1 vs us s1 k1 I1 m1 e1 rx rv p1 => ?_) (star_cons hs.1) (star_any hs.2)
  exact hc pins s1 σ H1 as1 st1 xs vs us Q I1 m1 rx rv p1
end
end G
set_option Elab.async false
set_option linter.all false
set_option maxRecDepth 100000
set_option maxHeartbeats 4000000
/-! G11: what a call leaves; calls of defs. -/
namespace G
open PySem PySem.Spec PyProof.Rows L2 SlX

section
variable {Γ : Gx} {as as1 : List Loc} {H H1 : Hp} {st st1 : Store}
mutual
theorem Rep.lt : ∀ {d : D} {v : V}, Rep Γ as H d v → D.lt as.length d = true
  | .tup ds, _, h => by
    obtain ⟨a, vs, _, _, r⟩ := h.tup
    unfold D.lt
    exact Reps.lt r
  | .obj n, _, h => by
    obtain ⟨p, e, _⟩ := h.obj
    unfold D.lt
    exact Nat.blt_eq.mpr (List.getElem?_eq_some_iff.mp e).1
  | .ins c ds, _, h => by
    unfold Rep at h
    obtain ⟨a, dx, vs, ws, _, _, _, _, _, r, _⟩ := h
    unfold D.lt
    exact Reps.lt r
  | .exc c d, _, h => by
    unfold Rep at h
    obtain ⟨a, dx, w, _, _, _, _, _, r⟩ := h
    unfold D.lt
    exact Rep.lt r
  | .non, _, _ => rfl
  | .bl _, _, _ => rfl
  | .int _, _, _ => rfl
  | .str _, _, _ => rfl
  | .fn _, _, _ => rfl
  | .cls _, _, _ => rfl
  | .ty _, _, _ => rfl
  | .scr _, _, _ => rfl
theorem Reps.lt : ∀ {ds : List D} {vs : List V}, Reps Γ as H ds vs → D.ltL as.length ds = true
  | [], _, _ => rfl
  | d :: ds, _, h => by
    obtain ⟨v, r, _, a, b⟩ := h.inv
    unfold D.ltL
    rw [Rep.lt a, Reps.lt b] <;> rfl
end
theorem Inn.mono {more : List Loc} {b : Addr} (h : ¬ Inn (as ++ more) b) : ¬ Inn as b := fun q => h (Inn.app.mpr (.inl q))
mutual
theorem Rep.down {more : List Loc} : ∀ {d : D} {v : V}, Rep Γ (as ++ more) H d v → D.lt as.length d = true → Rep Γ as H d v
  | .tup ds, _, h, l => by
    obtain ⟨a, vs, e, t, r⟩ := h.tup
    unfold D.lt at l
    unfold Rep
    refine ⟨a, vs, e, ?_, Reps.down r l⟩
    rcases t with ⟨n, t⟩ | t
    · exact .inl ⟨Inn.mono n, t⟩
    · exact .inr t
  | .obj n, _, h, l => by
    obtain ⟨p, e, q⟩ := h.obj
    unfold D.lt at l
    unfold Rep
    rw [List.getElem?_append_left (Nat.blt_eq.mp l)] at e
    exact ⟨p, e, q⟩
  | .ins c ds, _, h, l => by
    unfold Rep at h ⊢
    obtain ⟨a, dx, vs, ws, e, n1, n2, s, hx, r, w⟩ := h
    unfold D.lt at l
    exact ⟨a, dx, vs, ws, e, Inn.mono n1, Inn.mono n2, s, hx, Reps.down r l, w⟩
  | .exc c d, _, h, l => by
    unfold Rep at h ⊢
    obtain ⟨a, dx, w, e, n1, n2, s, x, r⟩ := h
    unfold D.lt at l
    exact ⟨a, dx, w, e, Inn.mono n1, Inn.mono n2, s, x, Rep.down r l⟩
  | .non, _, h, _ => by unfold Rep at h ⊢; exact h
  | .bl _, _, h, _ => by unfold Rep at h ⊢; exact h
  | .int _, _, h, _ => by unfold Rep at h ⊢; exact h
  | .str _, _, h, _ => by unfold Rep at h ⊢; exact h
  | .fn _, _, h, _ => by unfold Rep at h ⊢; exact h
  | .cls _, _, h, _ => by unfold Rep at h ⊢; exact h
  | .ty _, _, h, _ => by unfold Rep at h ⊢; exact h
  | .scr _, _, h, _ => by
    unfold Rep at h ⊢
    obtain ⟨a, e, q, t⟩ := h
    exact ⟨a, e, q, t.imp (fun z => ⟨Inn.mono z.1, z.2⟩) id⟩
theorem Reps.down {more : List Loc} : ∀ {ds : List D} {vs : List V}, Reps Γ (as ++ more) H ds vs → D.ltL as.length ds = true → Reps Γ as H ds vs
  | [], _, h, _ => by rw [h.nil']; exact .nil
  | d :: ds, _, h, l => by
    obtain ⟨v, r, rfl, a, b⟩ := h.inv
    unfold D.ltL at l
    rw [Bool.and_eq_true] at l
    exact .cons (Rep.down a l.1) (Reps.down b l.2)
end
theorem paired_lt {n : Nat} : ∀ {kvs : List (D × D)} {us : List (Key × V)}, Paired (fun (x : D × D) (y : Key × V) => keyD x.1 = some y.1 ∧ Rep Γ as H x.2 y.2) kvs us → ∀ p ∈ kvs, D.lt as.length p.2 = true
  | _, _, .nil, p, hp => by cases hp
  | _, _, .cons h t, p, hp => by
    rcases List.mem_cons.mp hp with rfl | hp
    · exact h.2.lt
    · exact paired_lt (n := n) t p hp
theorem paired_down {more : List Loc} : ∀ {kvs : List (D × D)} {us : List (Key × V)}, Paired (fun (x : D × D) (y : Key × V) => keyD x.1 = some y.1 ∧ Rep Γ (as ++ more) H x.2 y.2) kvs us → (∀ p ∈ kvs, D.lt as.length p.2 = true) → Paired (fun (x : D × D) (y : Key × V) => keyD x.1 = some y.1 ∧ Rep Γ as H x.2 y.2) kvs us
  | _, _, .nil, _ => .nil
  | _, _, .cons h t, l => .cons ⟨h.1, h.2.down (l _ (List.mem_cons_self ..))⟩ (paired_down t fun p hp => l p (List.mem_cons_of_mem _ hp))
/-- the store without what is new -/
theorem Mt.down {more : List Loc} (m0 : Mt Γ as st H) (k : Kp as H (as ++ more) H1) (m1 : Mt Γ (as ++ more) st1 H1) (e : st1.take st.length = st) : Mt Γ as st H1 := by
  refine ⟨m0.len, m0.apart, fun i o p h1 h2 => ?_, ⟨m1.tab.all, fun p hp => by
    obtain ⟨n, ps, e1, e2, e3⟩ := m1.tab.tabs p hp
    refine ⟨fun z => n (Inn.app.mpr (.inl z)), ps, e1, e2, fun pos cv q => ?_⟩
    obtain ⟨c, c1, c2, c3⟩ := e3 pos cv q
    exact ⟨c, c1, c2, fun z => c3 (Inn.app.mpr (.inl z))⟩⟩⟩
  have hi : i < as.length := (List.getElem?_eq_some_iff.mp h2).1
  have h3 : (as ++ more)[i]? = some p := by rw [List.getElem?_append_left hi]; exact h2
  have h4 : st1[i]? = some o := by
    rw [← e] at h1
    rw [List.getElem?_take_of_lt (by rw [← m0.len]; exact hi)] at h1
    exact h1
  have r0 := m0.obj i o p h1 h2
  have r1 := m1.obj i o p h4 h3
  cases o with
  | lst xs =>
    obtain ⟨_, vs0, _, q0⟩ := r0
    obtain ⟨e1, vs, e2, q1⟩ := r1
    exact ⟨e1, vs, e2, q1.down q0.lt⟩
  | sl c fs =>
    obtain ⟨_, _, vs0, _, q0⟩ := r0
    obtain ⟨e1, e2, vs, s, q1⟩ := r1
    refine ⟨e1, e2, vs, s, fun i d hd => ?_⟩
    obtain ⟨v, a, b⟩ := q1 i d hd
    obtain ⟨_, _, b0⟩ := q0 i d hd
    exact ⟨v, a, b.down b0.lt⟩
  | dic kvs =>
    obtain ⟨_, us0, _, q0⟩ := r0
    obtain ⟨e1, us, e2, q1⟩ := r1
    exact ⟨e1, us, e2, paired_down q1 (paired_lt (n := 0) q0)⟩
  | ins c fs =>
    obtain ⟨_, _, _, _, z⟩ := r0
    exact z.elim
  | gone => exact r0.elim
/-- a call's end, by what is left of the store -/
theorem trunc_ok {d : D} {v : V} {as2 : List Loc} {H2 : Hp} {st2 : Store} (m0 : Mt Γ as st H) (k : Kp as H as2 H2) (m2 : Mt Γ as2 st2 H2) (r : Rep Γ as2 H2 d v) : ∃ as3, Kp as H as3 H2 ∧ Mt Γ as3 (trunc st d st2) H2 ∧ Rep Γ as3 H2 d v ∧ (∀ b, ¬ Inn as2 b → ¬ Inn as3 b) := by
  unfold trunc
  split
  · rename_i h
    obtain ⟨more, e, _⟩ := id k.pre
    subst e
    exact ⟨as, k.same, m0.down k m2 h.1, r.down (by rw [m0.len]; exact h.2), fun b q => Inn.mono q⟩
  · exact ⟨as2, k, m2, r, fun _ q => q⟩
end

/-- a def's promise, to be kept wherever nothing guards -/
structure FnG (b : Bool) (P : Program) (w : World) (K : PySem.W.Frag) (mg : Str → Option Value) (base : Heap) (k : Nat) (f : Addr) (fd : FuncData) (ps : List Str) (sp : Sp) : Prop where
  len : ∀ vs H Q E, sp vs H Q E → vs.length = ps.length
  run : ∀ (A : Around) (outer : List PySem.Env) (s : Shared) (H : Hp) (args : Args) (us : List Value) (vs : List V) (Q : VK) (E : XK), Room k A → (b = true → A.guards = some []) → Env0 P w K mg base A outer s H → BindsTo s fd args (ps.zip us) → Vals vs us → sp vs H Q E →
    codeAny (model P w) A (.call (.ref f) args) (CR (L2.CX P w) outer P w H s Q E) s
theorem fnG_of {b : Bool} {P : Program} {w : World} {K : PySem.W.Frag} {mg : Str → Option Value} {base : Heap} {k : Nat} {f : Addr} {name qual : Str} {params : Arguments} {body : List Stmt} {scope : Scope} {dV kV doc pm cdv ct oc : Value} {an od : Option Addr}
    {osl : Array (Option Value)} {N ps : List Str} {sp : Sp} (lk : K.lookup f = some ⟨oc, od, .func (PySem.W.fnOf name qual params body scope dV kV doc pm an cdv ct), osl⟩) (hcd : PySem.W.codeIn K cdv qual = true) (S : FnScope N ps scope)
    (len : ∀ vs H Q E, sp vs H Q E → vs.length = ps.length)
    (hbody : ∀ (A : Around) (outer : List PySem.Env) (s : Shared) (H : Hp) (vs : List V) (Q : VK) (E : XK), Room k (A.deeper (envOfC qual scope s.heap.objs.size f cdv)) → (b = true → A.guards = some []) → sp vs H Q E →
      ∃ t, PSs (cxOf (L2.CX P w) P w K mg base N qual scope f cdv A outer s H E) body t ∧ t { nx := fun _ H' => Q .non H', rt := Q } (start N vs) H) :
    FnG b P w K mg base (k + 1) f (PySem.W.fnOf name qual params body scope dV kV doc pm an cdv ct) ps sp := by
  refine ⟨len, fun A outer s H args us vs Q E hr hg e0 hb r hsp => ?_⟩
  have hl := len _ _ _ _ hsp
  have KX : K.In s.heap := e0.mod.kin.keeps fun b o e => (e0.bs b o e).1
  have lim : s.heap.NoLimit := e0.mod.nolimit.keeps fun b o e => (e0.bs b o e).1
  have hkind : ∀ y ∈ ps.zip us, scope.names.lookup y.1 = some .local ∨ (scope.names.lookup y.1 = some .cell ∧ ((cellsFrom (s.heap.objs.size + 1) scope.names []).lookup y.1).isSome = true) := fun ⟨n, v⟩ hy => by
    rcases S.par n (List.of_mem_zip hy).1 with q | q
    · exact .inl q
    · exact .inr ⟨q, PySem.W.cellsFrom_some _ _ _ (.inl q)⟩
  refine codeAny_call_function hr.depth (KX _ _ lk) rfl S.co S.gen rfl (PySem.W.codeRec_of KX hcd) (hb _ _ _ _ ?_)
  refine wpAny_newFunctionEnv_cells S.kind hkind fun env he s1 x => ?_
  subst he
  refine ⟨lim.keeps x.toInCall.keep, codeAny_func ?_⟩
  obtain ⟨t, ht, hq⟩ := hbody A outer s H vs Q E (hr.deeper _) hg hsp
  have I : Inv (cxOf (L2.CX P w) P w K mg base N qual scope f cdv A outer s H E) [] (start N vs) H s1 := inv_start S hr.hd e0 hl r x
  refine wpAny_mono (ht.run [] s1 (start N vs) H _ I hq) (fun fl s' hs => ?_) fun e s' hs => hs
  have fin : ∀ {σ' : L2.St} {H' : Hp} {v : V} {u : Value}, Inv (cxOf (L2.CX P w) P w K mg base N qual scope f cdv A outer s H E) [] σ' H' s' → RelV v u → Q v H' → CE outer P w H s Q u s' :=
    fun {σ' H' v u} J rv q => ⟨v, H', J.os, J.bare, J.base, J.hok, rv, q⟩
  cases fl with
  | ret u =>
    obtain ⟨v, σ', H', J, rv, q⟩ := hs
    exact fin J rv q
  | next =>
    obtain ⟨σ', H', J, q⟩ := hs
    exact fin (v := V.non) (u := Value.none) J rfl q
  | brk =>
    obtain ⟨_, _, _, q⟩ := hs
    exact False.elim q
  | cont =>
    obtain ⟨_, _, _, q⟩ := hs
    exact False.elim q

/-- what a call of f tells, n levels deep -/
def spF (Γ : Gx) (T : Tab) (wl n f : Nat) : Sp := fun vs H Q E => ∃ as st ds, Mt Γ as st H ∧ Reps Γ as H ds vs ∧ Po Γ (Rep Γ) as H (callF T wl n f ds st) Q E
section
variable {Γ : Gx} {X : Cx} {W : WX} {k j n f : Nat} {T : Tab} {wl : Nat}
theorem run_G {b : Bool} {pins : List (Addr × Obj)} {s : Shared} {σ : L2.St} {H : Hp} {Q : VK} {fa : Addr} {fd : FuncData} {ps : List Str} {sp : Sp} {us ds : List Value} {vs : List V} {E : L2.St → XK} (F : FnG b X.prog X.w X.K X.mg X.base j fa fd ps sp) (hr : Room j X.A) (gd : b = true → X.A.guards = some []) (hb : Binds X.K fd ps ds)
    (hx : PassesAt (L2.CX X.prog X.w) X σ (E σ)) (I : Inv X pins σ H s) (r : Vals vs (us ++ ds)) (h : sp vs H Q (E σ)) : wpAny (model X.prog X.w) X.A (call (.ref fa) us) (EP X pins σ Q) X.xe s := by
  have hl : (us ++ ds).length = ps.length := by rw [← r.length]; exact F.len _ _ _ _ h
  refine wpAny_call (codeAny_mono (F.run X.A X.stack s H ⟨us, []⟩ (us ++ ds) vs Q (E σ) hr gd I.env0 (hb s us I.kIn hl) r h) fun r s' hq => ?_)
  cases r with
  | error e => exact hx pins H s e s' I hq
  | ok fl =>
    cases fl with
    | ret u => exact I.after hq
    | next => exact False.elim hq
    | brk => exact False.elim hq
    | cont => exact False.elim hq
/-- what is known of a def of the text -/
structure FI (Γ : Gx) (f : Nat) : Prop where
  kp : PySem.W.keepIn Γ.K (.ref (Γ.fa f)) = true
  bd : Binds Γ.K (Γ.fd f) (Γ.ps f) []
  bdd : ∃ ds, Vals ((Γ.dv f).map V.int) ds ∧ Binds Γ.K (Γ.fd f) (Γ.ps f) ds
abbrev FO (Γ : Gx) (X : Cx) (T : Tab) (wl n f : Nat) : Prop := FnG Γ.rp X.prog X.w X.K X.mg X.base (6 * n) (Γ.fa f) (Γ.fd f) (Γ.ps f) (spF Γ T wl n f)
theorem se_call {x : Str} {e : Expr} {es : List Expr} {ms : Env → M (List D)} {p pos : Pos} (c : XG Γ X W k) (F : FO Γ X T wl n f) (fi : FI Γ f) (hn : 6 * n ≤ k) (hg : Gl X x) (hm : X.mg x = some (.ref (Γ.fa f))) (ha : SA Γ X W (e :: es) ms) (hdb : (x == ("__debug__" : Str)) = false) (hs : (e :: es).all noStar = true) :
    SE Γ X W (.Call (.Name x p) (e :: es) [] pos) (fun ρ => do
      let xs ← ms ρ
      callF T wl n f xs) := by
  rw [List.all_cons, Bool.and_eq_true] at hs
  have hK := c.hK
  refine ⟨fun pins s σ H Q I ⟨as, st, ρ, mt, er, q⟩ => ?_⟩
  refine wpAny_Call_Name_kw (ld_glob I hg hm ?_ hdb)
  refine PySem.W.callWith_K (h₀ := X.base) I.ok.mod.kin (by rw [hK]; exact fi.kp) (SA.bnd ha I mt er q fun xs as1 st1 H1 vs us s1 k1 I1 m1 e1 rx rv p1 => ⟨I1.kIn, ?_⟩) (star_cons hs.1) (star_any hs.2)
  exact run_G (E := WE W) F (c.hr.mono hn) c.gd (by rw [hK]; exact fi.bd) (passAt c.tk σ) I1 (by rw [List.append_nil]; exact rv) ⟨as1, st1, xs, m1, rx, p1⟩
theorem reps_ints {as : List Loc} {H : Hp} : ∀ (l : List Int), Reps Γ as H (l.map D.int) (l.map V.int)
  | [] => .nil
  | i :: l => .cons (by unfold Rep; rfl) (reps_ints l)
/-- .. the last parameters left out -/
theorem se_callD {x : Str} {e : Expr} {es : List Expr} {ms : Env → M (List D)} {p pos : Pos} (c : XG Γ X W k) (F : FO Γ X T wl n f) (fi : FI Γ f) (hn : 6 * n ≤ k) (hg : Gl X x) (hm : X.mg x = some (.ref (Γ.fa f))) (ha : SA Γ X W (e :: es) ms) (hdb : (x == ("__debug__" : Str)) = false) (hs : (e :: es).all noStar = true) :
    SE Γ X W (.Call (.Name x p) (e :: es) [] pos) (fun ρ => do
      let xs ← ms ρ
      callF T wl n f (xs ++ (Γ.dv f).map D.int)) := by
  rw [List.all_cons, Bool.and_eq_true] at hs
  have hK := c.hK
  obtain ⟨ds, rd, bd⟩ := fi.bdd
  refine ⟨fun pins s σ H Q I ⟨as, st, ρ, mt, er, q⟩ => ?_⟩
  refine wpAny_Call_Name_kw (ld_glob I hg hm ?_ hdb)
  refine PySem.W.callWith_K (h₀ := X.base) I.ok.mod.kin (by rw [hK]; exact fi.kp) (SA.bnd ha I mt er q fun xs as1 st1 H1 vs us s1 k1 I1 m1 e1 rx rv p1 => ⟨I1.kIn, ?_⟩) (star_cons hs.1) (star_any hs.2)
  exact run_G (E := WE W) (ds := ds) (vs := vs ++ (Γ.dv f).map V.int) F (c.hr.mono hn) c.gd (by rw [hK]; exact bd) (passAt c.tk σ) I1 (rv.append rd) ⟨as1, st1, xs ++ (Γ.dv f).map D.int, m1, rx.app (reps_ints _), p1⟩
theorem se_call0 {x : Str} {p pos : Pos} (c : XG Γ X W k) (F : FO Γ X T wl n f) (fi : FI Γ f) (hn : 6 * n ≤ k) (hg : Gl X x) (hm : X.mg x = some (.ref (Γ.fa f))) (hdb : (x == ("__debug__" : Str)) = false) :
    SE Γ X W (.Call (.Name x p) [] [] pos) (fun _ => callF T wl n f []) := by
  have hK := c.hK
  refine ⟨fun pins s σ H Q I ⟨as, st, ρ, mt, er, q⟩ => ?_⟩
  refine wpAny_Call_Name_kw (ld_glob I hg hm ?_ hdb)
  refine PySem.W.callWith_K0 I.kIn (by rw [hK]; exact fi.kp) ?_
  exact run_G (E := WE W) F (c.hr.mono hn) c.gd (by rw [hK]; exact fi.bd) (passAt c.tk σ) I .nil ⟨as, st, [], mt, .nil, q⟩
end
end G
set_option Elab.async false
set_option linter.all false
set_option maxRecDepth 100000
set_option maxHeartbeats 4000000
/-! G12: an own exception with super().__init__(value); self.value = value. -/
namespace G
open PySem PySem.Spec PyProof.Rows L2 SlX

/-- a method call on one line, its arguments plain and few -/
theorem eval_meth {o : Expr} {name : Str} {apos pos : Pos} {args : List Expr} {env : PySem.Env} (few : methodCallForm args.length (backTo pos (starEach args env)) [] = true) (line : (apos.endLine == pos.line) = true) :
    eval (.Call (.Attribute o name apos) args [] pos) env = (do
      let ov ← attributeBase o name env (eval o env)
      standAt apos.atName
      let (f, first) ← holding [ov] (getMethod ov name (do return (← importBound o env).getD true))
      callWith pos f first (backTo pos (starEach args env)) []) := by
  rw [arm_eval_Call]
  have e : backToKw pos (keywordEach [] env) = [] := rfl
  rw [e]
  have e2 : args.length + ([] : List Keyword).length = args.length := rfl
  rw [e2]
  unfold methodCall calleeOf methodCallPos
  rw [few]
  simp only [if_true, line, Bool.not_true, Bool.false_or, pure_bind]
/-- the body of such an __init__ -/
def isExBody (b : List Stmt) : Bool := match b with
  | [.Expr (.Call (.Attribute (.Call (.Name n1 _) [] [] _) n2 pa) [.Name n3 _] [] pc) _, .Assign [.Attribute (.Name n4 _) n5 _] (.Name n6 _) _] => (pa.endLine == pc.line) && (n1 == "super" && (n2 == "__init__" && (n3 == "value" && (n4 == "self" && (n5 == "value" && n6 == "value")))))
  | _ => false
theorem isExBody_inv {b : List Stmt} (h : isExBody b = true) : ∃ p0 p1 p2 p3 p4 p5 p6 p7 p8 p9, (Pos.endLine p2 == Pos.line p4) = true ∧ b = [.Expr (.Call (.Attribute (.Call (.Name "super" p0) [] [] p1) "__init__" p2) [.Name "value" p3] [] p4) p5, .Assign [.Attribute (.Name "self" p6) "value" p7] (.Name "value" p8) p9] := by
  unfold isExBody at h
  split at h
  · rename_i n1 p0 p1 n2 p2 n3 p3 p4 p5 n4 p6 n5 p7 n6 p8 p9
    rw [Bool.and_eq_true] at h
    obtain ⟨hl, h⟩ := h
    simp only [Bool.and_eq_true, beq_iff_eq] at h
    obtain ⟨rfl, rfl, rfl, rfl, rfl, rfl⟩ := h
    exact ⟨_, _, _, _, _, _, _, _, _, _, hl, rfl⟩
  · cases h
/-- what is known of the def __init__ at fI, of the class at D, whose code is at cda, its cell at cc -/
structure ExI (prog : Program) (K : PySem.W.Frag) (fI D : Addr) where
  oc : Value
  od : Option Addr
  osl : Array (Option Value)
  qual : Str
  params : Arguments
  body : List Stmt
  scope : Scope
  dV : Value
  kV : Value
  doc : Value
  pm : Value
  an : Option Addr
  cda : Addr
  ct : Value
  cc : Addr
  ccl : Value
  cdd : Option Addr
  vs : Array Value
  ccs : Array (Option Value)
  file : Str
  tf : Tok
  cl : Value
  cld : Option Addr
  csl : Array (Option Value)
  lk : K.lookup fI = some ⟨oc, od, .func (PySem.W.ksFn "__init__" qual params body scope dV kV doc pm an (.ref cda) ct cc), osl⟩
  isB : isExBody body = true
  code : PySem.W.codeIn K (.ref cda) qual = true
  bind : ∀ u v : Value, bindArgs (PySem.W.ksFn "__init__" qual params body scope dV kV doc pm an (.ref cda) ct cc) ⟨[u, v], []⟩ = pure [((PySem.Str.ofString "self" : Str), u), ((PySem.Str.ofString "value" : Str), v)]
  arg : ((params.posonlyargs ++ params.args).head?.map (·.arg)) = some (PySem.Str.ofString "self")
  lkc : K.lookup cda = some ⟨ccl, cdd, .fields vs, ccs⟩
  hvs : vs[2]? = some (.str file tf)
  hfile : ((prog.main.file : Str) == file) = true
  htop : (prog.main.scope.names.lookup ("super" : Str)).isSome = false
  cell : K.lookup cc = some ⟨cl, cld, .cell (some (.ref D)), csl⟩
  clsD : (PySem.W.clsIn K D).isSome = true
  sup : PySem.W.nsIn K mainGlobals "super" = some none
  thr : PySem.W.nsIn K cStatics "thirdparty.any" = some none
  s1 : scope.names.lookup ("super" : Str) = some .globalImplicit
  s2 : scope.names.lookup ("__class__" : Str) = some .free
  s3 : scope.names.lookup ("self" : Str) = some .local
  s4 : scope.names.lookup ("value" : Str) = some .local
  s5 : scope.kind = .function
  s6 : ∀ x ∈ scope.names, x.2 ≠ .cell
  s7 : scope.isCoroutine = false
  s8 : scope.isGenerator = false
/-- what is known of the class at C, which has it -/
structure ExC (K : PySem.W.Frag) (fI D C : Addr) : Prop where
  ox : OexC K C
  ini : PySem.W.findIn K (.ref C) "__init__" = some (some (.ref fI))
  tyI : PySem.W.typeIn K (.ref fI) = some (.type "function")
  mro : PySem.W.mroIn K C (.ref D) = some true
  sup : PySem.W.ks_superIn K C D "__init__" = some (some (.builtin "ValueError.__init__"))
  sub : PySem.W.subIn K (.ref C) (.type "ValueError") = some true
  noV : PySem.W.findIn K (.ref C) "value" = some none

section
variable {prog : Program} {w : World} {A : Around} {E : Value → Shared → Prop} {h : Heap} {g : Array GenState} {d : Drawn} {t : Nat} {os : OsState}
variable {nm q : Str} {C N : Addr} {bs bm : List Value} {hdct : Bool} {sn : List Str} {sub : List Value} {ab : Bool} {col : Option Bool} {dd : Option Addr} {k0 k1 k2 k3 k5 : Option Value}
/-- the wrapper of ValueError.__init__ called -/
theorem call_mwVE {u e t0 : Addr} {rest : List Value} {Q : Value → Shared → Prop}
    (hC : h.get? C = some (excClassObj nm q C N bs bm hdct sn sub ab col dd k0 k1 k2 k3 k5 "ValueError.__new__")) (he : h.get? e = some (HandSPX.excO C t0)) (hu : h.get? u = some (PySem.W.kxs_mw "ValueError.__init__" e)) (hrest : rest.length ≤ sizeLine)
    (hq : ∀ h' t1, (∀ b o, b ≠ e → h.get? b = some o → h'.get? b = some o) → h'.get? e = some (HandSPX.excO C t1) → Q .none ⟨h', g, d, t, os⟩) :
    wpAny (model prog w) A (call (.ref u) rest) Q E ⟨h, g, d, t, os⟩ := by
  refine wpAny_call (codeAny_of_tree ?_)
  show wpAny _ A.in1 (callAny (.ref u) ⟨rest, []⟩) _ _ _
  simp only [callAny]
  refine wpAny_bind (wpAny_load hu ?_)
  simp only [PySem.W.kxs_mw, show (Value.type "method-wrapper" == Value.type "method" || Value.type "method-wrapper" == Value.type "builtin_function_or_method" || Value.type "method-wrapper" == Value.type "method-wrapper") = true by decide, if_true]
  refine W.KFB.if_so (by decide) ?_
  refine wpAny_bind (ESX.check_bound F.excBase_ValueError hC he rfl ?_)
  refine wpAny_bind (wpAny_pure (wpAny_pure ?_))
  refine ⟨Code.quiet_builtin _ (by decide +kernel), codeAny_builtin F.excBase_ValueError.initEntry ?_⟩
  rw [Around.under_plainId F.excBase_ValueError.init.plain _]
  wp_walk
  refine hq _ h.objs.size (fun b o hb ho => ?_) ?_
  · rw [Heap.get?_update_other _ _ (Ne.symm hb)]
    exact Heap.get?_push_of_some _ ho
  · rw [Heap.get?_update_self _ (Heap.get?_push_of_some _ he) rfl]
    rfl
end

section
variable {prog : Program} {w : World} {A : Around} {s : Shared} {K : PySem.W.Frag} {fI D C : Addr}
open PySem.W PySem.Calls in
/-- __init__ run on a new exception at e -/
theorem ex_init {mg mb : Str → Option Value} {e t0 : Addr} {u : Value} {R : Result → Shared → Prop} (F : ExI prog K fI D) (T : ExC K fI D C) (X : K.In s.heap) (lim : s.heap.NoLimit) (hg : s.heap.Ns mainGlobals mg) (hb : s.heap.Ns builtinsNs mb) (hbb : ∀ x : Str, x ≠ "__name__" → mb x = bootBuiltins x)
    (room : A.depth < recursionLimit) (hKe : K.lookup e = none) (he : s.heap.get? e = some (HandSPX.excO C t0))
    (hq : ∀ h' tk dx t1, (∀ b o, b ≠ e → s.heap.get? b = some o → h'.get? b = some o) → s.heap.objs.size ≤ dx → dx ≠ e → h'.get? e = some { cls := .ref C, dict := some dx, data := .fields #[.ref t1, .none, .none, .none, .bool false, .none] } →
      h'.Ns1 dx (fun y => if y = xValue then some u else none) → R (.ok (.ret .none)) { s with heap := h', toks := tk }) :
    codeAny (model prog w) A (.call (.ref fI) ⟨[.ref e, u], []⟩) R s := by
  obtain ⟨oc, od, osl, qual, params, body, scope, dV, kV, doc, pm, an, cda, ct, cc, ccl, cdd, vs, ccs, file, tf, cl, cld, csl, lk, isB, code, bind, arg, lkc, hvs, hfile, htop, cell, clsD, sup, thr, s1, s2, s3, s4, s5, s6, s7, s8⟩ := F
  obtain ⟨p0, p1, p2, p3, p4, p5, p6, p7, p8, p9, hline, rfl⟩ := isExBody_inv isB
  obtain ⟨nm, qq, N, bs, bm, sn, sub, ab, col, dd, k0, k1, k2, k3, k5, hCl, hbm⟩ := T.ox.cls
  refine ks_codeAny_call_defAt (body := _) (binds := [("self", .ref e), ("value", u)]) room (X _ _ lk) rfl lim (codeRec_of X code) rfl (BindsTo.of_eq (bind _ _)) s6 (fun y hy => ?_) (fun h₀ hns hk => ?_) s7 s8 s5
  · simp only [List.mem_cons, List.not_mem_nil, or_false] at hy
    rcases hy with rfl | rfl
    · exact s3
    · exact s4
  have X0 : K.In h₀ := X.keeps hk
  have he0 : h₀.get? e = some (HandSPX.excO C t0) := hk _ _ he
  have hself : (fun x => List.lookup x (List.reverse [((PySem.Str.ofString "self" : Str), Value.ref e), ((PySem.Str.ofString "value" : Str), u)])) (PySem.Str.ofString "self") = some (.ref e) := by rfl
  have hval : (fun x => List.lookup x (List.reverse [((PySem.Str.ofString "self" : Str), Value.ref e), ((PySem.Str.ofString "value" : Str), u)])) (PySem.Str.ofString "value") = some u := by rfl
  obtain ⟨ar, har, hra⟩ : ∃ ar, (params.posonlyargs ++ params.args).head? = some ar ∧ ar.arg = PySem.Str.ofString "self" := by
    cases z : (params.posonlyargs ++ params.args).head? with
    | none => rw [z] at arg; cases arg
    | some ar => rw [z] at arg; exact ⟨ar, rfl, Option.some.inj arg⟩
  obtain ⟨cdD, hD⟩ := Option.isSome_iff_exists.mp clsD
  obtain ⟨oD, hD1, hD2⟩ : ∃ oD, h₀.get? D = some oD ∧ oD.data = .cls cdD := by
    unfold clsIn at hD
    split at hD
    · rename_i c d cd' sl ho
      cases hD
      exact ⟨_, X0 _ _ ho, rfl⟩
    · cases hD
  have hcl : clsIn K C = some { name := nm, bases := bs, mro := .ref C :: bm, ns := N, qualname := qq, hasDict := true, slotNames := sn, subclasses := sub, abstract := ab, collection := col, hasDel := false } := by unfold clsIn; rw [hCl] <;> rfl
  have hint : interactive (callEnv (ksFn "__init__" qual params [.Expr (.Call (.Attribute (.Call (.Name "super" p0) [] [] p1) "__init__" p2) [.Name "value" p3] [] p4) p5, .Assign [.Attribute (.Name "self" p6) "value" p7] (.Name "value" p8) p9] scope dV kV doc pm an (.ref cda) ct cc) s.heap.objs.size fI) = false := by
    show interactive (ksEnv qual scope s.heap.objs.size fI (.ref cda) cc) = false
    simp [interactive, s5]
  have hks : (ksEnv qual scope s.heap.objs.size fI (.ref cda) cc).kindOf "super" = some .globalImplicit := s1
  have hkc : (ksEnv qual scope s.heap.objs.size fI (.ref cda) cc).kindOf "__class__" = some .free := s2
  have hxc : HandSPX.excO C t0 = HandSPX.excO C t0 := rfl
  obtain ⟨hp, g, d, tk, os⟩ := s
  refine ks_wpAt_execs_cons (ks_wpAt_Expr_any (ks_wpAt_MethodCall ?_ (eval_meth (by rfl) hline)) hint)
  refine ks_wpAt_super_base (env := ksEnv qual scope hp.objs.size fI (.ref cda) cc) hks hkc (by decide) rfl (X0 _ _ lk) rfl har rfl (X0 _ _ lkc) rfl hvs hfile htop ?_
  refine ks_loadName_global s5 hks (loadGlobal_builtin (env := ksEnv qual scope hp.objs.size fI (.ref cda) cc) (hg.keeps hk) (mg_none_of X hg sup) (hb.keeps hk) ((hbb _ (by decide +kernel)).trans (by first | boot_by_name | rfl | kernel_rfl)) ⟨rfl, ?_⟩)
  refine wpAny_loadName_free s5 hkc rfl ⟨_, X0 _ _ cell, rfl⟩ ?_
  rw [hra]
  refine wpAny_loadName_local s5 s3 hns hself ?_
  refine ks_wpAny_isType_cls hD1 hD2 ⟨rfl, ?_⟩
  refine ks_wpAny_call_super hD1 hD2 he0 rfl (fun c e => by cases e) (looks_mroIn X0 T.mro) (fun h1 e1 k1 => ?_)
  have X1 : K.In h1 := X0.keeps k1
  have he1 := k1 _ _ he0
  have I1 : InstAt h1 e (HandSPX.excO C t0) C none := ⟨he1, rfl, rfl, trivial⟩
  refine kxs_getMethod kxs_ValueError e1 (looks_opaque X1 thr) (l₀ := .ref C :: bm) ((looks_clsIn X1 hcl).andThen .now) rfl X1 (by have z := T.sup; unfold ks_superIn at z; rw [hcl] at z; exact z) (I1.type.andThen (looks_subIn X1 T.sub)) (ks_ne X1 I1 hcl) (by decide) ?_
  have k2 : ∀ b o, h1.get? b = some o → (h1.push (kxs_mw "ValueError.__init__" e)).get? b = some o := fun b o z => Heap.get?_push_of_some _ z
  have hu2 : (h1.push (kxs_mw "ValueError.__init__" e)).get? h1.objs.size = some (kxs_mw "ValueError.__init__" e) := Heap.get?_push_size _ rfl
  have X2 : K.In (h1.push (kxs_mw "ValueError.__init__" e)) := X1.keeps k2
  have hns2 := (hns.keeps k1).keeps k2
  refine kxs_callWith (i := "ValueError.__init__") (x := e) rfl (evalArgs_plain ?_)
  refine spliced_cons (ESX.ldL hns2 hval (spliced_nil ⟨hu2, ?_⟩) s5 s4)
  show wpAny _ _ (call (.ref h1.objs.size) [u]) _ _ _
  refine call_mwVE (X2 _ _ hCl) (k2 _ _ he1) hu2 (by show 1 ≤ sizeLine; rw [sizeLine_eq]; omega) fun h3 t1 k3 e3 => ?_
  have nL : hp.objs.size ≠ e := Nat.ne_of_gt (Heap.lt_size (show hp.get? e = _ from he))
  have keepN : ∀ {b : Addr} {o : Obj}, (h1.push (kxs_mw "ValueError.__init__" e)).get? b = some o → b ≠ e → h3.get? b = some o := fun {b o} z n => k3 b o n z
  have hns3 : h3.Ns hp.objs.size _ := let ⟨o, es, ep, z, r⟩ := hns2; ⟨o, es, ep, k3 _ _ nL z, r⟩
  have X3 : K.In h3 := fun b o z => k3 b o (fun y => by rw [y, hKe] at z; cases z) (X2 b o z)
  refine ks_wpAt_execs_cons (ks_wpAt_Assign_Attr (wpAt_of_wpAny (ESX.ldL hns3 hval (ESX.ldL hns3 hself ?_ s5 s3) s5 s4)))
  refine set_plain X3 (ox := HandSPX.excO C t1) (od := none) ⟨e3, rfl, rfl, trivial⟩ T.ox.sa ?_
  refine HandSPX.exc_osa X3 e3 hcl (show HandSPX.refsVE (.ref C :: bm) = true from hbm) rfl T.noV (fun h4 tk' dx k4 dn dne hx hn4 => ?_)
  refine wpAt_of_wpAny (wpAny_execs_nil ?_)
  obtain ⟨oL, _, _, hL, _⟩ := hns3
  refine hq h4 tk' dx t1 (fun b o n z => k4 b o n (k3 b o n (k2 _ _ (k1 _ _ (hk b o z))))) (Nat.le_trans (Nat.le_of_lt (Heap.lt_size hL)) dn) dne hx hn4
end

section
variable {Γ : Gx} {X : Cx} {W : WX} {k : Nat} {pins : List (Addr × Obj)} {σ : L2.St} {H : Hp} {s : Shared} {fI DC C : Addr} {v : V} {u : Value}
/-- C(v) made: at the heap -/
theorem exc_make {Q : Value → Shared → Prop} {E : Value → Shared → Prop} (I : Inv X pins σ H s) (F : ExI X.prog X.K fI DC) (T : ExC X.K fI DC C) (hr : Room 1 X.A)
    (h : ∀ a dx h' tk t1, s.heap.objs.size ≤ a → s.heap.objs.size ≤ dx → dx ≠ a → (∀ b o, s.heap.get? b = some o → h'.get? b = some o) → h'.get? a = some { cls := .ref C, dict := some dx, data := .fields #[.ref t1, .none, .none, .none, .bool false, .none] } →
      h'.Ns1 dx (fun y => if y = xValue then some u else none) → Q (.ref a) { s with heap := h', toks := tk }) : wpAny (model X.prog X.w) X.A (call (.ref C) [u]) Q E s := by
  obtain ⟨nm, q, N, bs, bm, sn, sub, ab, col, dd, k0, k1, k2, k3, k5, hC, hbm⟩ := T.ox.cls
  have KX := I.kIn
  have lim := I.nolimit
  have hg := I.mod.glob.keeps I.bk
  obtain ⟨mb, hb, hbb⟩ := I.mod.blt
  have hb := hb.keeps I.bk
  obtain ⟨hp, g, d, tk, os⟩ := s
  have kk : ∀ b o, hp.get? b = some o → ((hp.push (PySem.W.kdv_tup [u])).push (HandSPX.excO C hp.objs.size)).get? b = some o := fun b o e => Heap.get?_push_of_some _ (Heap.get?_push_of_some _ e)
  have hget : ((hp.push (PySem.W.kdv_tup [u])).push (HandSPX.excO C hp.objs.size)).get? (hp.objs.size + 1) = some (HandSPX.excO C hp.objs.size) := by heap_get
  have hKe : X.K.lookup (hp.objs.size + 1) = none := by
    cases z : X.K.lookup (hp.objs.size + 1) with
    | none => rfl
    | some o => exact absurd (Heap.lt_size (KX _ _ z)) (by show ¬ _ < hp.objs.size; omega)
  refine wpAny_call (HandSPX.call_own PySem.F.excBase_ValueError (fun Y => HandSPX.refsVE_contains Y bm hbm) (KX _ _ hC) (PySem.W.looks_findIn KX T.ini) (fun self => PySem.W.bind_fn KX self T.tyI) (by show 1 ≤ sizeLine; rw [sizeLine_eq]; omega) ?_)
  refine ex_init F T (KX.keeps kk) (lim.keeps kk) (hg.keeps kk) (hb.keeps kk) hbb (hr.make C [u] []).depth hKe hget fun h' tk' dx t1 k4 hz hne hx hn => ?_
  refine ⟨rfl, h (hp.objs.size + 1) dx h' tk' t1 (Nat.le_succ _) (Nat.le_trans (by show hp.objs.size ≤ ((hp.push (PySem.W.kdv_tup [u])).push (HandSPX.excO C hp.objs.size)).objs.size; rw [Heap.size_push, Heap.size_push]; omega) hz) hne (fun b o e => k4 b o (Nat.ne_of_lt (Nat.lt_succ_of_lt (Heap.lt_size e))) (kk b o e)) hx hn⟩
/-- .. and what it is then: a value, or a thing to be raised -/
theorem exc_both (I : Inv X pins σ H s) (ru : RelV v u) {a dx : Addr} {h' : Heap} {tk : Nat} {t1 : Addr} (ha : s.heap.objs.size ≤ a) (hd : s.heap.objs.size ≤ dx) (hne : dx ≠ a) (kp : ∀ b o, s.heap.get? b = some o → h'.get? b = some o)
    (hx : h'.get? a = some { cls := .ref C, dict := some dx, data := .fields #[.ref t1, .none, .none, .none, .bool false, .none] }) (hn : h'.Ns1 dx (fun y => if y = xValue then some u else none)) :
    ∃ G : Heap, Inv X pins σ (upd H dx (.xd [(xValue, v)])) { s with heap := G, toks := tk } ∧ (∀ b o, G.get? b = some o → h'.get? b = some o) ∧ G.get? a = none ∧
      Inv X pins σ (upd (upd H dx (.xd [(xValue, v)])) a (ExH C a dx)) { s with heap := h', toks := tk } := by
  have fa : s.heap.get? a = none := Heap.get?_none_of_le ha
  have fd : s.heap.get? dx = none := Heap.get?_none_of_le hd
  have na := I.hok.fresh ha
  have nd := I.hok.fresh hd
  obtain ⟨G, g1, g2⟩ := restrict h' fun b => decide (b ≠ a)
  have gk : ∀ b, b ≠ a → G.get? b = h'.get? b := fun b hb => g1 b (decide_eq_true hb)
  have ga : G.get? a = none := g2 a (by simp)
  have kG : ∀ b o, s.heap.get? b = some o → G.get? b = some o := fun b o e => by
    rw [gk b fun z => by rw [z, fa] at e; cases e]
    exact kp b o e
  have rel : ∀ f, RelO (([(xValue, v)] : List (Str × V)).lookup f) (if f = xValue then some u else none) := relO_put (fs := []) ru fun g => True.intro
  have hnG : G.Ns1 dx (fun y => if y = xValue then some u else none) := hn.at fun o e => (gk dx hne).trans e
  have I1 : Inv X pins σ (upd H dx (.xd [(xValue, v)])) { s with heap := G, toks := tk } := I.laidN kG fd nd ⟨_, hnG, rel⟩
  refine ⟨G, I1, fun b o e => ?_, ga, ?_⟩
  · by_cases hb : b = a
    · rw [hb, ga] at e; cases e
    · rw [← gk b hb]; exact e
  · have kG' : ∀ b o, G.get? b = some o → h'.get? b = some o := fun b o e => by
      by_cases hb : b = a
      · rw [hb, ga] at e; cases e
      · rw [← gk b hb]; exact e
    exact I1.laidN (t' := tk) kG' ga (by rw [upd_ne hne.symm]; exact na) ⟨⟨_, _, hx, ⟨rfl, rfl⟩, rfl⟩, ⟨_, hx⟩, fun h1 h2 ⟨o, w, q, r⟩ z => ⟨o, w, z _ q, r⟩⟩
/-- C(e) as a value -/
theorem se_exc {c : Nat} {x : Str} {e : Expr} {m : Env → M D} {p pos : Pos} (g : XG Γ X W k) (F : ExI X.prog X.K fI DC) (T : ExC X.K fI DC (Γ.ca c)) (hk : 1 ≤ k) (hg : Gl X x) (hm : X.mg x = some (.ref (Γ.ca c))) (he : SE Γ X W e m) (hs : noStar e = true) (hdb : (x == ("__debug__" : Str)) = false) :
    SE Γ X W (.Call (.Name x p) [e] [] pos) (fun ρ => do
      let y ← m ρ
      pure (.exc c y)) := by
  refine ⟨fun pins s σ H Q I ⟨as, st, ρ, mt, er, q⟩ => ?_⟩
  refine wpAny_Call_Name_kw (ld_glob I hg hm ?_ hdb)
  refine PySem.W.callWith_K (h₀ := X.base) I.ok.mod.kin T.ox.kC ?_ (star_cons hs) rfl
  rw [star_cons hs]
  show wpAny _ _ (spliced ((false, eval e X.env) :: backTo pos (starEach [] X.env))) _ _ s
  refine Calls.spliced_cons (SE.bnd he I mt er q fun y as1 st1 H1 v u s1 k1 I1 m1 e1 ry ru q1 => ?_)
  refine Calls.spliced_nil ⟨I1.kIn, ?_⟩
  show wpAny _ _ (call (.ref (Γ.ca c)) [u]) _ _ _
  refine exc_make I1 F T (g.hr.mono hk) fun a dx h' tk t1 ha hd hne kp hx hn => ?_
  obtain ⟨G, _, _, _, J⟩ := exc_both I1 ru ha hd hne kp hx hn
  have na := I1.hok.fresh ha
  have nd := I1.hok.fresh hd
  have kd := Kp.laid (o := .xd [(xValue, v)]) m1 nd
  have md := m1.laid (o := .xd [(xValue, v)]) nd fun ps z => nomatch z
  have na' : upd H1 dx (.xd [(xValue, v)]) a = none := by rw [upd_ne hne.symm]; exact na
  have ka := Kp.laid (o := ExH (Γ.ca c) a dx) md na'
  have ma := md.laid (o := ExH (Γ.ca c) a dx) na' fun ps z => by unfold ExH at z; cases z
  refine ⟨.ref a, _, J, rfl, q1.okK (kd.trans ka) ma ?_⟩
  unfold Rep
  exact ⟨a, dx, v, rfl, m1.ninn na, m1.ninn nd, upd_same, by rw [upd_ne hne, upd_same], ry.mono (kd.trans ka)⟩
/-- C(e) to be raised -/
theorem pmk_exc {c : Nat} {x : Str} {e : Expr} {m : Env → M D} {p pos : Pos} (g : XG Γ X W k) (F : ExI X.prog X.K fI DC) (T : ExC X.K fI DC (Γ.ca c)) (hk : 1 ≤ k) (hg : Gl X x) (hm : X.mg x = some (.ref (Γ.ca c))) (he : SE Γ X W e m) (hs : noStar e = true) (hdb : (x == ("__debug__" : Str)) = false) :
    PMk X (.Call (.Name x p) [e] [] pos) (fun σ H Q => rd Γ W (Rep Γ) m σ H fun v H1 => ∀ dx, H1 dx = none → Q (.ref (Γ.ca c)) (some dx) (upd H1 dx (.xd [(xValue, v)]))) := by
  intro pins s σ H Q I h
  refine wpAny_Call_Name_kw (ld_glob I hg hm ?_ hdb)
  refine PySem.W.callWith_K (h₀ := X.base) I.ok.mod.kin T.ox.kC ?_ (star_cons hs) rfl
  rw [star_cons hs]
  show wpAny _ _ (spliced ((false, eval e X.env) :: backTo pos (starEach [] X.env))) _ _ s
  refine Calls.spliced_cons (thn (he.run pins s σ H _ I h) fun u s1 ⟨v, H1, I1, ru, q1⟩ => ?_)
  refine Calls.spliced_nil ⟨I1.kIn, ?_⟩
  show wpAny _ _ (call (.ref (Γ.ca c)) [u]) _ _ _
  refine exc_make I1 F T (g.hr.mono hk) fun a dx h' tk t1 ha hd hne kp hx hn => ?_
  obtain ⟨G, J, kG, ga, _⟩ := exc_both (tk := tk) (C := Γ.ca c) I1 ru ha hd hne kp hx hn
  refine ⟨a, _, _, _, _, .ref (Γ.ca c), some dx, rfl, J, kG, ga, hx, ⟨rfl, rfl⟩, rfl, rfl, ?_, rfl, I1.bare, raises_own T.ox.exC T.ox.tyC, q1 dx (I1.hok.fresh hd)⟩
  rw [upd_ne hne.symm]
  exact I1.hok.fresh ha
end
end G
set_option Elab.async false
set_option linter.all false
set_option maxRecDepth 100000
set_option maxHeartbeats 4000000
/-! G13: targets, walks, statements. -/
namespace G
open PySem PySem.Spec PyProof.Rows L2 SlX

/-! ### targets -/
section
variable {Γ : Gx} {X : Cx} {W : WX} {k : Nat}
/-- outside the slots l nothing has changed -/
def SameS (l : List Nat) (σ σ' : L2.St) : Prop := σ'.length = σ.length ∧ ∀ i, i ∉ l → σ'[i]? = σ[i]?
theorem SameS.trans {l l' : List Nat} {σ σ1 σ2 : L2.St} (a : SameS l σ σ1) (b : SameS l' σ1 σ2) : SameS (l ++ l') σ σ2 :=
  ⟨b.1.trans a.1, fun i hi => by
    rw [List.mem_append, not_or] at hi
    exact (b.2 i hi.2).trans (a.2 i hi.1)⟩
def gT (Γ : Gx) (t : Tg) : TG := fun v σ H Q => ∃ as st ρ d, Mt Γ as st H ∧ EnvR Γ as H ρ σ ∧ Rep Γ as H d v ∧ ∃ ρ', assign t d ρ = some ρ' ∧ ∀ σ', EnvR Γ as H ρ' σ' → SameS t.slots σ σ' → Q σ' H
def gTs (Γ : Gx) (ts : List Tg) : TGs := fun vs σ H Q => ∃ as st ρ ds, Mt Γ as st H ∧ EnvR Γ as H ρ σ ∧ Reps Γ as H ds vs ∧ ∃ ρ', assigns ts ds ρ = some ρ' ∧ ∀ σ', EnvR Γ as H ρ' σ' → SameS (Tg.slotsL ts) σ σ' → Q σ' H
abbrev SG (Γ : Gx) (X : Cx) (e : Expr) (t : Tg) : Prop := PG X e (gT Γ t)
abbrev SGs (Γ : Gx) (X : Cx) (es : List Expr) (ts : List Tg) : Prop := PGs X es (gTs Γ ts)
theorem PG_imp {e : Expr} {t t' : TG} (h : PG X e t) (i : ∀ v σ H Q, t' v σ H Q → t v σ H Q) : PG X e t' := ⟨fun pins s σ H v u Q I r hq => h.run pins s σ H v u Q I r (i _ _ _ _ hq)⟩
theorem PGs_imp {e : List Expr} {t t' : TGs} (h : PGs X e t) (i : ∀ v σ H Q, t' v σ H Q → t v σ H Q) : PGs X e t' := ⟨fun pins s σ H v u Q I r hq => h.run pins s σ H v u Q I r (i _ _ _ _ hq)⟩
theorem sg_name {i : Nat} {x : Str} {pos : Pos} (hN : X.N.Nodup) (hi : X.N[i]? = some x) (hx : L2.Loc X.env.scope x) (hf : X.fn x = true ∨ X.env.scope.names.lookup x = some .local) : SG Γ X (.Name x pos) (.n i) := by
  refine PG_imp (pg_name (i := i) hN hi hx hf) fun v σ H Q ⟨as, st, ρ, d, mt, er, rd, ρ', e, q⟩ => ?_
  unfold assign at e
  split at e
  · cases e
    refine q _ (er.set i rd) ⟨List.length_set, fun j hj => ?_⟩
    have : i ≠ j := fun z => hj (by unfold Tg.slots; rw [z]; exact List.mem_singleton.mpr rfl)
    exact List.getElem?_set_ne this
  · cases e
theorem sgs_nil : SGs Γ X [] [] := by
  refine PGs_imp pgs_nil fun vs σ H Q ⟨as, st, ρ, ds, mt, er, rd, ρ', e, q⟩ => ?_
  cases ds with
  | nil =>
    unfold assigns at e
    cases e
    exact ⟨rd.nil', q _ er ⟨rfl, fun _ _ => rfl⟩⟩
  | cons d ds => simp [assigns] at e
theorem sgs_cons {e : Expr} {es : List Expr} {t : Tg} {ts : List Tg} (h1 : SG Γ X e t) (h2 : SGs Γ X es ts) (hs : noStar e = true) : SGs Γ X (e :: es) (t :: ts) := by
  refine PGs_imp (pgs_cons h1 h2 (by cases e <;> first | rfl | cases hs)) fun vs σ H Q ⟨as, st, ρ, ds, mt, er, rd, ρ', e, q⟩ => ?_
  cases ds with
  | nil => simp [assigns] at e
  | cons d ds =>
    unfold assigns at e
    obtain ⟨v, r, rfl, r1, r2⟩ := rd.inv
    cases e1 : assign t d ρ with
    | none => rw [e1] at e; cases e
    | some ρ1 =>
      rw [e1] at e
      exact ⟨v, r, rfl, as, st, ρ, d, mt, er, r1, ρ1, e1, fun σ' er' sm => ⟨as, st, ρ1, ds, mt, er', r2, ρ', e, fun σ'' er'' sm' => q σ'' er'' (by unfold Tg.slotsL; exact sm.trans sm')⟩⟩
theorem each_len {env : PySem.Env} : ∀ {es : List Expr}, es.all noStar = true → (assignEach es env).length = es.length ∧ (assignEach es env).findIdx? (·.1) = none
  | [], _ => ⟨rfl, rfl⟩
  | e :: es, h => by
    rw [List.all_cons, Bool.and_eq_true] at h
    have ih := each_len (env := env) h.2
    have e1 : assignEach (e :: es) env = (false, PySem.assign e env) :: assignEach es env := by
      have h1 := h.1
      cases e <;> first | rfl | cases h1
    rw [e1]
    refine ⟨by rw [List.length_cons, List.length_cons, ih.1], ?_⟩
    rw [List.findIdx?_cons]
    simp [ih.2]
theorem assigns_len : ∀ {ts : List Tg} {ds : List D} {ρ ρ' : Env}, assigns ts ds ρ = some ρ' → ds.length = ts.length
  | [], [], _, _, _ => rfl
  | [], _ :: _, _, _, h => by simp [assigns] at h
  | _ :: _, [], _, _, h => by simp [assigns] at h
  | t :: ts, d :: ds, ρ, ρ', h => by
    unfold assigns at h
    split at h
    · rw [List.length_cons, List.length_cons, assigns_len h]
    · cases h
theorem sg_tup {es : List Expr} {ts : List Tg} {n : Nat} {pos : Pos} (c : XG Γ X W k) (h : SGs Γ X es ts) (hl : es.length = ts.length) (hs : es.all noStar = true) : SG Γ X (.Tuple es n pos) (.t ts) := by
  obtain ⟨l1, l2⟩ := each_len (env := X.env) hs
  refine PG_imp (pg_tup c.calm h l1 l2) fun v σ H Q ⟨as, st, ρ, d, mt, er, rd, ρ', e, q⟩ => ?_
  unfold assign at e
  cases d <;> simp only at e <;> try cases e
  rename_i xs
  obtain ⟨a, vs, rfl, t1, r1⟩ := rd.tup
  refine ⟨a, vs, rfl, SqT_of c.hK t1, ?_, as, st, ρ, xs, mt, er, r1, ρ', e, fun σ' er' sm => q σ' er' (by unfold Tg.slots; exact sm)⟩
  rw [r1.len, assigns_len e, hl]
end

/-! ### walks -/
/-- what is walked serves the items -/
def Sv (Γ : Gx) (as0 : List Loc) (H0 : Hp) (J : L2.It) (all : List D) (g : Gd) : Prop := ∀ as st H, Kp as0 H0 as H → Mt Γ as st H → (∀ p ∈ g, st[p.1]? = some (.lst p.2)) →
  (∀ i d, all[i]? = some d → J.go i H ∧ ∀ x H', J.yld i H x H' → ∃ as', Kp as H as' H' ∧ Mt Γ as' st H' ∧ Rep Γ as' H' d x) ∧ J.stop all.length H
theorem Sv.mono {Γ : Gx} {as0 as1 : List Loc} {H0 H1 : Hp} {J : L2.It} {g : Gd} (h : Sv Γ as0 H0 J all g) (k : Kp as0 H0 as1 H1) : Sv Γ as1 H1 J all g := fun as st H k' => h as st H (k.trans k')
abbrev RI (Γ : Gx) : Rl (List D × Gd) L2.It := fun as H p J => Sv Γ as H J p.1 p.2
abbrev SI (Γ : Gx) (X : Cx) (W : WX) (tg it : Expr) (m : Env → M (List D × Gd)) : Prop := PI X tg it (rd Γ W (RI Γ) m)
section
variable {Γ : Gx} {X : Cx} {W : WX} {k : Nat} {tg : Expr}
theorem PI_imp {it : Expr} {t t' : TI} (h : PI X tg it t) (i : ∀ σ H R, t' σ H R → t σ H R) : PI X tg it t' := ⟨fun pins s σ H R I hq => h.run pins s σ H R I (i _ _ _ hq)⟩
/-- a list, a tuple or a text, as it is -/
def iSeq (K : PySem.W.Frag) (tl : TE) : TI := fun σ H R => tl σ H fun x H1 => (∃ a, x = .ref a ∧ (∃ xs, SqL K H1 a xs) ∧ R (Itl K a) H1) ∨ (∃ a, x = .ref a ∧ (∃ xs, SqT K H1 a xs) ∧ R (Itt K a) H1) ∨ ∃ z, x = .str z ∧ R (Its z) H1
theorem pi_seq {l : Expr} {tl : TE} (hl : PE X l tl) : PI X tg l (iSeq X.K tl) := by
  refine ⟨fun pins s σ H R I h => ?_⟩
  refine thn (hl.run pins s σ H _ I h) fun v s1 ⟨x, H1, I1, r1, q1⟩ => ?_
  rcases q1 with ⟨a, e, ⟨xs, hq⟩, q⟩ | ⟨a, e, ⟨xs, hq⟩, q⟩ | ⟨z, e, q⟩
  · subst e
    cases r1
    obtain ⟨its, rv, p, hz⟩ := I1.list hq
    refine wpAny_pyIter_list p.isList ?_
    refine ⟨s1.heap.objs.size, [s1.heap.objs.size], _, _, H1, rfl, I1.kept (t' := s1.toks) fun b o e => Heap.get?_push_of_some _ e, turn_list a _, ⟨_, Heap.get?_push_size _ rfl, rfl, rfl⟩, fun b hb => ?_, q⟩
    have e : b = s1.heap.objs.size := by simpa using hb
    subst e
    exact I1.fpOk (Nat.le_refl _) (I1.hok.fresh (Nat.le_refl _))
  · subst e
    cases r1
    obtain ⟨its, rv, p, hz⟩ := I1.tuple hq
    refine wpAny_pyIter_tuple (show s1.heap.IsTuple a its.toArray from p) ?_
    refine ⟨s1.heap.objs.size, [s1.heap.objs.size], _, _, H1, rfl, I1.kept (t' := s1.toks) fun b o e => Heap.get?_push_of_some _ e, turn_tuple a _, ⟨_, Heap.get?_push_size _ rfl, rfl, rfl⟩, fun b hb => ?_, q⟩
    have e : b = s1.heap.objs.size := by simpa using hb
    subst e
    exact I1.fpOk (Nat.le_refl _) (I1.hok.fresh (Nat.le_refl _))
  · subst e
    obtain ⟨t, rfl⟩ := r1
    cases ha : z.cps.all (· < 128)
    · exact wpAny_pyIter_wide ha (pi_one (tk := s1.toks) I1 _ (turn_str _ z t "str_iterator" (.inr rfl)) ⟨_, Heap.get?_push_size _ rfl, rfl, rfl⟩ q)
    · exact wpAny_pyIter_ascii ha (pi_one (tk := s1.toks) I1 _ (turn_str _ z t "str_ascii_iterator" (.inl rfl)) ⟨_, Heap.get?_push_size _ rfl, rfl, rfl⟩ q)
theorem sv_list {as : List Loc} {H : Hp} {n : Nat} {p : Loc} {all : List D} (hK : X.K = Γ.K) (hp : as[n]? = some p) : Sv Γ as H (Itl X.K p.1) all [(n, all)] := fun as1 st H1 k mt hg => by
  have e := hg (n, all) (by simp)
  obtain ⟨q, hq, r⟩ := mt.loc e
  rw [k.get hp] at hq
  cases hq
  obtain ⟨_, vs, e1, r1⟩ := r.lstE
  refine ⟨fun i d hd => ?_, vs, SqL.of e1, by rw [r1.len]; exact Nat.le_refl _⟩
  obtain ⟨v, hv, rv⟩ := r1.get hd
  refine ⟨⟨vs, v, SqL.of e1, hv⟩, fun x H' y => ?_⟩
  obtain ⟨rfl, y⟩ := y
  have := y vs (SqL.of e1)
  rw [hv] at this
  cases this
  exact ⟨as1, .refl _ _, mt, rv⟩
theorem TupAt.mono {as as1 : List Loc} {H H1 : Hp} (k : Kp as H as1 H1) {a : Addr} {vs : List V} (h : TupAt Γ as H a vs) : TupAt Γ as1 H1 a vs := by
  rcases h with ⟨n, t⟩ | t
  · exact .inl ⟨k.ninn t n, k.kept _ _ t n (fun ps z => nomatch z)⟩
  · exact .inr t
theorem sv_tup {as : List Loc} {H : Hp} {a : Addr} {vs : List V} {all : List D} (hK : X.K = Γ.K) (t : TupAt Γ as H a vs) (r : Reps Γ as H all vs) : Sv Γ as H (Itt X.K a) all [] := fun as1 st H1 k mt hg => by
  have t1 := SqT_of hK (TupAt.mono k t)
  have r1 := r.mono k
  refine ⟨fun i d hd => ?_, vs, t1, by rw [r1.len]; exact Nat.le_refl _⟩
  obtain ⟨v, hv, rv⟩ := r1.get hd
  refine ⟨⟨vs, v, t1, hv⟩, fun x H' y => ?_⟩
  obtain ⟨rfl, y⟩ := y
  have := y vs t1
  rw [hv] at this
  cases this
  exact ⟨as1, .refl _ _, mt, rv⟩
theorem sv_str {as : List Loc} {H : Hp} {z : Str} : Sv Γ as H (Its z) (z.cps.toList.map fun c => D.str ⟨#[c]⟩) [] := fun as1 st H1 k mt hg => by
  refine ⟨fun i d hd => ?_, by show z.cps.size ≤ _; simp⟩
  rw [List.getElem?_map] at hd
  cases e : z.cps.toList[i]? with
  | none => rw [e] at hd; cases hd
  | some c =>
    rw [e] at hd
    cases hd
    have e' : z.cps[i]? = some c := by rw [← Array.getElem?_toList]; exact e
    refine ⟨by have := (Array.getElem?_eq_some_iff.mp e').1; exact this, fun x H' y => ?_⟩
    obtain ⟨rfl, c', hc', rfl⟩ := y
    rw [e'] at hc'
    cases hc'
    exact ⟨as1, .refl _ _, mt, .ofStr⟩
theorem sv_range {as : List Loc} {H : Hp} {n : Nat} : Sv Γ as H (Itr 0 n) (intsD 0 n) [] := fun as1 st H1 k mt hg => by
  have hl : ∀ (m : Nat) (a : Int), (intsD a m).length = m := fun m => by
    induction m with
    | zero => intro a; rfl
    | succ m ih => intro a; show (intsD (a + 1) m).length + 1 = _; rw [ih]
  have hg : ∀ (m : Nat) (a : Int) (i : Nat) (d : D), (intsD a m)[i]? = some d → i < m ∧ d = .int (a + (i : Nat)) := fun m => by
    induction m with
    | zero => intro a i d h; simp [intsD] at h
    | succ m ih =>
      intro a i d h
      cases i with
      | zero =>
        simp [intsD] at h
        exact ⟨Nat.succ_pos _, by rw [← h]; simp⟩
      | succ i =>
        have h' : (intsD (a + 1) m)[i]? = some d := by simpa [intsD] using h
        obtain ⟨q1, q2⟩ := ih (a + 1) i d h'
        refine ⟨Nat.succ_lt_succ q1, ?_⟩
        rw [q2]
        congr 1
        push_cast
        omega
  refine ⟨fun i d hd => ?_, by show n ≤ _; rw [hl]; exact Nat.le_refl _⟩
  obtain ⟨h1, rfl⟩ := hg n 0 i d hd
  refine ⟨h1, fun x H' y => ?_⟩
  obtain ⟨rfl, rfl⟩ := y
  exact ⟨as1, .refl _ _, mt, .ofInt⟩
theorem si_seq {e : Expr} {m : Env → M D} (c : XG Γ X W k) (h : SE Γ X W e m) : SI Γ X W tg e (fun ρ => do
    let x ← m ρ
    walkD x) := by
  refine PI_imp (pi_seq h) fun σ H R ⟨as, st, ρ, mt, er, p⟩ => rd_bnd (rl' := Rep Γ) mt er p fun x as1 st1 H1 v k1 m1 e1 rx p1 => ?_
  cases x <;> try exact False.elim p1
  · rename_i z
    exact .inr (.inr ⟨z, rx.str, p1.pure m1 sv_str⟩)
  · obtain ⟨a, vs, rfl, t1, r1⟩ := rx.tup
    exact .inr (.inl ⟨a, rfl, ⟨vs, SqT_of c.hK t1⟩, p1.pure m1 (sv_tup c.hK t1 r1)⟩)
  · obtain ⟨o, q, h1, h2, h3, p1⟩ := Po.getO m1 p1
    cases o <;> try exact False.elim p1
    obtain ⟨_, vs, e1, r1⟩ := h3.lstE
    exact .inl ⟨q.1, rep_obj_eq rx h2, ⟨vs, SqL.of e1⟩, p1.pure m1 (sv_list c.hK h2)⟩
theorem si_range1 {a : Expr} {ma : Env → M D} {p pos : Pos} (hg : Gl X "range") (hm : X.mg "range" = none) (ha : SE Γ X W a ma) (hs : noStar a = true) : SI Γ X W tg (.Call (.Name "range" p) [a] [] pos) (fun ρ => do
    match ← ma ρ with
    | .int n => do
      need (decide (-(2 ^ 62) ≤ n) && decide (n < 2 ^ 62))
      pure (intsD 0 n.toNat, [])
    | _ => stuck) := by
  refine PI_imp (pi_range1 hg hm (pa_cons ha pa_nil (star_cons hs)) (star_cons hs)) fun σ H R ⟨as, st, ρ, mt, er, p⟩ => rd_bnd (rl' := Rep Γ) mt er p fun x as1 st1 H1 v k1 m1 e1 rx p1 => ?_
  cases x <;> try exact False.elim p1
  obtain ⟨hn, p1⟩ := Po.need p1
  simp only [Bool.and_eq_true, decide_eq_true_eq] at hn
  exact ⟨_, by rw [rx.int], hn.1, hn.2, p1.pure m1 sv_range⟩
end

/-! ### statements -/
/-- what is wanted of a statement's end -/
def PoS (Γ : Gx) (D : Ends) (W : WX) (as : List Loc) (H : Hp) (r : R Fl) : Prop := match r with
  | .ok (.nx ρ) st' => ∀ as' σ' H', Kp as H as' H' → Mt Γ as' st' H' → EnvR Γ as' H' ρ σ' → D.nx σ' H'
  | .ok (.rt d) st' => ∀ as' v H', Kp as H as' H' → Mt Γ as' st' H' → Rep Γ as' H' d v → D.rt v H'
  | .ok (.bk ρ) st' => ∀ as' σ' H', Kp as H as' H' → Mt Γ as' st' H' → EnvR Γ as' H' ρ σ' → D.bk σ' H'
  | .ok (.ct ρ) st' => ∀ as' σ' H', Kp as H as' H' → Mt Γ as' st' H' → EnvR Γ as' H' ρ σ' → D.ct σ' H'
  | .ok (.xc ρ c x) st' => ∀ as' σ' H' dx w, Kp as H as' H' → Mt Γ as' st' H' → EnvR Γ as' H' ρ σ' → H' dx = some (.xd [(xValue, w)]) → ¬ Inn as' dx → Rep Γ as' H' x w → W (.ref (Γ.ca c)) (some dx) σ' H'
  | .exc _ _ _ => False
  | .stuck => False
section
variable {Γ : Gx} {D D' : Ends} {W W' : WX} {as as1 : List Loc} {H H1 : Hp}
theorem PoS.trans {r : R Fl} (k : Kp as H as1 H1) (h : PoS Γ D W as H r) : PoS Γ D W as1 H1 r := by
  cases r with
  | ok f st =>
    cases f with
    | nx ρ => exact fun as' σ' H' k' => h as' σ' H' (k.trans k')
    | rt d => exact fun as' σ' H' k' => h as' σ' H' (k.trans k')
    | bk ρ => exact fun as' σ' H' k' => h as' σ' H' (k.trans k')
    | ct ρ => exact fun as' σ' H' k' => h as' σ' H' (k.trans k')
    | xc ρ c x => exact fun as' σ' H' dx w k' => h as' σ' H' dx w (k.trans k')
  | exc c x st => exact h
  | stuck => exact h
/-- the first part of two: what comes behind it is told to its ends -/
theorem PoS.bind {m : M Fl} {f : Fl → M Fl} {st : Store} (h : PoS Γ D W as H ((m >>= f) st))
    (hn : ∀ ρ st1 as1 H1 σ, Kp as H as1 H1 → Mt Γ as1 st1 H1 → EnvR Γ as1 H1 ρ σ → PoS Γ D W as1 H1 (f (.nx ρ) st1) → D'.nx σ H1)
    (hr : ∀ d st1 as1 H1 v, Kp as H as1 H1 → Mt Γ as1 st1 H1 → Rep Γ as1 H1 d v → PoS Γ D W as1 H1 (f (.rt d) st1) → D'.rt v H1)
    (hb : ∀ ρ st1 as1 H1 σ, Kp as H as1 H1 → Mt Γ as1 st1 H1 → EnvR Γ as1 H1 ρ σ → PoS Γ D W as1 H1 (f (.bk ρ) st1) → D'.bk σ H1)
    (hc : ∀ ρ st1 as1 H1 σ, Kp as H as1 H1 → Mt Γ as1 st1 H1 → EnvR Γ as1 H1 ρ σ → PoS Γ D W as1 H1 (f (.ct ρ) st1) → D'.ct σ H1)
    (hx : ∀ ρ c x st1 as1 H1 σ dx w, Kp as H as1 H1 → Mt Γ as1 st1 H1 → EnvR Γ as1 H1 ρ σ → H1 dx = some (.xd [(xValue, w)]) → ¬ Inn as1 dx → Rep Γ as1 H1 x w → PoS Γ D W as1 H1 (f (.xc ρ c x) st1) → W' (.ref (Γ.ca c)) (some dx) σ H1) : PoS Γ D' W' as H (m st) := by
  rw [bind_run] at h
  cases e : m st with
  | ok x st1 =>
    rw [e] at h
    replace h : PoS Γ D W as H (f x st1) := h
    cases x with
    | nx ρ => exact fun as' σ' H' k mt er => hn ρ st1 as' H' σ' k mt er (h.trans k)
    | rt d => exact fun as' σ' H' k mt er => hr d st1 as' H' σ' k mt er (h.trans k)
    | bk ρ => exact fun as' σ' H' k mt er => hb ρ st1 as' H' σ' k mt er (h.trans k)
    | ct ρ => exact fun as' σ' H' k mt er => hc ρ st1 as' H' σ' k mt er (h.trans k)
    | xc ρ c x => exact fun as' σ' H' dx w k mt er g1 g2 g3 => hx ρ c x st1 as' H' σ' dx w k mt er g1 g2 g3 (h.trans k)
  | exc c x st1 =>
    rw [e] at h
    exact h
  | stuck =>
    rw [e] at h
    exact h
theorem PoS.nx' {ρ : Env} {st : Store} {σ : L2.St} (h : PoS Γ D W as H ((pure (.nx ρ) : M Fl) st)) (mt : Mt Γ as st H) (er : EnvR Γ as H ρ σ) : D.nx σ H := h as σ H (.refl _ _) mt er
def rdS (Γ : Gx) (W : WX) (m : Env → M Fl) : TS := fun D σ H => ∃ as st ρ, Mt Γ as st H ∧ EnvR Γ as H ρ σ ∧ PoS Γ D W as H (m ρ st)
theorem rdS_fin {σ : L2.St} {ρ : Env} {st : Store} {m : Env → M Fl} (mt : Mt Γ as st H) (er : EnvR Γ as H ρ σ) (h : PoS Γ D W as H (m ρ st)) : rdS Γ W m D σ H := ⟨as, st, ρ, mt, er, h⟩
/-- first an expression (a test, a walk), then what follows -/
theorem eb_bnd {α β : Type} {rl : Rl α β} {σ : L2.St} {ρ : Env} {st : Store} {ma : Env → M α} {f : α → M Fl} {T : β → Hp → Prop} (mt : Mt Γ as st H) (er : EnvR Γ as H ρ σ) (h : PoS Γ D W as H (eb (ma ρ) ρ f st))
    (k : ∀ x as1 st1 H1 v, Kp as H as1 H1 → Mt Γ as1 st1 H1 → EnvR Γ as1 H1 ρ σ → rl as1 H1 x v → PoS Γ D W as1 H1 (f x st1) → T v H1) : rd Γ W rl ma σ H T := by
  refine ⟨as, st, ρ, mt, er, ?_⟩
  unfold eb at h
  cases e : ma ρ st with
  | ok x st1 =>
    rw [e] at h
    exact fun as' v H' k1 m1 r => k x as' st1 H' v k1 m1 (er.mono k1) r (PoS.trans k1 h)
  | exc c x st1 =>
    rw [e] at h
    exact fun as' H' dx w k1 m1 g1 g2 g3 => h as' σ H' dx w k1 m1 (er.mono k1) g1 g2 g3
  | stuck =>
    rw [e] at h
    exact h
end
abbrev SS (Γ : Gx) (X : Cx) (W : WX) (st : Stmt) (m : Env → M Fl) : Prop := PS X st (rdS Γ W m)
abbrev SSs (Γ : Gx) (X : Cx) (W : WX) (st : List Stmt) (m : Env → M Fl) : Prop := PSs X st (rdS Γ W m)
/-- a def's body -/
structure XS (Γ : Gx) (X : Cx) (W : WX) (k : Nat) : Prop extends XG Γ X W k where
  fnT : ∀ x, X.fn x = true
  po : PassesOwn (model X.prog X.w) X.A X.env X.xe
/-- no comprehension -/
def notComp (e : Expr) : Bool := match e with
  | .ListComp _ _ _ _ | .SetComp _ _ _ _ | .DictComp _ _ _ _ _ => false
  | _ => true
theorem sw_false {e : Expr} {t : Option Expr} {l : Nat} {env : PySem.Env} (h : notComp e = true) : swapsWith e t l env = pure false := by
  cases e <;> first | rfl | cases h
theorem sole_false {e t : Expr} {l : Nat} {env : PySem.Env} (h : notComp e = true) : swapsWithSole [t] e l env = pure false := by
  show swapsWith e (some t) l env = pure false
  exact sw_false h
section
variable {Γ : Gx} {X : Cx} {W : WX} {k : Nat} {e : Expr} {pos : Pos}
theorem ss_never {st : Stmt} {m : Env → M Fl} (hm : ∀ ρ, m ρ = stuck) : SS Γ X W st m := ⟨fun _ _ _ _ _ _ ⟨_, _, ρ, _, _, p⟩ => by
  rw [hm] at p
  exact p.elim⟩
theorem ss_expr {m : Env → M D} (he : SE Γ X W e m) (hc : notComp e = true) : SS Γ X W (.Expr e pos) (fun ρ => eb (m ρ) ρ fun _ => pure (.nx ρ)) := by
  refine PS_imp (ps_expr he (sw_false hc)) fun D σ H ⟨as, st, ρ, mt, er, p⟩ => eb_bnd (rl := Rep Γ) mt er p fun x as1 st1 H1 v k1 m1 e1 rx p1 => p1.nx' m1 e1
theorem ss_set {m : Env → M D} {i : Nat} {x : Str} {pos' : Pos} (c : XS Γ X W k) (hi : X.N[i]? = some x) (hx : L2.Loc X.env.scope x) (he : SE Γ X W e m) (hs : swapsWith e (some (.Name x pos')) pos.line X.env = pure false) : SS Γ X W (.Assign [.Name x pos'] e pos) (fun ρ => eb (m ρ) ρ fun v => do return .nx (← ofO (assign (.n i) v ρ))) := by
  refine PS_imp (ps_set (i := i) c.nd hi hx he hs (.inl (c.fnT x))) fun D σ H ⟨as, st, ρ, mt, er, p⟩ => eb_bnd (rl := Rep Γ) mt er p fun x as1 st1 H1 v k1 m1 e1 rx p1 => ?_
  unfold assign at p1
  split at p1
  · exact PoS.nx' p1 m1 (e1.set i rx)
  · exact p1.elim
theorem ss_asg {m : Env → M D} {tg : Expr} {t : Tg} (he : SE Γ X W e m) (hg : SG Γ X tg t) (hs : swapsWithSole [tg] e pos.line X.env = pure false) (hw : swappedStores [tg] e X.env = pure none) (h1 : noStar tg = true) : SS Γ X W (.Assign [tg] e pos) (fun ρ => eb (m ρ) ρ fun v => do return .nx (← ofO (assign t v ρ))) := by
  refine PS_imp (ps_asg he hg hs hw (by cases tg <;> first | rfl | cases h1)) fun D σ H ⟨as, st, ρ, mt, er, p⟩ => eb_bnd (rl := Rep Γ) mt er p fun x as1 st1 H1 v k1 m1 e1 rx p1 => ?_
  cases e2 : assign t x ρ with
  | none => rw [e2] at p1; exact p1.elim
  | some ρ' =>
    rw [e2] at p1
    exact ⟨as1, st1, ρ, x, m1, e1, rx, ρ', e2, fun σ' er' _ => PoS.nx' p1 m1 er'⟩
theorem ss_ret {m : Env → M D} (he : SE Γ X W e m) : SS Γ X W (.Return (some e) pos) (fun ρ => eb (m ρ) ρ fun v => pure (.rt v)) := by
  refine PS_imp (ps_ret he) fun D σ H ⟨as, st, ρ, mt, er, p⟩ => eb_bnd (rl := Rep Γ) mt er p fun x as1 st1 H1 v k1 m1 e1 rx p1 => ?_
  exact p1 as1 v H1 (.refl _ _) m1 rx
theorem ss_retN : SS Γ X W (.Return none pos) (fun _ => pure (.rt .non)) :=
  PS_imp ps_retN fun D σ H ⟨as, st, ρ, mt, er, p⟩ => p as .non H (.refl _ _) mt .ofNon
theorem ss_pass : SS Γ X W (.Pass pos) (fun ρ => pure (.nx ρ)) := PS_imp ps_pass fun D σ H ⟨as, st, ρ, mt, er, p⟩ => p.nx' mt er
theorem ss_doc {x j pos'} : SS Γ X W (.Expr (.Constant (.str x) j pos) pos') (fun ρ => pure (.nx ρ)) := PS_imp ps_doc fun D σ H ⟨as, st, ρ, mt, er, p⟩ => p.nx' mt er
theorem ss_break : SS Γ X W (.Break pos) (fun ρ => pure (.bk ρ)) := PS_imp ps_break fun D σ H ⟨as, st, ρ, mt, er, p⟩ => p as σ H (.refl _ _) mt er
theorem ss_cont : SS Γ X W (.Continue pos) (fun ρ => pure (.ct ρ)) := PS_imp ps_continue fun D σ H ⟨as, st, ρ, mt, er, p⟩ => p as σ H (.refl _ _) mt er
theorem ss_if {c : Expr} {a b : List Stmt} {mc : Env → M Bool} {ma mb : Env → M Fl} (hc : ST Γ X W c mc) (ha : SSs Γ X W a ma) (hb : SSs Γ X W b mb) : SS Γ X W (.If c a b pos) (fun ρ => eb (mc ρ) ρ fun t => match t with
    | true => ma ρ
    | false => mb ρ) := by
  refine PS_imp (ps_if hc ha hb) fun D σ H ⟨as, st, ρ, mt, er, p⟩ => eb_bnd (rl := RB) mt er p fun x as1 st1 H1 v k1 m1 e1 rx p1 => ?_
  subst rx
  cases x with
  | true => exact rdS_fin m1 e1 p1
  | false => exact rdS_fin m1 e1 p1
theorem sss_nil : SSs Γ X W [] (fun ρ => pure (.nx ρ)) := PSs_imp pss_nil fun D σ H ⟨as, st, ρ, mt, er, p⟩ => p.nx' mt er
theorem sss_cons {st : Stmt} {rest : List Stmt} {m ms : Env → M Fl} (h1 : SS Γ X W st m) (h2 : SSs Γ X W rest ms) : SSs Γ X W (st :: rest) (fun ρ => do
    match ← m ρ with
    | .nx ρ => ms ρ
    | f => pure f) := by
  refine PSs_imp (pss_cons h1 h2) fun D σ H ⟨as, st, ρ, mt, er, p⟩ => ⟨as, st, ρ, mt, er, PoS.bind p ?_ ?_ ?_ ?_ ?_⟩
  · exact fun ρ1 st1 as1 H1 σ1 k1 m1 e1 p1 => rdS_fin m1 e1 p1
  · exact fun d st1 as1 H1 v k1 m1 r1 p1 => p1 as1 v H1 (.refl _ _) m1 r1
  · exact fun ρ1 st1 as1 H1 σ1 k1 m1 e1 p1 => p1 as1 σ1 H1 (.refl _ _) m1 e1
  · exact fun ρ1 st1 as1 H1 σ1 k1 m1 e1 p1 => p1 as1 σ1 H1 (.refl _ _) m1 e1
  · exact fun ρ1 c x st1 as1 H1 σ1 dx w k1 m1 e1 g1 g2 g3 p1 => p1 as1 σ1 H1 dx w (.refl _ _) m1 e1 g1 g2 g3
end
end G
set_option Elab.async false
set_option linter.all false
set_option maxRecDepth 100000
set_option maxHeartbeats 4000000
/-! G14: for, while, raise, stores into lists, comprehensions. -/
namespace G
open PySem PySem.Spec PyProof.Rows L2 SlX

section
variable {Γ : Gx} {X : Cx} {W : WX} {k : Nat} {e : Expr} {pos : Pos}
theorem PoS.still {D : Ends} {as : List Loc} {H : Hp} {st : Store} {g : Gd} {f : Unit → M Fl} (h : PoS Γ D W as H ((still g >>= f) st)) : (∀ p ∈ g, st[p.1]? = some (.lst p.2)) ∧ PoS Γ D W as H (f () st) := by
  rw [bind_run] at h
  unfold G.still at h
  by_cases e : ∀ p ∈ g, st[p.1]? = some (.lst p.2)
  · rw [if_pos e] at h
    exact ⟨e, h⟩
  · rw [if_neg e] at h
    exact h.elim
theorem Po.still {α β : Type} {rl : Rl α β} {as : List Loc} {H : Hp} {st : Store} {g : Gd} {f : Unit → M α} {Q : β → Hp → Prop} {E : XK} (h : Po Γ rl as H ((still g >>= f) st) Q E) : (∀ p ∈ g, st[p.1]? = some (.lst p.2)) ∧ Po Γ rl as H (f () st) Q E := by
  rw [bind_run] at h
  unfold G.still at h
  by_cases e : ∀ p ∈ g, st[p.1]? = some (.lst p.2)
  · rw [if_pos e] at h
    exact ⟨e, h⟩
  · rw [if_neg e] at h
    exact h.elim
theorem ss_for {tg iter : Expr} {body : List Stmt} {t : Tg} {mi : Env → M (List D × Gd)} {mb : Env → M Fl} (c : XS Γ X W k) (hi : SI Γ X W tg iter mi) (hg : SG Γ X tg t) (hb : SSs Γ X W body mb) (hs : ∀ x, foldedSetIterable iter X.env x = pure x) :
    SS Γ X W (.For tg iter body [] pos) (fun ρ => eb (mi ρ) ρ fun w => forL w.2 t mb w.1 ρ) := by
  refine PS_imp (ps_for c.po c.calm hi hg hb hs) fun D σ H ⟨as, st, ρ, mt, er, p⟩ => eb_bnd (rl := RI Γ) mt er p fun w as1 st1 H1 J k1 m1 e1 sv p1 => ?_
  obtain ⟨all, g⟩ := w
  replace p1 : PoS Γ D W as1 H1 (forL g t mb all ρ st1) := p1
  refine ⟨fun i m σ H => m = all.length - i ∧ i ≤ all.length ∧ ∃ as2 st2 ρ2, Kp as1 H1 as2 H ∧ Mt Γ as2 st2 H ∧ EnvR Γ as2 H ρ2 σ ∧ PoS Γ D W as2 H (forL g t mb (all.drop i) ρ2 st2), ⟨all.length, by simp, Nat.zero_le _, as1, st1, ρ, .refl _ _, m1, e1, by simpa using p1⟩, ?_⟩
  rintro i m σ2 H2 ⟨rfl, hi, as2, st2, ρ2, k2, m2, e2, p2⟩
  by_cases hlt : i < all.length
  · have hd : all.drop i = all[i] :: all.drop (i + 1) := List.drop_eq_getElem_cons hlt
    rw [hd] at p2
    unfold forL at p2
    obtain ⟨hst, p2⟩ := PoS.still p2
    obtain ⟨s1, s2⟩ := sv as2 st2 H2 k2 m2 hst
    obtain ⟨go, yl⟩ := s1 i all[i] (List.getElem?_eq_getElem hlt)
    refine .inr ⟨go, fun σ' H' => ∃ as3 st3 ρ3, Kp as1 H1 as3 H' ∧ Mt Γ as3 st3 H' ∧ EnvR Γ as3 H' ρ3 σ' ∧ PoS Γ D W as3 H' (forL g t mb (all.drop (i + 1)) ρ3 st3), fun σ' H' q => ⟨all.length - (i + 1), by omega, rfl, hlt, q⟩, fun x H' y => ?_⟩
    obtain ⟨as3, k3, m3, rx⟩ := yl x H' y
    replace p2 := p2.trans k3
    have e3 := e2.mono k3
    cases ea : assign t all[i] ρ2 with
    | none => rw [ea] at p2; exact p2.elim
    | some ρ3 =>
      rw [ea] at p2
      refine ⟨as3, st2, ρ2, all[i], m3, e3, rx, ρ3, ea, fun σ' er' _ => ⟨as3, st2, ρ3, m3, er', ?_⟩⟩
      replace p2 : PoS Γ D W as3 H' ((mb ρ3 >>= fun f => match f with | .nx σ => forL g t mb (all.drop (i + 1)) σ | .ct σ => forL g t mb (all.drop (i + 1)) σ | .bk σ => pure (.nx σ) | .rt d => pure (.rt d) | .xc σ c v => pure (.xc σ c v)) st2) := p2
      have k13 := k2.trans k3
      refine PoS.bind p2 ?_ ?_ ?_ ?_ ?_
      · exact fun ρ4 st4 as4 H4 σ4 k4 m4 e4 p4 => ⟨as4, st4, ρ4, k13.trans k4, m4, e4, p4⟩
      · exact fun d st4 as4 H4 v k4 m4 r4 p4 => p4 as4 v H4 (.refl _ _) m4 r4
      · exact fun ρ4 st4 as4 H4 σ4 k4 m4 e4 p4 => p4.nx' m4 e4
      · exact fun ρ4 st4 as4 H4 σ4 k4 m4 e4 p4 => ⟨as4, st4, ρ4, k13.trans k4, m4, e4, p4⟩
      · exact fun ρ4 c x st4 as4 H4 σ4 dx w k4 m4 e4 g1 g2 g3 p4 => p4 as4 σ4 H4 dx w (.refl _ _) m4 e4 g1 g2 g3
  · have e : i = all.length := by omega
    subst e
    rw [List.drop_length] at p2
    unfold forL at p2
    obtain ⟨hst, p2⟩ := PoS.still p2
    obtain ⟨_, s2⟩ := sv as2 st2 H2 k2 m2 hst
    exact .inl ⟨s2, p2.nx' m2 e2⟩
theorem ss_while {c : Expr} {body : List Stmt} {mc : Env → M Bool} {mb : Env → M Fl} {w : Nat} (g : XS Γ X W k) (hc : ST Γ X W c mc) (hb : SSs Γ X W body mb) : SS Γ X W (.While c body [] pos) (fun ρ => whileL mc mb w ρ) := by
  refine PS_imp (ps_while g.po hc hb) fun D σ H ⟨as, st, ρ, mt, er, p⟩ => ?_
  refine ⟨fun m σ H => ∃ as st ρ, Mt Γ as st H ∧ EnvR Γ as H ρ σ ∧ PoS Γ D W as H (whileL mc mb m ρ st), ⟨w, as, st, ρ, mt, er, p⟩, ?_⟩
  rintro m σ1 H1 ⟨as1, st1, ρ1, m1, e1, p1⟩
  cases m with
  | zero => exact p1.elim
  | succ m =>
    unfold whileL at p1
    refine ⟨as1, st1, ρ1, m1, e1, ?_⟩
    cases em : mc ρ1 st1 with
    | stuck => rw [em] at p1; exact p1.elim
    | exc c v st2 =>
      rw [em] at p1
      exact fun as' H' dx w k1 mm g1 g2 g3 => p1 as' σ1 H' dx w k1 mm (e1.mono k1) g1 g2 g3
    | ok b st2 =>
      rw [em] at p1
      intro as2 v H2 k2 m2 rb
      subst rb
      cases b with
      | false => exact p1 as2 σ1 H2 k2 m2 (e1.mono k2)
      | true =>
        refine ⟨fun σ' H' => ∃ as st ρ, Mt Γ as st H' ∧ EnvR Γ as H' ρ σ' ∧ PoS Γ D W as H' (whileL mc mb m ρ st), fun σ' H' q => ⟨m, Nat.lt_succ_self _, q⟩, as2, st2, ρ1, m2, e1.mono k2, ?_⟩
        replace p1 := PoS.trans k2 p1
        replace p1 : PoS Γ D W as2 H2 ((mb ρ1 >>= fun f => match f with | .nx σ => whileL mc mb m σ | .ct σ => whileL mc mb m σ | .bk σ => pure (.nx σ) | .rt d => pure (.rt d) | .xc σ c v => pure (.xc σ c v)) st2) := by
          rw [bind_run]
          simp only at p1
          cases eb : mb ρ1 st2 with
          | ok f st3 =>
            rw [eb] at p1
            cases f <;> exact p1
          | exc c v st3 => rw [eb] at p1; exact p1
          | stuck => rw [eb] at p1; exact p1
        refine PoS.bind p1 ?_ ?_ ?_ ?_ ?_
        · exact fun ρ4 st4 as4 H4 σ4 k4 m4 e4 p4 => ⟨as4, st4, ρ4, m4, e4, p4⟩
        · exact fun d st4 as4 H4 v k4 m4 r4 p4 => p4 as4 v H4 (.refl _ _) m4 r4
        · exact fun ρ4 st4 as4 H4 σ4 k4 m4 e4 p4 => p4.nx' m4 e4
        · exact fun ρ4 st4 as4 H4 σ4 k4 m4 e4 p4 => ⟨as4, st4, ρ4, m4, e4, p4⟩
        · exact fun ρ4 c x st4 as4 H4 σ4 dx w k4 m4 e4 g1 g2 g3 p4 => p4 as4 σ4 H4 dx w (.refl _ _) m4 e4 g1 g2 g3
/-- raise C(e) -/
theorem ss_raise {c : Nat} {fI DC : Addr} {x : Str} {m : Env → M D} {p p2 : Pos} (g : XG Γ X W k) (F : ExI X.prog X.K fI DC) (T : ExC X.K fI DC (Γ.ca c)) (hk : 1 ≤ k) (hg : Gl X x) (hm : X.mg x = some (.ref (Γ.ca c))) (he : SE Γ X W e m) (hs : noStar e = true) (hdb : (x == ("__debug__" : Str)) = false) :
    SS Γ X W (.Raise (some (.Call (.Name x p) [e] [] p2)) none pos) (fun ρ => eb (m ρ) ρ fun v => pure (.xc ρ c v)) := by
  refine PS_imp (ps_raise g.calm g.tk (pmk_exc g F T hk hg hm he hs hdb)) fun D σ H ⟨as, st, ρ, mt, er, q⟩ => eb_bnd (rl := Rep Γ) mt er q fun y as1 st1 H1 v k1 m1 e1 ry p1 => fun dx hd => ?_
  have kd := Kp.laid (o := .xd [(xValue, v)]) m1 hd
  exact p1 as1 σ _ dx v kd (m1.laid hd fun ps z => nomatch z) (e1.mono kd) upd_same (m1.ninn hd) (ry.mono kd)
/-- o[i] = e -/
def noSlice (i : Expr) : Bool := match i with | .Slice _ _ _ _ => false | _ => true
theorem assign_sub {o i : Expr} {p : Pos} {env : PySem.Env} (h : noSlice i = true) (v : Value) : PySem.assign (.Subscript o i p) env v = (do
      let ov ← holding [v] (eval o env)
      let iv ← holding [v, ov] (eval i env)
      standAt p
      holding [v, ov, iv] (setItem ov iv v)
      release [v, ov, iv] []) := by cases i <;> first | rfl | cases h
theorem ss_setIdx {o i : Expr} {mo mi mv : Env → M D} {p : Pos} (g : XG Γ X W k) (ho : SE Γ X W o mo) (hi : SE Γ X W i mi) (he : SE Γ X W e mv) (hc : notComp e = true) (hsl : noSlice i = true) :
    SS Γ X W (.Assign [.Subscript o i p] e pos) (fun ρ => eb (mv ρ) ρ fun x => eb (mo ρ) ρ fun y => eb (mi ρ) ρ fun z => do
      setIdxD y z x
      return .nx ρ) := by
  refine PS_imp (ps_asg he (pg_sub ho hi set_list (assign_sub hsl)) (sole_false hc) (by rfl) rfl) fun D σ H ⟨as, st, ρ, mt, er, q⟩ => ?_
  refine eb_bnd (rl := Rep Γ) mt er q fun x as1 st1 H1 vx k1 m1 e1 rx p1 => eb_bnd (rl := Rep Γ) m1 e1 p1 fun y as2 st2 H2 vy k2 m2 e2 ry p2 => eb_bnd (rl := Rep Γ) m2 e2 p2 fun z as3 st3 H3 vz k3 m3 e3 rz p3 => ?_
  replace rx := (rx.mono k2).mono k3
  replace ry := ry.mono k3
  cases y <;> cases z <;> try exact False.elim p3
  rename_i n j
  replace p3 : PoS Γ D W as3 H3 ((getO n >>= fun ob => (match ob with | .lst xs => (do need (decide (0 ≤ j) && decide (j < xs.length)); setO n (.lst (xs.set j.toNat x))) | _ => stuck) >>= fun _ => (pure (.nx ρ) : M Fl)) st3) := by
    rw [← LawfulMonad.bind_assoc]
    exact p3
  rw [bind_run, getO_run] at p3
  cases eo : st3[n]? with
  | none => rw [eo] at p3; exact p3.elim
  | some ob =>
    rw [eo] at p3
    obtain ⟨pl, hp, ro⟩ := m3.loc eo
    cases ob <;> try exact False.elim p3
    rename_i xs
    obtain ⟨e0, vs, e1', r1⟩ := ro.lstE
    simp only [LawfulMonad.bind_assoc] at p3
    by_cases hj : (decide (0 ≤ j) && decide (j < xs.length)) = true
    · simp only [Bool.and_eq_true, decide_eq_true_eq] at hj
      replace p3 : PoS Γ D W as3 H3 ((need (decide (0 ≤ j) && decide (j < (xs.length : Int))) >>= fun _ => (setO n (.lst (xs.set j.toNat x)) >>= fun _ => (pure (.nx ρ) : M Fl))) st3) := p3
      rw [decide_eq_true hj.1, decide_eq_true hj.2] at p3
      replace p3 : PoS Γ D W as3 H3 (.ok (.nx ρ) (st3.set n (.lst (xs.set j.toNat x)))) := p3
      refine ⟨pl.1, vs, j, j.toNat, rep_obj_eq ry hp, rz.int, e1', ?_, ?_⟩
      · unfold ixN
        rw [if_pos hj.1, if_pos (by rw [r1.len]; exact hj.2)]
      · have k4 := Kp.upd (o := .lst (vs.set j.toNat vx)) m3 hp
        exact p3 as3 σ _ k4 (m3.upd hp ⟨e0, _, upd_same, (r1.set j.toNat rx).mono k4⟩) (e3.mono k4)
    · rw [Bool.not_eq_true] at hj
      replace p3 : PoS Γ D W as3 H3 ((need (decide (0 ≤ j) && decide (j < (xs.length : Int))) >>= fun _ => (setO n (.lst (xs.set j.toNat x)) >>= fun _ => (pure (.nx ρ) : M Fl))) st3) := p3
      rw [hj] at p3
      exact p3.elim
end
end G
set_option Elab.async false
set_option linter.all false
set_option maxRecDepth 100000
set_option maxHeartbeats 4000000
/-! G15: list comprehensions. -/
namespace G
open PySem PySem.Spec PyProof.Rows L2 SlX

/-- a run that may not raise -/
def PoN (Γ : Gx) (as : List Loc) (H : Hp) (r : R Unit) (Q : Hp → Prop) : Prop := match r with
  | .ok _ st' => ∀ as' H', Kp as H as' H' → Mt Γ as' st' H' → Q H'
  | _ => False
section
variable {Γ : Gx} {as as1 : List Loc} {H H1 : Hp} {Q : Hp → Prop}
theorem PoN.trans {r : R Unit} (k : Kp as H as1 H1) (h : PoN Γ as H r Q) : PoN Γ as1 H1 r Q := by
  cases r with
  | ok d st => exact fun as' H' k' => h as' H' (k.trans k')
  | exc c x st => exact h
  | stuck => exact h
theorem PoN.bind {α β : Type} {rl : Rl α β} {m : M α} {f : α → M Unit} {st : Store} (h : PoN Γ as H ((m >>= f) st) Q) :
    Po Γ rl as H (m st) (fun v H1 => ∃ x as1 st1, Kp as H as1 H1 ∧ Mt Γ as1 st1 H1 ∧ rl as1 H1 x v ∧ PoN Γ as1 H1 (f x st1) Q) (fun _ _ _ => False) := by
  rw [bind_run] at h
  cases e : m st with
  | ok x st1 =>
    rw [e] at h
    exact fun as' v H' k mt r => ⟨x, as', st1, k, mt, r, PoN.trans k h⟩
  | exc c x st1 =>
    rw [e] at h
    exact h.elim
  | stuck =>
    rw [e] at h
    exact h
theorem PoN.still {st : Store} {g : Gd} {f : Unit → M Unit} (h : PoN Γ as H ((still g >>= f) st) Q) : (∀ p ∈ g, st[p.1]? = some (.lst p.2)) ∧ PoN Γ as H (f () st) Q := by
  rw [bind_run] at h
  unfold G.still at h
  by_cases e : ∀ p ∈ g, st[p.1]? = some (.lst p.2)
  · rw [if_pos e] at h
    exact ⟨e, h⟩
  · rw [if_neg e] at h
    exact h.elim
end
theorem appendD_run (n : Nat) (y : D) (s : Store) : appendD (.obj n) y s = match s[n]? with
    | some (.lst zs) => if Nat.blt zs.length line = true then .ok .non (s.set n (.lst (zs ++ [y]))) else .stuck
    | _ => .stuck := by
  unfold appendD
  simp only
  rw [bind_run, getO_run]
  cases e : s[n]? with
  | none => rfl
  | some o =>
    cases o <;> try rfl
    rename_i zs
    simp only
    rw [bind_run]
    cases h : Nat.blt zs.length line with
    | true => rfl
    | false => rfl
/-- what is read of a part that may not raise -/
abbrev W0 : WX := fun _ _ _ _ => False
theorem rd_N {Γ : Gx} {α β : Type} {rl : Rl α β} {as : List Loc} {H : Hp} {σ : L2.St} {ρ : Env} {st : Store} {ma : Env → M α} {f : α → M Unit} {Q : Hp → Prop} {T : β → Hp → Prop} (mt : Mt Γ as st H) (er : EnvR Γ as H ρ σ) (h : PoN Γ as H ((ma ρ >>= f) st) Q)
    (k : ∀ x as1 st1 H1 v, Kp as H as1 H1 → Mt Γ as1 st1 H1 → EnvR Γ as1 H1 ρ σ → rl as1 H1 x v → PoN Γ as1 H1 (f x st1) Q → T v H1) : rd Γ W0 rl ma σ H T :=
  ⟨as, st, ρ, mt, er, (PoN.bind (rl := rl) h).imp (fun v H1 ⟨x, as1, st1, k1, m1, rx, p1⟩ => k x as1 st1 H1 v k1 m1 (er.mono k1) rx p1) fun _ _ _ h => h⟩
theorem wipe_in {σ : L2.St} {i : Nat} : ∀ {vs : List Nat}, i ∈ vs → i < σ.length → (wipe σ vs)[i]? = some none
  | v :: vs, h, hl => by
    unfold wipe
    by_cases e : v = i
    · subst e
      exact List.getElem?_set_self (by rw [wipe_length]; exact hl)
    · rw [List.getElem?_set_ne e]
      rcases List.mem_cons.mp h with z | z
      · exact absurd z.symm e
      · exact wipe_in z hl
theorem wipe_same {σ σ' : L2.St} {l vs : List Nat} (h : SameS l (wipe σ vs) σ') (hl : ∀ i ∈ l, i ∈ vs) : wipe σ' vs = wipe σ vs := by
  refine List.ext_getElem? fun i => ?_
  have len : σ'.length = σ.length := by rw [h.1, wipe_length]
  by_cases hi : i ∈ vs
  · by_cases hb : i < σ.length
    · rw [wipe_in hi (by rw [len]; exact hb), wipe_in hi hb]
    · rw [List.getElem?_eq_none (by rw [wipe_length, len]; omega), List.getElem?_eq_none (by rw [wipe_length]; omega)]
  · rw [wipe_out hi, h.2 i fun z => hi (hl i z), wipe_out hi]
def ifL (o : Option Expr) : List Expr := match o with
  | none => []
  | some e => [e]
def mIf (o : Option Expr) (m : Env → M Bool) : Env → M Bool := match o with
  | none => fun _ => pure true
  | some _ => m
section
variable {Γ : Gx} {X : Cx} {W : WX} {k : Nat}
theorem sts_if {o : Option Expr} {m : Env → M Bool} (h : ∀ e, o = some e → ST Γ X W e m) : PTs X (ifL o) (rd Γ W RB (mIf o m)) := by
  cases o with
  | none => exact ⟨fun pins s σ H Q I ⟨as, st, ρ, mt, er, p⟩ => pts_nil.run pins s σ H Q I (p.pure mt rfl)⟩
  | some e => exact pts_one (h e rfl)
/-- a comprehension's reading -/
theorem lc_reads {o : Option Expr} {own : List (Str × Nat)} {t : Tg} {mi : Env → M (List D × Gd)} {mt' : Env → M Bool} {me : Env → M D} {σ : L2.St} {H : Hp} {Q : VK} (hsl : ∀ i ∈ t.slots, i ∈ own.map (·.2))
    (h : rd Γ W (Rep Γ) (fun ρ => do
      let w ← mi ρ
      compR w t (own.map (·.2)) (mIf o mt') me ρ) σ H Q) : tLc (rd Γ W (RI Γ) mi) (gT Γ t) (rd Γ W0 RB (mIf o mt')) (rd Γ W0 (Rep Γ) me) (own.map (·.2)) σ H Q := by
  obtain ⟨as, st, ρ, mt, er, p⟩ := h
  refine rd_bnd (rl' := RI Γ) mt er p fun w as1 st1 H1 J k1 m1 e1 sv p1 => fun DD hD => ?_
  obtain ⟨all, g⟩ := w
  have kn := Kp.new (o := .lst []) m1 hD
  have mn := m1.new (ho := .lst []) (o := .lst []) hD ⟨rfl, [], upd_same, .nil⟩
  have p2 : PoN Γ (as1 ++ [(DD, DD)]) (upd H1 DD (.lst [])) (compL g t (own.map (·.2)) (mIf o mt') me ρ st1.length all (st1 ++ [.lst []])) (Q (.ref DD)) := by
    replace p1 : Po Γ (Rep Γ) as1 H1 (compR (all, g) t (own.map (·.2)) (mIf o mt') me ρ st1) Q (WE W σ) := p1
    unfold compR at p1
    simp only at p1
    cases e : compL g t (own.map (·.2)) (mIf o mt') me ρ st1.length all (st1 ++ [.lst []]) with
    | ok u s' =>
      rw [e] at p1
      intro as' H' k' m'
      refine p1 as' (.ref DD) H' (kn.trans k') m' ?_
      unfold Rep
      exact ⟨(DD, DD), k'.get (by rw [← m1.len, List.getElem?_append_right (Nat.le_refl _)]; simp), rfl⟩
    | exc _ _ _ => rw [e] at p1; exact p1.elim
    | stuck => rw [e] at p1; exact p1.elim
  have hnum : (as1 ++ [(DD, DD)])[st1.length]? = some (DD, DD) := by rw [← m1.len, List.getElem?_append_right (Nat.le_refl _)]; simp
  have sv1 := Sv.mono sv kn
  refine ⟨fun i m H => m = all.length - i ∧ i ≤ all.length ∧ ∃ as2 st2, Kp (as1 ++ [(DD, DD)]) (upd H1 DD (.lst [])) as2 H ∧ Mt Γ as2 st2 H ∧ PoN Γ as2 H (compL g t (own.map (·.2)) (mIf o mt') me ρ st1.length (all.drop i) st2) (Q (.ref DD)), ⟨all.length, by simp, Nat.zero_le _, _, _, .refl _ _, mn, by simpa using p2⟩, ?_⟩
  rintro i m H2 ⟨rfl, hi, as2, st2, k2, m2, p2⟩
  by_cases hlt : i < all.length
  · have hd : all.drop i = all[i] :: all.drop (i + 1) := List.drop_eq_getElem_cons hlt
    rw [hd] at p2
    unfold compL at p2
    obtain ⟨hst, p2⟩ := PoN.still p2
    obtain ⟨s1, s2⟩ := sv1 as2 st2 H2 k2 m2 hst
    obtain ⟨go, yl⟩ := s1 i all[i] (List.getElem?_eq_getElem hlt)
    refine .inr ⟨go, fun H' => ∃ as3 st3, Kp (as1 ++ [(DD, DD)]) (upd H1 DD (.lst [])) as3 H' ∧ Mt Γ as3 st3 H' ∧ PoN Γ as3 H' (compL g t (own.map (·.2)) (mIf o mt') me ρ st1.length (all.drop (i + 1)) st3) (Q (.ref DD)), fun H' q => ⟨all.length - (i + 1), by omega, rfl, hlt, q⟩, fun x H' y => ?_⟩
    obtain ⟨as3, k3, m3, rx⟩ := yl x H' y
    replace p2 := p2.trans k3
    have k13 := k2.trans k3
    have e3 : EnvR Γ as3 H' (wipeE ρ (own.map (·.2))) (wipe σ (own.map (·.2))) := ((e1.mono kn).mono k13).wipe _
    cases ea : assign t all[i] (wipeE ρ (own.map (·.2))) with
    | none => rw [ea] at p2; exact p2.elim
    | some ρ3 =>
      rw [ea] at p2
      refine ⟨as3, st2, _, all[i], m3, e3, rx, ρ3, ea, fun σ' er' sm => ⟨wipe_same sm hsl, ?_⟩⟩
      replace p2 : PoN Γ as3 H' ((mIf o mt' ρ3 >>= fun b => match b with | true => (do let y ← me ρ3; let _ ← appendD (.obj st1.length) y; compL g t (own.map (·.2)) (mIf o mt') me ρ st1.length (all.drop (i + 1))) | false => compL g t (own.map (·.2)) (mIf o mt') me ρ st1.length (all.drop (i + 1))) st2) (Q (.ref DD)) := p2
      refine rd_N (rl := RB) m3 er' p2 fun b as4 st4 H4 b' k4 m4 e4 rb p4 => ?_
      subst rb
      cases b with
      | false => exact ⟨as4, st4, k13.trans k4, m4, p4⟩
      | true =>
        rw [if_pos rfl]
        refine rd_N (rl := Rep Γ) m4 e4 p4 fun y as5 st5 H5 v k5 m5 e5 ry p5 => ?_
        have kA := (k13.trans k4).trans k5
        have hn5 := kA.get hnum
        rw [bind_run, appendD_run] at p5
        cases eo : st5[st1.length]? with
        | none => rw [eo] at p5; exact p5.elim
        | some ob =>
          rw [eo] at p5
          obtain ⟨pl, hp, ro⟩ := m5.loc eo
          rw [hn5] at hp
          cases hp
          cases ob <;> try exact False.elim p5
          rename_i zs
          obtain ⟨e0, ws, ew, r1⟩ := ro.lstE
          simp only at p5
          by_cases hz : Nat.blt zs.length line = true
          · rw [if_pos hz] at p5
            have kU := Kp.upd (o := .lst (ws ++ [v])) m5 hn5
            refine ⟨ws, ew, by rw [r1.len, line_eq]; exact Nat.blt_eq.mp hz, as5, st5.set st1.length (.lst (zs ++ [y])), kA.trans kU, m5.upd hn5 ⟨rfl, _, upd_same, (r1.app (.cons ry .nil)).mono kU⟩, ?_⟩
            exact PoN.trans kU p5
          · rw [if_neg hz] at p5
            exact p5.elim
  · have e : i = all.length := by omega
    subst e
    rw [List.drop_length] at p2
    unfold compL at p2
    have p3 : PoN Γ as2 H2 ((still g >>= fun _ => (pure () : M Unit)) st2) (Q (.ref DD)) := by
      rw [bind_run]
      cases ez : still g st2 with
      | ok u s' => rw [ez] at p2; exact p2
      | exc _ _ _ => rw [ez] at p2; exact p2
      | stuck => rw [ez] at p2; exact p2
    obtain ⟨hst, p3⟩ := PoN.still p3
    obtain ⟨_, s2⟩ := sv1 as2 st2 H2 k2 m2 hst
    exact .inl ⟨s2, p3 as2 H2 (.refl _ _) m2⟩
theorem se_comp {elt tg iter : Expr} {o : Option Expr} {scope : Scope} {own : List (Str × Nat)} {pos : Pos} {t : Tg} {mi : Env → M (List D × Gd)} {mt' : Env → M Bool} {me : Env → M D} (c : XG Γ X W k) (hi : SI Γ X W tg iter mi) (ok : BlkOk X.N X.env.scope scope own)
    (hg : ∀ (s : Shared) (H : Hp) (C : Addr) (cl : List (Str × Addr)) (fp : List Addr), SG Γ (X.blk s H scope (compEnvC scope cl C X.env) fp) tg t)
    (ht : ∀ (s : Shared) (H : Hp) (C : Addr) (cl : List (Str × Addr)) (fp : List Addr), ∀ e, o = some e → ST Γ (X.blk s H scope (compEnvC scope cl C X.env) fp) W0 e mt')
    (he : ∀ (s : Shared) (H : Hp) (C : Addr) (cl : List (Str × Addr)) (fp : List Addr), SE Γ (X.blk s H scope (compEnvC scope cl C X.env) fp) W0 elt me) (hs : ∀ x, foldedSetIterable iter X.env x = pure x) (hsl : ∀ i ∈ t.slots, i ∈ own.map (·.2)) :
    SE Γ X W (.ListComp elt [⟨tg, iter, ifL o, 0⟩] scope pos) (fun ρ => do
      let w ← mi ρ
      compR w t (own.map (·.2)) (mIf o mt') me ρ) :=
  PE_imp (pe_lc c.calm c.nd hi ok hg (fun s H C cl fp => sts_if (ht s H C cl fp)) he hs) fun σ H Q h => lc_reads hsl h
/-- y = [..] -/
theorem ss_setComp {y : Str} {py : Pos} {i : Nat} {elt tg iter : Expr} {o : Option Expr} {scope : Scope} {own : List (Str × Nat)} {pos spos : Pos} {t : Tg} {mi : Env → M (List D × Gd)} {mt' : Env → M Bool} {me : Env → M D} (c : XG Γ X W k) (hy : X.N[i]? = some y) (hyl : X.env.scope.names.lookup y = some .local) (hsw : swapsWith (.ListComp elt [⟨tg, iter, ifL o, 0⟩] scope pos) (some (.Name y py)) spos.line X.env = pure true) (hi : SI Γ X W tg iter mi) (ok : BlkOk X.N X.env.scope scope own)
    (hg : ∀ (s : Shared) (H : Hp) (C : Addr) (cl : List (Str × Addr)) (fp : List Addr), SG Γ (X.blk s H scope (compEnvC scope cl C X.env) fp) tg t)
    (ht : ∀ (s : Shared) (H : Hp) (C : Addr) (cl : List (Str × Addr)) (fp : List Addr), ∀ e, o = some e → ST Γ (X.blk s H scope (compEnvC scope cl C X.env) fp) W0 e mt')
    (he : ∀ (s : Shared) (H : Hp) (C : Addr) (cl : List (Str × Addr)) (fp : List Addr), SE Γ (X.blk s H scope (compEnvC scope cl C X.env) fp) W0 elt me) (hs : ∀ x, foldedSetIterable iter X.env x = pure x) (hsl : ∀ i ∈ t.slots, i ∈ own.map (·.2)) :
    SS Γ X W (.Assign [.Name y py] (.ListComp elt [⟨tg, iter, ifL o, 0⟩] scope pos) spos) (fun ρ => eb (do
      let w ← mi ρ
      compR w t (own.map (·.2)) (mIf o mt') me ρ) ρ fun v => do return .nx (← ofO (assign (.n i) v ρ))) := by
  refine PS_imp (ps_setLc (i := i) c.calm c.nd hy hyl hsw hi ok hg (fun s H C cl fp => sts_if (ht s H C cl fp)) he hs) fun D σ H ⟨as, st, ρ, mt, er, q⟩ => ?_
  refine lc_reads hsl (Q := fun x H1 => gName i x σ H1 D.nx) (eb_bnd (rl := Rep Γ) mt er q fun x as1 st1 H1 v k1 m1 e1 rx p1 => ?_)
  show D.nx (σ.set i (some v)) H1
  cases e : assign (.n i) x ρ with
  | none => rw [e] at p1; exact p1.elim
  | some ρ' =>
    rw [e] at p1
    unfold assign at e
    split at e
    · cases e
      exact PoS.nx' p1 m1 (e1.set i rx)
    · cases e
end
end G
set_option Elab.async false
set_option linter.all false
set_option maxRecDepth 100000
set_option maxHeartbeats 4000000
/-! G16: isinstance; the attribute of an exception. -/
namespace PySem.W
open PySem PySem.Spec PySem.Calls PyProof.Rows
section
variable {prog : Program} {w : World} {A : Around} {E : Value → Shared → Prop} {s : Shared} {K : Frag} {x D : Addr} {ox : Obj} {od : Obj}
theorem gx_classE {Q : Option Value → Shared → Prop} (ic : isClsIn K D = true) (hga : findIn K (.ref D) "__getattribute__" = some (some (.builtin "BaseException.__getattribute__"))) (hgt : findIn K (.ref D) "__getattr__" = some none) (hsub : subIn K (.ref D) (.type "BaseException") = some true)
    (ha : findIn K (.ref D) "__class__" = some (some (.builtin "object.__class__")))
    (hn : specialIn K (.builtin "object.__class__") "__get__" = some (some (.builtin "getset_descriptor.__get__"))) (htk : takesIn K (.builtin "object.__class__") = some true) (hm : mroIn K D (.type "object") = some true)
    (X : K.In s.heap) (I : InstAt s.heap x ox D (some od)) (h : Q (some (.ref D)) { s with toks := s.toks + 1 }) : wpAny (model prog w) A (getAttr? (.ref x) "__class__") Q E s := by
  have hf : findObj K D (some od) "__class__" = some (.bind (.builtin "getset_descriptor.__get__") (.builtin "object.__class__")) := findObj_data ic ha hn htk
  obtain ⟨hp, g, d, t, os⟩ := s
  have L0 := I.type (M := model prog w)
  have L1 := looks_findIn (M := model prog w) X hga
  have L2 := looks_findIn (M := model prog w) X hgt
  have L3 := looks_find (M := model prog w) X I hf
  have sub : Looks (model prog w) hp (isInstance (.ref x) (.type "BaseException")) true := L0.andThen (looks_subIn X hsub)
  have hx0 : (false && onTheHeap (Value.builtin "BaseException.__getattribute__")) = false := rfl
  have hx2 : (Value.builtin "BaseException.__getattribute__" == Value.builtin "object.__getattribute__") = false := by decide +kernel
  have hx1 : (onTheHeap (Value.ref D) && Value.builtin "BaseException.__getattribute__" == Value.builtin "object.__getattribute__") = false := by rw [hx2]; rfl
  unfold getAttr? getAttrBy? getAttrBy
  refine wpAny_bind (wpAny_mkText (wpAny_bind (wpAny_attempt (wpAny_holding (wpAny_bind (L0.at (wpAny_bind (L1.at ?_))))))))
  show wpAny _ _ (if (onTheHeap (Value.ref D) && Value.builtin "BaseException.__getattribute__" == Value.builtin "object.__getattribute__") = true then _ else _) _ _ _
  rw [hx1, if_neg Bool.false_ne_true]
  unfold getAttrByItsOwn hookBefore
  refine wpAny_bind ?_
  rw [if_pos (show onTheHeap (Value.ref D) = true from rfl)]
  refine L2.at ?_
  refine wpAny_bind (wpAny_attempt (wpAny_holding ?_))
  unfold callGetattribute
  rw [hx0, if_neg Bool.false_ne_true]
  unfold boundAndCalled
  rw [PySem.F.excAttr_ValueError.ga.bind (.ref x)]
  refine wpAny_bind (wpAny_pure ?_)
  show wpAny _ _ (call (.builtin "BaseException.__getattribute__") [.ref x, .str "__class__" t]) _ _ _
  refine wpAny_call (codeAny_call_builtin PySem.F.excAttr_ValueError.ga.plain PySem.F.entry_bexc_ga ?_)
  refine @check_slot (model prog w) _ _ ⟨hp, g, d, t + 1, os⟩ "BaseException.__getattribute__" "BaseException" "__getattribute__" (.ref x) [.str "__class__" t] [] _ (by decide +kernel) (by decide +kernel) sub (PySem.F.args_bexc_ga (.ref x) (.str "__class__" t)) ?_
  unfold Builtin.«object.__getattribute__»
  refine wpAny_bind (wpAny_of_eq (a := ((Value.ref x : Value), [Value.str "__class__" t])) (by first | rfl | (simp only [slotArgs]; rfl)) ?_)
  refine wpAny_bind (wpAny_pure (wpAny_bind (L0.at (wpAny_bind (L3.at ?_)))))
  show wpAny _ _ (holding [Value.builtin "object.__class__"] (call (.builtin "getset_descriptor.__get__") [.builtin "object.__class__", .ref x, .ref D]) >>= ret) _ _ _
  refine wpAny_bind (wpAny_holding (wpAny_call (class_get (s := ⟨hp, g, d, t + 1, os⟩) (ox := ox) (od := some od) X I hm ?_)))
  refine wpAny_pure ?_
  show wpAny _ _ (handedOut (.ref D)) _ _ _
  rw [handedOut_of (v := .ref D) rfl]
  first
    | exact wpAny_pure (wpAny_pure h)
    | exact wpAny_pure h
    | exact wpAny_pure (wpAny_bind (wpAny_pure (wpAny_pure h)))
theorem gx_kitx (ic : isClsIn K D = true) (hga : findIn K (.ref D) "__getattribute__" = some (some (.builtin "BaseException.__getattribute__"))) (hgt : findIn K (.ref D) "__getattr__" = some none) (hsub : subIn K (.ref D) (.type "BaseException") = some true) (ha : findIn K (.ref D) "__class__" = some (some (.builtin "object.__class__")))
    (hn : specialIn K (.builtin "object.__class__") "__get__" = some (some (.builtin "getset_descriptor.__get__"))) (htk : takesIn K (.builtin "object.__class__") = some true) (hm : mroIn K D (.type "object") = some true) :
    KitX K (.ref x) (.ref D) (fun h => InstAt h x ox D (some od)) where
  ty := fun _ _ _ I => I.type
  it := fun _ _ X _ => by
    obtain ⟨cdD, hcD⟩ := Option.isSome_iff_exists.mp (show (clsIn K D).isSome = true from ic)
    unfold clsIn at hcD
    split at hcD
    · rename_i c' d' cd' sl' ho
      intro A' Q' E' s' k q
      unfold isType loadHead
      exact wpAny_bind (wpAny_loadPart (k _ _ (X _ _ ho)) (wpAny_pure q))
    · cases hcD
  ne := fun h tp dd its n sl X htp => by
    obtain ⟨cdD, hcD⟩ := Option.isSome_iff_exists.mp (show (clsIn K D).isSome = true from ic)
    refine Bool.eq_false_iff.mpr fun q => ?_
    have e : D = tp := Value.ref.inj (beq_iff_eq.mp q)
    subst e
    unfold clsIn at hcD
    split at hcD
    · rename_i c' d' cd' sl' ho
      have z := (X _ _ ho).symm.trans htp
      cases z
    · cases hcD
  ca := fun X I k => gx_classE ic hga hgt hsub ha hn htk hm X I k
end
end PySem.W
namespace G
open PySem PySem.Spec PyProof.Rows L2 SlX

/-- what the class at C, of exceptions, must say -/
structure ExA (K : PySem.W.Frag) (C : Addr) : Prop where
  ic : PySem.W.isClsIn K C = true
  ga : PySem.W.findIn K (.ref C) "__getattribute__" = some (some (.builtin "BaseException.__getattribute__"))
  gt : PySem.W.findIn K (.ref C) "__getattr__" = some none
  sb : PySem.W.subIn K (.ref C) (.type "BaseException") = some true
  hd : PySem.W.hasDictIn K C = true
  ca : PySem.W.findIn K (.ref C) "__class__" = some (some (.builtin "object.__class__"))
  cn : PySem.W.specialIn K (.builtin "object.__class__") "__get__" = some (some (.builtin "getset_descriptor.__get__"))
  ct : PySem.W.takesIn K (.builtin "object.__class__") = some true
  cm : PySem.W.mroIn K C (.type "object") = some true
  nv : PySem.W.findIn K (.ref C) "value" = some none
section
variable {Γ : Gx} {X : Cx} {W : WX} {k : Nat}
/-- an exception's object and its dict in the heap -/
theorem exc_at {pins : List (Addr × Obj)} {s : Shared} {σ : L2.St} {H : Hp} {as : List Loc} {c : Nat} {d : D} {v : V} (I : Inv X pins σ H s) (r : Rep Γ as H (.exc c d) v) :
    ∃ a w oe od u, v = .ref a ∧ Rep Γ as H d w ∧ RelV w u ∧ PySem.W.InstAt s.heap a oe (Γ.ca c) (some od) ∧ PySem.W.lookIn "value" od = some (some u) := by
  unfold Rep at r
  obtain ⟨a, dx, w, rfl, _, _, h1, h2, r⟩ := r
  obtain ⟨⟨oe, vs, ho, hz, hd⟩, _, _⟩ := I.hok a _ h1
  have hx : ObjOk X.prog X.w H s.heap dx (.xd [(xValue, w)]) := I.hok dx _ h2
  obtain ⟨mA, hns, hr⟩ := hx
  obtain ⟨od, hod, hl⟩ := lookIn_ns hns
  obtain ⟨u, hu, ru⟩ := RelO.some_of (v := w) (o := mA "value") (show RelO (some w) (mA "value") from hr "value")
  exact ⟨a, w, oe, od, u, rfl, r, ru, ⟨ho, hz.1, by unfold PySem.W.notCls; rw [hd] <;> rfl, by rw [hz.2]; exact hod⟩, by rw [hl, hu]⟩
/-- e.value of an exception -/
theorem att_exc {pins : List (Addr × Obj)} {s : Shared} {σ : L2.St} {H : Hp} {as : List Loc} {st : Store} {c : Nat} {d : D} {v : V} {u : Value} {Q : VK} {b : Bool} {E : XK} (hK : X.K = Γ.K) (T : ExA Γ.K (Γ.ca c)) (I : Inv X pins σ H s) (mt : Mt Γ as st H) (r : Rep Γ as H (.exc c d) v) (ru : RelV v u)
    (p : Po Γ (Rep Γ) as H ((pure d : M D) st) Q E) : wpAny (model X.prog X.w) X.A (getAttr u "value" b) (EP X pins σ Q) X.xe s := by
  obtain ⟨a, w, oe, od, uw, rfl, rw', ruw, J, hl⟩ := exc_at I r
  cases ru
  rw [← hK] at T
  exact HandSPX.exc_get I.kIn J T.ga T.gt T.sb (PySem.W.findObj_own T.hd T.nv rfl hl) (handed_of ruw) ⟨w, H, I.tok _, ruw, p.pure mt rw'⟩

/-! ### isinstance -/
/-- what the written part says of the classes: their own facts, how isinstance answers -/
structure ClsF (K : PySem.W.Frag) (T : Tab) (ca : Nat → Addr) : Prop where
  exA : ∀ c x, T.cl c = some x → x.kind = .exc → ExA K (ca c)
  slA : ∀ c x, T.cl c = some x → x.kind = .slots → SCls K (ca c) ∧ SIsi K (ca c)
  noI : ∀ c x, T.cl c = some x → x.kind ≠ .inst
  i1 : ∀ c x t, T.cl c = some x → (tyNames.contains t || t == "ValueError") = true → PySem.W.kitOne K (.ref (ca c)) (.type t) = some (t == "ValueError" && x.kind == .exc)
  i2 : ∀ u c x, T.cl c = some x → u ∈ ["NoneType", "bool", "int", "str", "tuple", "list", "dict"] → PySem.W.kitOne K (.type u) (.ref (ca c)) = some false
  i3 : ∀ c x m y, T.cl c = some x → T.cl m = some y → PySem.W.kitOne K (.ref (ca c)) (.ref (ca m)) = some (x.mro.contains m)
theorem kitB_ty {u t : String} (hu : u ∈ ["NoneType", "bool", "int", "str", "tuple", "list", "dict"]) (ht : tyNames.contains t = true) : kitB u t = some (u == t || (u == "bool" && t == "int")) := by
  have : t ∈ tyNames := by simpa using ht
  unfold tyNames at this
  simp only [List.mem_cons, List.not_mem_nil, or_false] at hu this
  rcases hu with rfl | rfl | rfl | rfl | rfl | rfl | rfl <;> rcases this with rfl | rfl | rfl | rfl | rfl | rfl <;> decide +kernel
/-- the built-in type of a value -/
theorem ty_of {H : Hp} {as : List Loc} {st : Store} {d : D} {v : V} {u : String} (hK : X.K = Γ.K) (mt : Mt Γ as st H) (r : Rep Γ as H d v) (e : tyOf st d = some u) :
    TyX X.K H v (.type u) ∧ u ∈ ["NoneType", "bool", "int", "str", "tuple", "list", "dict"] := by
  cases d <;> simp only [tyOf] at e <;> try cases e
  · rw [r.non]; exact ⟨.base .non, by decide⟩
  · rw [r.bl]; exact ⟨.base (.bl _), by decide⟩
  · rw [r.int]; exact ⟨.base (.int _), by decide⟩
  · rw [r.str]; exact ⟨.base (.str _), by decide⟩
  · obtain ⟨a, vs, rfl, t1, _⟩ := r.tup
    refine ⟨?_, by decide⟩
    rcases t1 with ⟨_, t1⟩ | ⟨o, its, n, h1, h2, _⟩
    · exact .base (.tup t1)
    · rw [← hK] at h1
      exact .kTuple h1 h2
  · rename_i n
    cases eo : st[n]? with
    | none => rw [eo] at e; cases e
    | some o =>
      rw [eo] at e
      obtain ⟨p, hp, ro⟩ := mt.loc eo
      rw [rep_obj_eq r hp]
      cases o <;> simp only at e <;> try cases e
      · obtain ⟨_, vs, h1, _⟩ := ro.lstE
        exact ⟨.base (.lst h1), by decide⟩
      · obtain ⟨_, us, h1, _⟩ := ro
        exact ⟨.base (.dK h1), by decide⟩
/-- isinstance of an instance or an exception -/
theorem isi_own {pins : List (Addr × Obj)} {s : Shared} {σ : L2.St} {H : Hp} {as : List Loc} {st : Store} {x : D} {v w : V} {u1 u2 : Value} {c : Nat} {x0 : G.Cls} {T : Tab} {b : Bool} {Q : VK} (C : ClsF X.K T Γ.ca) (I : Inv X pins σ H s) (mt : Mt Γ as st H) (r : Rep Γ as H x v) (ru : RelV v u1) (k2 : ClsV w u2) (ru2 : RelV w u2) (e : clsX st x = some c) (ec : T.cl c = some x0) (kx : ((x0.kind == .exc) == isExc x) = true)
    (hk : PySem.W.kitOne X.K (.ref (Γ.ca c)) u2 = some b) (q : Q (.bl b) H) : wpAny (model X.prog X.w) X.A (call (.builtin "isinstance") [u1, u2]) (EP X pins σ Q) X.xe s := by
  have sl : ∀ (a dx : Addr) (vs : List (Option V)), v = .ref a → Slt H a (Γ.ca c) dx vs → x0.kind = .slots → wpAny (model X.prog X.w) X.A (call (.builtin "isinstance") [u1, u2]) (EP X pins σ Q) X.xe s := fun a dx vs ev hs hx => by
    subst ev
    obtain ⟨c1, c2⟩ := C.slA c x0 ec hx
    exact call_isiSl u2 pins s σ H [.ref a, w] [u1, u2] Q I (.cons ru (.cons ru2 .nil)) ⟨a, Γ.ca c, dx, vs, w, b, rfl, ru2, fun z hz => k2.eq hz, hs, c1, c2, hk, q⟩
  have kd : x0.kind = .slots ∨ x0.kind = .exc := by
    have := C.noI c x0 ec
    cases h : x0.kind with
    | slots => exact .inl rfl
    | exc => exact .inr rfl
    | inst => exact absurd h this
  cases x <;> simp only [clsX, clsOf] at e <;> try cases e
  · -- an object of the store
    rename_i n
    cases eo : st[n]? with
    | none => rw [eo] at e; cases e
    | some o =>
      rw [eo] at e
      obtain ⟨p, hp, ro⟩ := mt.loc eo
      cases o <;> simp only at e <;> try cases e
      · obtain ⟨_, _, vs, hs, _⟩ := ro
        rcases kd with kd | kd
        · exact sl p.1 p.2 vs (rep_obj_eq r hp) hs kd
        · rw [kd] at kx; exact absurd (show false = true from kx) Bool.false_ne_true
      · obtain ⟨_, _, _, _, z⟩ := ro
        exact z.elim
  · unfold Rep at r
    obtain ⟨a, dx, vs, ws, rfl, _, _, hs, _⟩ := r
    rcases kd with kd | kd
    · exact sl a dx vs rfl hs kd
    · rw [kd] at kx; exact absurd (show false = true from kx) Bool.false_ne_true
  · obtain ⟨a, _, oe, od, _, rfl, _, _, J, _⟩ := exc_at I r
    cases ru
    rcases kd with kd | kd
    · rw [kd] at kx; exact absurd (show false = true from kx) Bool.false_ne_true
    · have A := C.exA _ x0 ec kd
      exact PySem.W.kia_one (PySem.W.gx_kitx A.ic A.ga A.gt A.sb A.ca A.cn A.ct A.cm) I.kIn J hk (fun z => nomatch z) fun tk => ⟨.bl b, H, I.tok tk, rfl, q⟩
theorem vc_isi {ct : Ct} (g : XG Γ X W k) (C : ClsF Γ.K ct.T Γ.ca) : VC Γ X W (fun us => call (.builtin "isinstance") us) (prim ct .isi) := fun pins s σ H as st xs vs us Q I mt rx rv p => by
  have hK := g.hK
  rw [← hK] at C
  rcases xs with _ | ⟨x, _ | ⟨y, _ | ⟨z, r⟩⟩⟩ <;> try exact False.elim p
  case cons.cons.cons => cases y <;> exact False.elim p
  obtain ⟨v, w, rfl, r1, r2⟩ := rx.two
  obtain ⟨u1, u2, rfl, ru1, ru2⟩ := vals2 rv
  have main : ∀ (c : Cl) (cv : Value), ClsV w cv → RelV w cv → u2 = cv → Po Γ (Rep Γ) as H ((isiD ct x c >>= fun b => (pure (D.bl b) : M D)) st) Q (WE W σ) →
      (∀ u, tyOf st x = some u → (match c with | .ty t => tyNames.contains t = true → PySem.W.kitOne X.K (.type u) cv = some (u == t || (u == "bool" && t == "int")) | .own m => ∀ y, ct.T.cl m = some y → PySem.W.kitOne X.K (.type u) cv = some false)) →
      (∀ m x0, ct.T.cl m = some x0 → (match c with | .ty t => (tyNames.contains t || t == "ValueError") = true → PySem.W.kitOne X.K (.ref (Γ.ca m)) cv = some (t == "ValueError" && x0.kind == .exc) | .own n => ∀ y, ct.T.cl n = some y → PySem.W.kitOne X.K (.ref (Γ.ca m)) cv = some (x0.mro.contains n))) →
      wpAny (model X.prog X.w) X.A (call (.builtin "isinstance") [u1, u2]) (EP X pins σ Q) X.xe s := by
    intro c cv kc rc eu p f1 f2
    subst eu
    rw [bind_run] at p
    unfold isiD at p
    cases e : tyOf st x with
    | some u =>
      rw [e] at p
      obtain ⟨t1, t2⟩ := ty_of hK mt r1 e
      have g1 := f1 u e
      cases c with
      | ty t =>
        simp only at p
        by_cases ht : tyNames.contains t = true
        · rw [if_pos ht] at p
          exact call_isi pins s σ H [v, w] [u1, u2] Q I (.cons ru1 (.cons ru2 .nil)) ⟨v, w, .type u, u2, _, rfl, kc, t1, g1 ht, Po.ok p mt .ofBl⟩
        · rw [if_neg ht] at p
          exact p.elim
      | own m =>
        simp only at p
        cases ey : ct.T.cl m with
        | none => rw [ey] at p; exact p.elim
        | some y =>
          rw [ey] at p
          exact call_isi pins s σ H [v, w] [u1, u2] Q I (.cons ru1 (.cons ru2 .nil)) ⟨v, w, .type u, u2, _, rfl, kc, t1, g1 y ey, Po.ok p mt .ofBl⟩
    | none =>
      rw [e] at p
      simp only at p
      cases e2 : clsX st x with
      | none => rw [e2] at p; exact p.elim
      | some m =>
        rw [e2] at p
        simp only at p
        cases e3 : ct.T.cl m with
        | none => rw [e3] at p; exact p.elim
        | some x0 =>
          rw [e3] at p
          simp only at p
          have g2 := f2 m x0 e3
          by_cases kx : ((x0.kind == .exc) == isExc x) = true
          · rw [if_pos kx] at p
            cases c with
            | ty t =>
              simp only at p
              by_cases ht : (tyNames.contains t || t == "ValueError") = true
              · rw [if_pos ht] at p
                exact isi_own C I mt r1 ru1 kc rc e2 e3 kx (g2 ht) (Po.ok p mt .ofBl)
              · rw [if_neg ht] at p
                exact p.elim
            | own n =>
              simp only at p
              cases ey : ct.T.cl n with
              | none => rw [ey] at p; exact p.elim
              | some y =>
                rw [ey] at p
                exact isi_own C I mt r1 ru1 kc rc e2 e3 kx (g2 y ey) (Po.ok p mt .ofBl)
          · rw [if_neg kx] at p
            exact p.elim
  cases y <;> try exact False.elim p
  · rename_i m
    unfold Rep at r2
    subst r2
    refine main (.own m) (.ref (Γ.ca m)) (.own _) rfl ru2 p (fun u e => ?_) (fun n x0 e => ?_)
    · exact fun y ey => C.i2 u m y ey (ty_of hK mt r1 e).2
    · exact fun y ey => C.i3 n x0 m y e ey
  · rename_i t
    unfold Rep at r2
    subst r2
    refine main (.ty t) (.type t) (.ty t) rfl ru2 p (fun u e => ?_) (fun m x0 e => ?_)
    · exact fun ht => kit_ty (kitB_ty (ty_of hK mt r1 e).2 ht)
    · exact fun ht => C.i1 m x0 t e ht
end
end G
set_option Elab.async false
set_option linter.all false
set_option maxRecDepth 100000
set_option maxHeartbeats 4000000
/-! GA1: reversed slices, f-strings, starred tuples, zip. -/
namespace PySem.HTR
open PySem PyProof.Rows HT
section
variable {prog : Program} {w : World} {A : Around} {E : Value → Shared → Prop} {s : Shared}
theorem places_rev (n : Nat) : Builtin.Slice.slicePlaces ((n : Int) - 1) (-1) (-1) = n := by
  unfold Builtin.Slice.slicePlaces
  have h1 : ¬ ((-1 : Int) > 0) := by omega
  simp only [h1, if_false]
  rw [show (- -1 : Int) = 1 by decide, Int.ediv_one]
  split <;> omega
theorem sliceApplied_rev {sl : Addr} {vs : Value} {n : Nat} {Q : Int × Int × Nat → Shared → Prop} (hs : s.heap.IsSliceOf sl .none .none vs) (ps : IsPart vs (some (-1)))
    (h : Q ((n : Int) - 1, -1, n) s) : wpAny (model prog w) A (Builtin.Slice.sliceApplied (.ref sl) (pure (n : Int))) Q E s := by
  obtain ⟨os, hos, hcs, hds⟩ := id hs
  unfold Builtin.Slice.sliceApplied Builtin.Slice.sliceFields
  refine wpAny_bind (wpAny_bind (wpAny_field hos hds (x := .none) rfl (wpAny_bind (wpAny_field hos hds (x := .none) rfl (wpAny_bind (wpAny_field hos hds (x := vs) rfl (wpAny_pure ?_)))))))
  refine wpAny_bind (HT.slicePart_ ps ?_)
  show wpAny _ _ (if ((-1 : Int) == 0) = true then _ else _) _ _ s
  rw [if_neg (by decide)]
  refine wpAny_bind (HT.slicePart_ .none (wpAny_bind (HT.slicePart_ .none (wpAny_bind (wpAny_pure ?_)))))
  show wpAny _ _ (pure ((n : Int) - 1, (-1 : Int), Builtin.Slice.slicePlaces ((n : Int) - 1) (-1) (-1))) _ _ s
  rw [places_rev]
  exact wpAny_pure h
theorem pick_rev (xs : Array Value) : ((List.range xs.size).filterMap fun (m : Nat) => xs[(((xs.size : Int) - 1) + (m : Int) * (-1)).toNat]?).toArray = xs.toList.reverse.toArray := by
  congr 1
  have e : (List.range xs.size).filterMap (fun (m : Nat) => xs[(((xs.size : Int) - 1) + (m : Int) * (-1)).toNat]?) = ((List.range xs.size).map fun k => xs.size - 1 - k).filterMap (xs[·]?) := by
    rw [List.filterMap_map]
    have key : ∀ (l : List Nat), (∀ m ∈ l, m < xs.size) → l.filterMap (fun (m : Nat) => xs[(((xs.size : Int) - 1) + (m : Int) * (-1)).toNat]?) = l.filterMap ((xs[·]?) ∘ fun k => xs.size - 1 - k) := by
      intro l
      induction l with
      | nil => intro _; rfl
      | cons m l ih =>
        intro h
        have hm := h m (by simp)
        have e1 : xs[(((xs.size : Int) - 1) + (m : Int) * (-1)).toNat]? = ((xs[·]?) ∘ fun k => xs.size - 1 - k) m := by
          show xs[_]? = xs[xs.size - 1 - m]?
          congr 1
          omega
        rw [List.filterMap_cons, List.filterMap_cons, e1, ih fun k hk => h k (by simp [hk])]
    exact key _ fun m hm => List.mem_range.mp hm
  rw [e, PySem.W.krv_range, List.filterMap_reverse, PySem.W.krv_all]
theorem getItem_tuple_rev {t sl : Addr} {items : Array Value} {vs : Value} {Q : Value → Shared → Prop} (ht : IsTup s.heap t items) (hs : s.heap.IsSliceOf sl .none .none vs) (ps : IsPart vs (some (-1)))
    (h : Q (.ref s.heap.objs.size) { s with heap := s.heap.push { cls := .type "tuple", data := .seq items.toList.reverse.toArray } })
    (hsz : items.size ≤ sizeLine) : wpAny (model prog w) A (getItem (.ref t) (.ref sl)) Q E s := by
  have htake : sizeOk (.seq items.toList.reverse.toArray) := by
    show items.toList.reverse.toArray.size ≤ sizeLine
    rw [List.size_toArray, List.length_reverse, Array.length_toList]
    exact hsz
  obtain ⟨os, hos, hcs, hds⟩ := id hs
  have hTs : s.TypeIs (.ref sl) "slice" := ⟨os, hos, hcs⟩
  unfold getItem
  try with_reducible refine wpAny_holding ?_
  first | refine wpAny_bind (wpAny_pure ?_) | skip
  refine wpAny_bind (wpAny_sequenceKey ht.typeIs (by decide) ?_)
  refine wpAny_bind (wpAny_callSpecial?_slot (name := Str.ofString "__getitem__") ht.typeIs PyProof.Rows.slot_tuple_getitem
    (wpAny_call_entry PyProof.Rows.slot_tuple_getitem ht.typeIs entry_tuple_getitem ?_ (args_tuple_getitem _ _)))
  show wpAny _ _ (Builtin.Tuple.tupleItemsOf (.ref t) >>= _) _ _ s
  refine wpAny_bind (tupleItemsOf_ ht ?_)
  refine wpAny_bind (wpAny_typeOf hTs ?_)
  rw [if_pos (by decide)]
  refine wpAny_bind (sliceApplied_rev hs ps ?_)
  have hno : ¬ (((items.size : Int) - 1 == 0 && (-1 : Int) == 1 && items.size == items.size) = true) := by simp
  show wpAny _ _ (if ((items.size : Int) - 1 == 0 && (-1 : Int) == 1 && items.size == items.size) = true then _ else _) _ _ s
  rw [if_neg hno, pick_rev]
  first
    | exact wpAny_bind (m := Builtin.Tuple.tupleExact _) (wpAny_newObj_type (wpAny_pure ⟨_, rfl, wpAny_pure h⟩) htake)
    | exact wpAny_bind (m := Builtin.Tuple.tupleExact _) (wpAny_newObj_type (wpAny_bind (wpAny_pure (wpAny_pure ⟨_, rfl, wpAny_pure h⟩))) htake)
    | exact wpAny_bind (wpAny_bind (m := Builtin.Tuple.tupleExact _) (wpAny_newObj_type (wpAny_pure (wpAny_pure ⟨_, rfl, wpAny_pure h⟩)) htake))
    | exact wpAny_bind (wpAny_bind (m := Builtin.Tuple.tupleExact _) (wpAny_newObj_type (wpAny_pure ⟨_, rfl, wpAny_pure h⟩) htake))
end
end PySem.HTR
namespace L2
open PySem PySem.Spec PyProof.Rows
/-- xs[::-1] of a list or of a tuple -/
def tRevA (K : PySem.W.Frag) (te : TE) : TE := fun σ H Q => te σ H fun x H1 => ∃ a xs, x = .ref a ∧ ((SqL K H1 a xs ∧ ∀ p, H1 p = none → Q (.ref p) (upd H1 p (.lst xs.reverse))) ∨ (SqT K H1 a xs ∧ ∀ p, H1 p = none → Q (.ref p) (upd H1 p (.tup xs.reverse))))
theorem pe_revA {X : Cx} {e : Expr} {te : TE} {k : Nat} {p1 p2 p3 pos : Pos} (he : PE X e te) : PE X (.Subscript e (.Slice none none (some (.UnaryOp .USub (.Constant (.int 1) k p1) p2)) p3) pos) (tRevA X.K te) := by
  refine ⟨fun pins s σ H Q I h => ?_⟩
  refine Subscript_ (thn (he.run pins s σ H _ I h) fun v s1 ⟨x, H1, I1, r1, q1⟩ => ?_)
  obtain ⟨a, xs, ex, q⟩ := q1
  subst ex
  cases r1
  have hst : PO X (some (.UnaryOp .USub (.Constant (.int 1) k p1) p2)) (tPart (tUn (rU fun i => .int (-i)) (tC (.int 1)))) := po_some (pe_un un_neg pe_int)
  refine wpAny_Slice (thn (po_none.run pins s1 σ H1 (fun o H2 => o = none ∧ H2 = H1) I1 ⟨rfl, rfl⟩) fun vl s2 ⟨l, H2, I2, pl, el, e2⟩ => ?_)
  subst el e2
  refine thn (po_none.run pins s2 σ H2 (fun o H3 => o = none ∧ H3 = H2) I2 ⟨rfl, rfl⟩) fun vu s3 ⟨u, H3, I3, pu, eu, e3⟩ => ?_
  subst eu e3
  refine thn (hst.run pins s3 σ H3 (fun o H4 => o = some (-1) ∧ H4 = H3) I3 ⟨1, rfl, -1, rfl, rfl, rfl⟩) fun vs s4 ⟨o, H4, I4, ps, eo, e4⟩ => ?_
  subst eo e4
  have I5 : Inv X pins σ H4 { s4 with heap := s4.heap.push { cls := .type "slice", data := .fields #[vl, vu, vs] } } := I4.kept (t' := s4.toks) fun b ob q => Heap.get?_push_of_some _ q
  cases pl
  cases pu
  rcases q with ⟨hx, q⟩ | ⟨hx, q⟩
  · obtain ⟨its, r, ht, hz⟩ := I5.list hx
    have hlen := r.length
    show wpAny (model X.prog X.w) X.A (subscriptTail e (.Slice none none (some (.UnaryOp .USub (.Constant (.int 1) k p1) p2)) p3) (.ref a) (.ref s4.heap.objs.size)) (EP X pins σ Q) X.xe { s4 with heap := s4.heap.push { cls := .type "slice", data := .fields #[.none, .none, vs] } }
    refine tail_any (ops := [.ref a, .ref s4.heap.objs.size]) ht.isList.typeIs (PySem.slot_list_getitem.lookup) ?_ (by with_unfolding_all rfl)
    refine wpAny_getItem_list_slice ht.isList (Heap.IsSliceOf.new _ .none .none vs) .none .none ps (by decide) ?_ (by rw [List.size_toArray]; omega)
    rw [PySem.W.krv_pick]
    refine ⟨.ref _, _, I5.laid (t' := s4.toks) (o := .lst xs.reverse) (fun b ob q => Heap.get?_push_of_some _ q) (Nat.le_refl _) ?_, rfl, q _ (I5.hok.fresh (Nat.le_refl _))⟩
    exact ⟨by rw [List.length_reverse]; exact hz, _, 0, r.reverse, Heap.get?_push_size _ rfl⟩
  · obtain ⟨its, r, ht, hz⟩ := I5.tuple hx
    have hlen := r.length
    show wpAny (model X.prog X.w) X.A (subscriptTail e (.Slice none none (some (.UnaryOp .USub (.Constant (.int 1) k p1) p2)) p3) (.ref a) (.ref s4.heap.objs.size)) (EP X pins σ Q) X.xe { s4 with heap := s4.heap.push { cls := .type "slice", data := .fields #[.none, .none, vs] } }
    refine tail_any (ops := [.ref a, .ref s4.heap.objs.size]) ht.typeIs PyProof.Rows.slot_tuple_getitem.lookup ?_ (by with_unfolding_all rfl)
    refine PySem.HTR.getItem_tuple_rev ht (Heap.IsSliceOf.new _ .none .none vs) ps ?_ (by rw [List.size_toArray]; omega)
    refine ⟨.ref _, _, I5.laid (t' := s4.toks) (o := .tup xs.reverse) (fun b ob q => Heap.get?_push_of_some _ q) (Nat.le_refl _) ?_, rfl, q _ (I5.hok.fresh (Nat.le_refl _))⟩
    exact ⟨by rw [List.length_reverse]; exact hz, _, r.reverse, IsTup.new _ _⟩
end L2
namespace G
open PySem PySem.Spec PyProof.Rows L2 SlX
section
variable {Γ : Gx} {X : Cx} {W : WX} {k : Nat}
theorem se_rev {a : Expr} {ma : Env → M D} {n : Nat} {p1 p2 p3 pos : Pos} (g : XG Γ X W k) (ha : SE Γ X W a ma) : SE Γ X W (.Subscript a (.Slice none none (some (.UnaryOp .USub (.Constant (.int 1) n p1) p2)) p3) pos) (fun ρ => do
    let x ← ma ρ
    slRevD x) := by
  refine PE_imp (pe_revA ha) fun σ H Q ⟨as, st, ρ, mt, er, p⟩ => rd_bnd (rl' := Rep Γ) mt er p fun x as1 st1 H1 v k1 m1 e1 rx p1 => ?_
  cases x <;> try exact False.elim p1
  · obtain ⟨a, vs, rfl, t1, r1⟩ := rx.tup
    exact ⟨a, vs, rfl, .inr ⟨SqT_of g.hK t1, Po.newT p1 m1 r1.rev⟩⟩
  · obtain ⟨o, p1', h1, h2, h3, p1⟩ := Po.getO m1 p1
    cases o <;> try exact False.elim p1
    obtain ⟨_, vs, e1, r1⟩ := h3.lstE
    obtain ⟨hz, q⟩ := Po.newL p1 m1 r1.rev
    exact ⟨p1'.1, vs, rep_obj_eq rx h2, .inl ⟨SqL.of e1, q⟩⟩
/-! ### f-strings -/
theorem se_fmt {e : Expr} {m : Env → M D} {pos : Pos} (g : XG Γ X W k) (he : SE Γ X W e m) : SE Γ X W (.FormattedValue e (-1) none pos) (fun ρ => do
    let x ← m ρ
    fmtD x) := by
  refine PE_imp (pe_fmtG g he) fun σ H Q ⟨as, st, ρ, mt, er, p⟩ => rd_bnd (rl' := Rep Γ) mt er p fun x as1 st1 H1 v k1 m1 e1 rx p1 => ?_
  cases x <;> try exact False.elim p1
  · obtain ⟨hn, p1⟩ := Po.need p1
    exact .inr ⟨_, rx.int, of_decide_eq_true hn, p1.pure m1 .ofStr⟩
  · obtain ⟨hn, p1⟩ := Po.need p1
    exact .inl ⟨_, rx.str, ble_line hn, p1.pure m1 .ofStr⟩
theorem se_fmtR {e : Expr} {m : Env → M D} {pos : Pos} (he : SE Γ X W e m) : SE Γ X W (.FormattedValue e 114 none pos) (fun ρ => do
    let x ← m ρ
    fmtRD x) := by
  refine PE_imp (pe_fmtR he) fun σ H Q ⟨as, st, ρ, mt, er, p⟩ => rd_bnd (rl' := Rep Γ) mt er p fun x as1 st1 H1 v k1 m1 e1 rx p1 => ?_
  cases x <;> try exact False.elim p1
  · obtain ⟨hn, p1⟩ := Po.need p1
    exact .inr ⟨_, rx.int, of_decide_eq_true hn, p1.pure m1 .ofStr⟩
  · obtain ⟨hn, p1⟩ := Po.need p1
    exact .inl ⟨_, rx.str, ble_line hn, p1.pure m1 .ofStr⟩
/-- the parts, each by itself -/
def joinM : List (Env → M D) → Str → Env → M Str
  | [], acc, _ => pure acc
  | m :: ms, acc, ρ => do
    match ← m ρ with
    | .str y => do
      need (Nat.ble (acc ++ y).length line)
      joinM ms (acc ++ y) ρ
    | _ => stuck
inductive PJs (Γ : Gx) (X : Cx) (W : WX) : List Expr → List (Env → M D) → Prop where
  | nil : PJs Γ X W [] []
  | cons {e : Expr} {m : Env → M D} {es : List Expr} {ms : List (Env → M D)} (h : SE Γ X W e m) (r : PJs Γ X W es ms) : PJs Γ X W (e :: es) (m :: ms)
theorem pjs_pj {es : List Expr} {ms : List (Env → M D)} (h : PJs Γ X W es ms) : PJ X es (ms.map fun m => rd Γ W (Rep Γ) m) := by
  induction h with
  | nil => exact .nil
  | cons h _ ih => exact .cons h ih
theorem tJs_of {σ : L2.St} : ∀ (ms : List (Env → M D)) (acc : Str) (H : Hp) (Q : Str → Hp → Prop) (as : List Loc) (st : Store) (ρ : Env), Mt Γ as st H → EnvR Γ as H ρ σ →
    Po Γ (fun _ _ (a b : Str) => a = b) as H (joinM ms acc ρ st) Q (WE W σ) → tJs (ms.map fun m => rd Γ W (Rep Γ) m) acc σ H Q
  | [], acc, H, Q, as, st, ρ, mt, er, p => p.pure mt rfl
  | m :: ms, acc, H, Q, as, st, ρ, mt, er, p => by
    refine rd_bnd (rl' := Rep Γ) (rl := fun _ _ (a b : Str) => a = b) mt er p fun x as1 st1 H1 v k1 m1 e1 rx p1 => ?_
    cases x <;> try exact False.elim p1
    obtain ⟨hn, p1⟩ := Po.need p1
    exact ⟨_, rx.str, ble_line hn, tJs_of ms _ H1 Q as1 st1 ρ m1 e1 p1⟩
theorem se_joined {es : List Expr} {ms : List (Env → M D)} {pos : Pos} (h : PJs Γ X W es ms) (hne : es ≠ []) : SE Γ X W (.JoinedStr es pos) (fun ρ => do return .str (← joinM ms PySem.Str.empty ρ)) := by
  cases h with
  | nil => exact absurd rfl hne
  | @cons e m es ms h1 r =>
    cases r with
    | nil =>
      refine PE_imp (pe_joined1 h1) fun σ H Q ⟨as, st, ρ, mt, er, p⟩ => ?_
      replace p : Po Γ (Rep Γ) as H ((m ρ >>= fun x => (match x with | .str y => (do need (Nat.ble (PySem.Str.empty ++ y).length line); pure (PySem.Str.empty ++ y)) | _ => stuck) >>= fun z => (pure (.str z) : M D)) st) Q (WE W σ) := by
        have e : (do return D.str (← joinM [m] PySem.Str.empty ρ) : M D) = (m ρ >>= fun x => (match x with | .str y => (do need (Nat.ble (PySem.Str.empty ++ y).length line); pure (PySem.Str.empty ++ y)) | _ => stuck) >>= fun z => (pure (.str z) : M D)) := by
          unfold joinM
          rw [LawfulMonad.bind_assoc]
          congr 1
        rw [← e]
        exact p
      refine rd_bnd (rl' := Rep Γ) (T := Q) mt er p fun x as1 st1 H1 v k1 m1 e1 rx p1 => ?_
      cases x <;> try exact False.elim p1
      rename_i y
      rw [LawfulMonad.bind_assoc] at p1
      obtain ⟨hn, p1⟩ := Po.need p1
      rw [rx.str]
      have e0 : PySem.Str.empty ++ y = y := by
        show PySem.Str.mk _ = _
        cases y
        simp [PySem.Str.empty]
      rw [LawfulMonad.pure_bind, e0] at p1
      exact p1.pure m1 .ofStr
    | @cons e2 m2 es ms h2 r =>
      refine PE_imp (pe_joined (.cons h1 (.cons h2 (pjs_pj r)))) fun σ H Q ⟨as, st, ρ, mt, er, p⟩ => ?_
      refine tJs_of (m :: m2 :: ms) PySem.Str.empty H (fun out H1 => Q (.str out) H1) as st ρ mt er ?_
      replace p := Po.bind (rl' := fun _ _ (a b : Str) => a = b) p
      exact p.imp (fun v H1 ⟨x, as1, st1, k1, m1, rx, p1⟩ => by subst rx; exact p1.pure m1 .ofStr) fun _ _ _ h => h
/-! ### (*a, b) -/
def isStar : Expr → Bool
  | .Starred _ _ => true
  | _ => false
/-- the items of what is starred -/
def tupM (m : Env → M D) (ms : Env → M (List D)) : Env → M (List D) := fun ρ => do
  match ← m ρ with
  | .tup l => do return l ++ (← ms ρ)
  | _ => stuck
theorem sa_star {e : Expr} {es : List Expr} {m : Env → M D} {ms : Env → M (List D)} {p : Pos} (g : XG Γ X W k) (h : SE Γ X W e m) (hs : SA Γ X W es ms) : SA Γ X W (.Starred e p :: es) (tupM m ms) := by
  refine PA_imp (StX.pa_star h hs (by rfl)) fun σ H Q ⟨as, st, ρ, mt, er, p⟩ => rd_bnd (rl' := Rep Γ) mt er p fun x as1 st1 H1 v k1 m1 e1 rx p1 => ?_
  cases x <;> try exact False.elim p1
  obtain ⟨a, vs, rfl, t1, r1⟩ := rx.tup
  refine ⟨a, vs, rfl, .inl (SqT_of g.hK t1), ?_⟩
  exact rd_bnd (rl' := Reps Γ) m1 e1 p1 fun xs as2 st2 H2 ws k2 m2 e2 rxs p2 => p2.pure m2 ((r1.mono k2).app rxs)
theorem se_tups {es : List Expr} {ms : Env → M (List D)} {kk : Nat} {pos : Pos} (h : SA Γ X W es ms) : SE Γ X W (.Tuple es kk pos) (fun ρ => do
    let xs ← ms ρ
    need (Nat.ble xs.length line)
    pure (.tup xs)) := by
  refine PE_imp (pe_tup h) fun σ H Q ⟨as, st, ρ, mt, er, p⟩ => rd_bnd (rl' := Reps Γ) mt er p fun xs as1 st1 H1 vs k1 m1 e1 rx p1 => ?_
  obtain ⟨hn, p1⟩ := Po.need p1
  exact ⟨by rw [rx.len]; exact ble_line hn, Po.newT p1 m1 rx⟩
/-! ### zip -/
theorem pairsD_get : ∀ {xs ys : List D} {i : Nat} {d : D}, (pairsD xs ys)[i]? = some d → ∃ x y, xs[i]? = some x ∧ ys[i]? = some y ∧ d = .tup [x, y]
  | [], _, _, _, h => by simp [pairsD] at h
  | _ :: _, [], _, _, h => by simp [pairsD] at h
  | x :: xs, y :: ys, 0, d, h => by
    simp [pairsD] at h
    exact ⟨x, y, rfl, rfl, h.symm⟩
  | x :: xs, y :: ys, i + 1, d, h => by
    simp [pairsD] at h
    obtain ⟨a, b, h1, h2, h3⟩ := pairsD_get h
    exact ⟨a, b, by simpa using h1, by simpa using h2, h3⟩
theorem pairsD_len : ∀ (xs ys : List D), (pairsD xs ys).length = min xs.length ys.length
  | [], ys => by simp [pairsD]
  | _ :: _, [] => rfl
  | x :: xs, y :: ys => by simp [pairsD, pairsD_len xs ys]
theorem sv_zipL {as : List Loc} {H : Hp} {n m : Nat} {p q : Loc} {xs ys : List D} (hK : X.K = Γ.K) (hp : as[n]? = some p) (hq : as[m]? = some q) : Sv Γ as H (Itz X.K p.1 q.1) (pairsD xs ys) [(n, xs), (m, ys)] := fun as1 st H1 k mt hg => by
  have e1 := hg (n, xs) (by simp)
  have e2 := hg (m, ys) (by simp)
  obtain ⟨p', hp', r1⟩ := mt.loc e1
  rw [k.get hp] at hp'
  cases hp'
  obtain ⟨q', hq', r2⟩ := mt.loc e2
  rw [k.get hq] at hq'
  cases hq'
  obtain ⟨_, vs, a1, s1⟩ := r1.lstE
  obtain ⟨_, ws, a2, s2⟩ := r2.lstE
  refine ⟨fun i d hd => ?_, vs, ws, SqL.of a1, SqL.of a2, by rw [pairsD_len, s1.len, s2.len]; show xs.length ≤ _ ∨ ys.length ≤ _; omega⟩
  obtain ⟨x, y, h1, h2, rfl⟩ := pairsD_get hd
  obtain ⟨v, hv, rv⟩ := s1.get h1
  obtain ⟨u, hu, ru⟩ := s2.get h2
  refine ⟨⟨vs, ws, v, u, SqL.of a1, SqL.of a2, hv, hu⟩, fun z H' yy => ?_⟩
  obtain ⟨T, x', y', rfl, hT, rfl, g1, g2⟩ := yy
  have z1 := g1 vs (SqL.of a1)
  have z2 := g2 ws (SqL.of a2)
  rw [hv] at z1
  rw [hu] at z2
  cases z1
  cases z2
  have kt := Kp.laid (o := .tup [v, u]) mt hT
  refine ⟨as1, kt, mt.laid hT (fun ps z => nomatch z), ?_⟩
  unfold Rep
  exact ⟨T, [v, u], rfl, .inl ⟨mt.ninn hT, upd_same⟩, .cons (rv.mono kt) (.cons (ru.mono kt) .nil)⟩
theorem sv_zipT {as : List Loc} {H : Hp} {a b : Addr} {vs ws : List V} {xs ys : List D} (hK : X.K = Γ.K) (t1 : TupAt Γ as H a vs) (t2 : TupAt Γ as H b ws) (s1 : Reps Γ as H xs vs) (s2 : Reps Γ as H ys ws) : Sv Γ as H (RZ.ItzT X.K a b) (pairsD xs ys) [] := fun as1 st H1 k mt hg => by
  replace t1 := SqT_of hK (TupAt.mono k t1)
  replace t2 := SqT_of hK (TupAt.mono k t2)
  replace s1 := s1.mono k
  replace s2 := s2.mono k
  refine ⟨fun i d hd => ?_, vs, ws, t1, t2, by rw [pairsD_len, s1.len, s2.len]; show xs.length ≤ _ ∨ ys.length ≤ _; omega⟩
  obtain ⟨x, y, h1, h2, rfl⟩ := pairsD_get hd
  obtain ⟨v, hv, rv⟩ := s1.get h1
  obtain ⟨u, hu, ru⟩ := s2.get h2
  refine ⟨⟨vs, ws, v, u, t1, t2, hv, hu⟩, fun z H' yy => ?_⟩
  obtain ⟨T, x', y', rfl, hT, rfl, g1, g2⟩ := yy
  have z1 := g1 vs t1
  have z2 := g2 ws t2
  rw [hv] at z1
  rw [hu] at z2
  cases z1
  cases z2
  have kt := Kp.laid (o := .tup [v, u]) mt hT
  refine ⟨as1, kt, mt.laid hT (fun ps z => nomatch z), ?_⟩
  unfold Rep
  exact ⟨T, [v, u], rfl, .inl ⟨mt.ninn hT, upd_same⟩, .cons (rv.mono kt) (.cons (ru.mono kt) .nil)⟩
theorem si_zip {a b : Expr} {ma mb : Env → M D} {p pos tpos : Pos} {elts : List Expr} {kk : Nat} (g : XG Γ X W k) (hg : Gl X "zip") (hm : X.mg "zip" = none) (ha : SE Γ X W a ma) (hb : SE Γ X W b mb) (hs : noStar a = true) (hs2 : noStar b = true) : SI Γ X W (.Tuple elts kk tpos) (.Call (.Name "zip" p) [a, b] [] pos) (fun ρ => do
    let x ← ma ρ
    let y ← mb ρ
    zipD x y) := by
  refine PI_imp (RZ.pi_zipA hg hm (pa_cons ha (pa_cons hb pa_nil (star_cons hs2)) (star_cons hs)) (star_cons hs) (star_any (by simp [hs2]))) fun σ H R ⟨as, st, ρ, mt, er, p⟩ => rd_bnd (rl' := Rep Γ) mt er p fun x as1 st1 H1 v k1 m1 e1 rx p1 => rd_bnd (rl' := Rep Γ) m1 e1 p1 fun y as2 st2 H2 u k2 m2 e2 ry p2 => ?_
  replace rx := rx.mono k2
  cases x <;> cases y <;> try exact False.elim p2
  · obtain ⟨a, vs, rfl, t1, s1⟩ := rx.tup
    obtain ⟨b, ws, rfl, t2, s2⟩ := ry.tup
    exact ⟨a, b, vs, ws, rfl, .inr ⟨SqT_of g.hK t1, SqT_of g.hK t2, p2.pure m2 (sv_zipT g.hK t1 t2 s1 s2)⟩⟩
  · obtain ⟨o1, q1, a1, a2, a3, p2⟩ := Po.getO m2 p2
    obtain ⟨o2, q2, b1, b2, b3, p2⟩ := Po.getO m2 p2
    cases o1 <;> cases o2 <;> try exact False.elim p2
    obtain ⟨_, vs, c1, s1⟩ := a3.lstE
    obtain ⟨_, ws, c2, s2⟩ := b3.lstE
    rw [rep_obj_eq rx a2, rep_obj_eq ry b2]
    exact ⟨q1.1, q2.1, vs, ws, rfl, .inl ⟨SqL.of c1, SqL.of c2, p2.pure m2 (sv_zipL g.hK a2 b2)⟩⟩
end
end G
set_option Elab.async false
set_option linter.all false
set_option maxRecDepth 100000
set_option maxHeartbeats 4000000
/-! GA2: instances with slots: their methods, operators, attributes. -/
namespace PySem.W
open PySem PySem.Calls PyProof.Rows Builtin
section
variable {prog : Program} {w : World} {A : Around} {E : Value → Shared → Prop} {s : Shared} {K : Frag} {x C L f : Addr} {h₀ : Heap} {m : Str → Option Value} {ox : Obj} {od : Option Obj} {b tb : Value}
/-- a != b where the class has its own __eq__, and object's __ne__ -/
theorem gx_ne {Q : Value → Shared → Prop} (hu : A.units + 1 < cLine) (F : Fr h₀ L s.heap m) (X₀ : K.In h₀) (I : InstAt s.heap x ox C od) (hb : Looks (model prog w) s.heap (typeOf b) tb) (hn : notFirst K C tb = true)
    (hne : findIn K (.ref C) "__ne__" = some (some (.builtin "object.__ne__"))) (hm : subIn K (.ref C) (.type "object") = some true) (hs : findIn K (.ref C) "__eq__" = some (some (.ref f))) (hf : isFn K (.ref f) = true)
    (h : wpAny (model prog w) A.in1 (call (.ref f) [.ref x, b]) (fun v s' => ∃ t, v = .bool t ∧ Q (.bool (!t)) s') E s) : wpAny (model prog w) A (richCompare .NotEq (.ref x) b) Q E s := by
  have X := X₀.keeps F.keep
  have body : wpAny (model prog w) A.in1 (Builtin.«object.__ne__» ⟨[.ref x, b], []⟩) (fun fin s' => match fin with | .done f => (match f with | .ret v => (∃ t, v = .bool t ∧ Q v s') | _ => False) | .again c' => False) E s := by
    unfold Builtin.«object.__ne__»
    repeat (first
      | with_reducible refine wpAny_cRoomFor (A := A.in1) hu ?_
      | (refine wpAny_bind (m := callSpecialIfBound? (.ref x) (Str.ofString "__eq__") [b])
          (ifBound_K X I hs hf (wpAny_mono h (fun r s' hr => by
            obtain ⟨t, rfl, hq⟩ := hr
            repeat (first | exact ⟨_, rfl, hq⟩ | exact wpAny_pure ⟨_, rfl, hq⟩ | exact wpAny_truthy_bool ⟨_, rfl, hq⟩ | (refine wpAny_bind (m := truthy (.bool _)) (wpAny_truthy_bool ?_)) | wp_step)) fun _ _ e => e)))
      | wp_step)
  have one : wpAny (model prog w) A (tryCompare (.ref x) (cmpInfo .NotEq).2.1 b) (fun r s' => ∃ t, r = some (.bool t) ∧ Q (.bool t) s') E s := by
    unfold tryCompare
    have call_ : wpAny (model prog w) A (call (.builtin "object.__ne__") [.ref x, b]) (fun v s' => ∃ t, v = .bool t ∧ Q v s') E s := by
      refine wpAny_call (codeAny_call_builtin PySem.F.cmp_object.ne.plain PySem.F.cmpEntry_ne ?_)
      refine check_slot PySem.F.cmpKind_ne PySem.F.cmpSplit_ne (I.type.andThen (looks_subIn X hm)) (PySem.F.cmpArgs_ne _ _) ?_
      refine wpAny_mono body (fun fin s' hf => ?_) fun _ _ e => e
      cases fin with
      | again c' => exact hf.elim
      | done f => cases f <;> first | exact hf.elim | exact hf
    refine wpAny_bind (m := callSpecialIfBound? (.ref x) "__ne__" [b]) ?_
    simp only [callSpecialIfBound?, bindSpecialIfBound?]
    refine wpAny_holding (wpAny_bind (wpAny_bind (wpAny_bind (I.type.here ((looks_findIn X hne).here ?_)))))
    simp only [PySem.F.cmp_object.ne.bind]
    refine wpAny_bind (wpAny_askSetting (wpAny_ite ?_))
    have fin : wpAny (model prog w) A (call (.builtin "object.__ne__") ([.ref x] ++ [b]) >>= fun v => pure (some v)) (fun r s' => wpAny (model prog w) A (match r with | some .notImplemented | none => (pure none : Sem (Option Value)) | some v => pure (some v)) (fun r s' => ∃ t, r = some (.bool t) ∧ Q (.bool t) s') E s') E s :=
      wpAny_bind (wpAny_mono call_ (fun v s' ⟨t, e, hq⟩ => by subst e; exact wpAny_pure (wpAny_pure ⟨t, rfl, hq⟩)) fun _ _ h' => h')
    split
    · exact wpAny_bind (wpAny_pure (wpAny_pure fin))
    · exact wpAny_tryCatch (wpAny_bind (wpAny_pure (wpAny_pure fin)))
  unfold richCompare
  simp only [oneThing_ref]
  refine wpAny_holding (wpAny_bind (wpAny_cRoomFor (Nat.lt_of_succ_lt hu) ?_))
  refine wpAny_bind (I.type.here (wpAny_bind (hb.here ?_)))
  split
  · rename_i q
    have e : subIn K tb (.ref C) = some false := by
      rcases Bool.or_eq_true_iff.mp hn with e | e
      · rw [beq_iff_eq.mp e] at q; simp at q
      · exact beq_iff_eq.mp e
    refine wpAny_bind ((looks_subIn X e).here ?_)
    simp only [Bool.false_eq_true, if_false]
    refine wpAny_bind (wpAny_mono one (fun r s' z => ?_) fun _ _ e => e)
    obtain ⟨t, rfl, hq⟩ := z
    exact wpAny_pure hq
  · refine wpAny_bind (wpAny_pure ?_)
    simp only [Bool.false_eq_true, if_false]
    refine wpAny_bind (wpAny_mono one (fun r s' z => ?_) fun _ _ e => e)
    obtain ⟨t, rfl, hq⟩ := z
    exact wpAny_pure hq
end
end PySem.W
set_option Elab.async false
set_option linter.all false
set_option maxRecDepth 100000
set_option maxHeartbeats 4000000
/-! GA6: an int on the left of an instance. -/
namespace PySem.W
open PySem PySem.Calls PyProof.Rows Builtin
section
variable {C dx l : Addr} {sl : Array (Option Value)}
/-- the builtin declines -/
def Decl (B : Builtin) (a : Int) (t : Tok) (l : Addr) (o : Obj) : Prop := Meets (B ⟨[.int a t, .ref l], []⟩) (fun _ R s => s.heap.get? l = some o ∧ R (.ok (.ret Value.notImplemented)) s)
theorem d_add (a : Int) (t : Tok) : Decl Builtin.«int.__add__» a t l { instObj C dx with slots := sl } :=
  .of_wp fun prog w A R s h => by obtain ⟨hp, g, d, tk, os⟩ := s; obtain ⟨hl, h⟩ := h; wp_walk using wpAny_loadPart' hl; exact ⟨_, rfl, h⟩
theorem d_sub (a : Int) (t : Tok) : Decl Builtin.«int.__sub__» a t l { instObj C dx with slots := sl } :=
  .of_wp fun prog w A R s h => by obtain ⟨hp, g, d, tk, os⟩ := s; obtain ⟨hl, h⟩ := h; wp_walk using wpAny_loadPart' hl; exact ⟨_, rfl, h⟩
theorem d_mul (a : Int) (t : Tok) : Decl Builtin.«int.__mul__» a t l { instObj C dx with slots := sl } :=
  .of_wp fun prog w A R s h => by obtain ⟨hp, g, d, tk, os⟩ := s; obtain ⟨hl, h⟩ := h; wp_walk using wpAny_loadPart' hl; exact ⟨_, rfl, h⟩
theorem d_lt (a : Int) (t : Tok) : Decl Builtin.«int.__lt__» a t l { instObj C dx with slots := sl } :=
  .of_wp fun prog w A R s h => by obtain ⟨hp, g, d, tk, os⟩ := s; obtain ⟨hl, h⟩ := h; wp_walk using wpAny_loadPart' hl; exact ⟨_, rfl, h⟩
theorem d_le (a : Int) (t : Tok) : Decl Builtin.«int.__le__» a t l { instObj C dx with slots := sl } :=
  .of_wp fun prog w A R s h => by obtain ⟨hp, g, d, tk, os⟩ := s; obtain ⟨hl, h⟩ := h; wp_walk using wpAny_loadPart' hl; exact ⟨_, rfl, h⟩
theorem d_gt (a : Int) (t : Tok) : Decl Builtin.«int.__gt__» a t l { instObj C dx with slots := sl } :=
  .of_wp fun prog w A R s h => by obtain ⟨hp, g, d, tk, os⟩ := s; obtain ⟨hl, h⟩ := h; wp_walk using wpAny_loadPart' hl; exact ⟨_, rfl, h⟩
theorem d_ge (a : Int) (t : Tok) : Decl Builtin.«int.__ge__» a t l { instObj C dx with slots := sl } :=
  .of_wp fun prog w A R s h => by obtain ⟨hp, g, d, tk, os⟩ := s; obtain ⟨hl, h⟩ := h; wp_walk using wpAny_loadPart' hl; exact ⟨_, rfl, h⟩
end
section
variable {prog : Program} {w : World} {A : Around} {E : Value → Shared → Prop} {s : Shared} {K : Frag} {x C L f f0 dx : Addr} {h₀ : Heap} {m : Str → Option Value} {sl : Array (Option Value)} {od : Option Obj}
/-- a + b .. where b's class answers from the right -/
theorem gx_rbin {op : Operator} {idl : String} {Bl : Builtin} {i : Int} {t : Tok} {Q : Value → Shared → Prop} (F : Fr h₀ L s.heap m) (X₀ : K.In h₀) (I : InstAt s.heap x { instObj C dx with slots := sl } C od) (hc : selfFirst K C = true)
    (hs : findIn K (.ref C) (PySem.dunder op.info.2) = some (some (.ref f0))) (hr : findIn K (.ref C) (dunderR op.info.2) = some (some (.ref f))) (hf : isFn K (.ref f) = true) (hsub : subIn K (.ref C) (.type "int") = some false)
    (fl : fillsNumberSlot (.type "int") op.info.2 = pure true) (slot : PySem.Slot "int" (PySem.dunder op.info.2) idl) (entry : entryFor table idl = some Bl) (args : argsOk idl ⟨[.int i t, .ref x], []⟩) (g : Decl Bl i t x { instObj C dx with slots := sl })
    (h : wpAny (model prog w) A (call (.ref f) [.ref x, .int i t]) (CmpBack Q) E s) : wpAny (model prog w) A (binaryOp op (.int i t) (.ref x)) Q E s := by
  have X := X₀.keeps F.keep
  obtain ⟨cd, rest, hcd, hm⟩ := ksp_first hc
  rcases hi : op.info with ⟨sym, nm'⟩
  rw [hi] at hs hr fl slot
  dsimp only at hs hr fl slot
  have two := ksp_try X I hr hf h
  have dec : wpAny (model prog w) A (tryMethod (.int i t) (PySem.dunder nm') (.ref x)) (fun r s' => r = none ∧ s' = s) E s :=
    wpAny_tryMethod_declines rfl slot (call_meets slot rfl entry args g ⟨I.at_, rfl, rfl, rfl⟩)
  obtain ⟨hh, gg, d, tt, os⟩ := s
  have L1 : Looks (model prog w) hh (typeOf (.int i t)) (.type "int") := Looks.of_pure rfl
  have L2 : Looks (model prog w) hh (typeOf (.ref x)) (.ref C) := I.type
  have L3 : Looks (model prog w) hh (fillsNumberSlot (.type "int") nm') true := Looks.of_pure fl
  have L4 : Looks (model prog w) hh (fillsNumberSlot (.ref C) nm') true := fills_K X hcd hm hs
  have L5 : Looks (model prog w) hh (isSubtype (.ref C) (.type "int")) false := looks_subIn X hsub
  have L6 : Looks (model prog w) hh (numberSlotInPython (.type "int") nm') false := Looks.of_pure rfl
  have hne : (Value.type "int" == Value.ref C) = false := Bool.eq_false_iff.mpr fun q => by cases beq_iff_eq.mp q
  simp only [binaryOp, hi]
  refine wpAny_holding (wpAny_bind ?_)
  unfold binaryOp1
  refine wpAny_bind (L1.at (wpAny_bind (L2.at (wpAny_bind (L3.at ?_)))))
  simp only [hne, Bool.false_eq_true, if_false]
  ksp_lk
  refine wpAny_mono dec (fun r s' hr' => ?_) fun _ _ e => e
  obtain ⟨rfl, rfl⟩ := hr'
  ksp_lk
  refine wpAny_mono two (fun r s' hr' => ?_) fun _ _ e => e
  obtain ⟨v, rfl, hq⟩ := hr'
  ksp_lk
  exact hq
/-- a < b .. where b's class answers from the right -/
theorem gx_rcmp {op : CmpOp} {idl : String} {Bl : Builtin} {i : Int} {t : Tok} {Q : Value → Shared → Prop} (hu : A.units < cLine) (F : Fr h₀ L s.heap m) (X₀ : K.In h₀) (I : InstAt s.heap x { instObj C dx with slots := sl } C od)
    (hr : findIn K (.ref C) (cmpInfo op).2.2 = some (some (.ref f))) (hf : isFn K (.ref f) = true) (hsub : subIn K (.ref C) (.type "int") = some false)
    (slot : PySem.Slot "int" (cmpInfo op).2.1 idl) (entry : entryFor table idl = some Bl) (args : argsOk idl ⟨[.int i t, .ref x], []⟩) (g : Decl Bl i t x { instObj C dx with slots := sl })
    (h : wpAny (model prog w) A (call (.ref f) [.ref x, .int i t]) (CmpBack Q) E s) : wpAny (model prog w) A (richCompare op (.int i t) (.ref x)) Q E s := by
  have X := X₀.keeps F.keep
  have dec : wpAny (model prog w) A (tryCompare (.int i t) (cmpInfo op).2.1 (.ref x)) (fun r s' => r = none ∧ s' = s) E s :=
    wpAny_tryCompare_declines rfl slot (call_meets slot rfl entry args g ⟨I.at_, rfl, rfl, rfl⟩)
  have two : wpAny (model prog w) A (tryCompare (.ref x) (cmpInfo op).2.2 (.int i t)) (fun r s' => ∃ v, r = some v ∧ Q v s') E s := by
    unfold tryCompare
    refine wpAny_bind (ifBound_K X I hr hf (wpAny_mono h (fun v s' hv => ?_) fun _ _ e => e))
    cases v <;> first | exact hv.elim | exact wpAny_pure ⟨_, rfl, hv⟩
  have hne : (Value.type "int" != Value.ref C) = true := by
    rw [bne_iff_ne]
    exact fun q => by cases q
  unfold richCompare
  simp only [(show s.TypeIs (.int i t) "int" from rfl).oneThing_none]
  refine wpAny_holding (wpAny_bind (wpAny_cRoomFor hu ?_))
  refine wpAny_bind (wpAny_typeOf (T := "int") rfl (wpAny_bind (I.type.here ?_)))
  simp only [hne, if_true]
  refine wpAny_bind ((looks_subIn X hsub).here ?_)
  simp only [Bool.false_eq_true, if_false, Bool.not_false, if_true]
  refine wpAny_bind (m := tryCompare (.int i t) _ _) (wpAny_mono dec (fun r s' hr' => ?_) fun _ _ e => e)
  obtain ⟨rfl, rfl⟩ := hr'
  refine wpAny_bind (m := tryCompare (.ref x) _ _) (wpAny_mono two (fun r s' hr' => ?_) fun _ _ e => e)
  obtain ⟨v, rfl, hq⟩ := hr'
  exact wpAny_pure hq
end
end PySem.W
set_option Elab.async false
set_option linter.all false
set_option maxRecDepth 100000
set_option maxHeartbeats 4000000
/-! GA3: instances with slots: facts and rules. -/
namespace G
open PySem PySem.Spec PyProof.Rows L2 SlX

/-- an operator of int, from the left -/
structure IntBin (op : Operator) where
  idl : String
  Bl : Builtin
  fl : fillsNumberSlot (.type "int") op.info.2 = pure true
  slot : PySem.Slot "int" (PySem.dunder op.info.2) idl
  entry : entryFor PySem.table idl = some Bl
  args : ∀ a b, argsOk idl ⟨[a, b], []⟩
  decl : ∀ (a : Int) (t : Tok) (C dx l : Addr) (sl : Array (Option Value)), PySem.W.Decl Bl a t l { PySem.W.instObj C dx with slots := sl }
  h1 : ∀ K : PySem.W.Frag, ∃ fo, PySem.W.findIn K (.type "int") (PySem.dunder op.info.2) = some fo
  h2 : ∀ K : PySem.W.Frag, ∃ ro, PySem.W.findIn K (.type "int") (dunderR op.info.2) = some ro
structure IntCmp (op : CmpOp) where
  idl : String
  Bl : Builtin
  slot : PySem.Slot "int" (cmpInfo op).2.1 idl
  entry : entryFor PySem.table idl = some Bl
  args : ∀ a b, argsOk idl ⟨[a, b], []⟩
  decl : ∀ (a : Int) (t : Tok) (C dx l : Addr) (sl : Array (Option Value)), PySem.W.Decl Bl a t l { PySem.W.instObj C dx with slots := sl }
def ibAdd : IntBin .Add := ⟨"int.__add__", Builtin.«int.__add__», F.fills_int_add, F.slot_int_add, F.entry_int_add, fun a b => F.args_int_add_2 a b, fun a t C dx l sl => PySem.W.d_add a t, fun K => Option.isSome_iff_exists.mp (show (PySem.W.findIn K (.type "int") _).isSome = true by kernel_rfl), fun K => Option.isSome_iff_exists.mp (show (PySem.W.findIn K (.type "int") _).isSome = true by kernel_rfl)⟩
def ibSub : IntBin .Sub := ⟨"int.__sub__", Builtin.«int.__sub__», F.fills_int_sub, F.slot_int_sub, F.entry_int_sub, fun a b => F.args_int_sub_2 a b, fun a t C dx l sl => PySem.W.d_sub a t, fun K => Option.isSome_iff_exists.mp (show (PySem.W.findIn K (.type "int") _).isSome = true by kernel_rfl), fun K => Option.isSome_iff_exists.mp (show (PySem.W.findIn K (.type "int") _).isSome = true by kernel_rfl)⟩
def ibMul : IntBin .Mult := ⟨"int.__mul__", Builtin.«int.__mul__», F.fills_int_mul, F.slot_int_mul, F.entry_int_mul, fun a b => F.args_int_mul_2 a b, fun a t C dx l sl => PySem.W.d_mul a t, fun K => Option.isSome_iff_exists.mp (show (PySem.W.findIn K (.type "int") _).isSome = true by kernel_rfl), fun K => Option.isSome_iff_exists.mp (show (PySem.W.findIn K (.type "int") _).isSome = true by kernel_rfl)⟩
def icLt : IntCmp .Lt := ⟨"int.__lt__", Builtin.«int.__lt__», F.slot_int_lt, F.entry_int_lt, fun a b => F.args_int_lt_2 a b, fun a t C dx l sl => PySem.W.d_lt a t⟩
def icLe : IntCmp .LtE := ⟨"int.__le__", Builtin.«int.__le__», F.slot_int_le, F.entry_int_le, fun a b => F.args_int_le_2 a b, fun a t C dx l sl => PySem.W.d_le a t⟩
def icGt : IntCmp .Gt := ⟨"int.__gt__", Builtin.«int.__gt__», F.slot_int_gt, F.entry_int_gt, fun a b => F.args_int_gt_2 a b, fun a t C dx l sl => PySem.W.d_gt a t⟩
def icGe : IntCmp .GtE := ⟨"int.__ge__", Builtin.«int.__ge__», F.slot_int_ge, F.entry_int_ge, fun a b => F.args_int_ge_2 a b, fun a t C dx l sl => PySem.W.d_ge a t⟩
theorem int_sub_ref (K : PySem.W.Frag) (C : Addr) : PySem.W.subIn K (.type "int") (.ref C) = some false := by
  have e : fastBuiltinMro "int" = some [.type "int", .type "object"] := by kernel_rfl
  unfold PySem.W.subIn
  simp only [e]
  rfl
/-- a property of a class -/
structure PropF (K : PySem.W.Frag) (C : Addr) (f : Str) (g : Addr) : Prop where
  ex : ∃ p, PySem.W.findIn K (.ref C) f = some (some (.ref p)) ∧ PySem.W.specialIn K (.ref p) "__get__" = some (some (.builtin "property.__get__")) ∧ PySem.W.takesIn K (.ref p) = some true ∧ ∃ rest, PySem.W.recIn K p "property" = some (.ref g :: rest)
/-- what the written part says of the classes with slots -/
structure OwnF (Γ : Gx) (T : Tab) (met att : List (Str × Nat)) : Prop where
  kd : ∀ c x m f, T.cl c = some x → x.meths.lookup m = some f → x.kind = .slots
  kp : ∀ c x a f, T.cl c = some x → x.props.lookup a = some f → x.kind = .slots
  ks : ∀ c x a i, T.cl c = some x → idxOf a x.slots = some i → x.kind = .slots
  me : ∀ c x nm m f, T.cl c = some x → met.lookup nm = some m → x.meths.lookup m = some f → Meth Γ.K (Γ.ca c) nm (Γ.fa f)
  sl : ∀ c x nm a i, T.cl c = some x → att.lookup nm = some a → idxOf a x.slots = some i → ∃ p, Slot1 Γ.K (Γ.ca c) nm p i
  pr : ∀ c x nm a f, T.cl c = some x → att.lookup nm = some a → idxOf a x.slots = none → x.props.lookup a = some f → PropF Γ.K (Γ.ca c) nm (Γ.fa f)
  fs : ∀ c x, T.cl c = some x → x.kind = .slots → PySem.W.selfFirst Γ.K (Γ.ca c) = true
  nf : ∀ c x d y, T.cl c = some x → x.kind = .slots → T.cl d = some y → PySem.W.notFirst Γ.K (Γ.ca c) (.ref (Γ.ca d)) = true
  nt : ∀ c x u, T.cl c = some x → x.kind = .slots → u ∈ ["NoneType", "bool", "int", "str", "tuple", "list", "dict"] → PySem.W.notFirst Γ.K (Γ.ca c) (.type u) = true
  ne : ∀ c x, T.cl c = some x → x.kind = .slots → PySem.W.findIn Γ.K (.ref (Γ.ca c)) "__ne__" = some (some (.builtin "object.__ne__")) ∧ PySem.W.subIn Γ.K (.ref (Γ.ca c)) (.type "object") = some true
  iS : ∀ c x, T.cl c = some x → x.kind = .slots → PySem.W.subIn Γ.K (.ref (Γ.ca c)) (.type "int") = some false
  mkC : ∀ c x f, T.cl c = some x → x.kind = .slots → x.meths.lookup mInit = some f → Mk Γ.K (Γ.ca c) (Γ.fa f) ∧ x.slots.length ≤ 100
section
variable {Γ : Gx} {X : Cx} {W : WX} {k n : Nat} {T : Tab} {wl : Nat} {met att : List (Str × Nat)}
/-- where an instance stands -/
theorem own_at {as : List G.Loc} {H : Hp} {st : Store} {d : D} {v : V} {c : Nat} (mt : Mt Γ as st H) (r : Rep Γ as H d v) (e : clsOf st d = some c) : ∃ a dx vs, v = .ref a ∧ Slt H a (Γ.ca c) dx vs := by
  cases d <;> simp only [clsOf] at e <;> try cases e
  · rename_i n
    cases eo : st[n]? with
    | none => rw [eo] at e; cases e
    | some o =>
      rw [eo] at e
      obtain ⟨p, hp, ro⟩ := mt.loc eo
      cases o <;> simp only at e <;> try cases e
      · obtain ⟨_, _, vs, hs, _⟩ := ro
        exact ⟨p.1, p.2, vs, rep_obj_eq r hp, hs⟩
      · obtain ⟨_, _, _, _, z⟩ := ro
        exact z.elim
  · unfold Rep at r
    obtain ⟨a, dx, vs, ws, rfl, _, _, hs, _⟩ := r
    exact ⟨a, dx, vs, rfl, hs⟩
theorem methOf_some {ct : Ct} {d : D} {m f : Nat} {st : Store} (h : methOf ct d m st = .ok (some f) st) : ∃ c x, clsOf st d = some c ∧ ct.T.cl c = some x ∧ x.meths.lookup m = some f := by
  unfold methOf at h
  cases e : clsOf st d with
  | none =>
    rw [e] at h
    have : (none : Option Nat) = some f := by injection h
    cases this
  | some c =>
    rw [e] at h
    unfold Tab.meth at h
    cases e2 : ct.T.cl c with
    | none =>
      simp only [e2] at h
      have : (none : Option Nat) = some f := by injection h
      cases this
    | some x =>
      simp only [e2] at h
      refine ⟨c, x, rfl, e2, ?_⟩
      injection h
theorem methOf_run (ct : Ct) (d : D) (m : Nat) (st : Store) : ∃ o, methOf ct d m st = .ok o st := by
  unfold methOf
  exact ⟨_, rfl⟩
/-- a def run below the running body -/
theorem run_GA {b : Bool} {A : Around} {pins : List (Addr × Obj)} {s : Shared} {σ : L2.St} {H : Hp} {Q : VK} {j : Nat} {fa : Addr} {fd : FuncData} {ps : List Str} {sp : Sp} {us : List Value} {vs : List V} {E : L2.St → XK} (F : FnG b X.prog X.w X.K X.mg X.base j fa fd ps sp) (hr : Room j A) (gd : b = true → A.guards = some []) (e0 : Env0 X.prog X.w X.K X.mg X.base A X.stack s H) (hb : Binds X.K fd ps [])
    (hx : PassesAt (L2.CX X.prog X.w) X σ (E σ)) (I : Inv X pins σ H s) (r : Vals vs us) (h : sp vs H Q (E σ)) : wpAny (model X.prog X.w) A (call (.ref fa) us) (EP X pins σ Q) X.xe s := by
  have hl : (us ++ []).length = ps.length := by rw [List.append_nil, ← r.length]; exact F.len _ _ _ _ h
  have hb' := hb s us I.kIn hl
  rw [List.append_nil] at hb'
  refine wpAny_call (codeAny_mono (F.run A X.stack s H ⟨us, []⟩ us vs Q (E σ) hr gd e0 hb' r h) fun r s' hq => ?_)
  cases r with
  | error e => exact hx pins H s e s' I hq
  | ok fl =>
    cases fl with
    | ret u => exact I.after hq
    | next => exact False.elim hq
    | brk => exact False.elim hq
    | cont => exact False.elim hq
/-- the promise of a def of a class, with what follows -/
theorem own_sp {as : List G.Loc} {H : Hp} {st : Store} {f : Nat} {xs : List D} {vs : List V} {g : D → M D} {Q : VK} {E : XK} (mt : Mt Γ as st H) (r : Reps Γ as H xs vs) (p : Po Γ (Rep Γ) as H ((callF T wl n f xs >>= g) st) Q E) :
    spF Γ T wl n f vs H (fun v H1 => ∃ z as1 st1, Kp as H as1 H1 ∧ Mt Γ as1 st1 H1 ∧ Rep Γ as1 H1 z v ∧ Po Γ (Rep Γ) as1 H1 (g z st1) Q E) E :=
  ⟨as, st, xs, mt, r, (Po.bind (rl' := Rep Γ) p).imp (fun v H1 ⟨z, as1, st1, k1, m1, rz, p1⟩ => ⟨z, as1, st1, k1, m1, rz, p1⟩) fun _ _ _ h => h⟩
theorem hasTy_inv {ct : Ct} {α β : Type} {rl : Rl α β} {as : List G.Loc} {H : Hp} {st : Store} {d : D} {f : Unit → M α} {Q : β → Hp → Prop} {E : XK} (p : Po Γ rl as H ((hasTy ct d >>= f) st) Q E) : tyKnown ct.T st d = true ∧ Po Γ rl as H (f () st) Q E := by
  rw [bind_run] at p
  unfold hasTy at p
  by_cases h : tyKnown ct.T st d = true
  · rw [if_pos h] at p
    exact ⟨h, p⟩
  · rw [if_neg h] at p
    exact p.elim
/-- the type of a value, where it stands -/
theorem look_ty {pins : List (Addr × Obj)} {s : Shared} {σ : L2.St} {as : List G.Loc} {H : Hp} {st : Store} {d : D} {v : V} {u : Value} (hK : X.K = Γ.K) (I : Inv X pins σ H s) (mt : Mt Γ as st H) (r : Rep Γ as H d v) (ru : RelV v u) (h : tyKnown T st d = true) :
    ∃ tb, PySem.W.Looks (model X.prog X.w) s.heap (typeOf u) tb ∧ ((∃ t, tb = .type t ∧ t ∈ ["NoneType", "bool", "int", "str", "tuple", "list", "dict"]) ∨ ∃ c y, clsOf st d = some c ∧ T.cl c = some y ∧ tb = .ref (Γ.ca c)) := by
  cases e : tyOf st d with
  | some t =>
    obtain ⟨t1, t2⟩ := ty_of hK mt r e
    obtain ⟨P, kx, hp, _⟩ := kit_of I ru t1
    exact ⟨_, kx.ty _ _ I.kIn hp, .inl ⟨t, rfl, t2⟩⟩
  | none =>
    obtain ⟨c, y, hc, hy⟩ : ∃ c y, clsOf st d = some c ∧ T.cl c = some y := by
      unfold tyKnown at h
      rw [e] at h
      cases e2 : clsOf st d with
      | none => rw [e2] at h; cases h
      | some c =>
        rw [e2] at h
        obtain ⟨y, hy⟩ := Option.isSome_iff_exists.mp (show (T.cl c).isSome = true from h)
        exact ⟨c, y, rfl, hy⟩
    obtain ⟨a, dx, vs, rfl, hs⟩ := own_at mt r hc
    cases ru
    obtain ⟨sl, od, _, J, _⟩ := slt_inst I hs
    exact ⟨_, J.type, .inr ⟨c, y, hc, hy, rfl⟩⟩
/-- what is known in the place of X of defs called -/
structure GM (Γ : Gx) (X : Cx) (W : WX) (T : Tab) (wl n : Nat) (k : Nat) (met att : List (Str × Nat)) : Prop where
  xg : XG Γ X W k
  hn : 6 * n + 2 ≤ k
  fo : ∀ f, FO Γ X T wl n f
  fi : ∀ c x m f, T.cl c = some x → x.meths.lookup m = some f → FI Γ f
  fp : ∀ c x a f, T.cl c = some x → x.props.lookup a = some f → FI Γ f
  cf : ClsF Γ.K T Γ.ca
  ow : OwnF Γ T met att
  rpe : T.rp = true → Γ.rp = true
  fo0 : T.rp = true → ∀ f, FnG false X.prog X.w X.K X.mg X.base (6 * n) (Γ.fa f) (Γ.fd f) (Γ.ps f) (spF Γ T.t0 wl n f)
theorem GM.run {pins : List (Addr × Obj)} {s : Shared} {σ : L2.St} {H : Hp} {Q : VK} {f : Nat} {us : List Value} {vs : List V} (g : GM Γ X W T wl n k met att) (fi : FI Γ f) (I : Inv X pins σ H s) (r : Vals vs us) (h : spF Γ T wl n f vs H Q (WE W σ)) : wpAny (model X.prog X.w) X.A (call (.ref (Γ.fa f)) us) (EP X pins σ Q) X.xe s :=
  run_GA (E := WE W) (g.fo f) (g.xg.hr.mono (by have := g.hn; omega)) g.xg.gd I.env0 (by rw [g.xg.hK]; exact fi.bd) (passAt g.xg.tk σ) I r h
theorem GM.run1 {pins : List (Addr × Obj)} {s : Shared} {σ : L2.St} {H : Hp} {Q : VK} {f : Nat} {us : List Value} {vs : List V} (g : GM Γ X W T wl n k met att) (fi : FI Γ f) (I : Inv X pins σ H s) (r : Vals vs us) (h : spF Γ T wl n f vs H Q (WE W σ)) : wpAny (model X.prog X.w) X.A.in1 (call (.ref (Γ.fa f)) us) (EP X pins σ Q) X.xe s :=
  run_GA (E := WE W) (g.fo f) ((g.xg.hr.mono (show 6 * n + 1 ≤ k by have := g.hn; omega)).in1) g.xg.gd I.env0.in1 (by rw [g.xg.hK]; exact fi.bd) (passAt g.xg.tk σ) I r h
section
variable (g : GM Γ X W T wl n k met att)
include g
/-- a == b, a != b -/
theorem own_eq (hm : met.lookup ("__eq__" : Str) = some mEq) : V2 Γ X W (compareOp .Eq) (fun a b => prim (ctF T wl n) .eq [a, b]) := fun pins s σ H as st x y vx vy ux uy Q I mt rx ry rux ruy p => by
  have hK := g.xg.hK
  replace p : Po Γ (Rep Γ) as H ((eqD (ctF T wl n) x y >>= fun b => (pure (.bl b) : M D)) st) Q (WE W σ) := p
  obtain ⟨o, ho⟩ := methOf_run (ctF T wl n) x mEq st
  have e1 : eqD (ctF T wl n) x y st = (match o with
    | some f => (do hasTy (ctF T wl n) y; asB (← callF T wl n f [x, y]) : M Bool)
    | none => datEq x y) st := by
    unfold eqD
    rw [bind_run, ho]
    cases o <;> rfl
  cases o with
  | none =>
    have e2 : (eqD (ctF T wl n) x y >>= fun b => (pure (.bl b) : M D)) st = (datEq x y >>= fun b => (pure (.bl b) : M D)) st := by rw [bind_run, e1, bind_run]
    rw [e2] at p
    exact v_eqDat g.xg pins s σ H as st x y vx vy ux uy Q I mt rx ry rux ruy p
  | some f =>
    obtain ⟨c, x0, hc, hx0, hf⟩ := methOf_some ho
    have e2 : (eqD (ctF T wl n) x y >>= fun b => (pure (.bl b) : M D)) st = (hasTy (ctF T wl n) y >>= fun _ => callF T wl n f [x, y] >>= fun z => asB z >>= fun b => (pure (.bl b) : M D)) st := by
      have : (hasTy (ctF T wl n) y >>= fun _ => callF T wl n f [x, y] >>= fun z => asB z >>= fun b => (pure (.bl b) : M D)) = ((do hasTy (ctF T wl n) y; asB (← callF T wl n f [x, y]) : M Bool) >>= fun b => (pure (.bl b) : M D)) := by simp only [LawfulMonad.bind_assoc]
      rw [this, bind_run, e1, bind_run]
    rw [e2] at p
    obtain ⟨hty, p⟩ := hasTy_inv p
    obtain ⟨a, dx, vs, rfl, hsl⟩ := own_at mt rx hc
    cases rux
    have kd := g.ow.kd c x0 mEq f hx0 hf
    have M := g.ow.me c x0 _ mEq f hx0 hm hf
    obtain ⟨tb, lk, htb⟩ := look_ty hK I mt ry ruy hty
    have hnf : PySem.W.notFirst Γ.K (Γ.ca c) tb = true := by
      rcases htb with ⟨t, rfl, ht⟩ | ⟨d, y0, hd, hy0, rfl⟩
      · exact g.ow.nt c x0 t hx0 kd ht
      · exact g.ow.nf c x0 d y0 hx0 kd hy0
    obtain ⟨sl, od, _, J, _⟩ := slt_inst I hsl
    obtain ⟨m, hF⟩ := I.fr
    show wpAny _ _ (richCompare .Eq (.ref a) uy) _ _ _
    refine PySem.W.cmp_K (op := .Eq) g.xg.hr.units0 hF I.ok.mod.kin J lk (by rw [hK]; exact hnf) (by rw [hK]; exact M.at_) (by rw [hK]; exact M.fn) ?_
    refine wpAny_mono (g.run (g.fi c x0 mEq f hx0 hf) I (us := [.ref a, uy]) (vs := [.ref a, vy]) (.cons rfl (.cons ruy .nil)) (own_sp mt (.cons rx (.cons ry .nil)) p)) (fun w s' ⟨z', H', I', rz, z, as1, st1, k1, m1, rz2, p1⟩ => ?_) fun _ _ e => e
    obtain ⟨t, rfl, p1⟩ := asB_inv rz2 rz p1
    exact ⟨.bl t, H', I', rfl, p1.pure m1 .ofBl⟩
theorem own_ne (hm : met.lookup ("__eq__" : Str) = some mEq) : V2 Γ X W (compareOp .NotEq) (fun a b => prim (ctF T wl n) .ne [a, b]) := fun pins s σ H as st x y vx vy ux uy Q I mt rx ry rux ruy p => by
  have hK := g.xg.hK
  replace p : Po Γ (Rep Γ) as H ((eqD (ctF T wl n) x y >>= fun b => (pure (.bl (!b)) : M D)) st) Q (WE W σ) := p
  obtain ⟨o, ho⟩ := methOf_run (ctF T wl n) x mEq st
  have e1 : eqD (ctF T wl n) x y st = (match o with
    | some f => (do hasTy (ctF T wl n) y; asB (← callF T wl n f [x, y]) : M Bool)
    | none => datEq x y) st := by
    unfold eqD
    rw [bind_run, ho]
    cases o <;> rfl
  cases o with
  | none =>
    have e2 : (eqD (ctF T wl n) x y >>= fun b => (pure (.bl (!b)) : M D)) st = (datEq x y >>= fun b => (pure (.bl (!b)) : M D)) st := by rw [bind_run, e1, bind_run]
    rw [e2] at p
    exact v_neDat g.xg pins s σ H as st x y vx vy ux uy Q I mt rx ry rux ruy p
  | some f =>
    obtain ⟨c, x0, hc, hx0, hf⟩ := methOf_some ho
    have e2 : (eqD (ctF T wl n) x y >>= fun b => (pure (.bl (!b)) : M D)) st = (hasTy (ctF T wl n) y >>= fun _ => callF T wl n f [x, y] >>= fun z => asB z >>= fun b => (pure (.bl (!b)) : M D)) st := by
      have : (hasTy (ctF T wl n) y >>= fun _ => callF T wl n f [x, y] >>= fun z => asB z >>= fun b => (pure (.bl (!b)) : M D)) = ((do hasTy (ctF T wl n) y; asB (← callF T wl n f [x, y]) : M Bool) >>= fun b => (pure (.bl (!b)) : M D)) := by simp only [LawfulMonad.bind_assoc]
      rw [this, bind_run, e1, bind_run]
    rw [e2] at p
    obtain ⟨hty, p⟩ := hasTy_inv p
    obtain ⟨a, dx, vs, rfl, hsl⟩ := own_at mt rx hc
    cases rux
    have kd := g.ow.kd c x0 mEq f hx0 hf
    have M := g.ow.me c x0 _ mEq f hx0 hm hf
    obtain ⟨tb, lk, htb⟩ := look_ty hK I mt ry ruy hty
    have hnf : PySem.W.notFirst Γ.K (Γ.ca c) tb = true := by
      rcases htb with ⟨t, rfl, ht⟩ | ⟨d, y0, hd, hy0, rfl⟩
      · exact g.ow.nt c x0 t hx0 kd ht
      · exact g.ow.nf c x0 d y0 hx0 kd hy0
    obtain ⟨sl, od, _, J, _⟩ := slt_inst I hsl
    obtain ⟨m, hF⟩ := I.fr
    obtain ⟨n1, n2⟩ := g.ow.ne c x0 hx0 kd
    show wpAny _ _ (richCompare .NotEq (.ref a) uy) _ _ _
    refine PySem.W.gx_ne (by have := g.xg.hr.units; omega) hF I.ok.mod.kin J lk (by rw [hK]; exact hnf) (by rw [hK]; exact n1) (by rw [hK]; exact n2) (by rw [hK]; exact M.at_) (by rw [hK]; exact M.fn) ?_
    refine wpAny_mono (g.run1 (g.fi c x0 mEq f hx0 hf) I (us := [.ref a, uy]) (vs := [.ref a, vy]) (.cons rfl (.cons ruy .nil)) (own_sp mt (.cons rx (.cons ry .nil)) p)) (fun w s' ⟨z', H', I', rz, z, as1, st1, k1, m1, rz2, p1⟩ => ?_) fun _ _ e => e
    obtain ⟨t, rfl, p1⟩ := asB_inv rz2 rz p1
    exact ⟨t, rfl, .bl (!t), H', I', rfl, p1.pure m1 .ofBl⟩
/-- what a call of a class's def tells, told on -/
theorem call_end {as : List G.Loc} {H : Hp} {st : Store} {f : Nat} {xs : List D} {vs : List V} {Q : VK} {E : XK} (mt : Mt Γ as st H) (r : Reps Γ as H xs vs) (p : Po Γ (Rep Γ) as H (callF T wl n f xs st) Q E) : spF Γ T wl n f vs H Q E := ⟨as, st, xs, mt, r, p⟩
theorem own2_inv {m : Nat} {x y : D} {as : List G.Loc} {H : Hp} {st : Store} {Q : VK} {E : XK} (p : Po Γ (Rep Γ) as H (own2 (ctF T wl n) m x y st) Q E) : ∃ f c x0, clsOf st x = some c ∧ T.cl c = some x0 ∧ x0.meths.lookup m = some f ∧ Po Γ (Rep Γ) as H (callF T wl n f [x, y] st) Q E := by
  obtain ⟨o, ho⟩ := methOf_run (ctF T wl n) x m st
  unfold own2 at p
  rw [bind_run, ho] at p
  cases o with
  | none => exact p.elim
  | some f =>
    obtain ⟨c, x0, hc, hx0, hf⟩ := methOf_some ho
    exact ⟨f, c, x0, hc, hx0, hf, p⟩
theorem own1_inv {m : Nat} {x : D} {as : List G.Loc} {H : Hp} {st : Store} {Q : VK} {E : XK} (p : Po Γ (Rep Γ) as H (own1 (ctF T wl n) m x st) Q E) : ∃ f c x0, clsOf st x = some c ∧ T.cl c = some x0 ∧ x0.meths.lookup m = some f ∧ Po Γ (Rep Γ) as H (callF T wl n f [x] st) Q E := by
  obtain ⟨o, ho⟩ := methOf_run (ctF T wl n) x m st
  unfold own1 at p
  rw [bind_run, ho] at p
  cases o with
  | none => exact p.elim
  | some f =>
    obtain ⟨c, x0, hc, hx0, hf⟩ := methOf_some ho
    exact ⟨f, c, x0, hc, hx0, hf, p⟩
theorem meth_inv {m : Nat} {x : D} {as : List G.Loc} {H : Hp} {st : Store} {k1 : M D} {Q : VK} {E : XK} (p : Po Γ (Rep Γ) as H ((methOf (ctF T wl n) x m >>= fun o => match o with | some _ => k1 | none => stuck) st) Q E) : (∃ f c x0, clsOf st x = some c ∧ T.cl c = some x0 ∧ x0.meths.lookup m = some f) ∧ Po Γ (Rep Γ) as H (k1 st) Q E := by
  obtain ⟨o, ho⟩ := methOf_run (ctF T wl n) x m st
  rw [bind_run, ho] at p
  cases o with
  | none => exact p.elim
  | some f =>
    obtain ⟨c, x0, hc, hx0, hf⟩ := methOf_some ho
    exact ⟨⟨f, c, x0, hc, hx0, hf⟩, p⟩
/-- a * b .. of two instances of one class, of one and an int -/
theorem own_bin {op : Operator} {m r : Nat} (hm : met.lookup (PySem.dunder op.info.2) = some m) (hmr : met.lookup (dunderR op.info.2) = some r) (ib : IntBin op) : V2 Γ X W (binaryOp op) (ownBin (ctF T wl n) m r) := fun pins s σ H as st x y vx vy ux uy Q I mt rx ry rux ruy p => by
  have hK := g.xg.hK
  obtain ⟨mm, hF⟩ := I.fr
  cases x with
  | ins c xs =>
    cases y with
    | ins d ys =>
      by_cases e : c = d
      · subst e
        replace p : Po Γ (Rep Γ) as H ((if c = c then own2 (ctF T wl n) m (.ins c xs) (.ins c ys) else stuck) st) Q (WE W σ) := p
        rw [if_pos rfl] at p
        obtain ⟨f, c', x0, hc, hx0, hf, p⟩ := own2_inv g p
        cases hc
        obtain ⟨a, dx, vs, rfl, hsl⟩ := own_at mt rx (c := c) rfl
        obtain ⟨b, dy, ws, rfl, hsl2⟩ := own_at mt ry (c := c) rfl
        cases rux
        cases ruy
        have kd := g.ow.kd c x0 m f hx0 hf
        have M := g.ow.me c x0 _ m f hx0 hm hf
        obtain ⟨sl, od, _, J, _⟩ := slt_inst I hsl
        obtain ⟨sl2, od2, _, J2, _⟩ := slt_inst I hsl2
        refine PySem.W.binop_K hF I.ok.mod.kin J J2.type (by rw [hK]; exact g.ow.fs c x0 hx0 kd) (by rw [hK]; exact M.at_) (by rw [hK]; exact M.fn) ?_
        refine wpAny_mono (g.run (g.fi c x0 m f hx0 hf) I (us := [.ref a, .ref b]) (vs := [.ref a, .ref b]) (.cons rfl (.cons rfl .nil)) (call_end g mt (.cons rx (.cons ry .nil)) p)) (fun w s' ⟨z', H', I', rz, q⟩ => cmpback rz ⟨z', H', I', rz, q⟩) fun _ _ e => e
      · replace p : Po Γ (Rep Γ) as H ((if c = d then own2 (ctF T wl n) m (.ins c xs) (.ins d ys) else stuck) st) Q (WE W σ) := p
        rw [if_neg e] at p
        exact p.elim
    | int j =>
      replace p : Po Γ (Rep Γ) as H ((methOf (ctF T wl n) (.ins c xs) r >>= fun o => match o with | some _ => own2 (ctF T wl n) m (.ins c xs) (.int j) | none => stuck) st) Q (WE W σ) := p
      obtain ⟨⟨fr, cr, xr, hcr, hxr, hfr⟩, p⟩ := meth_inv g p
      obtain ⟨f, c', x0, hc, hx0, hf, p⟩ := own2_inv g p
      cases hc
      cases hcr
      obtain ⟨a, dx, vs, rfl, hsl⟩ := own_at mt rx (c := c) rfl
      cases ry.int
      obtain ⟨t', rfl⟩ := ruy
      cases rux
      have kd := g.ow.kd c x0 m f hx0 hf
      have M := g.ow.me c x0 _ m f hx0 hm hf
      have Mr := g.ow.me c xr _ r fr hxr hmr hfr
      obtain ⟨sl, od, _, J, _⟩ := slt_inst I hsl
      obtain ⟨fo, e1⟩ := ib.h1 X.K
      obtain ⟨ro, e2⟩ := ib.h2 X.K
      refine PySem.W.ksp_binT hF I.ok.mod.kin J rfl (by rw [hK]; exact g.ow.fs c x0 hx0 kd) (by rw [hK]; exact M.at_) (by rw [hK]; exact M.fn) (by rw [hK]; exact Mr.at_) (.inr ⟨_, rfl⟩) e1 e2 (int_sub_ref _ _) ?_
      refine wpAny_mono (g.run (g.fi c x0 m f hx0 hf) I (us := [.ref a, .int j t']) (vs := [.ref a, .int j]) (.cons rfl (.cons ⟨_, rfl⟩ .nil)) (call_end g mt (.cons rx (.cons ry .nil)) p)) (fun w s' ⟨z', H', I', rz, q⟩ => cmpback rz ⟨z', H', I', rz, q⟩) fun _ _ e => e
    | _ => exact False.elim p
  | int i =>
    cases y with
    | ins d ys =>
      replace p : Po Γ (Rep Γ) as H ((methOf (ctF T wl n) (.ins d ys) m >>= fun o => match o with | some _ => own2 (ctF T wl n) r (.ins d ys) (.int i) | none => stuck) st) Q (WE W σ) := p
      obtain ⟨⟨fm, cm, xm, hcm, hxm, hfm⟩, p⟩ := meth_inv g p
      obtain ⟨f, c', x0, hc, hx0, hf, p⟩ := own2_inv g p
      cases hc
      cases hcm
      obtain ⟨a, dx, vs, rfl, hsl⟩ := own_at mt ry (c := d) rfl
      cases rx.int
      obtain ⟨t', rfl⟩ := rux
      cases ruy
      have kd := g.ow.kd d x0 r f hx0 hf
      have M := g.ow.me d x0 _ r f hx0 hmr hf
      have Mm := g.ow.me d xm _ m fm hxm hm hfm
      obtain ⟨sl, od, _, J, _⟩ := slt_inst I hsl
      refine PySem.W.gx_rbin hF I.ok.mod.kin J (by rw [hK]; exact g.ow.fs d x0 hx0 kd) (by rw [hK]; exact Mm.at_) (by rw [hK]; exact M.at_) (by rw [hK]; exact M.fn) (by rw [hK]; exact g.ow.iS d x0 hx0 kd) ib.fl ib.slot ib.entry (ib.args _ _) (ib.decl _ _ _ _ _ _) ?_
      refine wpAny_mono (g.run (g.fi d x0 r f hx0 hf) I (us := [.ref a, .int i t']) (vs := [.ref a, .int i]) (.cons rfl (.cons ⟨_, rfl⟩ .nil)) (call_end g mt (.cons ry (.cons rx .nil)) p)) (fun w s' ⟨z', H', I', rz, q⟩ => cmpback rz ⟨z', H', I', rz, q⟩) fun _ _ e => e
    | _ => exact False.elim p
  | _ => exact False.elim p
/-- a < b .. of two instances, of one and an int -/
theorem own_cmp {op : CmpOp} {m r : Nat} (hop : ∀ a b, compareOp op a b = richCompare op a b) (hm : met.lookup (cmpInfo op).2.1 = some m) (hmr : met.lookup (cmpInfo op).2.2 = some r) (ic : IntCmp op) : V2 Γ X W (compareOp op) (ownBin (ctF T wl n) m r) := fun pins s σ H as st x y vx vy ux uy Q I mt rx ry rux ruy p => by
  have hK := g.xg.hK
  obtain ⟨mm, hF⟩ := I.fr
  cases x with
  | ins c xs =>
    cases y with
    | ins d ys =>
      by_cases e : c = d
      · subst e
        replace p : Po Γ (Rep Γ) as H ((if c = c then own2 (ctF T wl n) m (.ins c xs) (.ins c ys) else stuck) st) Q (WE W σ) := p
        rw [if_pos rfl] at p
        obtain ⟨f, c', x0, hc, hx0, hf, p⟩ := own2_inv g p
        cases hc
        obtain ⟨a, dx, vs, rfl, hsl⟩ := own_at mt rx (c := c) rfl
        obtain ⟨b, dy, ws, rfl, hsl2⟩ := own_at mt ry (c := c) rfl
        cases rux
        cases ruy
        have kd := g.ow.kd c x0 m f hx0 hf
        have M := g.ow.me c x0 _ m f hx0 hm hf
        obtain ⟨sl, od, _, J, _⟩ := slt_inst I hsl
        obtain ⟨sl2, od2, _, J2, _⟩ := slt_inst I hsl2
        rw [hop]
        refine PySem.W.cmp_K (op := op) g.xg.hr.units0 hF I.ok.mod.kin J J2.type (by rw [hK]; exact g.ow.nf c x0 c x0 hx0 kd hx0) (by rw [hK]; exact M.at_) (by rw [hK]; exact M.fn) ?_
        refine wpAny_mono (g.run (g.fi c x0 m f hx0 hf) I (us := [.ref a, .ref b]) (vs := [.ref a, .ref b]) (.cons rfl (.cons rfl .nil)) (call_end g mt (.cons rx (.cons ry .nil)) p)) (fun w s' ⟨z', H', I', rz, q⟩ => cmpback rz ⟨z', H', I', rz, q⟩) fun _ _ e => e
      · replace p : Po Γ (Rep Γ) as H ((if c = d then own2 (ctF T wl n) m (.ins c xs) (.ins d ys) else stuck) st) Q (WE W σ) := p
        rw [if_neg e] at p
        exact p.elim
    | int j =>
      replace p : Po Γ (Rep Γ) as H ((methOf (ctF T wl n) (.ins c xs) r >>= fun o => match o with | some _ => own2 (ctF T wl n) m (.ins c xs) (.int j) | none => stuck) st) Q (WE W σ) := p
      obtain ⟨_, p⟩ := meth_inv g p
      obtain ⟨f, c', x0, hc, hx0, hf, p⟩ := own2_inv g p
      cases hc
      obtain ⟨a, dx, vs, rfl, hsl⟩ := own_at mt rx (c := c) rfl
      cases ry.int
      obtain ⟨t', rfl⟩ := ruy
      cases rux
      have kd := g.ow.kd c x0 m f hx0 hf
      have M := g.ow.me c x0 _ m f hx0 hm hf
      obtain ⟨sl, od, _, J, _⟩ := slt_inst I hsl
      rw [hop]
      refine PySem.W.cmp_K (op := op) (tb := .type "int") g.xg.hr.units0 hF I.ok.mod.kin J (PySem.W.Looks.of_pure rfl) (by rw [hK]; exact g.ow.nt c x0 "int" hx0 kd (by simp)) (by rw [hK]; exact M.at_) (by rw [hK]; exact M.fn) ?_
      refine wpAny_mono (g.run (g.fi c x0 m f hx0 hf) I (us := [.ref a, .int j t']) (vs := [.ref a, .int j]) (.cons rfl (.cons ⟨_, rfl⟩ .nil)) (call_end g mt (.cons rx (.cons ry .nil)) p)) (fun w s' ⟨z', H', I', rz, q⟩ => cmpback rz ⟨z', H', I', rz, q⟩) fun _ _ e => e
    | _ => exact False.elim p
  | int i =>
    cases y with
    | ins d ys =>
      replace p : Po Γ (Rep Γ) as H ((methOf (ctF T wl n) (.ins d ys) m >>= fun o => match o with | some _ => own2 (ctF T wl n) r (.ins d ys) (.int i) | none => stuck) st) Q (WE W σ) := p
      obtain ⟨_, p⟩ := meth_inv g p
      obtain ⟨f, c', x0, hc, hx0, hf, p⟩ := own2_inv g p
      cases hc
      obtain ⟨a, dx, vs, rfl, hsl⟩ := own_at mt ry (c := d) rfl
      cases rx.int
      obtain ⟨t', rfl⟩ := rux
      cases ruy
      have kd := g.ow.kd d x0 r f hx0 hf
      have M := g.ow.me d x0 _ r f hx0 hmr hf
      obtain ⟨sl, od, _, J, _⟩ := slt_inst I hsl
      rw [hop]
      refine PySem.W.gx_rcmp (op := op) g.xg.hr.units0 hF I.ok.mod.kin J (by rw [hK]; exact M.at_) (by rw [hK]; exact M.fn) (by rw [hK]; exact g.ow.iS d x0 hx0 kd) ic.slot ic.entry (ic.args _ _) (ic.decl _ _ _ _ _ _) ?_
      refine wpAny_mono (g.run (g.fi d x0 r f hx0 hf) I (us := [.ref a, .int i t']) (vs := [.ref a, .int i]) (.cons rfl (.cons ⟨_, rfl⟩ .nil)) (call_end g mt (.cons ry (.cons rx .nil)) p)) (fun w s' ⟨z', H', I', rz, q⟩ => cmpback rz ⟨z', H', I', rz, q⟩) fun _ _ e => e
    | _ => exact False.elim p
  | _ => exact False.elim p
/-- -a, ~a -/
theorem own_neg (hm : met.lookup ("__neg__" : Str) = some mNeg) : V1 Γ X W (unaryOp .USub) (fun a => match a with | .ins c xs => own1 (ctF T wl n) mNeg (.ins c xs) | _ => stuck) := fun pins s σ H as st x vx ux Q I mt rx rux p => by
  have hK := g.xg.hK
  cases x <;> try exact False.elim p
  rename_i c xs
  obtain ⟨f, c', x0, hc, hx0, hf, p⟩ := own1_inv g p
  cases hc
  obtain ⟨a, dx, vs, rfl, hsl⟩ := own_at mt rx (c := c) rfl
  cases rux
  have M := g.ow.me c x0 _ mNeg f hx0 hm hf
  obtain ⟨sl, od, _, J, _⟩ := slt_inst I hsl
  obtain ⟨mm, hF⟩ := I.fr
  exact PySem.W.ksp_neg hF I.ok.mod.kin J (by rw [hK]; exact M.at_) (by rw [hK]; exact M.fn) (g.run (g.fi c x0 mNeg f hx0 hf) I (us := [.ref a]) (vs := [.ref a]) (.cons rfl .nil) (call_end g mt (.cons rx .nil) p))
theorem own_inv (hm : met.lookup ("__invert__" : Str) = some mInv) : V1 Γ X W (unaryOp .Invert) (invD (ctF T wl n)) := fun pins s σ H as st x vx ux Q I mt rx rux p => by
  have hK := g.xg.hK
  cases x <;> try exact False.elim p
  rename_i c xs
  obtain ⟨f, c', x0, hc, hx0, hf, p⟩ := own1_inv g p
  cases hc
  obtain ⟨a, dx, vs, rfl, hsl⟩ := own_at mt rx (c := c) rfl
  cases rux
  have M := g.ow.me c x0 _ mInv f hx0 hm hf
  obtain ⟨sl, od, _, J, _⟩ := slt_inst I hsl
  obtain ⟨mm, hF⟩ := I.fr
  exact PySem.W.ksp_inv hF I.ok.mod.kin J (by rw [hK]; exact M.at_) (by rw [hK]; exact M.fn) (g.run (g.fi c x0 mInv f hx0 hf) I (us := [.ref a]) (vs := [.ref a]) (.cons rfl .nil) (call_end g mt (.cons rx .nil) p))
end
end
end G
set_option Elab.async false
set_option linter.all false
set_option maxRecDepth 100000
set_option maxHeartbeats 4000000
/-! GA8: repr of a tuple that holds an instance. -/
namespace G
open PySem PySem.Spec PyProof.Rows L2 SlX
abbrev tupCode (a : Addr) : Code := .builtin "tuple.__repr__" ⟨[.ref a], []⟩
theorem tup_depth {A : Around} {a : Addr} : (A.under (tupCode a)).depth ≤ A.depth + 3 := by
  simp [Around.under, Code.weight, Code.isCreation, Code.isGuard, Code.isCaller, Code.frames, Code.isFrame, guardIds]
theorem Room.tup {k : Nat} {A : Around} (r : Room (k + 1) A) (a : Addr) : Room k (A.under (tupCode a)) :=
  ⟨r.hd, by have := r.dp; have := tup_depth (A := A) (a := a); omega, by have := r.un; have e := units_under_tuple_repr A ⟨[.ref a], []⟩; rw [e]; omega⟩
theorem env0_tup {P : Program} {w : World} {K : PySem.W.Frag} {mg : Str → Option Value} {base : Heap} {A : Around} {outer : List PySem.Env} {s : Shared} {H : Hp} (e : Env0 P w K mg base A outer s H) (a : Addr) :
    Env0 P w K mg base (A.under (tupCode a)) outer s H := ⟨by first | exact e.frames | (simpa [Around.under, Code.envs, Code.isFrame, pushEnvs] using e.frames), e.mod, e.bs, e.bsz, e.funs, e.frf, e.hok, e.bare⟩
section
variable {prog : Program} {w : World} {A : Around} {E : Value → Shared → Prop} {s : Shared}
theorem under_int {a : Int} {t : Tok} {m : Nat} {Q : Str → Shared → Prop} (hm : m ≤ sizeLine) (hu : A.units < cLine) (hn : s.heap.NoDigits) (hb : a.natAbs.log2 < 9000) (h : Q (toString a) { s with toks := s.toks + 1 }) : wpAny (model prog w) A (pyReprUnder m (.int a t)) Q E s := by
  rw [pyReprUnder_leaf (v := .int a t) hm (fun _ e => nomatch e)]
  unfold pyRepr
  exact wpAny_bind (pyReprObj_intG hu hn hb (wpAny_pure h))
theorem under_own {h₀ : Heap} {L} {K : PySem.W.Frag} {m} {n : Nat} {x C f : Addr} {ox : Obj} {od} {Q : Str → Shared → Prop} (hn : n ≤ sizeLine) (hu : A.units < cLine) (F : Fr h₀ L s.heap m) (X₀ : K.In h₀) (I : PySem.W.InstAt s.heap x ox C od)
    (hs : PySem.W.findIn K (.ref C) "__repr__" = some (some (.ref f))) (hf : PySem.W.isFn K (.ref f) = true)
    (h : wpAny (model prog w) A (call (.ref f) [.ref x]) (fun v s' => ∃ y u, v = .str y u ∧ Q y s') E s) : wpAny (model prog w) A (pyReprUnder n (.ref x)) Q E s := by
  refine wpAny_pyReprUnder_ref hn ?_
  unfold pyReprObjUnder pyReprObjBy
  refine wpAny_bind (wpAny_cRoomFor hu ?_)
  refine wpAny_bind (wpAny_bind (I.type.here ((PySem.W.looks_findIn (X₀.keeps F.keep) hs).here ?_)))
  show wpAny _ _ (if (some (Value.ref f)).isNone = true then _ else _) _ _ _
  rw [if_neg (by simp)]
  refine wpAny_bind ?_
  simp only [callSpecialIfBoundBy?, bindSpecialIfBound?]
  refine wpAny_holding (wpAny_bind (wpAny_bind (wpAny_bind (I.type.here ((PySem.W.looks_findIn (X₀.keeps F.keep) hs).here ?_)))))
  refine wpAny_bind (wpAny_askSetting (wpAny_ite ?_))
  have fin : wpAny (model prog w) A (call (.ref f) ([.ref x] ++ []) >>= fun v => pure (some v)) (fun r s' => wpAny (model prog w) A (match r with
      | some r => do if ← isInstance r (.type "str") then pure r else raiseError "TypeError" s!"__repr__ returned non-string (type {← typeNameOf r})"
      | none => unsupported "repr:special-get-raises") (fun v s' => ∃ y u, v = .str y u ∧ Q y s') E s') E s :=
    wpAny_bind (wpAny_mono h (fun v s' h' => wpAny_pure (by
      obtain ⟨y, u, rfl, q⟩ := h'
      exact wpAny_bind (wpAny_isInstance (T := "str") (b := true) rfl isSubtype_str_str (wpAny_pure ⟨_, _, rfl, q⟩)))) fun _ _ h' => h')
  split
  · exact wpAny_bind ((PySem.W.bind_fn (X₀.keeps F.keep) _ (beq_iff_eq.mp hf)).here (wpAny_pure (by exact fin)))
  · exact wpAny_tryCatch (wpAny_bind ((PySem.W.bind_fn (X₀.keeps F.keep) _ (beq_iff_eq.mp hf)).here (wpAny_pure (by exact fin))))
end
def rlE (α : Type) : Rl α α := fun _ _ a b => a = b
section
variable {Γ : Gx} {X : Cx} {W : WX} {k n : Nat} {T : Tab} {wl : Nat} {met att : List (Str × Nat)} {A : Around}
variable (g : GM Γ X W T wl n k met att) (hT : T.rp = true) (hm : met.lookup ("__repr__" : Str) = some mRepr) (hr : Room (6 * n) A) (hE : ∀ (s : Shared) (H : Hp), Env0 X.prog X.w X.K X.mg X.base X.A X.stack s H → Env0 X.prog X.w X.K X.mg X.base A X.stack s H)
include g hT hm hr hE
theorem tup_item {pins : List (Addr × Obj)} {s : Shared} {σ : L2.St} {H : Hp} {as : List G.Loc} {st : Store} {d : D} {v : V} {u : Value} {Q : Str → Hp → Prop} {m : Nat} (hmz : m ≤ sizeLine) (I : Inv X pins σ H s) (mt : Mt Γ as st H) (rd : Rep Γ as H d v) (ru : RelV v u)
    (p : Po Γ (rlE Str) as H (reprI (ctF T wl n) d st) Q (WE W σ)) : wpAny (model X.prog X.w) A (pyReprUnder m u) (fun t s' => ∃ H', Inv X pins σ H' s' ∧ Q t H') X.xe s := by
  have hK := g.xg.hK
  have own : reprI (ctF T wl n) d = reprOw (ctF T wl n) d → wpAny (model X.prog X.w) A (pyReprUnder m u) (fun t s' => ∃ H', Inv X pins σ H' s' ∧ Q t H') X.xe s := fun hd => by
    rw [hd] at p
    obtain ⟨o, ho⟩ := methOf_run (ctF T wl n) d mRepr st
    have e1 : reprOw (ctF T wl n) d st = (match o with
      | some f => (callF T.t0 wl n f [d] >>= fun z => (match z with | .str y => pure y | _ => stuck) : M Str)
      | none => stuck) st := by
      unfold reprOw
      rw [bind_run, ho] <;> cases o with
      | none => rfl
      | some f =>
        show (callF T.t0 wl n f [d] >>= _) st = (callF T.t0 wl n f [d] >>= _) st
        congr 1
    rw [e1] at p
    cases o with
    | none => exact p.elim
    | some f =>
      obtain ⟨c, x0, hc, hx0, hf⟩ := methOf_some ho
      obtain ⟨a, dx, vs, rfl, hsl⟩ := own_at mt rd hc
      cases ru
      have Me := g.ow.me c x0 _ mRepr f hx0 hm hf
      obtain ⟨sl, od, _, J, _⟩ := slt_inst I hsl
      obtain ⟨mm, hF⟩ := I.fr
      refine under_own hmz hr.units0 hF I.ok.mod.kin J (by rw [hK]; exact Me.at_) (by rw [hK]; exact Me.fn) ?_
      have sp : spF Γ T.t0 wl n f [.ref a] H (fun v H1 => ∃ z as1 st1, Kp as H as1 H1 ∧ Mt Γ as1 st1 H1 ∧ Rep Γ as1 H1 z v ∧ Po Γ (rlE Str) as1 H1 ((match z with | .str y => pure y | _ => stuck : M Str) st1) Q (WE W σ)) (WE W σ) :=
        ⟨as, st, [d], mt, .cons rd .nil, (Po.bind (rl' := Rep Γ) p).imp (fun v H1 ⟨z, as1, st1, k1, m1, rz, p1⟩ => ⟨z, as1, st1, k1, m1, rz, p1⟩) fun _ _ _ h => h⟩
      refine wpAny_mono (run_GA (E := WE W) (g.fo0 hT f) hr (fun h => by cases h) (hE _ _ I.env0) (by rw [hK]; exact (g.fi c x0 mRepr f hx0 hf).bd) (passAt g.xg.tk σ) I (us := [.ref a]) (vs := [.ref a]) (.cons rfl .nil) sp) (fun w s' ⟨z', H', I', rz, z, as1, st1, k1, m1, rz2, p1⟩ => ?_) fun _ _ e => e
      cases z <;> try exact False.elim p1
      rename_i y
      cases rz2.str
      obtain ⟨t, rfl⟩ := rz
      exact ⟨y, t, rfl, H', I', p1.pure m1 rfl⟩
  cases d with
  | int i =>
    obtain ⟨rfl⟩ := rd.int
    obtain ⟨t, rfl⟩ := ru
    replace p : Po Γ (rlE Str) as H ((need (decide (i.natAbs.log2 < 9000)) >>= fun _ => (pure (Str.ofString (toString i)) : M Str)) st) Q (WE W σ) := p
    by_cases hb : i.natAbs.log2 < 9000
    · rw [decide_eq_true hb] at p
      exact under_int hmz hr.units0 (Inv.nodigits g.xg I) hb ⟨H, I.tok _, Po.pure p mt rfl⟩
    · rw [decide_eq_false hb] at p
      exact p.elim
  | _ => exact own rfl
theorem tup_fold {pins : List (Addr × Obj)} {σ : L2.St} : ∀ (ds : List D) (us : List Value) (vs : List V) (acc : Array Str) (m : Nat) (s : Shared) (H : Hp) (as : List G.Loc) (st : Store) (Q : List Str → Hp → Prop) (R : (Array Str × Nat) → Shared → Prop), Inv X pins σ H s → Mt Γ as st H → Reps Γ as H ds vs → Vals vs us →
    Po Γ (rlE (List Str)) as H (reprIs (ctF T wl n) m ds st) Q (WE W σ) → (∀ ts s' H', ts.length = ds.length → Inv X pins σ H' s' → Q ts H' → R ⟨acc ++ ts.toArray, m + piled ts⟩ s') → wpAny (model X.prog X.w) A (forIn us (⟨acc, m⟩ : (Array Str × Nat)) tupBody) R X.xe s
  | [], us, vs, acc, m, s, H, as, st, Q, R, I, mt, rd, rv, p, h => by
    unfold Reps at rd
    subst rd
    cases rv
    simp only [List.forIn_nil]
    have := h [] s H rfl I (Po.pure p mt rfl)
    exact wpAny_pure (by simpa [piled] using this)
  | d :: ds, us, vs, acc, m, s, H, as, st, Q, R, I, mt, rd, rv, p, h => by
    obtain ⟨v, r, rfl, rd1, rd2⟩ := rd.inv
    cases rv with
    | cons ru rus =>
    rename_i u us'
    replace p : Po Γ (rlE (List Str)) as H ((need (Nat.blt m line) >>= fun _ => reprI (ctF T wl n) d >>= fun x => reprIs (ctF T wl n) (m + (x.length + 2)) ds >>= fun r => pure (x :: r)) st) Q (WE W σ) := p
    cases hz : Nat.blt m line with
    | false => rw [hz] at p; exact p.elim
    | true =>
    rw [hz] at p
    replace p : Po Γ (rlE (List Str)) as H ((reprI (ctF T wl n) d >>= fun x => reprIs (ctF T wl n) (m + (x.length + 2)) ds >>= fun r => pure (x :: r)) st) Q (WE W σ) := p
    have hz' : m + 1 ≤ sizeLine := Nat.blt_eq.mp hz
    rw [List.forIn_cons]
    refine wpAny_bind (wpAny_bind (wpAny_mono (tup_item g hT hm hr hE hz' I mt rd1 ru (Po.bind (rl' := rlE Str) p)) (fun t s1 ⟨H1, I1, x, as1, st1, k1, m1, ex, p1⟩ => wpAny_pure ?_) fun _ _ e => e))
    cases ex
    refine tup_fold ds us' r (acc.push t) (m + (t.length + 2)) s1 H1 as1 st1 _ R I1 m1 (rd2.mono k1) rus (Po.bind (rl' := rlE (List Str)) p1) fun ts s' H' hl I' ⟨ts', as2, st2, k2, m2, e2, p2⟩ => ?_
    cases e2
    have := h (t :: ts) s' H' (by rw [List.length_cons, hl, List.length_cons]) I' (Po.pure p2 m2 rfl)
    rw [piled_cons] at this
    have e : m + (t.length + 2 + piled ts) = m + (t.length + 2) + piled ts := by omega
    rw [e] at this
    simpa using this
end
section
variable {Γ : Gx} {X : Cx} {W : WX} {k n : Nat} {T : Tab} {wl : Nat} {met att : List (Str × Nat)}
/-- repr of a tuple that holds an instance -/
theorem tup_repr (g : GM Γ X W T wl n k met att) (hT : T.rp = true) (hm : met.lookup ("__repr__" : Str) = some mRepr) {pins : List (Addr × Obj)} {s : Shared} {σ : L2.St} {H : Hp} {as : List G.Loc} {st : Store} {xs : List D} {v : V} {u : Value} {Q : VK}
    (I : Inv X pins σ H s) (mt : Mt Γ as st H) (rd : Rep Γ as H (.tup xs) v) (ru : RelV v u) (p : Po Γ (Rep Γ) as H (reprT (ctF T wl n) xs st) Q (WE W σ)) : wpAny (model X.prog X.w) X.A (call (.builtin "repr") [u]) (EP X pins σ Q) X.xe s := by
  obtain ⟨a, vs, rfl, t1, r1⟩ := rd.tup
  cases ru
  obtain ⟨its, rv, ⟨o, ho, hc, m, hd⟩, _⟩ := I.tuple (SqT_of g.xg.hK t1)
  have gd : X.A.guards = some [] := g.xg.gd (g.rpe hT)
  have hu := g.xg.hr.units
  have hr2 : Room (6 * n) (X.A.in1.under (tupCode a)) := Room.tup (Room.in1 (g.xg.hr.mono (show 6 * n + 1 + 1 ≤ k by have := g.hn; omega))) a
  replace p : Po Γ (Rep Γ) as H ((reprIs (ctF T wl n) 0 xs >>= fun ts => need (Nat.ble (PySem.tupleText ts).length line) >>= fun _ => pure (.str (PySem.tupleText ts))) st) Q (WE W σ) := p
  refine call_repr_slot (T := "tuple") (by omega) ⟨o, ho, hc⟩ F.slot_tuple_repr ?_
  refine wpAny_call (codeAny_call_builtin_own (Code.quiet_builtin _ (by decide +kernel)) F.entry_tuple_repr (F.slot_tuple_repr.check _ _ _ _ _ _ _ _ ⟨o, ho, hc⟩ (F.args_tuple_repr_1 _) ?_))
  show wpOwn (model X.prog X.w) X.A.in1 (tupCode a) (Builtin.tupleReprAt 0 ⟨[.ref a], []⟩) _ _ s
  rw [tuple_repr_tree, tupleReprUnderWay_eq]
  refine wpOwn_bind (wpOwn_stackTailAny (show X.A.in1.guards = some [] from gd) (tupGuardF_off _) (tupGuardF_pos _) ?_)
  refine wpOwn_of_wpAny ?_
  show wpAny _ _ (tupleReprRest 0 (.ref a)) _ _ s
  unfold tupleReprRest Builtin.Tuple.tupleItemsOf
  refine wpAny_bind (wpAny_bind (wpAny_seqItems ho hd (wpAny_pure ?_)))
  rw [← Array.forIn_toList]
  refine wpAny_bind (tup_fold g hT hm hr2 (fun s H e => env0_tup (e.in1) a) xs its vs #[] 0 s H as st _ _ I mt r1 rv (Po.bind (rl' := rlE (List Str)) p) fun ts s' H' hl I' ⟨ts', as2, st2, k2, m2, e2, p2⟩ => ?_)
  cases e2
  replace p2 : Po Γ (Rep Γ) as2 H' ((need (Nat.ble (PySem.tupleText ts).length line) >>= fun _ => (pure (.str (PySem.tupleText ts)) : M D)) st2) Q (WE W σ) := p2
  cases hz : Nat.ble (PySem.tupleText ts).length line with
  | false => rw [hz] at p2; exact p2.elim
  | true =>
  rw [hz] at p2
  have hsz : (PySem.tupleText ts).length ≤ sizeLine := Nat.ble_eq.mp hz
  have hlen : ts.length = its.length := by rw [hl, ← rv.length, r1.len]
  have q := Po.pure p2 m2 .ofStr
  refine wpAny_bind (wpAny_mkStr (wpAny_pure ?_) (by simpa [tupleText, hlen] using hsz))
  have fin : EP X pins σ Q (.str (tupleText ts) s'.toks) { s' with toks := s'.toks + 1 } := ⟨.str _, H', I'.tok _, ⟨_, rfl⟩, q⟩
  simpa [tupleText, hlen] using fin
end
end G
set_option Elab.async false
set_option linter.all false
set_option maxRecDepth 100000
set_option maxHeartbeats 4000000
/-! GA4: instances with slots: made, read, stored; their methods; repr. -/
namespace G
open PySem PySem.Spec PyProof.Rows L2 SlX
section
variable {Γ : Gx} {as as1 : List G.Loc} {H H1 : Hp}
/-- a new object of the store, of two addresses -/
theorem kp_new2 {st : Store} (m : Mt Γ as st H) {a dx : Addr} {o1 o2 : HO} (ha : H a = none) (hd : H dx = none) : Kp as H (as ++ [(a, dx)]) (upd (upd H dx o1) a o2) :=
  ⟨⟨[(a, dx)], rfl, fun q hq => by
    simp only [List.mem_singleton] at hq
    subst hq
    exact ⟨⟨ha, hd⟩, m.ninn ha, m.ninn hd⟩⟩, fun b u h _ _ => by rw [upd_ne (ne_of_none h ha), upd_ne (ne_of_none h hd)]; exact h, fun b ps h => ⟨ps, by rw [upd_ne (ne_of_none h ha), upd_ne (ne_of_none h hd)]; exact h⟩⟩
theorem mt_new2 {st : Store} (m : Mt Γ as st H) {a dx : Addr} {o1 o2 : HO} {o : O} (ha : H a = none) (hd : H dx = none) (hne : dx ≠ a) (ho : ∀ ps, o1 ≠ .tbl ps) (r : ORep Γ (as ++ [(a, dx)]) (upd (upd H dx o1) a o2) (a, dx) o) : Mt Γ (as ++ [(a, dx)]) (st ++ [o]) (upd (upd H dx o1) a o2) := by
  have ln := m.len
  refine ⟨by simp [ln], fun i j p q h1 h2 ne => ?_, fun i x q h1 h2 => ?_, m.tab.step (kp_new2 m ha hd) (fun b ps h => ?_) fun b ps h => by rw [upd_ne (ne_of_none h ha), upd_ne (ne_of_none h hd)]; exact h⟩
  rotate_left 2
  · by_cases e1 : b = a
    · subst e1
      exact absurd h (r.nt ps)
    · rw [upd_ne e1] at h
      by_cases e2 : b = dx
      · subst e2
        rw [upd_same] at h
        exact absurd (Option.some.inj h) (ho ps)
      · rwa [upd_ne e2] at h
  · have key : ∀ {i : Nat} {p : G.Loc}, as[i]? = some p → (p.1 ≠ a ∧ p.2 ≠ a) ∧ (p.1 ≠ dx ∧ p.2 ≠ dx) := fun {i p} h => by
      obtain ⟨o, _, z⟩ := m.at_ h
      obtain ⟨⟨x, hx⟩, ⟨y, hy⟩⟩ := z.there
      exact ⟨⟨ne_of_none hx ha, ne_of_none hy ha⟩, ⟨ne_of_none hx hd, ne_of_none hy hd⟩⟩
    rw [List.getElem?_append] at h1 h2
    split at h1
    · split at h2
      · exact m.apart i j p q h1 h2 ne
      · rw [List.getElem?_singleton] at h2
        split at h2
        · cases h2
          obtain ⟨⟨z1, z2⟩, z3, z4⟩ := key h1
          exact ⟨z1, z3, z2, z4⟩
        · cases h2
    · rw [List.getElem?_singleton] at h1
      split at h1
      · cases h1
        split at h2
        · obtain ⟨⟨z1, z2⟩, z3, z4⟩ := key h2
          exact ⟨z1.symm, z2.symm, z3.symm, z4.symm⟩
        · rw [List.getElem?_singleton] at h2
          split at h2
          · omega
          · cases h2
      · cases h1
  · rw [List.getElem?_append] at h1 h2
    split at h2
    · rw [if_pos (by omega)] at h1
      exact (m.obj i x q h1 h2).mono (kp_new2 m ha hd) (fun u e => by rw [upd_ne (ne_of_none e ha), upd_ne (ne_of_none e hd)]; exact e) fun u e => by rw [upd_ne (ne_of_none e ha), upd_ne (ne_of_none e hd)]; exact e
    · rw [if_neg (by omega)] at h1
      rw [List.getElem?_singleton] at h1 h2
      split at h2
      · cases h2
        rw [if_pos (by omega)] at h1
        cases h1
        exact r
      · cases h2
/-- an instance is changed -/
theorem kp_upd2 {st : Store} (m : Mt Γ as st H) {n : Nat} {p : G.Loc} {o1 o2 : HO} (hp : as[n]? = some p) : Kp as H as (upd (upd H p.2 o1) p.1 o2) :=
  ⟨⟨[], by simp, fun p hp => absurd hp (by simp)⟩, fun b u h nb _ => by rw [upd_ne fun z => nb ⟨p, List.mem_of_getElem? hp, .inl z⟩, upd_ne fun z => nb ⟨p, List.mem_of_getElem? hp, .inr z⟩]; exact h, fun b ps h => ⟨ps, by rw [upd_ne fun z => m.tab.free h ⟨p, List.mem_of_getElem? hp, .inl z⟩, upd_ne fun z => m.tab.free h ⟨p, List.mem_of_getElem? hp, .inr z⟩]; exact h⟩⟩
theorem mt_upd2 {st : Store} (m : Mt Γ as st H) {n : Nat} {p : G.Loc} {o1 o2 : HO} {o : O} (hp : as[n]? = some p) (ho : ∀ ps, o1 ≠ .tbl ps) (r : ORep Γ as (upd (upd H p.2 o1) p.1 o2) p o) : Mt Γ as (st.set n o) (upd (upd H p.2 o1) p.1 o2) := by
  refine ⟨by rw [List.length_set]; exact m.len, m.apart, fun i x q h1 h2 => ?_, m.tab.step (kp_upd2 m hp) (fun b ps h => ?_) fun b ps h => by rw [upd_ne fun z => m.tab.free h ⟨p, List.mem_of_getElem? hp, .inl z⟩, upd_ne fun z => m.tab.free h ⟨p, List.mem_of_getElem? hp, .inr z⟩]; exact h⟩
  rotate_left
  · by_cases e1 : b = p.1
    · subst e1
      exact absurd h (r.nt ps)
    · rw [upd_ne e1] at h
      by_cases e2 : b = p.2
      · subst e2
        rw [upd_same] at h
        exact absurd (Option.some.inj h) (ho ps)
      · rwa [upd_ne e2] at h
  by_cases e : i = n
  · subst e
    rw [hp] at h2
    cases h2
    have hl : i < st.length := by rw [← m.len]; exact (List.getElem?_eq_some_iff.mp hp).1
    rw [List.getElem?_set_self hl] at h1
    cases h1
    exact r
  · rw [List.getElem?_set_ne (Ne.symm e)] at h1
    obtain ⟨a1, a2, a3, a4⟩ := m.apart i n q p h2 hp e
    exact (m.obj i x q h1 h2).mono (kp_upd2 m hp) (fun u z => by rw [upd_ne a1, upd_ne a2]; exact z) fun u z => by rw [upd_ne a3, upd_ne a4]; exact z
end
section
variable {Γ : Gx} {X : Cx} {W : WX} {k n : Nat} {T : Tab} {wl : Nat} {met att : List (Str × Nat)}
variable (g : GM Γ X W T wl n k met att)
include g
theorem own_repr (hm : met.lookup ("__repr__" : Str) = some mRepr) : VC Γ X W (fun us => call (.builtin "repr") us) (prim (ctF T wl n) .repr) := fun pins s σ H as st xs vs us Q I mt rx rv p => by
  have hK := g.xg.hK
  rcases xs with _ | ⟨x, _ | ⟨y, r⟩⟩ <;> try exact False.elim p
  obtain ⟨v, rfl, r1⟩ := rx.one
  obtain ⟨u, rfl, ru⟩ := vals1 rv
  obtain ⟨o, ho⟩ := methOf_run (ctF T wl n) x mRepr st
  replace p : Po Γ (Rep Γ) as H (reprO (ctF T wl n) x st) Q (WE W σ) := p
  have e1 : reprO (ctF T wl n) x st = (match o with
    | some f => (callF T wl n f [x] >>= fun z => (match z with | .str y => pure (.str y) | _ => stuck) : M D)
    | none => reprN (ctF T wl n) x) st := by
    unfold reprO
    rw [bind_run, ho] <;> cases o with
    | none => rfl
    | some f =>
      show (callF T wl n f [x] >>= _) st = (callF T wl n f [x] >>= _) st
      congr 1
  rw [e1] at p
  cases o with
  | none =>
    replace p : Po Γ (Rep Γ) as H (reprN (ctF T wl n) x st) Q (WE W σ) := p
    unfold reprN at p
    cases hT : T.rp with
    | false => rw [show (ctF T wl n).T.rp = false from hT] at p; exact p.elim
    | true =>
    rw [show (ctF T wl n).T.rp = true from hT] at p
    have old : Po Γ (Rep Γ) as H (reprD x st) Q (WE W σ) → wpAny (model X.prog X.w) X.A (call (.builtin "repr") [u]) (EP X pins σ Q) X.xe s := fun p => vc_repr0 g.xg (g.rpe hT) pins s σ H as st [x] [v] [u] Q I mt (.cons r1 .nil) (.cons ru .nil) p
    cases x with
    | tup xs =>
      simp only at p
      split at p
      · exact old p
      · exact tup_repr g hT hm I mt r1 ru p
    | _ => exact old p
  | some f =>
    obtain ⟨c, x0, hc, hx0, hf⟩ := methOf_some ho
    obtain ⟨a, dx, vs, rfl, hsl⟩ := own_at mt r1 hc
    cases ru
    have M := g.ow.me c x0 _ mRepr f hx0 hm hf
    obtain ⟨sl, od, _, J, _⟩ := slt_inst I hsl
    obtain ⟨mm, hF⟩ := I.fr
    refine PySem.W.repr_K (by have := g.xg.hr.units; show X.A.units + 1 < cLine; omega) hF I.ok.mod.kin J (by rw [hK]; exact M.at_) (by rw [hK]; exact M.fn) ?_
    refine wpAny_mono (g.run1 (g.fi c x0 mRepr f hx0 hf) I (us := [.ref a]) (vs := [.ref a]) (.cons rfl .nil) (own_sp mt (.cons r1 .nil) p)) (fun w s' ⟨z', H', I', rz, z, as1, st1, k1, m1, rz2, p1⟩ => ?_) fun _ _ e => e
    cases z <;> try exact False.elim p1
    rename_i y
    cases rz2.str
    obtain ⟨t, rfl⟩ := rz
    exact ⟨.str y, H', I', ⟨t, rfl⟩, p1.pure m1 .ofStr⟩
/-- o.f of an instance or an error -/
theorem own_att {nm : Str} {at_ : Nat} (ha : att.lookup nm = some at_) (hv : at_ = aValue → nm = "value") (kx : ∀ c x, T.cl c = some x → x.kind = .exc → x.slots = [] ∧ x.props = []) : V1 Γ X W (fun u => getAttr u nm true) (attD (ctF T wl n) at_) := fun pins s σ H as st y vy uy Q I mt ry ruy p => by
  have hK := g.xg.hK
  have exc : ∀ c v, y = .exc c v → wpAny (model X.prog X.w) X.A (getAttr uy nm true) (EP X pins σ Q) X.xe s := fun c v ey => by
    subst ey
    replace p : Po Γ (Rep Γ) as H ((match T.cl c with | some k => if at_ == aValue && k.kind == .exc then pure v else stuck | none => stuck : M D) st) Q (WE W σ) := p
    cases e2 : T.cl c with
    | none => rw [e2] at p; exact p.elim
    | some kk =>
      rw [e2] at p
      simp only at p
      by_cases hc : (at_ == aValue && kk.kind == .exc) = true
      · rw [if_pos hc] at p
        rw [Bool.and_eq_true] at hc
        have e3 : kk.kind = .exc := eq_of_beq hc.2
        rw [hv (eq_of_beq hc.1)]
        exact att_exc hK (g.cf.exA c kk e2 e3) I mt ry ruy p
      · rw [if_neg hc] at p
        exact p.elim
  have rest : isExc y = false → wpAny (model X.prog X.w) X.A (getAttr uy nm true) (EP X pins σ Q) X.xe s := fun hx => by
    have key : Po Γ (Rep Γ) as H (match clsOf st y with
      | none => .stuck
      | some c => match T.cl c with
        | none => .stuck
        | some k => match idxOf at_ k.slots with
          | some i => match y with
            | .ins _ fs => ofO fs[i]? st
            | .obj n => match st[n]? with
              | some (.sl _ fs) => match fs[i]? with
                | some (some v) => .ok v st
                | _ => .stuck
              | _ => .stuck
            | _ => .stuck
          | none => match k.props.lookup at_ with
            | some f => noExc (callF T wl n f [y]) st
            | none => match y with
              | .obj n => match st[n]? with
                | some (.ins _ fs) => ofO (fs.lookup at_) st
                | _ => .stuck
              | _ => .stuck) Q (WE W σ) := by
      cases y <;> first | exact p | cases hx
    cases e : clsOf st y with
    | none => rw [e] at key; exact key.elim
    | some c =>
      rw [e] at key
      simp only at key
      cases e2 : T.cl c with
      | none => rw [e2] at key; exact key.elim
      | some x0 =>
        rw [e2] at key
        simp only at key
        cases e3 : idxOf at_ x0.slots with
        | some i =>
          rw [e3] at key
          simp only at key
          have kd := g.ow.ks c x0 at_ i e2 e3
          obtain ⟨sc, _⟩ := g.cf.slA c x0 e2 kd
          obtain ⟨pp, t⟩ := g.ow.sl c x0 nm at_ i e2 ha e3
          rw [← hK] at sc t
          cases y <;> simp only at key <;> try exact key.elim
          · rename_i m
            cases eo : st[m]? with
            | none => rw [eo] at key; exact key.elim
            | some o =>
              rw [eo] at key
              cases o <;> simp only at key <;> try exact key.elim
              rename_i c' fs
              have ec : c' = c := by
                simp only [clsOf, eo] at e
                cases e
                rfl
              subst ec
              cases ef : fs[i]? with
              | none => rw [ef] at key; exact key.elim
              | some q =>
                cases q with
                | none => rw [ef] at key; exact key.elim
                | some d =>
                  rw [ef] at key
                  obtain ⟨pl, hp, ro⟩ := mt.loc eo
                  obtain ⟨_, _, vs, hs, r⟩ := ro
                  obtain ⟨v, h1, h2⟩ := r i d ef
                  have ev := rep_obj_eq ry hp
                  subst ev
                  cases ruy
                  exact getslot_ok I hs sc t h1 fun u' s2 I2 ru => ⟨v, H, I2, ru, Po.ok key mt h2⟩
          · rename_i c' fs
            have ec : c' = c := by
              simp only [clsOf] at e
              cases e
              rfl
            subst ec
            unfold Rep at ry
            obtain ⟨a, dx, vs, ws, rfl, _, _, hs, _, rr, hw⟩ := ry
            cases ef : fs[i]? with
            | none => rw [ef] at key; exact key.elim
            | some d =>
              rw [ef] at key
              obtain ⟨v, h1, h2⟩ := rr.get ef
              cases ruy
              exact getslot_ok I hs sc t (hw i v h1) fun u' s2 I2 ru => ⟨v, H, I2, ru, Po.ok key mt h2⟩
        | none =>
          rw [e3] at key
          simp only at key
          cases e4 : x0.props.lookup at_ with
          | some f =>
            rw [e4] at key
            simp only at key
            obtain ⟨a, dx, vs, rfl, hsl⟩ := own_at mt ry e
            cases ruy
            have kd := g.ow.kp c x0 at_ f e2 e4
            obtain ⟨sc, _⟩ := g.cf.slA c x0 e2 kd
            obtain ⟨pp, b1, b2, b3, rst, b4⟩ := (g.ow.pr c x0 nm at_ f e2 ha e3 e4).ex
            rw [← hK] at sc b1 b2 b3 b4
            obtain ⟨sl, od, _, J, _⟩ := slt_inst I hsl
            have I1 : Inv X pins σ H { s with toks := s.toks + 1 } := I.tok (s.toks + 1)
            have fi := g.fp c x0 at_ f e2 e4
            refine PySem.W.get_bind I.kIn J (PySem.W.plainGet_of (sc.get nm)).1 (PySem.W.findObj_data sc.ic b1 b2 b3) (PySem.W.plainGet_of (sc.get nm)).2 (wpAny_call (PySem.W.prop_get (s := { s with toks := s.toks + 1 }) I.kIn b4 ?_))
            have key2 : Po Γ (Rep Γ) as H (callF T wl n f [y] st) Q (fun _ _ _ => False) := by
              unfold noExc at key
              cases ec : callF T wl n f [y] st with
              | ok d s1 => rw [ec] at key; exact key
              | exc c v s1 => rw [ec] at key; exact key.elim
              | stuck => rw [ec] at key; exact key.elim
            have hl := (g.fo f).len [.ref a] H Q (fun _ _ _ => False) ⟨as, st, [y], mt, .cons ry .nil, key2⟩
            have bd := fi.bd
            rw [← hK] at bd
            have hb' := bd { s with toks := s.toks + 1 } [.ref a] I.kIn (by rw [List.append_nil]; exact hl)
            rw [List.append_nil] at hb'
            refine codeAny_mono ((g.fo f).run X.A.in1 X.stack { s with toks := s.toks + 1 } H ⟨[.ref a], []⟩ [.ref a] [.ref a] Q (fun _ _ _ => False) ((g.xg.hr.mono (show 6 * n + 1 ≤ k by have := g.hn; omega)).in1) g.xg.gd I1.env0.in1 hb' (.cons rfl .nil) ⟨as, st, [y], mt, .cons ry .nil, key2⟩) fun r s' hq => ?_
            cases r with
            | error e =>
              obtain ⟨_, _, _, _, _, _, _, _, _, _, _, _, z⟩ := hq
              exact z.elim
            | ok fl =>
              cases fl with
              | ret u =>
                obtain ⟨v, H', I2, rv, q⟩ := I1.after hq
                exact wpAny_of_eq (PySem.W.handedOut_of (handed_of rv)) ⟨v, H', I2, rv, q⟩
              | next => exact False.elim hq
              | brk => exact False.elim hq
              | cont => exact False.elim hq
          | none =>
            rw [e4] at key
            simp only at key
            cases y <;> simp only at key <;> try exact key.elim
            rename_i m
            cases eo : st[m]? with
            | none => rw [eo] at key; exact key.elim
            | some o =>
              rw [eo] at key
              cases o <;> simp only at key <;> try exact key.elim
              obtain ⟨pl, _, ro⟩ := mt.loc eo
              obtain ⟨_, _, _, _, z⟩ := ro
              exact z.elim
  cases y with
  | exc c v => exact exc c v rfl
  | _ => exact rest rfl
/-- o.m(..), m a def of the class -/
theorem se_meth {nm : Str} {m : Nat} {o e : Expr} {es : List Expr} {mo : Env → M D} {ms : Env → M (List D)} {apos cpos : Pos} (hm : met.lookup nm = some m) (ho : SE Γ X W o mo) (ha : SA Γ X W (e :: es) ms) (ok : bmOk o (e :: es) apos cpos = true) (few : methodCallForm (e :: es).length (backTo cpos (starEach (e :: es) X.env)) [] = true) :
    SE Γ X W (.Call (.Attribute o nm apos) (e :: es) [] cpos) (fun ρ => do
      let x ← mo ρ
      match ← methOf (ctF T wl n) x m with
      | some f => do
        let xs ← ms ρ
        callF T wl n f (x :: xs)
      | none => stuck) := by
  have hK := g.xg.hK
  obtain ⟨k1, k2, k3, k4⟩ := bmOk_inv ok
  refine ⟨fun pins s σ H Q I ⟨as, st, ρ, mt, er, p⟩ => ?_⟩
  have hn : (backTo cpos (starEach es X.env)).any (·.1) = false := by
    rw [List.all_cons, Bool.and_eq_true] at k2
    exact star_any k2.2
  have hst : starEach (e :: es) X.env = (false, eval e X.env) :: starEach es X.env := by
    rw [List.all_cons, Bool.and_eq_true] at k2
    exact star_cons k2.1
  refine PySem.W.methodCall_KW (pl := (do return (← importBound o X.env).getD true)) (SE.bnd ho I mt er p fun x as1 st1 H1 v u s1 k1' I1 m1 e1 rx ru p1 => ?_) (by
    rw [eval_meth few k4, plainBase_ok k1]
    rfl)
  obtain ⟨oo, hoo⟩ := methOf_run (ctF T wl n) x m st1
  rw [bind_run, hoo] at p1
  cases oo with
  | none => exact p1.elim
  | some f =>
    simp only at p1
    obtain ⟨c, x0, hc, hx0, hf⟩ := methOf_some hoo
    obtain ⟨a, dx, vs, rfl, hsl⟩ := own_at m1 rx hc
    cases ru
    have kd := g.ow.kd c x0 m f hx0 hf
    obtain ⟨sc, _⟩ := g.cf.slA c x0 hx0 kd
    have M := g.ow.me c x0 nm m f hx0 hm hf
    rw [← hK] at sc M
    refine getmethsl_ok I1 hsl sc M ?_
    refine PySem.W.callWith_K (first := [.ref a]) (h₀ := X.base) I.ok.mod.kin M.kp ?_ hst hn
    refine SA.bnd ha I1 m1 e1 p1 fun xs as2 st2 H2 ws us s2 k2' I2 m2 e2 rxs rv p2 => ⟨I2.kIn, ?_⟩
    exact g.run (g.fi c x0 m f hx0 hf) I2 (us := .ref a :: us) (vs := .ref a :: ws) (.cons rfl rv) (call_end g m2 (.cons (rx.mono k2') rxs) p2)
theorem se_meth0 {nm : Str} {m : Nat} {o : Expr} {mo : Env → M D} {apos cpos : Pos} (hm : met.lookup nm = some m) (ho : SE Γ X W o mo) (ok : bmOk o [] apos cpos = true) :
    SE Γ X W (.Call (.Attribute o nm apos) [] [] cpos) (fun ρ => do
      let x ← mo ρ
      match ← methOf (ctF T wl n) x m with
      | some f => callF T wl n f [x]
      | none => stuck) := by
  have hK := g.xg.hK
  obtain ⟨k1, k2, k3, k4⟩ := bmOk_inv ok
  refine ⟨fun pins s σ H Q I ⟨as, st, ρ, mt, er, p⟩ => ?_⟩
  refine PySem.W.methodCall_KW (pl := (do return (← importBound o X.env).getD true)) (SE.bnd ho I mt er p fun x as1 st1 H1 v u s1 k1' I1 m1 e1 rx ru p1 => ?_) (by
    rw [eval_meth (by rfl) k4, plainBase_ok k1]
    rfl)
  obtain ⟨oo, hoo⟩ := methOf_run (ctF T wl n) x m st1
  rw [bind_run, hoo] at p1
  cases oo with
  | none => exact p1.elim
  | some f =>
    simp only at p1
    obtain ⟨c, x0, hc, hx0, hf⟩ := methOf_some hoo
    obtain ⟨a, dx, vs, rfl, hsl⟩ := own_at m1 rx hc
    cases ru
    have kd := g.ow.kd c x0 m f hx0 hf
    obtain ⟨sc, _⟩ := g.cf.slA c x0 hx0 kd
    have M := g.ow.me c x0 nm m f hx0 hm hf
    rw [← hK] at sc M
    refine getmethsl_ok I1 hsl sc M ?_
    exact PySem.W.callWith_K0 (first := [.ref a]) I1.kIn M.kp (g.run (g.fi c x0 m f hx0 hf) I1 (us := [.ref a]) (vs := [.ref a]) (.cons rfl .nil) (call_end g m1 (.cons rx .nil) p1))
end
end G
set_option Elab.async false
set_option linter.all false
set_option maxRecDepth 100000
set_option maxHeartbeats 4000000
/-! GA5: instances with slots: made, stored into. -/
namespace G
open PySem PySem.Spec PyProof.Rows L2 SlX
section
variable {Γ : Gx} {X : Cx} {W : WX} {k n : Nat} {T : Tab} {wl : Nat} {met att : List (Str × Nat)}
theorem allSome_get : ∀ {fs : List (Option D)} {l : List D}, allSome fs = some l → l.length = fs.length ∧ ∀ (i : Nat) d, l[i]? = some d → fs[i]? = some (some d)
  | [], l, h => by
    unfold allSome at h
    cases h
    exact ⟨rfl, fun i d e => by simp at e⟩
  | none :: r, l, h => by
    unfold allSome at h
    cases h
  | some d :: r, l, h => by
    unfold allSome at h
    cases e : allSome r with
    | none => rw [e] at h; cases h
    | some l' =>
      rw [e] at h
      cases h
      obtain ⟨h1, h2⟩ := allSome_get e
      refine ⟨by rw [List.length_cons, List.length_cons, h1], fun i d' e' => ?_⟩
      cases i with
      | zero => simpa using e'
      | succ i => simpa using h2 i d' (by simpa using e')
theorem reps_of {as : List G.Loc} {H : Hp} {vs : List (Option V)} : ∀ (l : List D) (j : Nat), (∀ (i : Nat) d, l[i]? = some d → ∃ v, vs[j + i]? = some (some v) ∧ Rep Γ as H d v) → ∃ ws, Reps Γ as H l ws ∧ ∀ (i : Nat) w, ws[i]? = some w → vs[j + i]? = some (some w)
  | [], j, _ => ⟨[], .nil, fun i w e => by simp at e⟩
  | d :: l, j, h => by
    obtain ⟨v, h1, h2⟩ := h 0 d rfl
    obtain ⟨ws, h3, h4⟩ := reps_of l (j + 1) fun i d' e => by
      obtain ⟨v, a, b⟩ := h (i + 1) d' (by simpa using e)
      exact ⟨v, by rw [← a]; congr 1; omega, b⟩
    refine ⟨v :: ws, .cons h2 h3, fun i w e => ?_⟩
    cases i with
    | zero =>
      simp at e
      subst e
      exact h1
    | succ i =>
      have := h4 i w (by simpa using e)
      rw [← this]
      congr 1
      omega
/-- C(..) of an own class: its __init__ runs -/
theorem make_G {b : Bool} {pins : List (Addr × Obj)} {s : Shared} {σ : L2.St} {H : Hp} {Q : VK} {C fa : Addr} {fd : FuncData} {ps : List Str} {j : Nat} {sp : Sp} {us : List Value} {vs : List V} {E : L2.St → XK} (M : Mk X.K C fa) (F : FnG b X.prog X.w X.K X.mg X.base j fa fd ps sp) (hr : Room (j + 1) X.A) (gd : b = true → X.A.guards = some []) {ds : List Value} {dvs : List V} (rd : Vals dvs ds) (hb : Binds X.K fd ps ds)
    (hx : PassesAt (L2.CX X.prog X.w) X σ (E σ)) (I : Inv X pins σ H s) (r : Vals vs us)
    (h : ∀ x dx, H x = none → H dx = none → dx ≠ x → sp (.ref x :: (vs ++ dvs)) (upd (upd H dx (.own x)) x (.ins C dx [])) (fun v H2 => v = .non ∧ Q (.ref x) H2) (E σ)) :
    wpAny (model X.prog X.w) X.A (call (.ref C) us) (EP X pins σ Q) X.xe s := by
  have hq := h (s.heap.objs.size + 1) s.heap.objs.size (I.hok.fresh (Nat.le_succ _)) (I.hok.fresh (Nat.le_refl _)) (Nat.ne_of_lt (Nat.lt_succ_self _))
  have I2 := Inv.made (C := C) I
  have r2 : Vals (V.ref (s.heap.objs.size + 1) :: (vs ++ dvs)) (Value.ref (s.heap.objs.size + 1) :: (us ++ ds)) := .cons rfl (r.append rd)
  have hl : (Value.ref (s.heap.objs.size + 1) :: us ++ ds).length = ps.length := by
    have e := r2.length
    rw [F.len _ _ _ _ hq] at e
    exact e.symm
  have hb' := hb _ (Value.ref (s.heap.objs.size + 1) :: us) I2.kIn hl
  have gd' : b = true → (X.A.under (.builtin "type.__call__" ⟨.ref C :: us, []⟩)).guards = some [] := fun hb1 => by
    have : (Code.builtin "type.__call__" ⟨.ref C :: us, []⟩).guards = [] := by
      unfold Code.guards
      rw [if_neg (by simp [Code.isGuard, guardIds])]
    show pushGuards (Code.builtin "type.__call__" ⟨.ref C :: us, []⟩).guards X.A.guards = _
    rw [this]
    exact gd hb1
  refine wpAny_call (make_map (f := fa) I.kIn M.makes M.init (beq_iff_eq.mp M.fn) (codeAny_mono (F.run _ X.stack _ _ ⟨Value.ref (s.heap.objs.size + 1) :: us, []⟩ (Value.ref (s.heap.objs.size + 1) :: (us ++ ds)) _ _ (E σ) (hr.make C us []) gd'
    (I2.env0.make C us []) hb' r2 hq) fun r s' hq' => ?_))
  cases r with
  | error e => exact hx pins _ _ e s' I2 hq'
  | ok fl =>
    cases fl with
    | ret u =>
      obtain ⟨v, H', I3, rv, ev, q3⟩ := I2.after hq'
      subst ev
      exact ⟨rv, ⟨V.ref (s.heap.objs.size + 1), H', I3, rfl, q3⟩⟩
    | next => exact False.elim hq'
    | brk => exact False.elim hq'
    | cont => exact False.elim hq'
variable (g : GM Γ X W T wl n k met att)
include g
theorem make_own {c f : Nat} {x0 : G.Cls} {pins : List (Addr × Obj)} {s : Shared} {σ : L2.St} {H : Hp} {as : List G.Loc} {st : Store} {xs : List D} {vs : List V} {us : List Value} {Q : VK} (hx0 : T.cl c = some x0) (kd : x0.kind = .slots) (I : Inv X pins σ H s) (mt : Mt Γ as st H) (rx : Reps Γ as H xs vs) (rv : Vals vs us) (ns : List Int) (hns : ns = [] ∨ ∀ f, x0.meths.lookup mInit = some f → ns = Γ.dv f)
    (p : Po Γ (Rep Γ) as H (makeD (ctF T wl n) c (xs ++ ns.map D.int) st) Q (WE W σ)) : wpAny (model X.prog X.w) X.A (call (.ref (Γ.ca c)) us) (EP X pins σ Q) X.xe s := by
  have hK := g.xg.hK
  unfold makeD at p
  have hx0' : (ctF T wl n).T.cl c = some x0 := hx0
  rw [hx0'] at p
  simp only [kd] at p
  cases ef : x0.meths.lookup mInit with
  | none => rw [ef] at p; exact p.elim
  | some f =>
    rw [ef] at p
    simp only at p
    obtain ⟨M, _⟩ := g.ow.mkC c x0 f hx0 kd ef
    rw [← hK] at M
    have fi := g.fi c x0 mInit f hx0 ef
    obtain ⟨ds, rd, bd⟩ : ∃ ds, Vals (ns.map V.int) ds ∧ Binds Γ.K (Γ.fd f) (Γ.ps f) ds := by
      rcases hns with rfl | hns
      · exact ⟨[], .nil, fi.bd⟩
      · rw [hns f ef]
        exact fi.bdd
    have rx := rx.app (reps_ints (Γ := Γ) (as := as) (H := H) ns)
    refine make_G (E := WE W) M (g.fo f) (g.xg.hr.mono (show 6 * n + 1 ≤ k by have := g.hn; omega)) g.xg.gd (ds := ds) (dvs := ns.map V.int) rd (by rw [hK]; exact bd) (passAt g.xg.tk σ) I rv fun a dx ha hd hne => ?_
    have k2 := kp_new2 (o1 := .own a) (o2 := .ins (Γ.ca c) dx []) mt ha hd
    have m2 : Mt Γ (as ++ [(a, dx)]) (st ++ [.sl c (x0.slots.map fun _ => none)]) (upd (upd H dx (.own a)) a (.ins (Γ.ca c) dx [])) := mt_new2 mt ha hd hne (fun ps z => nomatch z) ⟨hne, ⟨_, by rw [upd_ne hne, upd_same]⟩, [], .inl ⟨upd_same, rfl⟩, fun i d e => by
      rw [List.getElem?_map] at e
      cases z : x0.slots[i]? with
      | none => rw [z] at e; cases e
      | some q => rw [z] at e; cases e⟩
    have ln := mt.len
    refine ⟨_, _, .obj st.length :: (xs ++ ns.map D.int), m2, .cons ?_ (rx.mono k2), ?_⟩
    · unfold Rep
      exact ⟨(a, dx), by rw [← ln]; simp, rfl⟩
    · replace p : Po Γ (Rep Γ) as H (match callF T wl n f (.obj st.length :: (xs ++ ns.map D.int)) (st ++ [.sl c (x0.slots.map fun _ => none)]) with
        | .ok .non s1 => match x0.value with
          | false => .ok (.obj st.length) s1
          | true => match s1[st.length]? with
            | some (.sl c' fs) => match allSome fs with
              | some l => if c' = c ∧ s1.take st.length = st ∧ D.ltL st.length l = true then .ok (.ins c l) st else .stuck
              | none => .stuck
            | _ => .stuck
        | .ok _ _ => .stuck
        | .exc e v s1 => .exc e v (trunc st v s1)
        | .stuck => .stuck) Q (WE W σ) := p
      cases er : callF T wl n f (.obj st.length :: (xs ++ ns.map D.int)) (st ++ [.sl c (x0.slots.map fun _ => none)]) with
      | stuck => rw [er] at p; exact p.elim
      | exc e v s1 =>
        rw [er] at p
        intro as' H' dx' w k' mt' e1 e2 e3
        obtain ⟨as3, k3, m3, r3, i3⟩ := trunc_ok mt (k2.trans k') mt' e3
        exact p as3 H' dx' w k3 m3 e1 (i3 _ e2) r3
      | ok d s1 =>
        rw [er] at p
        cases d <;> simp only at p <;> try exact p.elim
        intro as' v' H' k' mt' r'
        refine ⟨r'.non, ?_⟩
        have kk := k2.trans k'
        have e0 : as'[st.length]? = some (a, dx) := k'.get (by rw [← ln]; simp)
        cases hv : x0.value with
        | false =>
          rw [hv] at p
          refine p as' (.ref a) H' kk mt' ?_
          unfold Rep
          exact ⟨(a, dx), e0, rfl⟩
        | true =>
          rw [hv] at p
          simp only at p
          cases e1 : s1[st.length]? with
          | none => rw [e1] at p; exact p.elim
          | some o =>
            rw [e1] at p
            cases o <;> simp only at p <;> try exact p.elim
            rename_i c' fs
            cases e2 : allSome fs with
            | none => rw [e2] at p; exact p.elim
            | some l =>
              rw [e2] at p
              simp only at p
              by_cases hc : c' = c ∧ s1.take st.length = st ∧ D.ltL st.length l = true
              · rw [if_pos hc] at p
                obtain ⟨rfl, h1, h2⟩ := hc
                obtain ⟨pl, hp, ro⟩ := mt'.loc e1
                rw [e0] at hp
                cases hp
                obtain ⟨_, hdx, ws, hs, hr⟩ := ro
                obtain ⟨a1, a2⟩ := allSome_get e2
                obtain ⟨us', b1, b2⟩ := reps_of (Γ := Γ) (as := as') (H := H') (vs := ws) l 0 (fun i d e => by rw [Nat.zero_add]; exact hr i d (a2 i d e))
                obtain ⟨more, em, _⟩ := id kk.pre
                subst em
                refine p as (.ref a) H' kk.same (mt.down kk mt' h1) ?_
                unfold Rep
                exact ⟨a, dx, ws, us', rfl, mt.ninn ha, mt.ninn hd, hs, hdx, b1.down (by rw [ln]; exact h2), fun i w e => by have := b2 i w e; rwa [Nat.zero_add] at this⟩
              · rw [if_neg hc] at p
                exact p.elim
theorem se_make {c : Nat} {x0 : G.Cls} {x : Str} {e : Expr} {es : List Expr} {ms : Env → M (List D)} {p pos : Pos} (hx0 : T.cl c = some x0) (kd : x0.kind = .slots) (kp : PySem.W.keepIn Γ.K (.ref (Γ.ca c)) = true) (hg : Gl X x) (hm : X.mg x = some (.ref (Γ.ca c))) (ha : SA Γ X W (e :: es) ms) (hdb : (x == ("__debug__" : Str)) = false) (hs : (e :: es).all noStar = true) (ns : List Int) (hns : ns = [] ∨ ∀ f, x0.meths.lookup mInit = some f → ns = Γ.dv f) :
    SE Γ X W (.Call (.Name x p) (e :: es) [] pos) (fun ρ => do
      let xs ← ms ρ
      makeD (ctF T wl n) c (xs ++ ns.map D.int)) := by
  rw [List.all_cons, Bool.and_eq_true] at hs
  have hK := g.xg.hK
  refine ⟨fun pins s σ H Q I ⟨as, st, ρ, mt, er, q⟩ => ?_⟩
  refine wpAny_Call_Name_kw (ld_glob I hg hm ?_ hdb)
  refine PySem.W.callWith_K (h₀ := X.base) I.ok.mod.kin (by rw [hK]; exact kp) (SA.bnd ha I mt er q fun xs as1 st1 H1 vs us s1 k1 I1 m1 e1 rx rv p1 => ⟨I1.kIn, ?_⟩) (star_cons hs.1) (star_any hs.2)
  exact make_own (f := 0) g hx0 kd I1 m1 rx rv ns hns p1
/-- o.f = e -/
theorem ss_setAtt {nm : Str} {a : Nat} {o e : Expr} {mo me : Env → M D} {p' pos : Pos} (hat : att.lookup nm = some a) (ho : SE Γ X W o mo) (he : SE Γ X W e me) (hc : notComp e = true) : SS Γ X W (.Assign [.Attribute o nm p'] e pos) (fun ρ => eb (me ρ) ρ fun x => eb (mo ρ) ρ fun y => do
    setAttD (ctF T wl n) a y x
    return .nx ρ) := by
  have hK := g.xg.hK
  refine PS_imp (ps_sl ho he (sw_false hc)) fun D σ H ⟨as, st, ρ, mt, er, q⟩ => ?_
  refine eb_bnd (rl := Rep Γ) mt er q fun x as1 st1 H1 vx k1 m1 e1 rx p1 => eb_bnd (rl := Rep Γ) m1 e1 p1 fun y as2 st2 H2 vy k2 m2 e2 ry p2 => ?_
  replace rx := rx.mono k2
  rw [bind_run] at p2
  cases y <;> try exact False.elim p2
  rename_i m
  unfold setAttD at p2
  cases eo : st2[m]? with
  | none => simp only [eo] at p2; exact p2.elim
  | some ob =>
    simp only [eo] at p2
    cases ob <;> try exact False.elim p2
    · rename_i c fs
      simp only at p2
      cases e2' : T.cl c with
      | none =>
        have : (ctF T wl n).T.cl c = none := e2'
        rw [this] at p2
        exact p2.elim
      | some x0 =>
        have : (ctF T wl n).T.cl c = some x0 := e2'
        rw [this] at p2
        simp only at p2
        cases e3 : idxOf a x0.slots with
        | none => rw [e3] at p2; exact p2.elim
        | some i =>
          rw [e3] at p2
          simp only at p2
          by_cases hl : i < fs.length
          · rw [if_pos hl] at p2
            have kd := g.ow.ks c x0 a i e2' e3
            obtain ⟨sc, _⟩ := g.cf.slA c x0 e2' kd
            obtain ⟨pp, t⟩ := g.ow.sl c x0 nm a i e2' hat e3
            rw [← hK] at sc t
            obtain ⟨pl, hp, ro⟩ := m2.loc eo
            obtain ⟨hne, _, vs, hs, r⟩ := ro
            refine ⟨pl.1, Γ.ca c, pl.2, pp, vs, i, rep_obj_eq ry hp, hs, sc, t, ?_⟩
            have kk := kp_upd2 (o1 := .xd []) (o2 := SlO pl.1 (Γ.ca c) pl.2 (putS i vx vs)) m2 hp
            refine p2 as2 σ _ kk (mt_upd2 m2 hp (fun ps z => nomatch z) ⟨hne, ⟨_, by rw [upd_ne hne, upd_same]⟩, putS i vx vs, slH_slt hne, fun j d hd => ?_⟩) (e2.mono kk)
            by_cases hj : j = i
            · subst hj
              rw [List.getElem?_set_self hl] at hd
              cases hd
              exact ⟨vx, putS_get _ _ _, rx.mono kk⟩
            · rw [List.getElem?_set_ne (Ne.symm hj)] at hd
              obtain ⟨v, h1, h2⟩ := r j d hd
              exact ⟨v, (putS_ne hj).mpr h1, h2.mono kk⟩
          · rw [if_neg hl] at p2
            exact p2.elim
    · rename_i c fs
      obtain ⟨pl, _, ro⟩ := m2.loc eo
      obtain ⟨_, _, _, _, z⟩ := ro
      exact z.elim
end
end G
set_option Elab.async false
set_option linter.all false
set_option maxRecDepth 100000
set_option maxHeartbeats 4000000
/-! GA7: a static method, called by its class's name. -/
namespace G
open PySem PySem.Spec PyProof.Rows L2 SlX
section
variable {Γ : Gx} {X : Cx} {W : WX} {k : Nat} {T : Tab} {wl n f : Nat}
/-- what is known of a static method m of C -/
structure StAt (K : PySem.W.Frag) (C : Addr) (m : Str) (fa : Addr) : Prop where
  ga : PySem.W.specialIn K (.ref C) "__getattribute__" = some (some (.builtin "type.__getattribute__"))
  rd : PySem.W.readsIn K C (.type "type") = true
  at_ : ∃ (p : Addr) (rest : List Value), PySem.W.findCls K (.ref C) (.type "type") m = some (.get (.builtin "staticmethod.__get__") (.ref p) .none (.ref C)) ∧ PySem.W.recIn K p "staticmethod" = some (.ref fa :: rest)
  hd : PySem.W.handedIn (.ref fa) = true
theorem se_static {x m : Str} {C : Addr} {e : Expr} {es : List Expr} {ms : Env → M (List D)} {np apos pos : Pos} (c : XG Γ X W k) (F : FO Γ X T wl n f) (fi : FI Γ f) (hn : 6 * n ≤ k) (hg : Gl X x) (hm : X.mg x = some (.ref C)) (S : StAt X.K C m (Γ.fa f)) (ha : SA Γ X W (e :: es) ms) (ok : bmOk (.Name x np) (e :: es) apos pos = true) (hdb : (x == ("__debug__" : Str)) = false) :
    SE Γ X W (.Call (.Attribute (.Name x np) m apos) (e :: es) [] pos) (fun ρ => do
      let xs ← ms ρ
      callF T wl n f xs) := by
  obtain ⟨k1, k2, k3, k4⟩ := bmOk_inv ok
  have hs := k2
  rw [List.all_cons, Bool.and_eq_true] at hs
  have hK := c.hK
  obtain ⟨p, rest, h3, h4⟩ := S.at_
  refine ⟨fun pins s σ H Q I ⟨as, st, ρ, mt, er, q⟩ => ?_⟩
  have few : methodCallForm (e :: es).length (backTo pos (starEach (e :: es) X.env)) [] = true := by
    unfold methodCallForm
    rw [star_all k2]
    show (true && (true && decide ((e :: es).length + 0 + 0 < 30))) = true
    rw [decide_eq_true (by omega)] <;> rfl
  have ev : eval (.Call (.Attribute (.Name x np) m apos) (e :: es) [] pos) X.env = (do
      let ov ← eval (.Name x np) X.env
      standAt apos.atName
      let (f, first) ← holding [ov] (getMethod ov m (do return (← importBound (.Name x np) X.env).getD true))
      callWith pos f first (backTo pos (starEach (e :: es) X.env)) (backToKw pos (keywordEach [] X.env))) := by
    rw [eval_meth few k4, plainBase_ok k1]
    rfl
  refine PySem.W.methodCall_KW (ld_glob I hg hm ?_ hdb) ev
  refine PySem.W.method_cls I.kIn S.ga (PySem.W.cls_bind I.kIn S.rd h3 (wpAny_call (PySem.W.sm_get (s := { s with toks := s.toks + 1 }) I.kIn h4 (PySem.W.handed_on S.hd ?_))))
  have I2 : Inv X pins σ H { s with toks := s.toks + 1 } := I.tok _
  refine PySem.W.callWith_K (h₀ := X.base) I2.ok.mod.kin (by rw [hK]; exact fi.kp) (SA.bnd ha I2 mt er q fun xs as1 st1 H1 vs us s1 k1 I1 m1 e1 rx rv p1 => ⟨I1.kIn, ?_⟩) (star_cons hs.1) (star_any hs.2)
  exact run_G (E := WE W) F (c.hr.mono hn) c.gd (by rw [hK]; exact fi.bd) (passAt c.tk σ) I1 (by rw [List.append_nil]; exact rv) ⟨as1, st1, xs, m1, rx, p1⟩
end
end G
set_option Elab.async false
set_option linter.all false
set_option maxRecDepth 100000
set_option maxHeartbeats 4000000
/-! GB1: a caught error that is kept. -/
namespace G
open PySem PySem.Spec PyProof.Rows L2 SlX
/-- an error at a, of the class cls, its dict d -/
def ExZ (cls : Value) (d : Option Addr) (a : Addr) : HO := .ext fun h => ∃ (oe : Obj) (vs : Array Value), h.get? a = some oe ∧ Zc cls d oe ∧ oe.data = .fields vs
/-- what the clause 'except x as n' wishes of an error of the body: slot i is n's; the error is told -/
def wAsG (K : PySem.W.Frag) (c : Value) (i : Nat) (ts : Addr → TS) (Wout : WX) (D : Ends) : WX := fun cls d σ H =>
  ∃ b, PySem.W.exmOne K cls c = some b ∧ (b = true → ∀ a, H a = none → ts a { nx := fun σ' H' => D.nx (σ'.set i none) H', rt := D.rt, bk := fun σ' H' => D.bk (σ'.set i none) H', ct := fun σ' H' => D.ct (σ'.set i none) H' } (σ.set i (some (.ref a))) (upd H a (ExZ cls d a))) ∧
    (b = false → Wout cls d σ H)
section
variable {X : Cx} {x n : Str} {c : Value} {i : Nat} {body suite : List Stmt} {b₀ : Stmt} {np pos pos' : Pos} {tb : WX → TS} {ts : Addr → TS} {Wout : WX} {pins : List (Addr × Obj)} {σ : L2.St} {H : Hp} {s : Shared}
theorem to_suite (I : Inv X pins σ H s) (a : Addr) : Inv (X.suite a (X.pn ++ pins)) [] σ H s :=
  ⟨I.ok.suite _ _, I.os, I.bare, I.base, I.loc, I.cell, I.free, I.freeC, fun p hp => I.pin p (by rw [List.append_nil] at hp; exact hp), I.hok, I.len⟩
theorem of_suite {a : Addr} {pn' : List (Addr × Obj)} (I : Inv (X.suite a (X.pn ++ pins)) pn' σ H s) (ok : X.Ok) : Inv X pins σ H s :=
  ⟨ok, I.os, I.bare, I.base, I.loc, I.cell, I.free, I.freeC, fun p hp => I.pin p (List.mem_append_left _ hp), I.hok, I.len⟩
theorem ps_try_asG (hs : X.stack = X.env :: X.outer) (hf : X.env.frame = some X.env.locals) (hN : X.N.Nodup) (hi : X.N[i]? = some n) (hln : X.env.kindOf n = some .local) (hc : Names X x c) (tk : Takes X Wout)
    (hb : ∀ (W : WX) (pn : List (Addr × Obj)) (xe : Value → Shared → Prop), Takes (X.tr pn xe) W → PassesOwn (model X.prog X.w) X.A X.env xe → PSs (X.tr pn xe) body (tb W))
    (hsu : ∀ (a : Addr) (pn : List (Addr × Obj)), PSs (X.suite a pn) (b₀ :: suite) (ts a)) :
    PS X (.Try body [.ExceptHandler (some (.Name x np)) (some n) (b₀ :: suite) pos'] [] [] pos) (fun D σ H => tb (wAsG X.K c i ts Wout D) D σ H) := by
  refine ⟨fun pins s σ H D I h => ?_⟩
  have ok := I.ok
  have hfr : X.A.frames = some (X.env :: X.outer) := by rw [ok.frames, hs]
  have hloc : L2.Loc X.env.scope n := .inl hln
  refine wpAny_Try_except ?_
  refine wpAny_mono ((hb (wAsG X.K c i ts Wout D) (X.pn ++ pins) (fun e s₁ => wpAny (model X.prog X.w) X.A (noteFrame e X.env) (fun _ s₂ => wpAny (model X.prog X.w) X.A (setFlight e none) (fun _ s₃ =>
    wpAny (model X.prog X.w) X.A (handleBy e X.env [.ExceptHandler (some (.Name x np)) (some n) (b₀ :: suite) pos']) (SP X pins D) X.xe s₃) X.xe s₂) X.xe s₁) (fun u s' xx => ?_) PassesOwn.looking).run [] s σ H D (I.toTry _) h) (fun f s1 hsp => ?_) (fun e s1 he => he)
  · obtain ⟨a, B, sI, pins', σ', H', cls, d, rfl, J', nb, up, sky, na, os, ag, b, hb1, hyes, hno⟩ := xx
    have J : Inv X pins σ' H' sI := J'.ofTry ok
    have sky' : Sky B (X.env :: X.outer) a (Zc cls d) X.env.locals s'.heap := by rw [← hs]; exact sky
    show wpAny (model X.prog X.w) X.A (noteFrame (.ref a) X.env) _ _ _
    refine Sky.land Zc.steady hfr hf sky' fun h3 fl3 up3 => ?_
    have J3 : Inv X pins σ' H' { s' with heap := h3 } := J.landed nb fl3.1 (up.trans up3) os ag
    obtain ⟨oe3, vs3, he3, hz3, hd3⟩ := fl3.there
    have notFr : a ∉ frs (X.env :: X.outer) := fun hm => by
      obtain ⟨_, o', e', hnf⟩ := fl3.2.2.1.mem hm
      rw [he3] at e'; cases e'
      exact hnf _ hd3
    have nL : a ≠ X.env.locals := fun z => notFr (List.mem_filterMap.mpr ⟨X.env, List.mem_cons_self, by rw [hf, z]⟩)
    have nF : a ∉ X.fs := fun hm => by
      obtain ⟨e, he, q⟩ := List.mem_filterMap.mp hm
      exact notFr (List.mem_filterMap.mpr ⟨e, List.mem_cons_of_mem _ he, q⟩)
    have S3 := J3.suite he3 hd3 na nL nF
    refine wpAny_handleBy_cons (codeAny_handlers_test ?_) (by intro q; cases q)
    have LT : PySem.W.Looks (model X.prog X.w) h3 (typeOf (.ref a)) cls := fun A Q E s k q => wpAny_typeOf_ref (k _ _ he3) (by rw [hz3.1]; exact q)
    have LM := PySem.W.exm_one (M := model X.prog X.w) (J3.kIn) LT hb1
    have test : ∀ {Q : Value → Shared → Prop} {E : Value → Shared → Prop}, Q c { s' with heap := h3 } → wpAny (model X.prog X.w) (X.A.mark (some (.ref a))) (eval (.Name x np) X.env) Q E { s' with heap := h3 } := fun {Q E} q => by
      obtain ⟨hg, hdbg, hm | ⟨hm, hv, hnn⟩⟩ := hc
      · exact ld_glob (X := X.suite a ((a, oe3) :: (X.pn ++ pins))) S3 hg hm q hdbg
      · exact ld_blt (X := X.suite a ((a, oe3) :: (X.pn ++ pins))) S3 hg hm hv q hnn hdbg
    refine test (LM.here ?_)
    cases b with
    | true =>
      refine codeAny_handlers_suite_as ?_
      refine HandSPX.lands_againZ fl3 fun h4 fl4 up4 => ?_
      obtain ⟨oe4, vs4, he4, hz4, hd4⟩ := fl4.there
      have nB : B.get? a = none := fl4.2.1
      have nI : sI.heap.get? a = none := by
        cases q : sI.heap.get? a with
        | none => rfl
        | some o =>
          have := nb a o q (by rw [hs]; exact notFr)
          rw [nB] at this
          cases this
      obtain ⟨G, g1, g2⟩ := restrict h4 fun b => decide (b ≠ a)
      have gk : ∀ b, b ≠ a → G.get? b = h4.get? b := fun b hb => g1 b (decide_eq_true hb)
      have ga : G.get? a = none := g2 a (by simp)
      have JG : Inv X pins σ' H' { s' with heap := G } := J.landed nb (fun b o e => by
        rw [gk b fun z => by rw [z, nB] at e; cases e]
        exact fl4.1 b o e) (fun b o e hd => by
        obtain ⟨sl, q⟩ := ((up.trans up3).trans up4) b o e hd
        exact ⟨sl, by rw [gk b fun z => by rw [z, nI] at e; cases e]; exact q⟩) os ag
      have J4 : Inv X pins σ' (upd H' a (ExZ cls d a)) { s' with heap := h4 } := JG.laidN (t' := s'.toks) (fun b o e => by
        by_cases hb : b = a
        · rw [hb, ga] at e; cases e
        · rw [← gk b hb]; exact e) ga na ⟨⟨oe4, vs4, he4, hz4, hd4⟩, ⟨_, he4⟩, fun h1 h2 ⟨o, w, q, r⟩ z => ⟨o, w, z _ q, r⟩⟩
      refine store_ok (X := X.suite a (X.pn ++ pins)) (v := .ref a) (to_suite J4 a) hN hi hloc rfl (fun s5 S5 => ?_) (.inr hln)
      refine wpAny_mono ((hsu a (X.pn ++ pins)).run [] s5 _ _ _ S5 (hyes rfl a na)) (fun f s6 hsp => ?_) (fun _ _ z => False.elim z)
      have end_ : ∀ {σ6 : L2.St} {H6 : Hp} {Q : Shared → Prop}, Inv (X.suite a (X.pn ++ pins)) [] σ6 H6 s6 → (∀ s7, Inv X pins (σ6.set i none) H6 s7 → Q s7) →
          wpAny (model X.prog X.w) X.A (do bindName X.env n .none; unbindBehindTheSuite X.env n pos') (fun _ s7 => Q s7) X.xe s6 := fun {σ6 H6 Q} S6 hq => gone_ok (of_suite S6 ok) hN hi hln hq
      cases f with
      | next =>
        obtain ⟨σ6, H6, S6, q6⟩ := hsp
        exact end_ S6 fun s7 J7 => ⟨_, _, J7, q6⟩
      | brk =>
        obtain ⟨σ6, H6, S6, q6⟩ := hsp
        exact end_ S6 fun s7 J7 => ⟨_, _, J7, q6⟩
      | cont =>
        obtain ⟨σ6, H6, S6, q6⟩ := hsp
        exact end_ S6 fun s7 J7 => ⟨_, _, J7, q6⟩
      | ret u =>
        obtain ⟨v6, σ6, H6, S6, r6, q6⟩ := hsp
        exact end_ S6 fun s7 J7 => ⟨_, _, _, J7, r6, q6⟩
    | false =>
      show wpAny _ X.A (handleBy (.ref a) X.env []) _ _ _
      refine wpAny_handleBy_nil ?_
      obtain ⟨k1, k2, k3, oe, vs, T, oT, ts', he, hz, hd, h1, hr⟩ := id fl3
      unfold PySem.passOn
      refine wpAny_bind (wpAny_field he hd h1 ?_)
      rw [if_neg (show ¬ ((Value.ref T == Value.none) = true) from by simp)]
      have fin : wpAny (model X.prog X.w) X.A (setFlight (.ref a) X.env.frame) (fun _ s4 => wpAny (model X.prog X.w) X.A (throw (.ref a) : Sem Flow) (SP X pins D) X.xe s4) X.xe { s' with heap := h3 } := by
        rw [hf]
        refine HandSPX.setFlight_upZ fl3 fun h4 hh4 up4 => wpAny_throw (tk _ _ ?_)
        exact ⟨a, B, sI, pins, σ', H', cls, d, rfl, J, nb, (up.trans up3).trans up4, .inr (.inr (by rw [hs]; exact hh4)), na, os, ag, hno rfl⟩
      first
        | exact wpAny_bind (wpAny_pure (wpAny_bind fin))
        | exact wpAny_bind fin
  · cases f with
    | next =>
      obtain ⟨σ', H', J', q⟩ := hsp
      exact wpAny_execs_nil ⟨σ', H', J'.ofTry ok, q⟩
    | brk =>
      obtain ⟨σ', H', J', q⟩ := hsp
      exact ⟨σ', H', J'.ofTry ok, q⟩
    | cont =>
      obtain ⟨σ', H', J', q⟩ := hsp
      exact ⟨σ', H', J'.ofTry ok, q⟩
    | ret u =>
      obtain ⟨v, σ', H', J', r, q⟩ := hsp
      exact ⟨v, σ', H', J'.ofTry ok, r, q⟩
end
end G
set_option Elab.async false
set_option linter.all false
set_option maxRecDepth 100000
set_option maxHeartbeats 4000000
/-! GB2: a lambda is made; it is handed to a def. -/
namespace G
open PySem PySem.Spec PyProof.Rows L2 SlX LamX
section
variable {Γ : Gx} {X : Cx} {pins : List (Addr × Obj)} {σ : L2.St} {H : Hp} {s : Shared} {as : List G.Loc} {st : Store}
theorem lam_makeG {c P : Addr} {q : Str} {params : Arguments} {body : Expr} {scope : Scope} {pos : Pos} {E : Value → Shared → Prop} {Q : Value → Shared → Prop} (I : Inv X pins σ H s) (mt : Mt Γ as st H) (TB : TabB X.base X.mg c P) (hcode : X.env.code = .ref c)
    (hq : q = X.env.qual ++ "<lambda>") (hm : (P, q) ∈ Γ.tabs) (hu : ∀ p ∈ Γ.tabs, p.1 = P → p.2 = q) (hdef : defaultsOf params X.env = ([], [])) (hfree : ∀ y ∈ scope.names, y.2 = .free → ∃ c, X.env.cells.lookup y.1 = some c)
    (h : ∀ (f c' : Addr) (pm ctv : Value) (H1 : Hp) (s' : Shared), Inv X pins σ H1 s' → Kp as H as H1 → Mt Γ as st H1 →
      s'.heap.get? f = some (PySem.W.kla_obj "<lambda>" (X.env.qual ++ "<lambda>") params body scope (cloFrom X.env.cells scope.names []) pm c' ctv) → H1 f = none → f ∉ frs X.stack → H1 c' = some (CodeO c' q) → ¬ Inn as c' → s.heap.objs.size ≤ f → Q (.ref f) s') :
    wpAny (model X.prog X.w) X.A (eval (.Lambda params body scope pos) X.env) Q E s := by
  subst hq
  obtain ⟨nP, ps, hP, ht, ha⟩ := mt.tab.tabs _ hm
  replace hP : H P = some (.tbl ps) := hP
  refine PySem.W.kla_eval hdef ?_
  have bP : s.heap.BuiltinsAt X.mg P := TB.bm.keeps I.bk
  have hP' : s.heap.get? P = some { cls := .none, data := .fields ps } := I.hok P _ hP
  have nofr : ∀ f, s.heap.objs.size ≤ f → f ∉ frs X.stack := fun f hf z => by
    rcases List.mem_cons.mp (I.stkSub _ z) with e | e
    · have h1 := I.lt
      rw [← e] at h1
      exact Nat.lt_irrefl _ (Nat.lt_of_lt_of_le h1 hf)
    · exact I.nofs hf e
  cases hc : codeAmong pos ps.toList with
  | none =>
    refine PySem.W.kla_makeFunction (mg := X.mg) (c := c) (P := P) (ps := ps) (closure_ok hfree) I.ok.glob (I.mod.glob.keeps I.bk) hcode (TB.code.keeps I.bk) hP' ht hc TB.gP bP fun c' ctv h' tk hx hge hlt hrec htb => ?_
    obtain ⟨c2, oc, vs, t, e2, hoc, hd, hv⟩ := hrec
    cases e2
    have hsz : s.heap.objs.size ≤ h'.objs.size := Nat.le_trans hge (Nat.le_of_lt hlt)
    have nC : H c' = none := I.hok.fresh hge
    have nPc : P ≠ c' := ne_of_none hP nC
    have I1 := inv_table (t' := tk) (more := #[rawInt pos.line, rawInt pos.col, .ref c']) (h' := h'.push (PySem.W.kla_obj "<lambda>" (X.env.qual ++ "<lambda>") params body scope (cloFrom X.env.cells scope.names []) ((X.mg "__name__").getD .none) c' ctv)) I hP
      (fun b o hb e => Heap.get?_push_of_some _ (hx b o hb e)) (Heap.get?_push_of_some _ htb) hge ⟨oc, vs, t, Heap.get?_push_of_some _ hoc, hd, hv⟩
    have at_ : ∀ b o, H b = some o → b ≠ P → upd (upd H P (.tbl (ps ++ #[rawInt pos.line, rawInt pos.col, .ref c']))) c' (CodeO c' (X.env.qual ++ "<lambda>")) b = some o := fun b o e n => by
      rw [upd_ne (ne_of_none e nC), upd_ne n]
      exact e
    have atP : upd (upd H P (.tbl (ps ++ #[rawInt pos.line, rawInt pos.col, .ref c']))) c' (CodeO c' (X.env.qual ++ "<lambda>")) P = some (.tbl (ps ++ #[rawInt pos.line, rawInt pos.col, .ref c'])) := by rw [upd_ne nPc, upd_same]
    have kp : Kp as H as (upd (upd H P (.tbl (ps ++ #[rawInt pos.line, rawInt pos.col, .ref c']))) c' (CodeO c' (X.env.qual ++ "<lambda>"))) := ⟨⟨[], by simp, fun p hp => absurd hp (by simp)⟩, fun b o e _ n => at_ b o e fun z => n ps (by rw [z, hP] at e; exact (Option.some.inj e).symm), fun b ps0 e => by
      by_cases hb : b = P
      · rw [hb, atP]
        exact ⟨_, rfl⟩
      · exact ⟨ps0, at_ b _ e hb⟩⟩
    have eL : (ps ++ #[rawInt pos.line, rawInt pos.col, .ref c']).toList = ps.toList ++ [rawInt pos.line, rawInt pos.col, .ref c'] := by simp
    have cd : ∀ {b : Addr} {q0 : Str}, H b = some (CodeO b q0) → upd (upd H P (.tbl (ps ++ #[rawInt pos.line, rawInt pos.col, .ref c']))) c' (CodeO c' (X.env.qual ++ "<lambda>")) b = some (CodeO b q0) := fun {b q0} e => at_ b _ e fun z => by
      rw [z, hP] at e
      exact codeO_nt _ (Option.some.inj e).symm
    have tb : TabG Γ as (upd (upd H P (.tbl (ps ++ #[rawInt pos.line, rawInt pos.col, .ref c']))) c' (CodeO c' (X.env.qual ++ "<lambda>"))) := by
      refine ⟨fun b ps0 e => ?_, fun p hp => ?_⟩
      · by_cases hb : b = P
        · exact ⟨_, by rw [hb]; exact hm⟩
        · by_cases hb2 : b = c'
          · rw [hb2, upd_same] at e
            exact absurd (Option.some.inj e) (codeO_nt _)
          · rw [upd_ne hb2, upd_ne hb] at e
            exact mt.tab.all b ps0 e
      · obtain ⟨n0, ps0, e0, t0, a0⟩ := mt.tab.tabs p hp
        refine ⟨n0, ?_⟩
        by_cases hb : p.1 = P
        · refine ⟨_, by rw [hb]; exact atP, by rw [eL]; exact PySem.TriplesOk_snoc _ _ _ _ ht, fun p' cv hcv => ?_⟩
          rw [eL] at hcv
          rcases among_app _ ht hcv with z | z
          · obtain ⟨c0, e1, e2, e3⟩ := ha p' cv z
            exact ⟨c0, e1, by rw [hu p hp hb]; exact cd e2, e3⟩
          · exact ⟨c', z, by rw [upd_same, hu p hp hb], mt.ninn nC⟩
        · refine ⟨ps0, at_ _ _ e0 hb, t0, fun p' cv hcv => ?_⟩
          obtain ⟨c0, e1, e2, e3⟩ := a0 p' cv hcv
          exact ⟨c0, e1, cd e2, e3⟩
    have mt1 : Mt Γ as st (upd (upd H P (.tbl (ps ++ #[rawInt pos.line, rawInt pos.col, .ref c']))) c' (CodeO c' (X.env.qual ++ "<lambda>"))) := ⟨mt.len, mt.apart, fun i o p h1 h2 => (mt.obj i o p h1 h2).mono kp (fun u e => at_ _ _ e fun z => nP ⟨p, List.mem_of_getElem? h2, .inl z.symm⟩) fun u e => at_ _ _ e fun z => nP ⟨p, List.mem_of_getElem? h2, .inr z.symm⟩, tb⟩
    refine h h'.objs.size c' ((X.mg "__name__").getD .none) ctv _ _ I1 kp mt1 (Heap.get?_push_size _ rfl) ?_ (nofr _ hsz) upd_same (mt.ninn nC) hsz
    have n1 : h'.objs.size ≠ c' := Nat.ne_of_gt hlt
    have n2 : h'.objs.size ≠ P := Nat.ne_of_gt (Nat.lt_of_lt_of_le (Heap.lt_size hP') hsz)
    rw [upd_ne n1, upd_ne n2]
    exact I.hok.fresh hsz
  | some cv =>
    obtain ⟨c', e, hco, hin⟩ := ha pos cv hc
    subst e
    refine PySem.W.kla_makeFunctionHit (mg := X.mg) (c := c) (P := P) (ps := ps) (closure_ok hfree) I.ok.glob (I.mod.glob.keeps I.bk) hcode (TB.code.keeps I.bk) hP' ht hc bP fun ctv h' tk hx hsz => ?_
    have I1 : Inv X pins σ H { s with heap := h'.push (PySem.W.kla_obj "<lambda>" (X.env.qual ++ "<lambda>") params body scope (cloFrom X.env.cells scope.names []) ((X.mg "__name__").getD .none) c' ctv), toks := tk } := I.kept fun b o e => Heap.get?_push_of_some _ (hx b o e)
    exact h h'.objs.size c' ((X.mg "__name__").getD .none) ctv H _ I1 (.refl _ _) mt (Heap.get?_push_size _ rfl) (I.hok.fresh hsz) (nofr _ hsz) hco hin hsz
end
end G
set_option Elab.async false
set_option linter.all false
set_option maxRecDepth 100000
set_option maxHeartbeats 4000000
/-! GB3: _law_told(lambda: e). -/
namespace G
open PySem PySem.Spec PyProof.Rows L2 SlX LamX
/-- what a lambda did: what it raised, what it gave -/
def toldM (T : Tab) (c : Nat) (m : M D) : M D := fun s => match m s with
  | .ok d s => .ok (.tup [.non, d]) s
  | .exc e v s => match isE T e c with
    | some true => .ok (.tup [.exc e v, .non]) s
    | _ => .stuck
  | .stuck => .stuck
def toldNames : List Str := ["call", "caught", "back", "error"]
def isTold (b : List Stmt) : Bool := match b with
  | [.Assign [.Tuple [.Name a1 _, .Name a2 _] k1 _] (.Tuple [.Constant .none _ _, .Constant .none _ _] _ _) _,
     .Try [.Assign [.Name a3 _] (.Call (.Name a4 _) [] [] _) q1] [.ExceptHandler (some (.Name a5 _)) (some a6) [.Assign [.Name a7 _] (.Name a8 _) q2] _] [] [] _,
     .Return (some (.Tuple [.Name a9 _, .Name a10 _] _ _)) _] =>
    a1 == "caught" && (a2 == "back" && (a3 == "back" && (a4 == "call" && (a5 == "MirrorError" && (a6 == "error" && (a7 == "caught" && (a8 == "error" && (a9 == "caught" && a10 == "back"))))))))
  | _ => false
theorem isTold_inv {b : List Stmt} (h : isTold b = true) : ∃ (k1 k2 j1 j2 k3 : _) (p1 p2 p3 p4 p5 p6 p7 p8 p9 p10 p11 p12 p13 p14 p15 p16 p17 p18 p19 p20 p21 : Pos),
    b = [.Assign [.Tuple [.Name "caught" p1, .Name "back" p2] k1 p3] (.Tuple [.Constant .none j1 p4, .Constant .none j2 p5] k2 p6) p7,
     .Try [.Assign [.Name "back" p8] (.Call (.Name "call" p9) [] [] p10) p11] [.ExceptHandler (some (.Name "MirrorError" p12)) (some "error") [.Assign [.Name "caught" p13] (.Name "error" p14) p15] p16] [] [] p17,
     .Return (some (.Tuple [.Name "caught" p18, .Name "back" p19] k3 p20)) p21] := by
  unfold isTold at h
  split at h
  · simp only [Bool.and_eq_true, beq_iff_eq] at h
    obtain ⟨rfl, rfl, rfl, rfl, rfl, rfl, rfl, rfl, rfl, rfl⟩ := h
    exact ⟨_, _, _, _, _, _, _, _, _, _, _, _, _, _, _, _, _, _, _, _, _, _, _, _, _, _, rfl⟩
  · cases h
/-- the def's names -/
def toldSc (sc : Scope) : Bool := decide (sc.names.lookup ("call" : Str) = some .local) && (decide (sc.names.lookup ("caught" : Str) = some .local) && (decide (sc.names.lookup ("back" : Str) = some .local) && (decide (sc.names.lookup ("error" : Str) = some .local) && decide (sc.names.lookup ("MirrorError" : Str) = some .globalImplicit))))
/-- what is known of the def told, at g; c: the class that it catches -/
structure ToldF (Γ : Gx) (T : Tab) (x : Str) (g : Addr) (c : Nat) where
  pg : Arguments
  bg : List Stmt
  sg : Scope
  dV : Value
  kV : Value
  doc : Value
  pm : Value
  cdv : Value
  ct : Value
  oc : Value
  an : Option Addr
  od : Option Addr
  osl : Array (Option Value)
  kp : PySem.W.keepIn Γ.K (.ref g) = true
  lk : Γ.K.lookup g = some ⟨oc, od, .func (PySem.W.fnOf x x pg bg sg dV kV doc pm an cdv ct), osl⟩
  cd : PySem.W.codeIn Γ.K cdv x = true
  bd : L2.Binds Γ.K (PySem.W.fnOf x x pg bg sg dV kV doc pm an cdv ct) ["call"] []
  sc : FnScope toldNames ["call"] sg
  body : isTold bg = true
  names : toldSc sg = true
  ex : ∀ e, isE T e c = some true → PySem.W.exmOne Γ.K (.ref (Γ.ca e)) (.ref (Γ.ca c)) = some true
section
variable {Γ : Gx} {X : Cx} {pins : List (Addr × Obj)} {σ : L2.St} {H HZ : Hp} {s s1 : Shared} {as : List G.Loc} {st : Store} {T : Tab}
/-- the lambda is called, in the def that got it -/
theorem pe_actG {m : Env → M D} {CXg : CXT} {Eg : XK} {Ng : List Str} {qg : Str} {sg : Scope} {g f c' : Addr} {cdg pm ctv : Value} {params : Arguments} {body : Expr} {scope : Scope} {k i : Nat} {a : Str} {pn : List (Addr × Obj)} {xe : Value → Shared → Prop} {W : WX} {p1 p2 : Pos}
    (I : Inv X pins σ H s) (L : LamS X.env.scope scope) (hf : s.heap.get? f = some (PySem.W.kla_obj "<lambda>" (X.env.qual ++ "<lambda>") params body scope (cloFrom X.env.cells scope.names []) pm c' ctv)) (hfn : H f = none) (hfr : f ∉ frs X.stack)
    (hbind : bindArgs (PySem.W.kla_fn "<lambda>" (X.env.qual ++ "<lambda>") params body scope (cloFrom X.env.cells scope.names []) pm (.ref c') ctv) ⟨[], []⟩ = pure [])
    (tk : Takes ((cxOf CXg X.prog X.w X.K X.mg X.base Ng qg sg g cdg X.A X.stack s H Eg).tr pn xe) W) (hr : Room (k + 1) (X.A.deeper (envOfC qg sg s.heap.objs.size g cdg)))
    (hbody : ∀ (A : Around) (outer : List PySem.Env) (s : Shared) (H : Hp) (E : XK), A.guards = X.A.guards → Room k (A.deeper (lamEnv X scope s.heap.objs.size f c')) → SE Γ (lamCx X A outer s H E scope f c') (fun cls d _ H => E cls d H) body m)
    (hN : Ng[i]? = some a) (hv : Vis sg a) (hd : (a == ("__debug__" : Str)) = false := by decide) (hcd : (a == ("__classdict__" : Str)) = false := by decide) :
    PE ((cxOf CXg X.prog X.w X.K X.mg X.base Ng qg sg g cdg X.A X.stack s H Eg).tr pn xe) (.Call (.Name a p1) [] [] p2)
      (fun σZ HZ Q => σZ[i]? = some (some (.ref f)) ∧ HZ c' = some (CodeO c' (X.env.qual ++ "<lambda>")) ∧ rd Γ (fun cls d _ H => W cls d σZ H) (Rep Γ) m σ HZ Q) := by
  refine ⟨fun pinsZ sZ σZ HZ Q IZ h => ?_⟩
  obtain ⟨hs, hc, ht⟩ := h
  refine wpAny_Call_Name_kw (thn ((pe_var (pos := p1) (i := i) hN hv hd hcd).run pinsZ sZ σZ HZ (fun v H1 => v = .ref f ∧ H1 = HZ) IZ ⟨.ref f, hs, rfl, rfl⟩) fun u s1 ⟨v, H1, I1, r1, q1⟩ => ?_)
  obtain ⟨ev, eH⟩ := q1
  subst ev
  rw [eH] at I1
  obtain rfl : u = Value.ref f := r1
  have of1 : s1.heap.get? f = some (PySem.W.kla_obj "<lambda>" (X.env.qual ++ "<lambda>") params body scope (cloFrom X.env.cells scope.names []) pm c' ctv) := I1.base.keep f _ hf hfn hfr (fun z => nomatch (show f ∈ ([] : List Addr) from z))
  refine PySem.W.callWith_F0 ⟨_, _, _, _, of1⟩ ?_
  have un : Un (frs X.stack) [] H HZ s.heap s1.heap := I1.base
  obtain ⟨⟨oc, vs, t, hoc, hdc, hvc⟩, _, _⟩ := I1.hok c' _ hc
  have rc : codeAny (model X.prog X.w) (X.A.deeper (envOfC qg sg s.heap.objs.size g cdg)) (.call (.ref f) ⟨[], []⟩) (CR (L2.CX X.prog X.w) (envOfC qg sg s.heap.objs.size g cdg :: X.stack) X.prog X.w HZ s1 Q (WE W σZ)) s1 := by
    refine PySem.W.kla_callFunE hr.depth of1 rfl L.co L.gen rfl ⟨c', oc, vs, t, rfl, hoc, hdc, hvc⟩ ?_
    rw [hbind]
    refine wpAny_pure (wpAny_newFunctionEnv (fun y hy => (L.own y hy).2) (fun y hy => absurd hy (by simp)) (fun h₁ hns hsb => ⟨I1.nolimit.fresh _ hsb, ?_⟩) L.kind)
    show codeAny _ _ (.expr body (lamEnv X scope s1.heap.objs.size f c')) _ _
    have kp : ∀ b o, s1.heap.get? b = some o → h₁.get? b = some o := fun b o e => hsb.extBut b o (Nat.ne_of_lt (Heap.lt_size e)) (Heap.get?_push_of_some _ e)
    have J : Inv (lamCx X (X.A.deeper (envOfC qg sg s.heap.objs.size g cdg)) (envOfC qg sg s.heap.objs.size g cdg :: X.stack) s1 HZ (WE W σZ) scope f c') [] σ HZ { s1 with heap := h₁, toks := s1.toks + ([] : List (Str × Value)).length } :=
      lam_start2 I L I1.env0 hr.hd un hns kp
    refine PySem.W.kla_codeExpr (wpAny_mono ((hbody (X.A.deeper (envOfC qg sg s.heap.objs.size g cdg)) _ s1 HZ _ rfl (hr.deeper _)).run [] _ _ HZ Q J ht) (fun v s' hq => ?_) fun e s' hq => hq)
    obtain ⟨w', H', J', rv, q⟩ := hq
    exact ⟨w', H', J'.os, J'.bare, J'.base, J'.hok, rv, q⟩
  refine wpAny_call (codeAny_mono rc fun r s' hq => ?_)
  cases r with
  | error e => exact tk _ _ (XE.of_call I1 (fun _ _ _ h => h) hq)
  | ok fl =>
    cases fl with
    | ret u => exact I1.after hq
    | next => exact False.elim hq
    | brk => exact False.elim hq
    | cont => exact False.elim hq
theorem se_told {W : WX} {k : Nat} {c : Nat} {x : Str} {g P cc : Addr} {params : Arguments} {body : Expr} {scope : Scope} {m : Env → M D} {p lpos pos : Pos} (F : ToldF Γ T x g c) (hK : X.K = Γ.K) (hg : Gl X x) (hm : X.mg x = some (.ref g)) (hE : X.mg "MirrorError" = some (.ref (Γ.ca c)))
    (TB : TabB X.base X.mg cc P) (hcode : X.env.code = .ref cc) (hmT : (P, X.env.qual ++ "<lambda>") ∈ Γ.tabs) (hu : ∀ p ∈ Γ.tabs, p.1 = P → p.2 = X.env.qual ++ "<lambda>") (hr : Room (k + 2) X.A) (L : LamS X.env.scope scope) (hdef : defaultsOf params X.env = ([], []))
    (hbind : ∀ (q : Str) (cl : List (Str × Addr)) (pm cv ctv : Value), bindArgs (PySem.W.kla_fn "<lambda>" q params body scope cl pm cv ctv) ⟨[], []⟩ = pure [])
    (hbody : ∀ (A : Around) (outer : List PySem.Env) (s : Shared) (H : Hp) (E : XK) (f c' : Addr), A.guards = X.A.guards → Room k (A.deeper (lamEnv X scope s.heap.objs.size f c')) → SE Γ (lamCx X A outer s H E scope f c') (fun cls d _ H => E cls d H) body m)
    (hdb : (x == ("__debug__" : Str)) = false) :
    SE Γ X W (.Call (.Name x p) [.Lambda params body scope lpos] [] pos) (fun ρ => toldM T c (m ρ)) := by
  refine ⟨fun pins s σ H Q I h => ?_⟩
  obtain ⟨as, st, ρ, mt, er, po⟩ := h
  refine wpAny_Call_Name_kw (ld_glob I hg hm ?_ hdb)
  refine PySem.W.callWith_K (h₀ := X.base) I.ok.mod.kin (by rw [hK]; exact F.kp) ?_ (by rfl) (by rfl)
  show wpAny _ _ (spliced ((false, eval (.Lambda params body scope lpos) X.env) :: backTo pos (starEach [] X.env))) _ _ s
  refine Calls.spliced_cons (lam_makeG I mt TB hcode rfl hmT hu hdef (L.has I.ok) fun f c' pm' ctv H1 s' I1 k1 m1 hf hfn hfr hco _ _ => ?_)
  refine Calls.spliced_nil ⟨I1.kIn, ?_⟩
  have e1 := er.mono k1
  replace po : Po Γ (Rep Γ) as H1 (toldM T c (m ρ) st) Q (WE W σ) := po.trans k1
  have rc : codeAny (model X.prog X.w) X.A (.call (.ref g) ⟨[.ref f], []⟩) (CR C8.CX0 X.stack X.prog X.w H1 s' Q C8.E0) s' := by
    refine run_ofS (N := toldNames) (ps := ["call"]) (us := [.ref f]) (vs := [.ref f]) (by rw [hK]; exact F.lk) (by rw [hK]; exact F.cd) F.sc hr I1.env0 (F.bd s' [.ref f] (by rw [← hK]; exact I1.kIn) rfl) (.cons rfl .nil) rfl fun hr' => ?_
    obtain ⟨k1', k2', j1, j2, k3, p1, p2, p3, p4, p5, p6, p7, p8, p9, p10, p11, p12, p13, p14, p15, p16, p17, p18, p19, p20, p21, eb⟩ := isTold_inv F.body
    have hn := F.names
    unfold toldSc at hn
    simp only [Bool.and_eq_true, decide_eq_true_eq] at hn
    obtain ⟨n1, n2, n3, n4, n5⟩ := hn
    have nd : toldNames.Nodup := by decide +kernel
    rw [eb]
    refine ⟨tSeq (tAsg (tTup (tCons (tC .non) (tCons (tC .non) tNil))) (gTup X.K 2 (gCons (gName 1) (gCons (gName 2) gNil)))) (tSeq (fun D σZ H => (fun W => tAsg (fun σZ HZ Q => σZ[0]? = some (some (.ref f)) ∧ HZ c' = some (CodeO c' (X.env.qual ++ "<lambda>")) ∧ rd Γ (fun cls d _ H => W cls d σZ H) (Rep Γ) m σ HZ Q) (gName 2)) (wAsG X.K (.ref (Γ.ca c)) 3 (fun a => tAsg (tVar 3) (gName 1)) (fun _ _ _ _ => False) D) D σZ H) (tRet (tTup (tCons (tVar 1) (tCons (tVar 2) tNil))))), ?_, ?_⟩
    · refine pss_cons (ps_asg (pe_tup (pa_cons pe_non (pa_cons pe_non pa_nil))) (pg_tup (X := (cxOf C8.CX0 X.prog X.w X.K X.mg X.base toldNames x F.sg g F.cdv X.A X.stack s' H1 C8.E0)) rfl (pgs_cons (pg_name (i := 1) nd rfl (.inl n2) (.inr n2)) (pgs_cons (pg_name (i := 2) nd rfl (.inl n3) (.inr n3)) pgs_nil))) rfl ?_) (pss_cons ?_ (pss_one (ps_ret (pe_tup (pa_cons (pe_var rfl (.inl n2)) (pa_cons (pe_var rfl (.inl n3)) pa_nil))))))
      · simp only [swappedStores]
        repeat' split
        all_goals first | rfl | (exfalso; rename_i hh; exact hh rfl) | (exfalso; rename_i hh _; exact hh rfl)
      · refine ps_try_asG (X := (cxOf C8.CX0 X.prog X.w X.K X.mg X.base toldNames x F.sg g F.cdv X.A X.stack s' H1 C8.E0)) (x := "MirrorError") (n := "error") (i := 3) (tb := (fun W => tAsg (fun σZ HZ Q => σZ[0]? = some (some (.ref f)) ∧ HZ c' = some (CodeO c' (X.env.qual ++ "<lambda>")) ∧ rd Γ (fun cls d _ H => W cls d σZ H) (Rep Γ) m σ HZ Q) (gName 2))) (ts := fun a => tAsg (tVar 3) (gName 1)) (Wout := fun _ _ _ _ => False) rfl rfl nd rfl n4 ⟨n5, by decide, .inl hE⟩ L2.takes0 (fun W pn xe tk _ => ?_) (fun a pn => pss_one (ps_asg (pe_var (x := "error") (i := 3) rfl (.inl n4)) (pg_name (i := 1) nd rfl (.inl n2) (.inr n2)) ?_ ?_))
        · exact pss_one (ps_asg (pe_actG (i := 0) I1 L hf hfn hfr (hbind _ _ _ _ _) tk hr' (fun A outer s H E hg2 hr2 => hbody A outer s H E f c' hg2 hr2) rfl (.inl n1)) (pg_name nd rfl (.inl n3) (.inr n3)) rfl rfl)
        · rfl
        · rfl
    · refine ⟨by show 2 ≤ sizeLine; decide, fun p0 hp0 => ⟨p0, [.non, .non], rfl, .of upd_same, rfl, .non, [.non], rfl, .non, [], rfl, rfl, ?_⟩⟩
      have k0 := Kp.laid (o := .tup [.non, .non]) m1 hp0
      have m0 := m1.laid (o := .tup [.non, .non]) hp0 fun ps z => nomatch z
      have hco0 : upd H1 p0 (.tup [.non, .non]) c' = some (CodeO c' (X.env.qual ++ "<lambda>")) := by
        rw [upd_ne fun z => by rw [z, hp0] at hco; cases hco]
        exact hco
      replace po := po.trans k0
      refine ⟨rfl, hco0, as, st, ρ, m0, e1.mono k0, ?_⟩
      unfold toldM at po
      cases em : m ρ st with
      | stuck => rw [em] at po; exact po.elim
      | ok d st2 =>
        rw [em] at po
        intro as2 v H2 k2 m2 r2
        show ∃ v1, _ ∧ ∃ v2, _ ∧ _
        refine ⟨.non, rfl, v, rfl, by show 2 ≤ sizeLine; decide, fun q hq => ?_⟩
        have k3 := Kp.laid (o := .tup [.non, v]) m2 hq
        refine po as2 (.ref q) _ (k2.trans k3) (m2.laid hq fun ps z => nomatch z) ?_
        unfold Rep
        exact ⟨q, [.non, v], rfl, .inl ⟨m2.ninn hq, upd_same⟩, .cons .ofNon (.cons (r2.mono k3) .nil)⟩
      | exc e y st2 =>
        rw [em] at po
        simp only at po
        cases ei : isE T e c with
        | none => rw [ei] at po; exact po.elim
        | some b =>
          rw [ei] at po
          cases b with
          | false => exact po.elim
          | true =>
            intro as2 H2 dx w k2 m2 hdx ndx rw2
            refine ⟨true, by rw [hK]; exact F.ex e ei, fun _ a ha => ?_, fun z => nomatch z⟩
            have hne : dx ≠ a := fun z => by rw [z, ha] at hdx; cases hdx
            have k3 := Kp.laid (o := ExZ (.ref (Γ.ca e)) (some dx) a) m2 ha
            have m3 := m2.laid (o := ExZ (.ref (Γ.ca e)) (some dx) a) ha fun ps z => by unfold ExZ at z; cases z
            refine ⟨.ref a, rfl, ?_⟩
            show ∃ v1, _ ∧ ∃ v2, _ ∧ _
            refine ⟨.ref a, rfl, .non, rfl, by show 2 ≤ sizeLine; decide, fun q hq => ?_⟩
            have k4 := Kp.laid (o := .tup [.ref a, .non]) m3 hq
            refine po as2 (.ref q) _ ((k2.trans k3).trans k4) (m3.laid hq fun ps z => nomatch z) ?_
            have nqa : a ≠ q := fun z => by rw [← z, upd_same] at hq; cases hq
            have nqd : dx ≠ q := fun z => by rw [← z, upd_ne hne, hdx] at hq; cases hq
            unfold Rep
            refine ⟨q, [.ref a, .non], rfl, .inl ⟨m3.ninn hq, upd_same⟩, .cons ?_ (.cons .ofNon .nil)⟩
            unfold Rep
            exact ⟨a, dx, w, rfl, m2.ninn ha, ndx, by rw [upd_ne nqa, upd_same]; rfl, by rw [upd_ne nqd, upd_ne hne]; exact hdx, rw2.mono (k3.trans k4)⟩
  refine wpAny_call (codeAny_mono rc fun r s2 hq => ?_)
  cases r with
  | error e => exact (show False from hq).elim
  | ok fl =>
    cases fl with
    | ret u => exact I1.after hq
    | next => exact False.elim hq
    | brk => exact False.elim hq
    | cont => exact False.elim hq
end
end G
set_option Elab.async false
set_option linter.all false
set_option maxRecDepth 100000
set_option maxHeartbeats 4000000
/-! GB8: a def that is handed a lambda, and hands it on to _law_told. -/
namespace G
open PySem PySem.Spec PyProof.Rows L2 SlX LamX
theorem un_shrink {fs fs' ex : List Addr} {H H1 : Hp} {h h1 : Heap} (u : Un fs' ex H H1 h h1) (sub : ∀ b ∈ fs', b ∈ fs ∨ h.objs.size ≤ b) : Un fs ex H H1 h h1 :=
  ⟨fun b o q n hb he => u.keep b o q n (fun z => (sub b z).elim hb fun y => absurd (Heap.lt_size q) (Nat.not_lt.mpr y)) he, fun b o q n _ he => u.any q n he, u.free, u.there, u.tups, u.frzs, u.tbls⟩
/-- what was raised, or None -/
def caughtM (T : Tab) (c : Nat) (m : M D) : M D := fun s => match m s with
  | .ok _ s => .ok .non s
  | .exc e v s => match isE T e c with
    | some true => .ok (.exc e v) s
    | _ => .stuck
  | .stuck => .stuck
section
variable {Γ : Gx} {X : Cx} {pins : List (Addr × Obj)} {σ : L2.St} {H HZ : Hp} {s s1 : Shared} {as : List G.Loc} {st : Store} {T : Tab}
/-- the lambda is called, in a def that got it from a def that got it -/
theorem pe_actG2 {m : Env → M D} {CXg : CXT} {Eg : XK} {Ng : List Str} {qg : Str} {sg : Scope} {g f c' : Addr} {cdg pm ctv : Value} {params : Arguments} {body : Expr} {scope : Scope} {k i : Nat} {a : Str} {pn : List (Addr × Obj)} {xe : Value → Shared → Prop} {W : WX} {p1 p2 : Pos}
    {AB : Around} {stkB : List PySem.Env} {sB : Shared} {HB : Hp}
    (I : Inv X pins σ H s) (U : Un (frs X.stack) [] H HB s.heap sB.heap) (hsub : ∀ b ∈ frs stkB, b ∈ frs X.stack ∨ s.heap.objs.size ≤ b) (hsup : ∀ b ∈ frs X.stack, b ∈ frs stkB)
    (L : LamS X.env.scope scope) (hf : s.heap.get? f = some (PySem.W.kla_obj "<lambda>" (X.env.qual ++ "<lambda>") params body scope (cloFrom X.env.cells scope.names []) pm c' ctv)) (hfn : H f = none) (hfr : f ∉ frs X.stack)
    (hbind : bindArgs (PySem.W.kla_fn "<lambda>" (X.env.qual ++ "<lambda>") params body scope (cloFrom X.env.cells scope.names []) pm (.ref c') ctv) ⟨[], []⟩ = pure [])
    (tk : Takes ((cxOf CXg X.prog X.w X.K X.mg X.base Ng qg sg g cdg AB stkB sB HB Eg).tr pn xe) W) (hr : Room (k + 1) (AB.deeper (envOfC qg sg sB.heap.objs.size g cdg))) (hgd : AB.guards = X.A.guards)
    (hbody : ∀ (A : Around) (outer : List PySem.Env) (s : Shared) (H : Hp) (E : XK), A.guards = X.A.guards → Room k (A.deeper (lamEnv X scope s.heap.objs.size f c')) → SE Γ (lamCx X A outer s H E scope f c') (fun cls d _ H => E cls d H) body m)
    (hN : Ng[i]? = some a) (hv : Vis sg a) (hd : (a == ("__debug__" : Str)) = false := by decide) (hcd : (a == ("__classdict__" : Str)) = false := by decide) :
    PE ((cxOf CXg X.prog X.w X.K X.mg X.base Ng qg sg g cdg AB stkB sB HB Eg).tr pn xe) (.Call (.Name a p1) [] [] p2)
      (fun σZ HZ Q => σZ[i]? = some (some (.ref f)) ∧ HZ c' = some (CodeO c' (X.env.qual ++ "<lambda>")) ∧ rd Γ (fun cls d _ H => W cls d σZ H) (Rep Γ) m σ HZ Q) := by
  refine ⟨fun pinsZ sZ σZ HZ Q IZ h => ?_⟩
  obtain ⟨hs, hc, ht⟩ := h
  refine wpAny_Call_Name_kw (thn ((pe_var (pos := p1) (i := i) hN hv hd hcd).run pinsZ sZ σZ HZ (fun v H1 => v = .ref f ∧ H1 = HZ) IZ ⟨.ref f, hs, rfl, rfl⟩) fun u s1 ⟨v, H1, I1, r1, q1⟩ => ?_)
  obtain ⟨ev, eH⟩ := q1
  subst ev
  rw [eH] at I1
  obtain rfl : u = Value.ref f := r1
  have ub : Un (frs stkB) [] HB HZ sB.heap s1.heap := I1.base
  have un : Un (frs X.stack) [] H HZ s.heap s1.heap := un_shrink ((U.mono hsup fun _ h => h).trans ub) hsub
  have of1 : s1.heap.get? f = some (PySem.W.kla_obj "<lambda>" (X.env.qual ++ "<lambda>") params body scope (cloFrom X.env.cells scope.names []) pm c' ctv) := un.keep f _ hf hfn hfr (fun z => nomatch (show f ∈ ([] : List Addr) from z))
  refine PySem.W.callWith_F0 ⟨_, _, _, _, of1⟩ ?_
  obtain ⟨⟨oc, vs, t, hoc, hdc, hvc⟩, _, _⟩ := I1.hok c' _ hc
  have rc : codeAny (model X.prog X.w) (AB.deeper (envOfC qg sg sB.heap.objs.size g cdg)) (.call (.ref f) ⟨[], []⟩) (CR (L2.CX X.prog X.w) (envOfC qg sg sB.heap.objs.size g cdg :: stkB) X.prog X.w HZ s1 Q (WE W σZ)) s1 := by
    refine PySem.W.kla_callFunE hr.depth of1 rfl L.co L.gen rfl ⟨c', oc, vs, t, rfl, hoc, hdc, hvc⟩ ?_
    rw [hbind]
    refine wpAny_pure (wpAny_newFunctionEnv (fun y hy => (L.own y hy).2) (fun y hy => absurd hy (by simp)) (fun h₁ hns hsb => ⟨I1.nolimit.fresh _ hsb, ?_⟩) L.kind)
    show codeAny _ _ (.expr body (lamEnv X scope s1.heap.objs.size f c')) _ _
    have kp : ∀ b o, s1.heap.get? b = some o → h₁.get? b = some o := fun b o e => hsb.extBut b o (Nat.ne_of_lt (Heap.lt_size e)) (Heap.get?_push_of_some _ e)
    have J : Inv (lamCx X (AB.deeper (envOfC qg sg sB.heap.objs.size g cdg)) (envOfC qg sg sB.heap.objs.size g cdg :: stkB) s1 HZ (WE W σZ) scope f c') [] σ HZ { s1 with heap := h₁, toks := s1.toks + ([] : List (Str × Value)).length } :=
      lam_start2 I L I1.env0 hr.hd un hns kp
    refine PySem.W.kla_codeExpr (wpAny_mono ((hbody (AB.deeper (envOfC qg sg sB.heap.objs.size g cdg)) _ s1 HZ _ hgd (hr.deeper _)).run [] _ _ HZ Q J ht) (fun v s' hq => ?_) fun e s' hq => hq)
    obtain ⟨w', H', J', rv, q⟩ := hq
    exact ⟨w', H', J'.os, J'.bare, J'.base, J'.hok, rv, q⟩
  refine wpAny_call (codeAny_mono rc fun r s' hq => ?_)
  cases r with
  | error e => exact tk _ _ (XE.of_call I1 (fun _ _ _ h => h) hq)
  | ok fl =>
    cases fl with
    | ret u => exact I1.after hq
    | next => exact False.elim hq
    | brk => exact False.elim hq
    | cont => exact False.elim hq
def refdNames : List Str := ["call", "value", "caught"]
/-- _law_told(call)[0], in a def that got the lambda -/
theorem pe_toldIx {m : Env → M D} {k c : Nat} {x xr : Str} {g gr f c' : Addr} {cdr pm ctv : Value} {sr : Scope} {params : Arguments} {body : Expr} {scope : Scope} {kk : Nat} {p1 p2 p3 p4 p5 : Pos} (F : ToldF Γ T x g c) (hK : X.K = Γ.K)
    (hgl : sr.names.lookup x = some .globalImplicit) (ncall : sr.names.lookup ("call" : Str) = some .local) (hkd : sr.kind = .function) (hm : X.mg x = some (.ref g)) (hE : X.mg "MirrorError" = some (.ref (Γ.ca c)))
    (I : Inv X pins σ H s) (L : LamS X.env.scope scope) (hf : s.heap.get? f = some (PySem.W.kla_obj "<lambda>" (X.env.qual ++ "<lambda>") params body scope (cloFrom X.env.cells scope.names []) pm c' ctv)) (hfn : H f = none) (hfr : f ∉ frs X.stack)
    (hr : Room (k + 2) (X.A.deeper (envOfC xr sr s.heap.objs.size gr cdr)))
    (hbind : ∀ (q : Str) (cl : List (Str × Addr)) (pm cv ctv : Value), bindArgs (PySem.W.kla_fn "<lambda>" q params body scope cl pm cv ctv) ⟨[], []⟩ = pure [])
    (hbody : ∀ (A : Around) (outer : List PySem.Env) (s : Shared) (H : Hp) (E : XK) (f c' : Addr), A.guards = X.A.guards → Room k (A.deeper (lamEnv X scope s.heap.objs.size f c')) → SE Γ (lamCx X A outer s H E scope f c') (fun cls d _ H => E cls d H) body m)
    (hdb : (x == ("__debug__" : Str)) = false) :
    PE (cxOf C8.CX0 X.prog X.w X.K X.mg X.base refdNames xr sr gr cdr X.A X.stack s H C8.E0) (.Subscript (.Call (.Name x p1) [.Name "call" p2] [] p3) (.Constant (.int 0) kk p4) p5)
      (fun σY HY Q => σY[0]? = some (some (.ref f)) ∧ HY c' = some (CodeO c' (X.env.qual ++ "<lambda>")) ∧ ∃ as st ρ, Mt Γ as st HY ∧ EnvR Γ as HY ρ σ ∧ Po Γ (Rep Γ) as HY (caughtM T c (m ρ) st) Q (fun _ _ _ => False)) := by
  refine ⟨fun pinsY sY σY HY Q IY h => ?_⟩
  obtain ⟨hs, hco, as, st, ρ, mt, er, po⟩ := h
  have eY : (cxOf C8.CX0 X.prog X.w X.K X.mg X.base refdNames xr sr gr cdr X.A X.stack s H C8.E0).env = envOfC xr sr s.heap.objs.size gr cdr := rfl
  refine Subscript_ (wpAny_Call_Name_kw (ld_glob IY hgl hm ?_ hdb))
  refine PySem.W.callWith_K (h₀ := X.base) IY.ok.mod.kin (by rw [show (cxOf C8.CX0 X.prog X.w X.K X.mg X.base refdNames xr sr gr cdr X.A X.stack s H C8.E0).K = Γ.K from hK]; exact F.kp) ?_ (by rfl) (by rfl)
  show wpAny _ _ (spliced ((false, eval (.Name "call" p2) (cxOf C8.CX0 X.prog X.w X.K X.mg X.base refdNames xr sr gr cdr X.A X.stack s H C8.E0).env) :: backTo p3 (starEach [] (cxOf C8.CX0 X.prog X.w X.K X.mg X.base refdNames xr sr gr cdr X.A X.stack s H C8.E0).env))) _ _ _
  refine Calls.spliced_cons (thn ((pe_var (pos := p2) (i := 0) (x := "call") rfl (.inl ncall)).run pinsY sY σY HY (fun v H1 => v = .ref f ∧ H1 = HY) IY ⟨.ref f, hs, rfl, rfl⟩) fun u s1 ⟨v, H1, I1, r1, q1⟩ => ?_)
  obtain ⟨ev, eH⟩ := q1
  subst ev
  rw [eH] at I1
  obtain rfl : u = Value.ref f := r1
  refine Calls.spliced_nil ⟨I1.kIn, ?_⟩
  have sub1 : ∀ b ∈ frs (envOfC xr sr s.heap.objs.size gr cdr :: X.stack), b ∈ frs X.stack ∨ s.heap.objs.size ≤ b := fun b hb => by
    rcases List.mem_cons.mp hb with z | z
    · right
      rw [z]
      exact Nat.le_refl _
    · exact .inl z
  have sup1 : ∀ b ∈ frs X.stack, b ∈ frs (envOfC xr sr s.heap.objs.size gr cdr :: X.stack) := fun b hb => List.mem_cons_of_mem _ hb
  have U : Un (frs X.stack) [] H HY s.heap s1.heap := I1.base
  have rc : codeAny (model X.prog X.w) (X.A.deeper (envOfC xr sr s.heap.objs.size gr cdr)) (.call (.ref g) ⟨[.ref f], []⟩) (CR C8.CX0 (envOfC xr sr s.heap.objs.size gr cdr :: X.stack) X.prog X.w HY s1 (fun v H3 => ∃ q vs w, v = .ref q ∧ SqT X.K H3 q (w :: vs) ∧ Q w H3) C8.E0) s1 := by
    refine run_ofS (N := toldNames) (ps := ["call"]) (us := [.ref f]) (vs := [.ref f]) (by rw [hK]; exact F.lk) (by rw [hK]; exact F.cd) F.sc hr I1.env0 (F.bd s1 [.ref f] (by rw [← hK]; exact I1.kIn) rfl) (.cons rfl .nil) rfl fun hr' => ?_
    obtain ⟨k1', k2', j1, j2, k3, p1, p2, p3, p4, p5, p6, p7, p8, p9, p10, p11, p12, p13, p14, p15, p16, p17, p18, p19, p20, p21, eb⟩ := isTold_inv F.body
    have hn := F.names
    unfold toldSc at hn
    simp only [Bool.and_eq_true, decide_eq_true_eq] at hn
    obtain ⟨n1, n2, n3, n4, n5⟩ := hn
    have nd : toldNames.Nodup := by decide +kernel
    rw [eb]
    refine ⟨tSeq (tAsg (tTup (tCons (tC .non) (tCons (tC .non) tNil))) (gTup X.K 2 (gCons (gName 1) (gCons (gName 2) gNil)))) (tSeq (fun D σZ H => (fun W => tAsg (fun σZ HZ Q => σZ[0]? = some (some (.ref f)) ∧ HZ c' = some (CodeO c' (X.env.qual ++ "<lambda>")) ∧ rd Γ (fun cls d _ H => W cls d σZ H) (Rep Γ) m σ HZ Q) (gName 2)) (wAsG X.K (.ref (Γ.ca c)) 3 (fun a => tAsg (tVar 3) (gName 1)) (fun _ _ _ _ => False) D) D σZ H) (tRet (tTup (tCons (tVar 1) (tCons (tVar 2) tNil))))), ?_, ?_⟩
    · refine pss_cons (ps_asg (pe_tup (pa_cons pe_non (pa_cons pe_non pa_nil))) (pg_tup (X := (cxOf C8.CX0 X.prog X.w X.K X.mg X.base toldNames x F.sg g F.cdv (X.A.deeper (envOfC xr sr s.heap.objs.size gr cdr)) (envOfC xr sr s.heap.objs.size gr cdr :: X.stack) s1 HY C8.E0)) rfl (pgs_cons (pg_name (i := 1) nd rfl (.inl n2) (.inr n2)) (pgs_cons (pg_name (i := 2) nd rfl (.inl n3) (.inr n3)) pgs_nil))) rfl ?_) (pss_cons ?_ (pss_one (ps_ret (pe_tup (pa_cons (pe_var rfl (.inl n2)) (pa_cons (pe_var rfl (.inl n3)) pa_nil))))))
      · simp only [swappedStores]
        repeat' split
        all_goals first | rfl | (exfalso; rename_i hh; exact hh rfl) | (exfalso; rename_i hh _; exact hh rfl)
      · refine ps_try_asG (X := (cxOf C8.CX0 X.prog X.w X.K X.mg X.base toldNames x F.sg g F.cdv (X.A.deeper (envOfC xr sr s.heap.objs.size gr cdr)) (envOfC xr sr s.heap.objs.size gr cdr :: X.stack) s1 HY C8.E0)) (x := "MirrorError") (n := "error") (i := 3) (tb := (fun W => tAsg (fun σZ HZ Q => σZ[0]? = some (some (.ref f)) ∧ HZ c' = some (CodeO c' (X.env.qual ++ "<lambda>")) ∧ rd Γ (fun cls d _ H => W cls d σZ H) (Rep Γ) m σ HZ Q) (gName 2))) (ts := fun a => tAsg (tVar 3) (gName 1)) (Wout := fun _ _ _ _ => False) rfl rfl nd rfl n4 ⟨n5, by decide, .inl hE⟩ L2.takes0 (fun W pn xe tk _ => ?_) (fun a pn => pss_one (ps_asg (pe_var (x := "error") (i := 3) rfl (.inl n4)) (pg_name (i := 1) nd rfl (.inl n2) (.inr n2)) ?_ ?_))
        · exact pss_one (ps_asg (pe_actG2 (i := 0) I U sub1 sup1 L hf hfn hfr (hbind _ _ _ _ _) tk hr' rfl (fun A outer s H E hg2 hr2 => hbody A outer s H E f c' hg2 hr2) rfl (.inl n1)) (pg_name nd rfl (.inl n3) (.inr n3)) rfl rfl)
        · rfl
        · rfl
    · refine ⟨by show 2 ≤ sizeLine; decide, fun p0 hp0 => ⟨p0, [.non, .non], rfl, .of upd_same, rfl, .non, [.non], rfl, .non, [], rfl, rfl, ?_⟩⟩
      have k0 := Kp.laid (o := .tup [.non, .non]) mt hp0
      have m0 := mt.laid (o := .tup [.non, .non]) hp0 fun ps z => nomatch z
      have hco0 : upd HY p0 (.tup [.non, .non]) c' = some (CodeO c' (X.env.qual ++ "<lambda>")) := by
        rw [upd_ne fun z => by rw [z, hp0] at hco; cases hco]
        exact hco
      replace po := po.trans k0
      refine ⟨rfl, hco0, as, st, ρ, m0, er.mono k0, ?_⟩
      unfold caughtM at po
      cases em : m ρ st with
      | stuck => rw [em] at po; exact po.elim
      | ok d st2 =>
        rw [em] at po
        intro as2 v H2 k2 m2 r2
        show ∃ v1, _ ∧ ∃ v2, _ ∧ _
        refine ⟨.non, rfl, v, rfl, by show 2 ≤ sizeLine; decide, fun q hq => ?_⟩
        have k3 := Kp.laid (o := .tup [.non, v]) m2 hq
        have m3 := m2.laid (o := .tup [.non, v]) hq fun ps z => nomatch z
        exact ⟨q, [v], .non, rfl, .of upd_same, po as2 .non _ (k2.trans k3) m3 .ofNon⟩
      | exc e y st2 =>
        rw [em] at po
        simp only at po
        cases ei : isE T e c with
        | none => rw [ei] at po; exact po.elim
        | some b =>
          rw [ei] at po
          cases b with
          | false => exact po.elim
          | true =>
            intro as2 H2 dx w k2 m2 hdx ndx rw2
            refine ⟨true, by rw [hK]; exact F.ex e ei, fun _ a ha => ?_, fun z => nomatch z⟩
            have hne : dx ≠ a := fun z => by rw [z, ha] at hdx; cases hdx
            have k3 := Kp.laid (o := ExZ (.ref (Γ.ca e)) (some dx) a) m2 ha
            have m3 := m2.laid (o := ExZ (.ref (Γ.ca e)) (some dx) a) ha fun ps z => by unfold ExZ at z; cases z
            refine ⟨.ref a, rfl, ?_⟩
            show ∃ v1, _ ∧ ∃ v2, _ ∧ _
            refine ⟨.ref a, rfl, .non, rfl, by show 2 ≤ sizeLine; decide, fun q hq => ?_⟩
            have k4 := Kp.laid (o := .tup [.ref a, .non]) m3 hq
            have m4 := m3.laid (o := .tup [.ref a, .non]) hq fun ps z => nomatch z
            have nqa : a ≠ q := fun z => by rw [← z, upd_same] at hq; cases hq
            have nqd : dx ≠ q := fun z => by rw [← z, upd_ne hne, hdx] at hq; cases hq
            refine ⟨q, [.non], .ref a, rfl, .of upd_same, po as2 (.ref a) _ ((k2.trans k3).trans k4) m4 ?_⟩
            unfold Rep
            exact ⟨a, dx, w, rfl, m2.ninn ha, ndx, by rw [upd_ne nqa, upd_same]; rfl, by rw [upd_ne nqd, upd_ne hne]; exact hdx, rw2.mono (k3.trans k4)⟩
  refine wpAny_call (codeAny_mono rc fun r s2 hq => ?_)
  cases r with
  | error e => exact (show False from hq).elim
  | ok fl =>
    cases fl with
    | next => exact False.elim hq
    | brk => exact False.elim hq
    | cont => exact False.elim hq
    | ret u =>
      obtain ⟨v, H3, I3, rv, q, vs, w, rfl, sq, hQ⟩ := I1.after (X := cxOf C8.CX0 X.prog X.w X.K X.mg X.base refdNames xr sr gr cdr X.A X.stack s H C8.E0) hq
      refine thn (pe_int.run pinsY s2 σY H3 (fun v H => v = .int 0 ∧ H = H3) I3 ⟨rfl, rfl⟩) fun u' s3 ⟨v', H4, I4, ri, e1, e2⟩ => ?_
      subst e1 e2
      exact ix_seq _ _ pinsY s3 σY H4 (.ref q) (.int 0) u u' Q I4 rv ri (.inr (.inl ⟨q, w :: vs, 0, w, rfl, rfl, sq, by rw [atN_eq]; rfl, hQ⟩)) rfl
/-- such a def -/
structure RefF (Γ : Gx) (y : Str) (gr : Addr) (x : Str) (ret : Expr) where
  pg : Arguments
  bg : List Stmt
  sg : Scope
  dV : Value
  kV : Value
  doc : Value
  pm : Value
  cdv : Value
  ct : Value
  oc : Value
  an : Option Addr
  od : Option Addr
  osl : Array (Option Value)
  kp : PySem.W.keepIn Γ.K (.ref gr) = true
  lk : Γ.K.lookup gr = some ⟨oc, od, .func (PySem.W.fnOf y y pg bg sg dV kV doc pm an cdv ct), osl⟩
  cd : PySem.W.codeIn Γ.K cdv y = true
  bd : L2.Binds Γ.K (PySem.W.fnOf y y pg bg sg dV kV doc pm an cdv ct) ["call", "value"] []
  sc : FnScope refdNames ["call", "value"] sg
  body : ∃ q1 q2 q3 q4 q5 q6 q7 q8 q9, bg = [.Assign [.Name "caught" q1] (.Subscript (.Call (.Name x q2) [.Name "call" q3] [] q4) (.Constant (.int 0) q5 q6) q7) q8, .Return (some ret) q9]
  n1 : sg.names.lookup ("call" : Str) = some .local
  n3 : sg.names.lookup ("caught" : Str) = some .local
  nx : sg.names.lookup x = some .globalImplicit
def refdM (T : Tab) (c : Nat) (b v : M D) (r : Env → M D) : M D := fun s => match v s with
  | .ok x s => (match b s with
    | .ok _ s => noExc (r [none, some x, some .non]) s
    | .exc e y s => (match isE T e c with
      | some true => noExc (r [none, some x, some (.exc e y)]) s
      | _ => .stuck)
    | .stuck => .stuck)
  | .exc e y s => .exc e y s
  | .stuck => .stuck
theorem se_refd {W : WX} {k c : Nat} {x y : Str} {g gr P cc : Addr} {ret v : Expr} {params : Arguments} {body : Expr} {scope : Scope} {m mv mr : Env → M D} {p lpos pos : Pos} (F : ToldF Γ T x g c) (R : RefF Γ y gr x ret) (hK : X.K = Γ.K) (hg : Gl X y) (hmr : X.mg y = some (.ref gr)) (hm : X.mg x = some (.ref g)) (hE : X.mg "MirrorError" = some (.ref (Γ.ca c)))
    (TB : TabB X.base X.mg cc P) (hcode : X.env.code = .ref cc) (hmT : (P, X.env.qual ++ "<lambda>") ∈ Γ.tabs) (hu : ∀ p ∈ Γ.tabs, p.1 = P → p.2 = X.env.qual ++ "<lambda>") (hr : Room (k + 3) X.A) (L : LamS X.env.scope scope) (hdef : defaultsOf params X.env = ([], []))
    (hbind : ∀ (q : Str) (cl : List (Str × Addr)) (pm cv ctv : Value), bindArgs (PySem.W.kla_fn "<lambda>" q params body scope cl pm cv ctv) ⟨[], []⟩ = pure [])
    (hbody : ∀ (A : Around) (outer : List PySem.Env) (s : Shared) (H : Hp) (E : XK) (f c' : Addr), A.guards = X.A.guards → Room k (A.deeper (lamEnv X scope s.heap.objs.size f c')) → SE Γ (lamCx X A outer s H E scope f c') (fun cls d _ H => E cls d H) body m)
    (hv : SA Γ X W [v] (fun ρ => do return [← mv ρ])) (hns : noStar v = true)
    (hret : ∀ (s : Shared) (H : Hp), Room (k + 2) (X.A.deeper (envOfC y R.sg s.heap.objs.size gr R.cdv)) → SE Γ (cxOf C8.CX0 X.prog X.w X.K X.mg X.base refdNames y R.sg gr R.cdv X.A X.stack s H C8.E0) (fun _ _ _ _ => False) ret mr)
    (hdy : (y == ("__debug__" : Str)) = false) (hdb : (x == ("__debug__" : Str)) = false) :
    SE Γ X W (.Call (.Name y p) [.Lambda params body scope lpos, v] [] pos) (fun ρ => refdM T c (m ρ) (mv ρ) mr) := by
  refine ⟨fun pins s σ H Q I h => ?_⟩
  obtain ⟨as, st, ρ, mt, er, po⟩ := h
  refine wpAny_Call_Name_kw (ld_glob I hg hmr ?_ hdy)
  refine PySem.W.callWith_K (h₀ := X.base) I.ok.mod.kin (by rw [hK]; exact R.kp) ?_ (by rfl) (star_any (es := [v]) (by rw [List.all_cons, hns]; rfl))
  show wpAny _ _ (spliced ((false, eval (.Lambda params body scope lpos) X.env) :: backTo pos (starEach [v] X.env))) _ _ s
  refine Calls.spliced_cons (lam_makeG I mt TB hcode rfl hmT hu hdef (L.has I.ok) fun f c' pm' ctv H1 s' I1 k1 m1 hf hfn hfr hco hin hge => ?_)
  have e1 := er.mono k1
  replace po : Po Γ (Rep Γ) as H1 (refdM T c (m ρ) (mv ρ) mr st) Q (WE W σ) := po.trans k1
  have I1p : Inv X ((f, PySem.W.kla_obj "<lambda>" (X.env.qual ++ "<lambda>") params body scope (cloFrom X.env.cells scope.names []) pm' c' ctv) :: pins) σ H1 s' := I1.pins_of fun p hp => by
    rcases List.mem_cons.mp hp with z | z
    · rw [z]
      exact ⟨hf, hfn, fun z => Nat.lt_irrefl _ (Nat.lt_of_lt_of_le I.lt (by rw [← show f = X.env.locals from z]; exact hge)), I.nofs hge, fun v z => by unfold PySem.W.kla_obj at z; cases z⟩
    · exact I1.pin p (List.mem_append_right _ z)
  refine SA.bnd (ms := fun ρ => do return [← mv ρ]) (f := fun xs => match xs with
    | [x] => (fun s => match caughtM T c (m ρ) s with
      | .ok d s => noExc (mr [none, some x, some d]) s
      | _ => .stuck)
    | _ => stuck) hv I1p m1 e1 (rl := Rep Γ) (Q := Q) ?_ fun xs as2 st2 H2 vs us s2 k2 I2 m2 e2 rx ru p2 => ?_
  · unfold refdM at po
    have key : ((mv ρ >>= fun x => (pure [x] : M (List D))) >>= fun xs => (match xs with
      | [x] => (fun s => match caughtM T c (m ρ) s with
        | .ok d s => noExc (mr [none, some x, some d]) s
        | _ => .stuck)
      | _ => stuck : M D)) st = refdM T c (m ρ) (mv ρ) mr st := by
      unfold refdM
      rw [bind_run, bind_run]
      cases mv ρ st with
      | stuck => rfl
      | exc _ _ _ => rfl
      | ok x st1 =>
        show (match caughtM T c (m ρ) st1 with | .ok d s => noExc (mr [none, some x, some d]) s | _ => .stuck) = _
        unfold caughtM
        cases em : m ρ st1 with
        | stuck => simp only [em]
        | ok _ _ => simp only [em]
        | exc e y st2 =>
          simp only [em]
          cases isE T e c with
          | none => rfl
          | some b => cases b <;> rfl
    show Po Γ (Rep Γ) as H1 _ Q (WE W σ)
    rw [key]
    exact po
  · cases xs with
    | nil => exact p2.elim
    | cons dx r =>
      cases r with
      | cons _ _ => exact p2.elim
      | nil =>
        obtain ⟨vx, vr, rfl, rx1, rr⟩ := rx.inv
        rw [rr.nil'] at ru
        cases ru with
        | cons ru1 ru2 =>
          cases ru2
          rename_i ux
          refine ⟨I2.kIn, ?_⟩
          have pf := I2.pin _ (List.mem_append_right _ List.mem_cons_self)
          have I2d : Inv X pins σ H2 s2 := I2.pins_of fun p hp => I2.pin p (List.mem_append_right _ (List.mem_cons_of_mem _ hp))
          have hco2 : H2 c' = some (CodeO c' (X.env.qual ++ "<lambda>")) := k2.kept c' _ hco hin fun ps => codeO_nt ps
          have rc : codeAny (model X.prog X.w) X.A (.call (.ref gr) ⟨[.ref f, ux], []⟩) (CR C8.CX0 X.stack X.prog X.w H2 s2 Q C8.E0) s2 := by
            refine run_ofS (N := refdNames) (ps := ["call", "value"]) (us := [.ref f, ux]) (vs := [.ref f, vx]) (by rw [hK]; exact R.lk) (by rw [hK]; exact R.cd) R.sc hr I2.env0 (R.bd s2 [.ref f, ux] (by rw [← hK]; exact I2.kIn) rfl) (.cons rfl (.cons ru1 .nil)) rfl fun hr' => ?_
            obtain ⟨q1, q2, q3, q4, q5, q6, q7, q8, q9, eb⟩ := R.body
            have nd : refdNames.Nodup := by decide +kernel
            rw [eb]
            refine ⟨tSeq (tAsg _ (gName 2)) (tRet _), pss_cons (ps_asg (pe_toldIx F hK R.nx R.n1 R.sc.kind hm hE I2d L pf.1 pf.2.1 hfr hr' hbind hbody hdb) (pg_name (i := 2) nd rfl (.inl R.n3) (.inr R.n3)) rfl rfl) (pss_one (ps_ret (hret s2 H2 hr'))), ?_⟩
            refine ⟨rfl, hco2, as2, st2, ρ, m2, e2, ?_⟩
            replace p2 : Po Γ (Rep Γ) as2 H2 (match caughtM T c (m ρ) st2 with | .ok d s => noExc (mr [none, some dx, some d]) s | _ => .stuck) Q (WE W σ) := p2
            cases ec : caughtM T c (m ρ) st2 with
            | stuck => rw [ec] at p2; exact p2.elim
            | exc _ _ _ => rw [ec] at p2; exact p2.elim
            | ok d st3 =>
              rw [ec] at p2
              simp only at p2
              intro as3 w H3 k3 m3 r3
              show rd Γ (fun _ _ _ _ => False) (Rep Γ) mr ((L2.start refdNames [V.ref f, vx]).set 2 (some w)) H3 Q
              refine ⟨as3, st3, [none, some dx, some d], m3, ⟨rfl, fun i d' e => ?_⟩, ?_⟩
              · match i, e with
                | 1, e =>
                  cases e
                  exact ⟨vx, rfl, rx1.mono k3⟩
                | 2, e =>
                  cases e
                  exact ⟨w, rfl, r3⟩
                | n + 3, e => cases e
              · have p3 := p2.trans k3
                unfold noExc at p3
                cases er : mr [none, some dx, some d] st3 with
                | stuck => rw [er] at p3; exact p3.elim
                | exc _ _ _ => rw [er] at p3; exact p3.elim
                | ok z st4 =>
                  rw [er] at p3
                  exact fun as' v H' k m r => p3 as' v H' k m r
          refine wpAny_call (codeAny_mono rc fun r s' hq => ?_)
          cases r with
          | error e => exact (show False from hq).elim
          | ok fl =>
            cases fl with
            | ret u => exact I2d.after hq
            | next => exact False.elim hq
            | brk => exact False.elim hq
            | cont => exact False.elim hq
end
end G
set_option Elab.async false
set_option linter.all false
set_option maxRecDepth 100000
set_option maxHeartbeats 4000000
/-! G17: from the text to the IR. -/
namespace G
open PySem PySem.Spec PyProof.Rows L2 SlX

/-- what the names of the text mean -/
structure CC where
  fns : List (Str × Nat)
  cls : List (Str × Nat)
  exc : List Nat
  met : List (Str × Nat)
  att : List (Str × Nat)
  con : List (Str × D)
  slc : List Nat
  /-- calls of another kind -/
  hook : List Str → Nat → Scope → Str → List Expr → Option E := fun _ _ _ _ _ => none
  /-- the frames that a def's body asks for, beyond those of the defs that it calls -/
  room : Nat := 2
  /-- by a name that is called: how many parameters come ahead of those that may be left out, and what then stands for these -/
  dv : List (Str × (Nat × List Int)) := []
  /-- static methods, by the class's name and their own -/
  st : List ((Str × Str) × Nat) := []
/-- what stands for parameters that are left out -/
def fillI (c : CC) (x : Str) (n : Nat) : List Int := match c.dv.lookup x with
  | some (k, ds) => if n = k ∧ n ≠ 0 then ds else []
  | none => []
def fillE (c : CC) (x : Str) (n : Nat) : List E := (fillI c x n).map fun i => .con (.int i)
def ixOf (x : Str) : List Str → Option Nat
  | [] => none
  | y :: r => if x = y then some 0 else (ixOf x r).map (· + 1)
theorem ixOf_get {x : Str} : ∀ {N : List Str} {i : Nat}, ixOf x N = some i → N[i]? = some x
  | [], _, h => by cases h
  | y :: r, i, h => by
    unfold ixOf at h
    split at h
    · cases h; simp_all
    · cases e : ixOf x r with
      | none => rw [e] at h; cases h
      | some j =>
        rw [e] at h
        cases h
        simpa using ixOf_get e
abbrev sx (x : String) : Str := PySem.Str.ofString x
def tyTab : List (Str × String) := [(sx "int", "int"), (sx "bool", "bool"), (sx "str", "str"), (sx "tuple", "tuple"), (sx "list", "list"), (sx "dict", "dict"), (sx "ValueError", "ValueError")]
/-- built-in functions, and types that are called -/
def bltB : List (Str × (String × Pr)) := [(sx "abs", ("abs", .abs)), (sx "max", ("max", .max2)), (sx "min", ("min", .min2)), (sx "all", ("all", .all1)), (sx "any", ("any", .any1)), (sx "repr", ("repr", .repr)), (sx "isinstance", ("isinstance", .isi)), (sx "len", ("len", .len))]
def bltT : List (Str × (String × Pr)) := [(sx "int", ("int", .int1)), (sx "str", ("str", .str1)), (sx "tuple", ("tuple", .tuple1)), (sx "list", ("list", .list1))]
def bltM : List (Str × Pr) := [(sx "join", .join), (sx "split", .split), (sx "startswith", .startswith), (sx "removeprefix", .removeprefix), (sx "append", .append), (sx "extend", .extend)]
/-- the names of built-ins that the text must not hide -/
def bltNames : List Str := [sx "int", sx "bool", sx "str", sx "tuple", sx "list", sx "dict", sx "ValueError", sx "abs", sx "max", sx "min", sx "all", sx "any", sx "repr", sx "isinstance", sx "len", sx "range", sx "zip"]
def isGl (sc : Scope) (x : Str) : Bool := decide (sc.names.lookup x = some .globalImplicit)
def noDbg (x : Str) : Bool := !(x == sx "__debug__") && !(x == sx "__classdict__")
/-- a static method that is called by its class's name -/
def stC (c : CC) (sc : Scope) (o : Expr) (m : Str) (as : List Expr) : Option Nat := match o with
  | .Name x _ => if isGl sc x && (noDbg x && !as.isEmpty) then c.st.lookup (x, m) else none
  | _ => none
def cName (c : CC) (N : List Str) (sc : Scope) (x : Str) : E :=
  if noDbg x then (match sc.names.lookup x with
    | some .local | some .cell | some .free => match ixOf x N with
      | some i => .var i
      | none => .never
    | some .globalImplicit => match c.con.lookup x with
      | some d => .con d
      | none => match c.fns.lookup x with
        | some f => .con (.fn f)
        | none => match c.cls.lookup x with
          | some k => .con (.cls k)
          | none => match tyTab.lookup x with
            | some t => .con (.ty t)
            | none => .never
    | _ => .never) else .never
def cConst : Const → E
  | .none => .con .non
  | .bool b => .con (.bl b)
  | .int i => .con (.int i)
  | .str x => .con (.str x)
  | _ => .never
def cOp : Operator → Option Pr
  | .Add => some .add
  | .Sub => some .sub
  | .Mult => some .mul
  | .FloorDiv => some .fdiv
  | .Mod => some .mod
  | .Pow => some .pow
  | _ => none
def cCmp : CmpOp → Option Pr
  | .Eq => some .eq
  | .NotEq => some .ne
  | .Lt => some .lt
  | .LtE => some .le
  | .Gt => some .gt
  | .GtE => some .ge
  | .In => some .inn
  | .NotIn => some .notin
  | _ => none
/-- targets -/
def cT (N : List Str) (sc : Scope) : Nat → Expr → Option Tg
  | 0, _ => none
  | n + 1, .Name x _ => match sc.names.lookup x with
    | some .local | some .cell => (ixOf x N).map Tg.n
    | _ => none
  | n + 1, .Tuple es _ _ => if es.all noStar then (oAll (es.map (cT N sc n))).map Tg.t else none
  | _, _ => none
def noSet (e : Expr) : Bool := match e with | .Set _ _ _ => false | _ => true
/-- a constant as a key, as a value of a display -/
def cKey : Expr → Option D
  | .Constant (.int i) _ _ => some (.int i)
  | .Constant (.str x) _ _ => some (.str x)
  | _ => none
def cLit : Expr → Option D
  | .Constant .none _ _ => some .non
  | .Constant (.bool b) _ _ => some (.bl b)
  | .Constant (.int i) _ _ => some (.int i)
  | .Constant (.str x) _ _ => some (.str x)
  | _ => none
/-- a comprehension's own names and their places -/
def ownOf (N : List Str) (scope : Scope) : List (Str × Nat) := scope.names.filterMap fun p => match p.2 with
  | .local | .cell => (ixOf p.1 N).map fun i => (p.1, i)
  | _ => none
def cRecv (c : CC) (m : Str) : Option Pr := bltM.lookup m
/-- the step of xs[::-1] -/
def revStep : Expr → Bool
  | .UnaryOp .USub (.Constant (.int i) _ _) _ => decide (i = 1)
  | _ => false
def isTup : Expr → Bool
  | .Tuple _ _ _ => true
  | _ => false
mutual
def cE (c : CC) (N : List Str) : Nat → Scope → Expr → E
  | 0, _, _ => .never
  | n + 1, sc, e => match e with
    | .Name x _ => cName c N sc x
    | .Constant k _ _ => cConst k
    | .BinOp a op b _ => match cOp op with
      | some p => .prim p [cE c N n sc a, cE c N n sc b]
      | none => .never
    | .UnaryOp op a _ => match op with
      | .Not => .not (cE c N n sc a)
      | .USub => .prim .neg [cE c N n sc a]
      | .Invert => .prim .inv [cE c N n sc a]
      | _ => .never
    | .BoolOp op vs _ => cB c N n sc op vs
    | .IfExp t a b _ => .ifx (cE c N n sc t) (cE c N n sc a) (cE c N n sc b)
    | .Compare a ops bs _ => match ops, bs with
      | [op], [b] => match op, b with
        | .Is, .Constant .none _ _ => .prim .isN [cE c N n sc a]
        | .IsNot, .Constant .none _ _ => .prim .isnotN [cE c N n sc a]
        | op, b => match cCmp op with
          | some p => if behindInMarks op b then .never else .prim p [cE c N n sc a, cE c N n sc b]
          | none => .never
      | [op, op'], [b, b'] => match cCmp op, cCmp op' with
        | some p, some p' => if lastMarks [op, op'] [b, b'] then .never else .chain p p' (cE c N n sc a) (cE c N n sc b) (cE c N n sc b')
        | _, _ => .never
      | _, _ => .never
    | .Call f as kws cpos => match f, kws with
      | .Name x _, [] => if isGl sc x && (noDbg x && as.all noStar) then (match c.hook N n sc x as with
        | some e => e
        | none => match c.fns.lookup x with
        | some id => .call id (cEs c N n sc as ++ fillE c x as.length)
        | none => match c.cls.lookup x with
          | some k => if c.slc.contains k && !as.isEmpty then .make k (cEs c N n sc as ++ fillE c x as.length) else (match as with
            | [a] => if c.exc.contains k then .make k [cE c N n sc a] else .never
            | _ => .never)
          | none => match as with
            | [] => .never
            | a :: r => match cLR c N n sc x a r with
              | some e => e
              | none => match bltB.lookup x with
                | some (_, p) => .prim p (cEs c N n sc (a :: r))
                | none => match bltT.lookup x with
                  | some (_, p) => .prim p (cEs c N n sc (a :: r))
                  | none => .never) else .never
      | .Attribute o m apos, [] => if bmOk o as apos cpos then (match stC c sc o m as with
        | some id => .call id (cEs c N n sc as)
        | none => match as with
        | [] => if m == sx "pop" then .bm .pop (cE c N n sc o) [] else (match c.met.lookup m with
          | some mm => .meth mm (cE c N n sc o) []
          | none => .never)
        | [a] => match bltM.lookup m with
          | some p => .bm p (cE c N n sc o) [cE c N n sc a]
          | none => match c.met.lookup m with
            | some mm => .meth mm (cE c N n sc o) (cEs c N n sc [a])
            | none => .never
        | a :: b :: r => match c.met.lookup m with
          | some mm => .meth mm (cE c N n sc o) (cEs c N n sc (a :: b :: r))
          | none => .never) else .never
      | _, _ => .never
    | .Attribute o a _ => if plainBase o then (match c.att.lookup a with
      | some k => .att k (cE c N n sc o)
      | none => .never) else .never
    | .Subscript o i _ => match i with
      | .Slice lo hi st _ => match st with
        | none => .slc (cE c N n sc o) (cOpt c N n sc lo) (cOpt c N n sc hi)
        | some s => match lo, hi with
          | none, none => if revStep s then .prim .slRev [cE c N n sc o] else .never
          | _, _ => .never
      | i => .prim .idx [cE c N n sc o, cE c N n sc i]
    | .List es _ => if es.all noStar then .prim .lst (cEs c N n sc es) else .never
    | .Tuple es _ _ => if es.all noStar then .prim .tup (cEs c N n sc es) else .tups (cSt c N n sc es)
    | .JoinedStr vs _ => if vs.isEmpty then .never else .fstr (cEs c N n sc vs)
    | .FormattedValue e conv spec _ => match spec with
      | none => if conv == -1 then .prim .fmt [cE c N n sc e] else if conv == 114 then .prim .fmtR [cE c N n sc e] else .never
      | some _ => .never
    | .Dict ks vs _ => match ks, vs with
      | [], [] => .prim .dic0 []
      | [some k], [v] => match cKey k, cLit v with
        | some kd, some vd => .prim (.dicS [kd]) [.con vd]
        | _, _ => .never
      | _, _ => .never
    | .ListComp elt gens scope _ => match gens with
      | [⟨tg, it, ifs, a⟩] => match cT N scope n tg with
        | some t => if decide (a = 0) && (noSet it && (blkC N sc scope (ownOf N scope) && (t.slots.all fun i => decide (i ∈ (ownOf N scope).map (·.2))))) then (match ifs with
          | [] => .comp t ((ownOf N scope).map (·.2)) (cI c N n sc (isTup tg) it) none (cE c N n (relS scope sc) elt)
          | [f] => .comp t ((ownOf N scope).map (·.2)) (cI c N n sc (isTup tg) it) (some (cE c N n (relS scope sc) f)) (cE c N n (relS scope sc) elt)
          | _ => .never) else .never
        | none => .never
      | _ => .never
    | _ => .never
def cOpt (c : CC) (N : List Str) : Nat → Scope → Option Expr → Option E
  | _, _, none => none
  | 0, _, some _ => some .never
  | n + 1, sc, some e => some (cE c N n sc e)
/-- the parts of (*a, b) -/
def cSt (c : CC) (N : List Str) : Nat → Scope → List Expr → List E
  | 0, _, _ => [.never]
  | n + 1, sc, es => match es with
    | [] => []
    | e :: r => match e with
      | .Starred e _ => cE c N n sc e :: cSt c N n sc r
      | e => .prim .tup [cE c N n sc e] :: cSt c N n sc r
/-- list(range(e)) -/
def cLR (c : CC) (N : List Str) : Nat → Scope → Str → Expr → List Expr → Option E
  | 0, _, _, _, _ => none
  | n + 1, sc, x, a, r => if x == sx "list" && r.isEmpty then (match a with
    | .Call (.Name y _) [b] [] _ => if y == sx "range" && (isGl sc y && noStar b) then some (.lrange (cE c N n sc b)) else none
    | _ => none) else none
def cEs (c : CC) (N : List Str) : Nat → Scope → List Expr → List E
  | 0, _, _ => [.never]
  | n + 1, sc, es => match es with
    | [] => []
    | e :: r => cE c N n sc e :: cEs c N n sc r
def cB (c : CC) (N : List Str) : Nat → Scope → BoolOp → List Expr → E
  | 0, _, _, _ => .never
  | n + 1, sc, op, vs => match vs with
    | [] => .never
    | [a] => cE c N n sc a
    | a :: b :: r => match op with
      | .And => .and (cE c N n sc a) (cB c N n sc op (b :: r))
      | .Or => .or (cE c N n sc a) (cB c N n sc op (b :: r))
def cI (c : CC) (N : List Str) : Nat → Scope → Bool → Expr → It
  | 0, _, _, _ => .never
  | n + 1, sc, tt, e => match e with
    | .Call (.Name x p) [a] [] q => if x == sx "range" && (isGl sc x && noStar a) then .range1 (cE c N n sc a) else .seq (cE c N n sc (.Call (.Name x p) [a] [] q))
    | .Call (.Name x p) [a, b] [] q => if x == sx "zip" && (isGl sc x && (tt && (noStar a && noStar b))) then .zip (cE c N n sc a) (cE c N n sc b) else .seq (cE c N n sc (.Call (.Name x p) [a, b] [] q))
    | e => .seq (cE c N n sc e)
end
/-! ### statements -/
/-- y = [..], where what is made is stored at the comprehension's end -/
def lcSwaps (sc : Scope) (t e : Expr) : Bool := match t, e with
  | .Name y py, .ListComp _ _ scope pos => sc.kind == .function && (sc.names.lookup y == some .local && ((py.line == pos.line) && !(scope.names.any fun (n, k) => n == y && (k == .local || k == .cell))))
  | _, _ => false
/-- x, y = a, b where no tuple is made -/
def parYes (sc : Scope) (x y : Str) (px py : Pos) (a b : Expr) : Bool := (sc.kind == .function) && (decide (sc.names.lookup x = some .local) && (decide (sc.names.lookup y = some .local) && ((px.line == py.line) && (!decide (x = y) && ((noStar a && noStar b) && (!([a, b].all (foldedForSure 8)) && !([a, b].all (constantsAlone 8))))))))
/-- .. where one is -/
def parNo (sc : Scope) (x y : Str) : Bool := !decide (sc.names.lookup x = some .local) || !decide (sc.names.lookup y = some .local)
mutual
def cS (c : CC) (N : List Str) : Nat → Scope → Stmt → S
  | 0, _, _ => .never
  | n + 1, sc, s => match s with
    | .Expr e _ => match e with
      | .Constant (.str _) _ _ => .pass
      | e => if notComp e then .expr (cE c N n sc e) else .never
    | .Assign ts e _ => match ts with
      | [t] => match t with
        | .Name _ _ => if notComp e then (match cT N sc n t with
          | some t => .asg t (cE c N n sc e)
          | none => .never) else (if lcSwaps sc t e then (match cT N sc n t with
          | some t => .asg t (cE c N n sc e)
          | none => .never) else .never)
        | .Subscript o i _ => if notComp e && noSlice i then .setIdx (cE c N n sc o) (cE c N n sc i) (cE c N n sc e) else .never
        | .Attribute o a _ => if notComp e then (match c.att.lookup a with
          | some k => .setAtt k (cE c N n sc o) (cE c N n sc e)
          | none => .never) else .never
        | .Tuple ts k p => if isTup e then (match ts, e with
          | [.Name x px, .Name y py], .Tuple [a, b] _ _ => if parYes sc x y px py a b || parNo sc x y then (match cT N sc n (.Tuple ts k p) with
            | some (.t [.n i, .n j]) => .asg (.t [.n i, .n j]) (cE c N n sc e)
            | _ => .never) else .never
          | _, _ => .never) else (if notComp e then (match cT N sc n (.Tuple ts k p) with
          | some t => .asg t (cE c N n sc e)
          | none => .never) else .never)
        | _ => .never
      | _ => .never
    | .Return o _ => match o with
      | none => .retN
      | some e => .ret (cE c N n sc e)
    | .If t a b _ => .ifS (cE c N n sc t) (cSs c N n sc a) (cSs c N n sc b)
    | .For tg it b els _ => match els with
      | [] => match cT N sc n tg with
        | some t => if noSet it then .forS t (cI c N n sc (isTup tg) it) (cSs c N n sc b) else .never
        | none => .never
      | _ => .never
    | .While t b els _ => match els with
      | [] => .whileS (cE c N n sc t) (cSs c N n sc b)
      | _ => .never
    | .Raise o cause _ => match o, cause with
      | some (.Call (.Name x _) [a] [] _), none => if isGl sc x && (noDbg x && noStar a) then (match c.cls.lookup x with
        | some k => if c.exc.contains k then .raise k (cE c N n sc a) else .never
        | none => .never) else .never
      | _, _ => .never
    | .Pass _ => .pass
    | .Break _ => .brk
    | .Continue _ => .cont
    | _ => .never
def cSs (c : CC) (N : List Str) : Nat → Scope → List Stmt → List S
  | 0, _, _ => [.never]
  | n + 1, sc, ss => match ss with
    | [] => []
    | s :: r => cS c N n sc s :: cSs c N n sc r
end
end G
set_option Elab.async false
set_option linter.all false
set_option maxRecDepth 100000
set_option maxHeartbeats 4000000
/-! G18: expressions of the text mean what they are compiled to. -/
namespace G
open PySem PySem.Spec PyProof.Rows L2 SlX

/-! ### the IR's meaning, by parts -/
section
variable {ct : Ct} {ρ : Env} {p : Pr} {a b c : E} {es : List E}
theorem ev_prim1 : ev ct (.prim p [a]) ρ = (do let x ← ev ct a ρ; prim ct p [x]) := by simp [ev, evs]
theorem ev_prim2 : ev ct (.prim p [a, b]) ρ = (do let x ← ev ct a ρ; let y ← ev ct b ρ; prim ct p [x, y]) := by simp [ev, evs]
theorem ev_prim : ev ct (.prim p es) ρ = (do let xs ← evs ct es ρ; prim ct p xs) := by simp [ev]
theorem ev_bm : ev ct (.bm p a es) ρ = (do let x ← ev ct a ρ; recvOk p x; let xs ← evs ct es ρ; prim ct p (x :: xs)) := by simp [ev]
theorem ev_call {f : Nat} : ev ct (.call f es) ρ = (do let xs ← evs ct es ρ; ct.call f xs) := by simp [ev]
theorem ev_make {c : Nat} : ev ct (.make c es) ρ = (do let xs ← evs ct es ρ; makeD ct c xs) := by simp [ev]
theorem ev_att {n : Nat} : ev ct (.att n a) ρ = (do let x ← ev ct a ρ; attD ct n x) := by simp [ev]
/-- what an expression is as a test -/
def tstE : E → Bool
  | .and _ _ | .or _ _ | .not _ => false
  | _ => true
theorem evT_tst {e : E} (h : tstE e = true) : (evT ct e = fun ρ => (do let x ← ev ct e ρ; truth x)) ∨ evT ct e = fun _ => stuck := by
  cases e <;> first | (cases h; done) | (refine .inr ?_; funext ρ; simp [evT]; done) | (refine .inl ?_; funext ρ; simp [evT, ev]; done) | (refine .inl ?_; rfl) | skip
  case meth =>
    refine .inl ?_
    funext ρ
    simp only [evT, ev, LawfulMonad.bind_assoc]
    congr 1
    funext x
    congr 1
    funext y
    cases y with
    | none => rfl
    | some f => simp
  case chain =>
    refine .inl ?_
    funext ρ
    simp only [evT, ev, LawfulMonad.bind_assoc]
    congr 1
    funext x
    congr 1
    funext y
    congr 1
    funext z
    congr 1
    funext t
    cases t with
    | true => simp
    | false => rfl
end
section
variable {Γ : Gx} {X : Cx} {W : WX} {k : Nat}
theorem SE.eq {e : Expr} {m m' : Env → M D} (h : SE Γ X W e m) (i : ∀ ρ, m' ρ = m ρ) : SE Γ X W e m' := by rw [show m' = m from funext i]; exact h
theorem ST.eq {e : Expr} {m m' : Env → M Bool} (h : ST Γ X W e m) (i : ∀ ρ, m' ρ = m ρ) : ST Γ X W e m' := by rw [show m' = m from funext i]; exact h
theorem SW.eq {e : Expr} {m m' : Env → M Bool} (h : SW Γ X W e m) (i : ∀ ρ, m' ρ = m ρ) : SW Γ X W e m' := by rw [show m' = m from funext i]; exact h
theorem SA.eq {e : List Expr} {m m' : Env → M (List D)} (h : SA Γ X W e m) (i : ∀ ρ, m' ρ = m ρ) : SA Γ X W e m' := by rw [show m' = m from funext i]; exact h
theorem SI.eq {t e : Expr} {m m' : Env → M (List D × Gd)} (h : SI Γ X W t e m) (i : ∀ ρ, m' ρ = m ρ) : SI Γ X W t e m' := by rw [show m' = m from funext i]; exact h
theorem sw_never {e : Expr} {m : Env → M Bool} (hm : ∀ ρ, m ρ = stuck) : SW Γ X W e m := ⟨fun _ _ _ _ _ _ _ ⟨_, _, ρ, _, _, p⟩ => by
  rw [hm] at p
  exact p.elim⟩
theorem sa_never {e : List Expr} {m : Env → M (List D)} (hm : ∀ ρ, m ρ = stuck) : SA Γ X W e m := ⟨fun _ _ _ _ _ _ _ ⟨_, _, ρ, _, _, p⟩ => by
  rw [hm] at p
  exact p.elim⟩
theorem si_never {t e : Expr} {m : Env → M (List D × Gd)} (hm : ∀ ρ, m ρ = stuck) : SI Γ X W t e m := ⟨fun _ _ _ _ _ _ ⟨_, _, ρ, _, _, p⟩ => by
  rw [hm] at p
  exact p.elim⟩
/-- an attribute -/
theorem se_att {o : Expr} {x : Str} {pos : Pos} {mo : Env → M D} {g : D → M D} (ho : SE Γ X W o mo) (hb : plainBase o = true) (ha : V1 Γ X W (fun u => getAttr u x true) g) : SE Γ X W (.Attribute o x pos) (fun ρ => do
    let v ← mo ρ
    g v) := by
  refine ⟨fun pins s σ H Q I ⟨as, st, ρ, mt, er, p⟩ => ?_⟩
  refine attr_of (plainBase_ok hb) (SE.bnd ho I mt er p fun y as1 st1 H1 v u s1 k1 I1 m1 e1 ry ru p1 => ?_)
  exact ha pins s1 σ H1 as1 st1 y v u Q I1 m1 ry ru p1
theorem rep_non {as : List Loc} {H : Hp} {d : D} {v : V} (r : Rep Γ as H d v) : (v = .non) ↔ (d = .non) := by
  constructor
  · rintro rfl
    cases d <;> first | rfl | (unfold Rep at r; exfalso; first | (cases r; done) | (obtain ⟨_, _, z, _⟩ := r; cases z; done) | (obtain ⟨_, _, z⟩ := r; cases z; done) | (obtain ⟨_, z, _⟩ := r; cases z; done) | (obtain ⟨_, _, _, _, z, _⟩ := r; cases z; done) | (obtain ⟨_, _, _, z, _⟩ := r; cases z; done))
  · rintro rfl
    exact r.non
theorem se_isN {ct : Ct} {a : Expr} {ma : Env → M D} {pos p2 : Pos} {j : Nat} (ha : SE Γ X W a ma) : SE Γ X W (.Compare a [.Is] [.Constant .none j p2] pos) (fun ρ => do
    let x ← ma ρ
    prim ct .isN [x]) ∧ ST Γ X W (.Compare a [.Is] [.Constant .none j p2] pos) (fun ρ => do
    let x ← ma ρ
    truth (← prim ct .isN [x])) := by
  have hb : behindInMarks .Is (.Constant .none j p2) = false := nobehind _ (by decide) (by decide)
  constructor
  · refine PE_imp (pe_cmpR op_isN ha pe_non hb) fun σ H Q ⟨as, st, ρ, mt, er, p⟩ => rd_bnd (rl' := Rep Γ) mt er p fun x as1 st1 H1 v k1 m1 e1 rx p1 => ⟨rfl, ?_⟩
    rw [show decide (v = V.non) = decide (x = D.non) from decide_eq_decide.mpr (rep_non rx)]
    exact Po.pure p1 m1 .ofBl
  · refine PT_imp (pt_cmpR op_isN ha pe_non hb) fun σ H Q ⟨as, st, ρ, mt, er, p⟩ => rd_bnd (rl' := Rep Γ) mt er p fun x as1 st1 H1 v k1 m1 e1 rx p1 => ⟨rfl, ?_⟩
    rw [show decide (v = V.non) = decide (x = D.non) from decide_eq_decide.mpr (rep_non rx)]
    exact ⟨_, rfl, Po.pure (rl := RB) p1 m1 rfl⟩
theorem se_notN {ct : Ct} {a : Expr} {ma : Env → M D} {pos p2 : Pos} {j : Nat} (ha : SE Γ X W a ma) : SE Γ X W (.Compare a [.IsNot] [.Constant .none j p2] pos) (fun ρ => do
    let x ← ma ρ
    prim ct .isnotN [x]) ∧ ST Γ X W (.Compare a [.IsNot] [.Constant .none j p2] pos) (fun ρ => do
    let x ← ma ρ
    truth (← prim ct .isnotN [x])) := by
  have hb : behindInMarks .IsNot (.Constant .none j p2) = false := nobehind _ (by decide) (by decide)
  constructor
  · refine PE_imp (pe_cmpR op_notN ha pe_non hb) fun σ H Q ⟨as, st, ρ, mt, er, p⟩ => rd_bnd (rl' := Rep Γ) mt er p fun x as1 st1 H1 v k1 m1 e1 rx p1 => ⟨rfl, ?_⟩
    rw [show decide (v = V.non) = decide (x = D.non) from decide_eq_decide.mpr (rep_non rx)]
    exact Po.pure p1 m1 .ofBl
  · refine PT_imp (pt_cmpR op_notN ha pe_non hb) fun σ H Q ⟨as, st, ρ, mt, er, p⟩ => rd_bnd (rl' := Rep Γ) mt er p fun x as1 st1 H1 v k1 m1 e1 rx p1 => ⟨rfl, ?_⟩
    rw [show decide (v = V.non) = decide (x = D.non) from decide_eq_decide.mpr (rep_non rx)]
    exact ⟨_, rfl, Po.pure (rl := RB) p1 m1 rfl⟩
theorem lenD_str {ct : Ct} {z : Str} : lenD ct (.str z) = (do
    need (Nat.ble z.length line)
    pure z.length) := rfl
theorem lenD_obj {ct : Ct} {n : Nat} {st : Store} (e : methOf ct (.obj n) mLen st = .ok none st) : lenD ct (.obj n) st = (do
    match ← getO n with
    | .lst xs => pure (xs.length : Int)
    | .dic kvs => pure (kvs.length : Int)
    | _ => stuck : M Int) st := by
  show (methOf ct (.obj n) mLen >>= _) st = _
  rw [bind_run, e] <;> rfl
theorem lenD_ins {ct : Ct} {c : Nat} {xs : List D} {st : Store} (e : methOf ct (.ins c xs) mLen st = .ok none st) : lenD ct (.ins c xs) st = .stuck := by
  show (methOf ct (.ins c xs) mLen >>= _) st = _
  rw [bind_run, e] <;> rfl
/-- len without a class's own -/
theorem vc_len {ct : Ct} (c : XG Γ X W k) (no : ∀ f, (∀ c, ct.T.meth c mLen ≠ some f)) : VC Γ X W (fun us => call (.builtin "len") us) (prim ct .len) := fun pins s σ H as st xs vs us Q I mt rx rv p => by
  rcases xs with _ | ⟨x, _ | ⟨y, r⟩⟩ <;> try exact False.elim p
  obtain ⟨v, rfl, r1⟩ := rx.one
  replace p : Po Γ (Rep Γ) as H ((lenD ct x >>= fun i => (pure (D.int i) : M D)) st) Q (WE W σ) := p
  have hK := c.hK
  have sqs : ∀ {a : Addr} {ws : List V}, (SqL X.K H a ws ∨ SqT X.K H a ws) → v = .ref a → ∀ n : Int, n = ws.length → Q (.int n) H → wpAny (model X.prog X.w) X.A (call (.builtin "len") us) (EP X pins σ Q) X.xe s := fun {a ws} h e n hn q => by
    subst e hn
    exact call_len_seq pins s σ H _ us Q I rv ⟨a, ws, rfl, h, q⟩
  have obj : ∀ n, x = .obj n → wpAny (model X.prog X.w) X.A (call (.builtin "len") us) (EP X pins σ Q) X.xe s := fun n e => by
    subst e
    have e2 : methOf ct (.obj n) mLen st = .ok none st := by
      unfold methOf
      split
      · rename_i c' hc'
        cases e3 : ct.T.meth c' mLen with
        | none => rfl
        | some f => exact absurd e3 (no f c')
      · rfl
    have p2 : Po Γ (Rep Γ) as H (((do match ← getO n with | .lst xs => pure (xs.length : Int) | .dic kvs => pure (kvs.length : Int) | _ => stuck) >>= fun i => (pure (D.int i) : M D)) st) Q (WE W σ) := by
      rw [bind_run, lenD_obj e2] at p
      rw [bind_run]
      exact p
    rw [LawfulMonad.bind_assoc] at p2
    obtain ⟨o, q, h1, h2, h3, p2⟩ := Po.getO mt p2
    have ev := rep_obj_eq r1 h2
    cases o <;> try exact False.elim p2
    · obtain ⟨_, ws, e1, r2⟩ := h3.lstE
      exact sqs (.inl (SqL.of e1)) ev _ (by rw [r2.len]) (Po.pure p2 mt .ofInt)
    · obtain ⟨_, us', e1, pr⟩ := h3
      subst ev
      refine call_lenD pins s σ H _ us Q I rv ⟨q.1, us', rfl, e1, ?_⟩
      have hl : ∀ {xs : List (D × D)} {ys : List (Key × V)}, Paired (fun (x : D × D) (y : Key × V) => keyD x.1 = some y.1 ∧ Rep Γ as H x.2 y.2) xs ys → ys.length = xs.length := fun {xs ys} h => by
        induction h with
        | nil => rfl
        | cons _ _ ih => rw [List.length_cons, List.length_cons, ih]
      rw [hl pr]
      exact Po.pure p2 mt .ofInt
  cases x with
  | str z =>
    rw [lenD_str, LawfulMonad.bind_assoc] at p
    obtain ⟨hn, p⟩ := Po.need p
    cases r1.str
    exact call_len_str pins s σ H _ us Q I rv ⟨z, rfl, ble_line hn, Po.pure p mt .ofInt⟩
  | tup ds =>
    obtain ⟨a, ws, e, t1, r2⟩ := r1.tup
    exact sqs (.inr (SqT_of hK t1)) e _ (by rw [r2.len]) (Po.pure p mt .ofInt)
  | scr zs =>
    unfold Rep at r1
    obtain ⟨a, e, t⟩ := r1
    exact sqs (.inl (by rw [hK]; exact t.1)) e _ (by rw [List.length_map]) (Po.pure p mt .ofInt)
  | obj n => exact obj n rfl
  | ins c' xs' =>
    have e2 : methOf ct (.ins c' xs') mLen st = .ok none st := by
      unfold methOf clsOf
      cases e3 : ct.T.meth c' mLen with
      | none => simp [e3]
      | some f => exact absurd e3 (no f c')
    rw [bind_run, lenD_ins e2] at p
    exact p.elim
  | non => exact False.elim p
  | bl _ => exact False.elim p
  | int _ => exact False.elim p
  | exc _ _ => exact False.elim p
  | fn _ => exact False.elim p
  | cls _ => exact False.elim p
  | ty _ => exact False.elim p
theorem own_len {n wl : Nat} {T : Tab} {met att : List (Str × Nat)} (g : GM Γ X W T wl n k met att) (hm : met.lookup ("__len__" : Str) = some mLen) : VC Γ X W (fun us => call (.builtin "len") us) (prim (ctF T wl n) .len) := fun pins s σ H as st xs vs us Q I mt rx rv p => by
  have hK := g.xg.hK
  rcases xs with _ | ⟨x, _ | ⟨y, r⟩⟩ <;> try exact False.elim p
  replace p : Po Γ (Rep Γ) as H ((lenD (ctF T wl n) x >>= fun i => (pure (D.int i) : M D)) st) Q (WE W σ) := p
  have T0 : ∀ f c, (⟨⟨[], [], false⟩, callF T wl n, wl, callF T wl n⟩ : Ct).T.meth c mLen ≠ some f := fun f c e => by cases e
  have base : lenD (ctF T wl n) x st = lenD ⟨⟨[], [], false⟩, callF T wl n, wl, callF T wl n⟩ x st → wpAny (model X.prog X.w) X.A (call (.builtin "len") us) (EP X pins σ Q) X.xe s := fun e => by
    refine vc_len (ct := ⟨⟨[], [], false⟩, callF T wl n, wl, callF T wl n⟩) g.xg T0 pins s σ H as st [x] vs us Q I mt rx rv ?_
    show Po Γ (Rep Γ) as H ((lenD ⟨⟨[], [], false⟩, callF T wl n, wl, callF T wl n⟩ x >>= fun i => (pure (D.int i) : M D)) st) Q (WE W σ)
    rw [bind_run, ← e, ← bind_run]
    exact p
  obtain ⟨o, ho⟩ := methOf_run (ctF T wl n) x mLen st
  have h0 : methOf ⟨⟨[], [], false⟩, callF T wl n, wl, callF T wl n⟩ x mLen st = .ok none st := by
    unfold methOf
    cases clsOf st x <;> rfl
  cases o with
  | none =>
    refine base ?_
    cases x <;> first | rfl | (unfold lenD; simp only; rw [bind_run, bind_run, ho, h0])
  | some f =>
    obtain ⟨c, x0, hc, hx0, hf⟩ := methOf_some ho
    obtain ⟨v, rfl, r1⟩ := rx.one
    obtain ⟨u, rfl, ru⟩ := vals1 rv
    obtain ⟨a, dx, vs, rfl, hsl⟩ := own_at mt r1 hc
    cases ru
    have Me := g.ow.me c x0 _ mLen f hx0 hm hf
    obtain ⟨sl, od, _, J, _⟩ := slt_inst I hsl
    obtain ⟨mm, hF⟩ := I.fr
    have p2 : Po Γ (Rep Γ) as H ((callF T wl n f [x] >>= fun z => (match z with | .int i => (do need (decide (0 ≤ i) && decide (i < 2 ^ 62)); pure (.int i)) | _ => stuck : M D)) st) Q (WE W σ) := by
      have e : lenD (ctF T wl n) x st = (callF T wl n f [x] >>= fun z => (match z with | .int i => (do need (decide (0 ≤ i) && decide (i < 2 ^ 62)); pure i) | _ => stuck : M Int)) st := by
        cases x <;> try (simp only [clsOf] at hc; cases hc; done)
        all_goals
          unfold lenD
          simp only
          rw [bind_run, ho] <;> (show (callF T wl n f _ >>= _) st = (callF T wl n f _ >>= _) st; congr 1)
      have e2 : (lenD (ctF T wl n) x >>= fun i => (pure (D.int i) : M D)) st = (callF T wl n f [x] >>= fun z => (match z with | .int i => (do need (decide (0 ≤ i) && decide (i < 2 ^ 62)); pure (.int i)) | _ => stuck : M D)) st := by
        rw [bind_run, e, ← bind_run, LawfulMonad.bind_assoc]
        rw [bind_run, bind_run]
        cases callF T wl n f [x] st with
        | stuck => rfl
        | exc _ _ _ => rfl
        | ok z s2 =>
          cases z <;> first | rfl | (simp only [LawfulMonad.bind_assoc, LawfulMonad.pure_bind])
      rw [← e2]
      exact p
    refine PySem.W.len_K hF I.ok.mod.kin J (by rw [hK]; exact Me.at_) (by rw [hK]; exact Me.fn) ?_
    refine wpAny_mono (g.run1 (g.fi c x0 mLen f hx0 hf) I (us := [.ref a]) (vs := [.ref a]) (.cons rfl .nil) (own_sp mt (.cons r1 .nil) p2)) (fun w s' ⟨z', H', I', rz, z, as1, st1, k1, m1, rz2, p1⟩ => ?_) fun _ _ e => e
    cases z <;> try exact False.elim p1
    rename_i i
    cases rz2.int
    obtain ⟨t, rfl⟩ := rz
    obtain ⟨hb, p1⟩ := Po.need p1
    simp only [Bool.and_eq_true, decide_eq_true_eq] at hb
    exact ⟨⟨hb.1, by omega⟩, .int i, H', I'.tok _, ⟨_, rfl⟩, p1.pure m1 .ofInt⟩
end
end G
set_option Elab.async false
set_option linter.all false
set_option maxRecDepth 100000
set_option maxHeartbeats 4000000
/-! G19: soundness of the compiled expressions. -/
namespace G
open PySem PySem.Spec PyProof.Rows L2 SlX

/-- the names that the language gives -/
structure SpN (met att : List (Str × Nat)) : Prop where
  eq : met.lookup ("__eq__" : Str) = some mEq
  add : met.lookup (PySem.dunder Operator.Add.info.2) = some mAdd
  sub : met.lookup (PySem.dunder Operator.Sub.info.2) = some mSub
  mul : met.lookup (PySem.dunder Operator.Mult.info.2) = some mMul
  lt : met.lookup (cmpInfo .Lt).2.1 = some mLt
  le : met.lookup (cmpInfo .LtE).2.1 = some mLe
  gt : met.lookup (cmpInfo .Gt).2.1 = some mGt
  ge : met.lookup (cmpInfo .GtE).2.1 = some mGe
  neg : met.lookup ("__neg__" : Str) = some mNeg
  inv : met.lookup ("__invert__" : Str) = some mInv
  len : met.lookup ("__len__" : Str) = some mLen
  repr : met.lookup ("__repr__" : Str) = some mRepr
  radd : met.lookup (dunderR Operator.Add.info.2) = some mRadd
  rsub : met.lookup (dunderR Operator.Sub.info.2) = some mRsub
  rmul : met.lookup (dunderR Operator.Mult.info.2) = some mRmul
  val : ∀ nm a, att.lookup nm = some a → a = aValue → nm = "value"
/-- what holds of the names of the text, in the place of X -/
structure GF (Γ : Gx) (c : CC) (T : Tab) (wl n : Nat) (X : Cx) : Prop where
  fn : ∀ x f, c.fns.lookup x = some f → X.mg x = some (.ref (Γ.fa f)) ∧ FI Γ f ∧ FO Γ X T wl n f
  cls : ∀ x k, c.cls.lookup x = some k → X.mg x = some (.ref (Γ.ca k))
  exc : ∀ k, c.exc.contains k = true → (∃ fI DC, Nonempty (ExI X.prog X.K fI DC) ∧ ExC X.K fI DC (Γ.ca k)) ∧ ∃ y, T.cl k = some y ∧ y.kind = .exc
  con : ∀ x d, c.con.lookup x = some d → ∃ v u, X.mg x = some u ∧ RelV v u ∧ ∀ as H, Rep Γ as H d v
  bl : ∀ x, x ∈ bltNames → X.mg x = none
  cf : ClsF Γ.K T Γ.ca
  kx : ∀ c x, T.cl c = some x → x.kind = .exc → x.slots = [] ∧ x.props = []
  slc : ∀ k, c.slc.contains k = true → ∃ y, T.cl k = some y ∧ y.kind = .slots ∧ PySem.W.keepIn Γ.K (.ref (Γ.ca k)) = true
  sp : SpN c.met c.att
  gm : ∀ (Y : Cx) (W : WX) (k : Nat), Y.prog = X.prog → Y.w = X.w → Y.mg = X.mg → Y.base = X.base → XG Γ Y W k → 6 * n + 2 ≤ k → GM Γ Y W T wl n k c.met c.att
  rm : 2 ≤ c.room
  dvF : ∀ x f k ds, c.fns.lookup x = some f → c.dv.lookup x = some (k, ds) → ds = Γ.dv f
  dvC : ∀ x q y f k ds, c.cls.lookup x = some q → T.cl q = some y → y.meths.lookup mInit = some f → c.dv.lookup x = some (k, ds) → ds = Γ.dv f
  stm : ∀ x m f, c.st.lookup (x, m) = some f → (∃ C, X.mg x = some (.ref C) ∧ StAt Γ.K C m (Γ.fa f)) ∧ FI Γ f ∧ FO Γ X T wl n f
  hk : ∀ (Y : Cx) (W : WX) (k m : Nat), Y.prog = X.prog → Y.w = X.w → Y.mg = X.mg → Y.base = X.base → Y.env.code = X.env.code → Y.env.qual = X.env.qual → XG Γ Y W k → 6 * n + c.room ≤ k → ∀ (x : Str) (as : List Expr) (e : E) (p pos : Pos), c.hook Y.N m Y.env.scope x as = some e → isGl Y.env.scope x = true → noDbg x = true →
    SE Γ Y W (.Call (.Name x p) as [] pos) (ev (ctF T wl n) e) ∧ ST Γ Y W (.Call (.Name x p) as [] pos) (evT (ctF T wl n) e)
theorem GF.blk {Γ : Gx} {c : CC} {T : Tab} {wl n : Nat} {X : Cx} (g : GF Γ c T wl n X) (s : Shared) (H : Hp) (scope : Scope) (cl : List (Str × Addr)) (C : Addr) (fp : List Addr) : GF Γ c T wl n (X.blk s H scope (compEnvC scope cl C X.env) fp) :=
  ⟨g.fn, g.cls, g.exc, g.con, g.bl, g.cf, g.kx, g.slc, g.sp, g.gm, g.rm, g.dvF, g.dvC, g.stm, g.hk⟩
theorem XG.blk {Γ : Gx} {X : Cx} {W : WX} {k : Nat} (g : XG Γ X W k) (s : Shared) (H : Hp) (scope : Scope) (cenv : PySem.Env) (fp : List Addr) : XG Γ (X.blk s H scope cenv fp) W0 k :=
  ⟨g.hK, g.calm, g.nd, L2.takes0, g.hr, g.gd, g.sm⟩
theorem lookup_in {α β : Type} [BEq α] [LawfulBEq α] {l : List (α × β)} {x : α} {y : β} (h : l.lookup x = some y) : (x, y) ∈ l := by
  induction l with
  | nil => cases h
  | cons p r ih =>
    obtain ⟨a, b⟩ := p
    rw [List.lookup_cons] at h
    split at h
    · rename_i e
      cases h
      rw [eq_of_beq e]
      exact List.mem_cons_self ..
    · exact List.mem_cons_of_mem _ (ih h)
section
variable {Γ : Gx} {X : Cx} {W : WX} {k : Nat} {c : CC} {T : Tab} {wl n : Nat}
theorem isGl_gl {x : Str} (h : isGl X.env.scope x = true) : Gl X x := of_decide_eq_true (p := X.env.scope.names.lookup x = some .globalImplicit) h
theorem noDbg_d {x : Str} (h : noDbg x = true) : (x == ("__debug__" : Str)) = false ∧ (x == ("__classdict__" : Str)) = false := by
  unfold noDbg at h
  simpa [Bool.and_eq_true] using h
/-- the pair: as a value, as a test -/
def Both (Γ : Gx) (X : Cx) (W : WX) (ct : Ct) (e : Expr) (m : E) : Prop := SE Γ X W e (ev ct m) ∧ ST Γ X W e (evT ct m)
theorem both_dflt {ct : Ct} {e : Expr} {m : E} (g : XG Γ X W k) (h : SE Γ X W e (ev ct m)) (t : tstE m = true) (he : ∀ whole, isTrue e X.env whole = (do let v ← whole; standAt e.pos; holding [v] (truthy v))) : Both Γ X W ct e m := by
  refine ⟨h, ?_⟩
  rcases evT_tst (ct := ct) t with q | q
  · rw [q]
    exact st_val (v_truth g) h he
  · rw [q]
    exact st_never fun _ => rfl
theorem both_never {ct : Ct} {e : Expr} : Both Γ X W ct e .never := ⟨se_never fun ρ => by simp [ev], st_never fun ρ => by simp [evT]⟩
theorem tyTab_ok {x : Str} {t : String} (h : tyTab.lookup x = some t) : x ∈ bltNames ∧ bootBuiltins x = some (.type t) ∧ x ≠ "__name__" := by
  have := lookup_in h
  simp only [tyTab, List.mem_cons, Prod.mk.injEq, List.not_mem_nil, or_false] at this
  rcases this with ⟨rfl, rfl⟩ | ⟨rfl, rfl⟩ | ⟨rfl, rfl⟩ | ⟨rfl, rfl⟩ | ⟨rfl, rfl⟩ | ⟨rfl, rfl⟩ | ⟨rfl, rfl⟩ <;> decide +kernel
theorem bltB_ok {x : Str} {id : String} {p : Pr} (h : bltB.lookup x = some (id, p)) : (x ∈ bltNames ∧ bootBuiltins x = some (.builtin id) ∧ x ≠ "__name__") ∧ (id, p) ∈ [("abs", Pr.abs), ("max", .max2), ("min", .min2), ("all", .all1), ("any", .any1), ("repr", .repr), ("isinstance", .isi), ("len", .len)] := by
  have := lookup_in h
  simp only [bltB, List.mem_cons, Prod.mk.injEq, List.not_mem_nil, or_false] at this
  rcases this with ⟨rfl, rfl, rfl⟩ | ⟨rfl, rfl, rfl⟩ | ⟨rfl, rfl, rfl⟩ | ⟨rfl, rfl, rfl⟩ | ⟨rfl, rfl, rfl⟩ | ⟨rfl, rfl, rfl⟩ | ⟨rfl, rfl, rfl⟩ | ⟨rfl, rfl, rfl⟩ <;> exact ⟨by decide +kernel, by simp⟩
theorem bltT_ok {x : Str} {id : String} {p : Pr} (h : bltT.lookup x = some (id, p)) : (x ∈ bltNames ∧ bootBuiltins x = some (.type id) ∧ x ≠ "__name__") ∧ (id, p) ∈ [("int", Pr.int1), ("str", .str1), ("tuple", .tuple1), ("list", .list1)] := by
  have := lookup_in h
  simp only [bltT, List.mem_cons, Prod.mk.injEq, List.not_mem_nil, or_false] at this
  rcases this with ⟨rfl, rfl, rfl⟩ | ⟨rfl, rfl, rfl⟩ | ⟨rfl, rfl, rfl⟩ | ⟨rfl, rfl, rfl⟩ <;> exact ⟨by decide +kernel, by simp⟩
/-- names -/
theorem se_name {x : Str} {pos : Pos} (g : XG Γ X W k) (G : GF Γ c T wl n X) : SE Γ X W (.Name x pos) (ev (ctF T wl n) (cName c X.N X.env.scope x)) := by
  have nev : SE Γ X W (.Name x pos) (ev (ctF T wl n) .never) := se_never fun ρ => by simp [ev]
  unfold cName
  split
  · rename_i hd
    obtain ⟨h1, h2⟩ := noDbg_d hd
    have loc : Vis X.env.scope x → SE Γ X W (.Name x pos) (ev (ctF T wl n) (match ixOf x X.N with | some i => E.var i | none => .never)) := fun v => by
      cases e : ixOf x X.N with
      | none => exact nev
      | some i => exact SE.eq (se_var (ixOf_get e) v h1 h2) fun ρ => by simp [ev]
    split
    · exact loc (.inl (by assumption))
    · exact loc (.inr (.inl (by assumption)))
    · exact loc (.inr (.inr (by assumption)))
    · rename_i hg
      have hg : Gl X x := hg
      cases e1 : c.con.lookup x with
      | some d =>
        obtain ⟨v, u, hm, r, rr⟩ := G.con x d e1
        exact SE.eq (se_con (pe_glob hg hm r h1) rr) fun ρ => by simp [ev]
      | none =>
        cases e2 : c.fns.lookup x with
        | some f =>
          obtain ⟨hm, _⟩ := G.fn x f e2
          exact SE.eq (se_con (d := .fn f) (v := .ref (Γ.fa f)) (pe_glob hg hm rfl h1) fun as H => by unfold Rep; rfl) fun ρ => by simp [ev]
        | none =>
          cases e3 : c.cls.lookup x with
          | some kk => exact SE.eq (se_con (d := .cls kk) (v := .ref (Γ.ca kk)) (pe_glob hg (G.cls x kk e3) rfl h1) fun as H => by unfold Rep; rfl) fun ρ => by simp [ev]
          | none =>
            cases e4 : tyTab.lookup x with
            | some t =>
              obtain ⟨q1, q2, q3⟩ := tyTab_ok e4
              exact SE.eq (se_con (d := .ty t) (v := .ty t) (pe_bltn hg (G.bl x q1) q2 rfl q3 h1) fun as H => by unfold Rep; rfl) fun ρ => by simp [ev]
            | none => exact nev
    · exact nev
  · exact nev
theorem name_tst {x : Str} {N : List Str} {sc : Scope} : tstE (cName c N sc x) = true := by
  unfold cName
  repeat' split
  all_goals rfl
theorem cOp_ok {op : Operator} {p : Pr} (g : GM Γ X W T wl n k c.met c.att) (S : SpN c.met c.att) (h : cOp op = some p) : V2 Γ X W (binaryOp op) (fun a b => prim (ctF T wl n) p [a, b]) := by
  cases op <;> cases h
  · exact V2.ite (b := fun a b => isIns a || isIns b) (own_bin g S.add S.radd ibAdd) (v_add g.xg)
  · exact V2.ite (b := fun a b => isIns a || isIns b) (own_bin g S.sub S.rsub ibSub) v_sub
  · exact V2.ite (b := fun a b => isIns a || isIns b) (own_bin g S.mul S.rmul ibMul) (v_mul g.xg)
  · exact v_mod
  · exact v_pow
  · exact v_fdiv
theorem cCmp_ok {op : CmpOp} {p : Pr} (g : GM Γ X W T wl n k c.met c.att) (S : SpN c.met c.att) (h : cCmp op = some p) : V2 Γ X W (compareOp op) (fun a b => prim (ctF T wl n) p [a, b]) := by
  cases op <;> cases h
  · exact own_eq g S.eq
  · exact own_ne g S.eq
  · exact V2.ite (b := fun a b => isIns a || isIns b) (own_cmp g (fun _ _ => rfl) S.lt S.gt icLt) v_lt
  · exact V2.ite (b := fun a b => isIns a || isIns b) (own_cmp g (fun _ _ => rfl) S.le S.ge icLe) v_le
  · exact V2.ite (b := fun a b => isIns a || isIns b) (own_cmp g (fun _ _ => rfl) S.gt S.lt icGt) v_gt
  · exact V2.ite (b := fun a b => isIns a || isIns b) (own_cmp g (fun _ _ => rfl) S.ge S.le icGe) v_ge
  · exact v_in g.xg false _ rfl
  · exact v_in g.xg true _ rfl
/-- what is known of the parts -/
structure Snd (Γ : Gx) (c : CC) (ct : Ct) (m : Nat) (X : Cx) (W : WX) : Prop where
  e : ∀ e, Both Γ X W ct e (cE c X.N m X.env.scope e)
  a : ∀ es, es.all noStar = true → SA Γ X W es (evs ct (cEs c X.N m X.env.scope es))
  b : ∀ op vs pos, SE Γ X W (.BoolOp op vs pos) (ev ct (cB c X.N m X.env.scope op vs)) ∧ SW Γ X W (.BoolOp op vs pos) (evT ct (cB c X.N m X.env.scope op vs))
  i : ∀ t e, SI Γ X W t e (evI ct (cI c X.N m X.env.scope (isTup t) e))
  p : ∀ o, ∃ (bl : Bool) (e : Expr) (ml : Env → M D), o = ePart bl e ∧ (bl = true → SE Γ X W e ml) ∧ ∀ ρ, evP ct (cOpt c X.N m X.env.scope o) ρ = mPart bl ml ρ
  s : ∀ es, SA Γ X W es (evS ct (cSt c X.N m X.env.scope es))
  j : ∀ e r, ∃ ms, PJs Γ X W (e :: r) ms ∧ ∀ (acc : PySem.Str) ρ, evJ ct (cEs c X.N m X.env.scope (e :: r)) acc ρ = joinM ms acc ρ
  l : ∀ x a r e p pos, cLR c X.N m X.env.scope x a r = some e → isGl X.env.scope x = true → Both Γ X W ct (.Call (.Name x p) (a :: r) [] pos) e
theorem callB_ok {x : Str} {id : String} {p : Pr} {e : Expr} {es : List Expr} {p1 pos : Pos} (g : XG Γ X W k) (G : GF Γ c T wl n X) (O : GM Γ X W T wl n k c.met c.att) (h : bltB.lookup x = some (id, p)) (hg : Gl X x) (hd : noDbg x = true) (hs : (e :: es).all noStar = true) {ms : Env → M (List D)} (ha : SA Γ X W (e :: es) ms) :
    SE Γ X W (.Call (.Name x p1) (e :: es) [] pos) (fun ρ => do let xs ← ms ρ; prim (ctF T wl n) p xs) := by
  obtain ⟨⟨h1, h2, h3⟩, h4⟩ := bltB_ok h
  refine se_callB ?_ hg (G.bl x h1) h2 ha h3 (noDbg_d hd).1 hs
  simp only [List.mem_cons, Prod.mk.injEq, List.not_mem_nil, or_false] at h4
  rcases h4 with ⟨rfl, rfl⟩ | ⟨rfl, rfl⟩ | ⟨rfl, rfl⟩ | ⟨rfl, rfl⟩ | ⟨rfl, rfl⟩ | ⟨rfl, rfl⟩ | ⟨rfl, rfl⟩ | ⟨rfl, rfl⟩
  · exact vc_abs
  · exact vc_max2 g
  · exact vc_min2 g
  · exact vc_all g
  · exact vc_any g
  · exact own_repr O G.sp.repr
  · exact vc_isi g G.cf
  · exact own_len O G.sp.len
theorem callT_ok {x : Str} {id : String} {p : Pr} {e : Expr} {es : List Expr} {p1 pos : Pos} (g : XG Γ X W k) (G : GF Γ c T wl n X) (h : bltT.lookup x = some (id, p)) (hg : Gl X x) (hd : noDbg x = true) (hs : (e :: es).all noStar = true) {ms : Env → M (List D)} (ha : SA Γ X W (e :: es) ms) :
    SE Γ X W (.Call (.Name x p1) (e :: es) [] pos) (fun ρ => do let xs ← ms ρ; prim (ctF T wl n) p xs) := by
  obtain ⟨⟨h1, h2, h3⟩, h4⟩ := bltT_ok h
  refine se_callTy ?_ hg (G.bl x h1) h2 ha h3 (noDbg_d hd).1 hs
  simp only [List.mem_cons, Prod.mk.injEq, List.not_mem_nil, or_false] at h4
  rcases h4 with ⟨rfl, rfl⟩ | ⟨rfl, rfl⟩ | ⟨rfl, rfl⟩ | ⟨rfl, rfl⟩
  · exact vc_int1 g
  · exact vc_str1 g
  · exact vc_tuple1 g
  · exact vc_list1 g
theorem bltM_ok {m : Str} {p : Pr} {o a : Expr} {mo : Env → M D} {apos cpos : Pos} {ct : Ct} (g : XG Γ X W k) (h : bltM.lookup m = some p) (ho : SE Γ X W o mo) {ms : Env → M (List D)} (ha : SA Γ X W [a] ms) (ok : bmOk o [a] apos cpos = true) :
    SE Γ X W (.Call (.Attribute o m apos) [a] [] cpos) (fun ρ => do
      let x ← mo ρ
      recvOk p x
      let xs ← ms ρ
      prim ct p (x :: xs)) := by
  have := lookup_in h
  simp only [bltM, List.mem_cons, Prod.mk.injEq, List.not_mem_nil, or_false] at this
  rcases this with ⟨rfl, rfl⟩ | ⟨rfl, rfl⟩ | ⟨rfl, rfl⟩ | ⟨rfl, rfl⟩ | ⟨rfl, rfl⟩ | ⟨rfl, rfl⟩
  · exact bm_join g ho ha ok
  · exact bm_split ho ha ok
  · exact bm_startswith ho ha ok
  · exact bm_removeprefix ho ha ok
  · exact bm_append ho ha ok
  · exact bm_extend ho ha ok
/-- targets -/
theorem sg_of {sc : Scope} (g : XG Γ X W k) (h1 : ∀ x, sc.names.lookup x = some .local → X.env.scope.names.lookup x = some .local) (h2 : ∀ x, sc.names.lookup x = some .cell → X.env.scope.names.lookup x = some .cell ∧ X.fn x = true) : ∀ {m : Nat} {e : Expr} {t : Tg}, cT X.N sc m e = some t → SG Γ X e t
  | 0, e, t, h => by cases h
  | m + 1, e, t, h => by
    cases e <;> try (cases h; done)
    · rename_i x p
      unfold cT at h
      split at h
      · rename_i e1
        cases e2 : ixOf x X.N with
        | none => rw [e2] at h; cases h
        | some i =>
          rw [e2] at h
          cases h
          exact sg_name g.nd (ixOf_get e2) (.inl (h1 _ e1)) (.inr (h1 _ e1))
      · rename_i e1
        cases e2 : ixOf x X.N with
        | none => rw [e2] at h; cases h
        | some i =>
          rw [e2] at h
          cases h
          exact sg_name g.nd (ixOf_get e2) (.inr (h2 _ e1).1) (.inl (h2 _ e1).2)
      · cases h
    · rename_i es kk p
      unfold cT at h
      split at h
      · rename_i hs
        have key : ∀ (es : List Expr) (ts : List Tg), es.all noStar = true → oAll (es.map (cT X.N sc m)) = some ts → SGs Γ X es ts ∧ es.length = ts.length := by
          intro es
          induction es with
          | nil =>
            intro ts _ e
            cases e
            exact ⟨sgs_nil, rfl⟩
          | cons e es ih =>
            intro ts hs e2
            rw [List.all_cons, Bool.and_eq_true] at hs
            obtain ⟨t, r, q1, q2, rfl⟩ := oAll_inv e2
            obtain ⟨i1, i2⟩ := ih r hs.2 q2
            exact ⟨sgs_cons (sg_of g h1 h2 q1) i1 hs.1, by rw [List.length_cons, List.length_cons, i2]⟩
        cases e2 : oAll (es.map (cT X.N sc m)) with
        | none => rw [e2] at h; cases h
        | some ts =>
          rw [e2] at h
          cases h
          obtain ⟨i1, i2⟩ := key es ts hs e2
          exact sg_tup g i1 i2 hs
      · cases h
end
theorem stC_inv {c : CC} {sc : Scope} {o : Expr} {m' : Str} {as : List Expr} {f : Nat} (h : stC c sc o m' as = some f) : ∃ x np a r, o = .Name x np ∧ isGl sc x = true ∧ noDbg x = true ∧ as = a :: r ∧ c.st.lookup (x, m') = some f := by
  unfold stC at h
  split at h
  · split at h
    · rename_i x np q
      simp only [Bool.and_eq_true] at q
      cases as with
      | nil => simp at q
      | cons a r => exact ⟨x, np, a, r, rfl, q.1, q.2.1, rfl, h⟩
    · cases h
  · cases h
end G
set_option Elab.async false
set_option linter.all false
set_option maxRecDepth 100000
set_option maxHeartbeats 4000000
/-! G20: soundness of the compiled expressions, joined. -/
namespace G
open PySem PySem.Spec PyProof.Rows L2 SlX
section
variable {Γ : Gx} {c : CC} {T : Tab} {wl n : Nat}
theorem snd0 {X : Cx} {W : WX} : Snd Γ c (ctF T wl n) 0 X W where
  e := fun e => both_never
  a := fun es h => sa_never fun ρ => by
    show evs _ [.never] ρ = _
    simp [evs, ev]
    rfl
  b := fun op vs pos => ⟨both_never.1, sw_never fun ρ => by
    show evT _ .never ρ = _
    simp [evT]⟩
  i := fun t e => si_never fun ρ => by
    show evI _ .never ρ = _
    simp [evI]
  p := fun o => by
    cases o with
    | none => exact ⟨false, .Constant .none 0 ⟨0, 0, 0, 0⟩, fun _ => stuck, rfl, (fun h => nomatch h), fun ρ => by
      show evP _ none ρ = _
      simp [evP, mPart]⟩
    | some e => exact ⟨true, e, fun _ => stuck, rfl, fun _ => se_never fun _ => rfl, fun ρ => by
      show evP _ (some .never) ρ = _
      simp [evP, mPart, ev]⟩
  s := fun es => sa_never fun ρ => by
    show evS _ [.never] ρ = _
    simp [evS, ev]
    rfl
  j := fun e r => by
    refine ⟨(e :: r).map fun _ => fun _ => stuck, ?_, fun acc ρ => ?_⟩
    · generalize e :: r = l
      induction l with
      | nil => exact .nil
      | cons a r ih => exact .cons (se_never fun _ => rfl) ih
    · show evJ _ [.never] acc ρ = joinM (_ :: _) acc ρ
      simp only [evJ, joinM, ev]
      rfl
  l := fun x a r e p pos h => by cases h
theorem relS_keeps {sc scope : Scope} {x : Str} {kd : NameKind} (hk : kd ≠ .free) (h : scope.names.lookup x = some kd) : (relS scope sc).names.lookup x = some kd := lookup_relS_keep hk h
theorem fold_plain {it : Expr} {env : PySem.Env} (h : noSet it = true) (x : Value) : foldedSetIterable it env x = pure x := by
  cases it <;> first | rfl | cases h
theorem plainIx_of {i : Expr} (h : noSlice i = true) : PlainIx i := by
  cases i <;> first | (intro o i; rfl) | cases h
theorem evs_con {ct : Ct} {ρ : G.Env} : ∀ (ds : List Int), evs ct (ds.map fun i => E.con (.int i)) ρ = (pure (ds.map D.int) : M (List D))
  | [] => rfl
  | i :: ds => by
    show ((pure (.int i) : M D) >>= fun x => evs ct (ds.map fun i => E.con (.int i)) ρ >>= fun xs => pure (x :: xs)) = _
    rw [evs_con ds]
    rfl
theorem evs_fill {ct : Ct} {ρ : G.Env} (ds : List Int) : ∀ (es : List E), evs ct (es ++ ds.map fun i => E.con (.int i)) ρ = (evs ct es ρ >>= fun xs => pure (xs ++ ds.map D.int))
  | [] => by
    rw [List.nil_append, evs_con]
    rfl
  | e :: es => by
    show (ev ct e ρ >>= fun x => evs ct (es ++ ds.map fun i => E.con (.int i)) ρ >>= fun xs => pure (x :: xs)) = ((ev ct e ρ >>= fun x => evs ct es ρ >>= fun xs => pure (x :: xs)) >>= fun xs => pure (xs ++ ds.map D.int))
    rw [evs_fill ds es]
    simp only [LawfulMonad.bind_assoc, LawfulMonad.pure_bind]
    rfl
theorem fill_0 {c : CC} {x : Str} : fillE c x ([] : List Expr).length = [] := by
  unfold fillE fillI
  split
  · rw [if_neg (by simp)]
    rfl
  · rfl
theorem fill_inv {c : CC} {x : Str} {n : Nat} : fillI c x n = [] ∨ ∃ k ds, c.dv.lookup x = some (k, ds) ∧ fillI c x n = ds := by
  cases e : c.dv.lookup x with
  | none =>
    refine .inl ?_
    unfold fillI
    rw [e]
  | some p =>
    obtain ⟨k, ds⟩ := p
    unfold fillI
    rw [e]
    simp only
    split
    · exact .inr ⟨k, ds, rfl, rfl⟩
    · exact .inl rfl
theorem call_nil {ct : Ct} {f m : Nat} {N : List Str} {sc : Scope} : (ev ct (.call f (cEs c N m sc [])) = fun _ => stuck) ∨ (ev ct (.call f (cEs c N m sc [])) = fun _ => ct.call f []) := by
  cases m with
  | zero =>
    refine .inl ?_
    funext ρ
    rw [ev_call]
    show (evs _ [.never] ρ >>= _) = _
    simp [evs, ev]
    rfl
  | succ m =>
    refine .inr ?_
    funext ρ
    rw [ev_call]
    show (evs _ [] ρ >>= _) = _
    simp [evs]
section
variable {X : Cx} {W : WX} {k m : Nat} (g : XG Γ X W k) (G : GF Γ c T wl n X) (O : GM Γ X W T wl n k c.met c.att) (hn : 6 * n + c.room ≤ k) (ih : Snd Γ c (ctF T wl n) m X W)
include g G O hn ih
theorem snd_cmp {a : Expr} {ops : List CmpOp} {bs : List Expr} {pos : Pos} : Both Γ X W (ctF T wl n) (.Compare a ops bs pos) (cE c X.N (m + 1) X.env.scope (.Compare a ops bs pos)) := by
  unfold cE
  simp only
  split
  · split
    · rename_i j p2
      obtain ⟨h1, h2⟩ := se_isN (ct := ctF T wl n) (pos := pos) (p2 := p2) (j := j) (ih.e a).1
      exact ⟨h1.eq fun ρ => ev_prim1, h2.eq fun ρ => by simp [evT, evs]⟩
    · rename_i j p2
      obtain ⟨h1, h2⟩ := se_notN (ct := ctF T wl n) (pos := pos) (p2 := p2) (j := j) (ih.e a).1
      exact ⟨h1.eq fun ρ => ev_prim1, h2.eq fun ρ => by simp [evT, evs]⟩
    · rename_i op b _ _ _ _
      split
      · rename_i p e
        split
        · exact both_never
        · rename_i hb
          have hb : behindInMarks op b = false := by simpa using hb
          exact ⟨(se_cmp (cCmp_ok O G.sp e) (ih.e a).1 (ih.e b).1 hb).eq fun ρ => ev_prim2, (st_cmp (v_truth g) (cCmp_ok O G.sp e) (ih.e a).1 (ih.e b).1 hb).eq fun ρ => by simp [evT, evs]⟩
      · exact both_never
  · rename_i op op' b b'
    split
    · rename_i p p' e e'
      split
      · exact both_never
      · rename_i hb
        have hb : lastMarks [op, op'] [b, b'] = false := by simpa using hb
        exact ⟨(se_chain (cCmp_ok O G.sp e) (cCmp_ok O G.sp e') (ih.e a).1 (ih.e b).1 (ih.e b').1 hb).eq fun ρ => by simp only [ev] <;> rfl, (st_chain (v_truth g) (cCmp_ok O G.sp e) (cCmp_ok O G.sp e') (ih.e a).1 (ih.e b).1 (ih.e b').1 hb).eq fun ρ => by simp only [evT] <;> rfl⟩
    · exact both_never
  · exact both_never
theorem meth_ok {o a : Expr} {r : List Expr} {mm : Nat} {m' : Str} {apos pos : Pos} (e : c.met.lookup m' = some mm) (ok : bmOk o (a :: r) apos pos = true) : Both Γ X W (ctF T wl n) (.Call (.Attribute o m' apos) (a :: r) [] pos) (.meth mm (cE c X.N m X.env.scope o) (cEs c X.N m X.env.scope (a :: r))) := by
  have hs := (bmOk_inv ok).2.1
  refine both_dflt g ((se_meth O e (ih.e o).1 (ih.a _ hs) ok ?_).eq fun ρ => by simp only [ev] <;> rfl) rfl fun _ => rfl
  have hl := (bmOk_inv ok).2.2.1
  unfold methodCallForm
  rw [star_all hs]
  show (true && (true && decide ((a :: r).length + 0 + 0 < 30))) = true
  rw [decide_eq_true (by omega)] <;> rfl
theorem snd_call {f : Expr} {as : List Expr} {kws : List Keyword} {pos : Pos} : Both Γ X W (ctF T wl n) (.Call f as kws pos) (cE c X.N (m + 1) X.env.scope (.Call f as kws pos)) := by
  unfold cE
  simp only
  split
  · rename_i x p1
    split
    · rename_i h
      rw [Bool.and_eq_true, Bool.and_eq_true] at h
      obtain ⟨hg, hd, hs⟩ := h
      have hg' := isGl_gl hg
      have hd' := (noDbg_d hd).1
      have hrm := G.rm
      split
      · rename_i e hk
        exact G.hk X W k m rfl rfl rfl rfl rfl rfl g hn x as e p1 pos hk hg hd
      rename_i hkn
      clear hkn
      split
      · rename_i f e
        obtain ⟨h1, h2, h3⟩ := G.fn x f e
        cases as with
        | nil =>
          rw [fill_0, List.append_nil]
          rcases call_nil (c := c) (ct := ctF T wl n) (f := f) (m := m) (N := X.N) (sc := X.env.scope) with z | z
          · exact both_dflt g (se_never fun ρ => by rw [z]) rfl fun _ => rfl
          · exact both_dflt g ((se_call0 g h3 h2 (by omega) hg' h1 hd').eq fun ρ => by rw [z]) rfl fun _ => rfl
        | cons a r =>
          rcases fill_inv (c := c) (x := x) (n := (a :: r).length) with z | ⟨kk, ds, z1, z2⟩
          · unfold fillE
            rw [z, List.map_nil, List.append_nil]
            exact both_dflt g ((se_call g h3 h2 (by omega) hg' h1 (ih.a _ hs) hd' hs).eq fun ρ => ev_call) rfl fun _ => rfl
          · unfold fillE
            rw [z2]
            have e3 := G.dvF x f kk ds e z1
            subst e3
            refine both_dflt g ((se_callD g h3 h2 (by omega) hg' h1 (ih.a _ hs) hd' hs).eq fun ρ => ?_) rfl fun _ => rfl
            rw [ev_call, evs_fill]
            simp only [LawfulMonad.bind_assoc, LawfulMonad.pure_bind]
      · split
        · rename_i kk e
          split
          · rename_i hsl
            rw [Bool.and_eq_true] at hsl
            obtain ⟨y, hy, hk, hkp⟩ := G.slc kk hsl.1
            cases as with
            | nil => cases hsl.2
            | cons a r =>
              refine both_dflt g ((se_make O hy hk hkp hg' (G.cls x kk e) (ih.a _ hs) hd' hs (fillI c x (a :: r).length) ?_).eq fun ρ => ?_) rfl fun _ => rfl
              · rcases fill_inv (c := c) (x := x) (n := (a :: r).length) with z | ⟨k2, ds, z1, z2⟩
                · exact .inl z
                · refine .inr fun f hf => ?_
                  rw [z2]
                  exact G.dvC x kk y f k2 ds e hy hf z1
              · rw [ev_make]
                unfold fillE
                rw [evs_fill]
                simp only [LawfulMonad.bind_assoc, LawfulMonad.pure_bind]
          rename_i hno
          clear hno
          split
          · rename_i a
            split
            · rename_i he
              obtain ⟨⟨fI, DC, ⟨F⟩, TT⟩, y, hy, hk⟩ := G.exc kk he
              have hs1 : noStar a = true := by simpa using hs
              refine both_dflt g ((se_exc g F TT (by omega) hg' (G.cls x kk e) (ih.e a).1 hs1 hd').eq fun ρ => ?_) rfl fun _ => rfl
              rw [ev_make]
              simp only [evs, LawfulMonad.bind_assoc, LawfulMonad.pure_bind]
              congr 1
              funext d
              funext st
              unfold makeD
              have hy' : (ctF T wl n).T.cl kk = some y := hy
              rw [hy']
              simp only [hk]
              rfl
            · exact both_never
          · exact both_never
        · split
          · exact both_never
          · rename_i a r
            split
            · rename_i e he
              exact ih.l x a r e p1 pos he hg
            · split
              · rename_i id p e
                exact both_dflt g ((callB_ok g G O e hg' hd hs (ih.a _ hs)).eq fun ρ => ev_prim) rfl fun _ => rfl
              · split
                · rename_i id p e
                  exact both_dflt g ((callT_ok g G e hg' hd hs (ih.a _ hs)).eq fun ρ => ev_prim) rfl fun _ => rfl
                · exact both_never
    · exact both_never
  · rename_i o mm apos
    split
    · rename_i ok
      split
      · rename_i id e
        obtain ⟨x, np, a, r, rfl, hg, hd, rfl, e2⟩ := stC_inv e
        obtain ⟨⟨C, h1, h2⟩, h3, h4⟩ := G.stm x mm id e2
        exact both_dflt g ((se_static g h4 h3 (by have := G.rm; omega) (isGl_gl hg) h1 (by rw [g.hK]; exact h2) (ih.a _ (bmOk_inv ok).2.1) ok (noDbg_d hd).1).eq fun ρ => ev_call) rfl fun _ => rfl
      rename_i hno
      clear hno
      split
      · split
        · rename_i h
          have := eq_of_beq h
          subst this
          exact both_dflt g ((bm_pop (ct := ctF T wl n) (ih.e o).1 ok).eq fun ρ => by rw [ev_bm]; simp [evs]) rfl fun _ => rfl
        · split
          · rename_i mm e
            exact both_dflt g ((se_meth0 O e (ih.e o).1 ok).eq fun ρ => by simp only [ev, evs, LawfulMonad.pure_bind] <;> rfl) rfl fun _ => rfl
          · exact both_never
      · rename_i a
        split
        · rename_i p e
          have hs1 : [a].all noStar = true := by
            unfold bmOk at ok
            simp only [Bool.and_eq_true] at ok
            exact ok.2.1
          refine both_dflt g ((bltM_ok (ct := ctF T wl n) g e (ih.e o).1 (sa_cons (ih.e a).1 sa_nil (star_cons (by simpa using hs1))) ok).eq fun ρ => ?_) rfl fun _ => rfl
          rw [ev_bm]
          simp [evs]
        · split
          · rename_i mm e
            exact meth_ok g G O hn ih e ok
          · exact both_never
      · split
        · rename_i mm e
          exact meth_ok g G O hn ih e ok
        · exact both_never
    · exact both_never
  · exact both_never
theorem snd_lc {elt tg it : Expr} {ifs : List Expr} {scope : Scope} {pos : Pos} {a : Int} (ihb : ∀ (Y : Cx) (V : WX), XG Γ Y V k → GF Γ c T wl n Y → Snd Γ c (ctF T wl n) m Y V) : SE Γ X W (.ListComp elt [⟨tg, it, ifs, a⟩] scope pos) (ev (ctF T wl n) (cE c X.N (m + 1) X.env.scope (.ListComp elt [⟨tg, it, ifs, a⟩] scope pos))) := by
  have nev : ∀ {e : Expr}, SE Γ X W e (ev (ctF T wl n) .never) := fun {e} => (both_never (Γ := Γ) (X := X) (W := W)).1
  unfold cE
  simp only
  cases e1 : cT X.N scope m tg with
  | none => exact nev
  | some t =>
    simp only
    split
    · rename_i h
      simp only [Bool.and_eq_true, decide_eq_true_eq, List.all_eq_true] at h
      obtain ⟨rfl, hs, hb, hsl⟩ := h
      have ok := blkOk_by hb
      have sg : ∀ (s : Shared) (H : Hp) (C : Addr) (cl : List (Str × Addr)) (fp : List Addr), SG Γ (X.blk s H scope (compEnvC scope cl C X.env) fp) tg t := fun s H C cl fp =>
        sg_of (g.blk s H scope _ fp) (fun x hx => relS_keeps (by simp) hx) (fun x hx => ⟨relS_keeps (by simp) hx, by show (scope.names.lookup x == some .cell) = true; rw [hx]; rfl⟩) e1
      have sb : ∀ (s : Shared) (H : Hp) (C : Addr) (cl : List (Str × Addr)) (fp : List Addr), Snd Γ c (ctF T wl n) m (X.blk s H scope (compEnvC scope cl C X.env) fp) W0 := fun s H C cl fp => ihb _ _ (g.blk s H scope _ fp) (G.blk s H scope _ _ fp)
      split
      · refine (se_comp (o := none) (mt' := fun _ => stuck) (me := ev (ctF T wl n) (cE c X.N m (relS scope X.env.scope) elt)) g (ih.i tg it) ok sg (fun s H C cl fp e z => nomatch z) (fun s H C cl fp => (sb s H C cl fp).e elt |>.1) (fold_plain hs) hsl).eq fun ρ => ?_
        simp only [ev, evO]
        rfl
      · rename_i f
        refine (se_comp (o := some f) (mt' := evT (ctF T wl n) (cE c X.N m (relS scope X.env.scope) f)) (me := ev (ctF T wl n) (cE c X.N m (relS scope X.env.scope) elt)) g (ih.i tg it) ok sg (fun s H C cl fp e z => by cases z; exact ((sb s H C cl fp).e f).2) (fun s H C cl fp => (sb s H C cl fp).e elt |>.1) (fold_plain hs) hsl).eq fun ρ => ?_
        simp only [ev, evO]
        rfl
      · exact nev
    · exact nev
theorem snd_e (ihb : ∀ (Y : Cx) (V : WX), XG Γ Y V k → GF Γ c T wl n Y → Snd Γ c (ctF T wl n) m Y V) (e : Expr) : Both Γ X W (ctF T wl n) e (cE c X.N (m + 1) X.env.scope e) := by
  cases e with
  | Name x p => exact both_dflt g (se_name g G) name_tst fun _ => rfl
  | Constant kk j p =>
    cases kk <;> first | exact both_never | skip
    · exact both_dflt g ((se_con (d := .non) pe_non fun _ _ => .ofNon).eq fun ρ => rfl) rfl fun _ => rfl
    · exact both_dflt g ((se_con pe_bl fun _ _ => .ofBl).eq fun ρ => rfl) rfl fun _ => rfl
    · exact both_dflt g ((se_con pe_int fun _ _ => .ofInt).eq fun ρ => rfl) rfl fun _ => rfl
    · exact both_dflt g ((se_con pe_str fun _ _ => .ofStr).eq fun ρ => rfl) rfl fun _ => rfl
  | BinOp a op b p =>
    unfold cE
    simp only
    cases e : cOp op with
    | none => exact both_never
    | some p => exact both_dflt g ((se_bin (cOp_ok O G.sp e) (ih.e a).1 (ih.e b).1).eq fun ρ => ev_prim2) rfl fun _ => rfl
  | UnaryOp op a p =>
    unfold cE
    cases op with
    | Not => exact ⟨(se_not (v_truth g) (ih.e a).1).eq fun ρ => by simp [ev], (st_not (ih.e a).2).eq fun ρ => by simp [evT]⟩
    | USub => exact both_dflt g ((se_un (v_neg0 (own_neg O G.sp.neg)) (ih.e a).1).eq fun ρ => ev_prim1) rfl fun _ => rfl
    | Invert => exact both_dflt g ((se_un (own_inv O G.sp.inv) (ih.e a).1).eq fun ρ => ev_prim1) rfl fun _ => rfl
    | _ => exact both_never
  | BoolOp op vs p =>
    obtain ⟨h1, h2⟩ := ih.b op vs p
    exact ⟨h1, h2.pt⟩
  | IfExp t a b p =>
    refine ⟨(se_if (ih.e t).2 (ih.e a).1 (ih.e b).1).eq fun ρ => ?_, st_never fun ρ => ?_⟩
    · show ev _ (.ifx _ _ _) ρ = _
      simp only [ev] <;> rfl
    · show evT _ (.ifx _ _ _) ρ = _
      simp [evT]
  | Compare a ops bs p => exact snd_cmp g G O hn ih
  | Call f as kws p => exact snd_call g G O hn ih
  | Attribute o a p =>
    unfold cE
    simp only
    split
    · rename_i hb
      cases e : c.att.lookup a with
      | none => exact both_never
      | some k => exact both_dflt g ((se_att (ih.e o).1 hb (own_att O e (fun z => G.sp.val _ _ e z) G.kx)).eq fun ρ => ev_att) rfl fun _ => rfl
    · exact both_never
  | Subscript o i p =>
    have key : noSlice i = true → Both Γ X W (ctF T wl n) (.Subscript o i p) (.prim .idx [cE c X.N m X.env.scope o, cE c X.N m X.env.scope i]) := fun h =>
      both_dflt g ((se_ix g (ih.e o).1 (ih.e i).1 (plainIx_of h)).eq fun ρ => ev_prim2) rfl fun _ => rfl
    cases i <;> first | exact key rfl | skip
    rename_i lo hi st p2
    cases st with
    | none =>
      obtain ⟨bl, el, ml, e1, e2, e3⟩ := ih.p lo
      obtain ⟨bh, eh, mh, f1, f2, f3⟩ := ih.p hi
      refine both_dflt g (?_ : SE Γ X W _ (ev (ctF T wl n) (.slc (cE c X.N m X.env.scope o) (cOpt c X.N m X.env.scope lo) (cOpt c X.N m X.env.scope hi)))) rfl fun _ => rfl
      have := se_slice (p2 := p2) (pos := p) g (ih.e o).1 e2 f2
      rw [← e1, ← f1] at this
      exact this.eq fun ρ => by simp only [ev, e3, f3] <;> rfl
    | some st =>
      cases lo with
      | some _ => exact both_never
      | none =>
        cases hi with
        | some _ => exact both_never
        | none =>
          show Both Γ X W (ctF T wl n) _ (if revStep st then _ else _)
          split
          · rename_i hr
            unfold revStep at hr
            split at hr
            · rename_i i j1 p3 p4
              have := of_decide_eq_true hr
              subst this
              exact both_dflt g ((se_rev g (ih.e o).1).eq fun ρ => ev_prim1) rfl fun _ => rfl
            · cases hr
          · exact both_never
  | List es p =>
    unfold cE
    simp only
    split
    · rename_i h
      exact both_dflt g ((se_lst (ct := ctF T wl n) (ih.a es h)).eq fun ρ => ev_prim) rfl fun _ => rfl
    · exact both_never
  | Tuple es kk p =>
    unfold cE
    simp only
    split
    · rename_i h
      exact both_dflt g ((se_tup (ct := ctF T wl n) (ih.a es h)).eq fun ρ => ev_prim) rfl fun _ => rfl
    · exact both_dflt g ((se_tups (ih.s es)).eq fun ρ => by simp only [ev] <;> rfl) rfl fun _ => rfl
  | JoinedStr vs p =>
    unfold cE
    simp only
    split
    · exact both_never
    · rename_i h
      cases vs with
      | nil => exact absurd rfl h
      | cons e r =>
      obtain ⟨ms, h1, h2⟩ := ih.j e r
      refine both_dflt g ((se_joined h1 (by simp)).eq fun ρ => ?_) rfl fun _ => rfl
      simp only [ev]
      rw [h2] <;> rfl
  | FormattedValue e conv spec p =>
    unfold cE
    simp only
    cases spec with
    | some _ => exact both_never
    | none =>
      simp only
      split
      · rename_i h
        have := eq_of_beq h
        subst this
        exact both_dflt g ((se_fmt g (ih.e e).1).eq fun ρ => ev_prim1) rfl fun _ => rfl
      · split
        · rename_i h
          have := eq_of_beq h
          subst this
          exact both_dflt g ((se_fmtR (ih.e e).1).eq fun ρ => ev_prim1) rfl fun _ => rfl
        · exact both_never
  | Dict ks vs p =>
    unfold cE
    simp only
    split
    · exact both_dflt g ((se_dic0 (ct := ctF T wl n)).eq fun ρ => by rw [ev_prim]; simp [evs]) rfl fun _ => rfl
    · rename_i ke ve
      split
      · rename_i kd vd e1 e2
        obtain ⟨ky, q1, q2⟩ : ∃ ky, keyD kd = some ky ∧ PE X ke (tC (kV ky)) := by
          unfold cKey at e1
          split at e1
          · cases e1; exact ⟨_, rfl, pe_int⟩
          · cases e1; exact ⟨_, rfl, pe_str⟩
          · cases e1
        obtain ⟨vv, q3, q4⟩ : ∃ vv, PE X ve (tC vv) ∧ ∀ as H, Rep Γ as H vd vv := by
          unfold cLit at e2
          split at e2
          · cases e2; exact ⟨_, pe_non, fun _ _ => .ofNon⟩
          · cases e2; exact ⟨_, pe_bl, fun _ _ => .ofBl⟩
          · cases e2; exact ⟨_, pe_int, fun _ _ => .ofInt⟩
          · cases e2; exact ⟨_, pe_str, fun _ _ => .ofStr⟩
          · cases e2
        exact both_dflt g ((se_dic1 (ct := ctF T wl n) q1 q2 q3 q4).eq fun ρ => by rw [ev_prim]; simp [evs, ev]) rfl fun _ => rfl
      · exact both_never
    · exact both_never
  | ListComp elt gens scope p =>
    cases gens with
    | nil => exact both_never
    | cons gg r =>
      cases r with
      | cons a b =>
        obtain ⟨tg, it, ifs, a'⟩ := gg
        exact both_never
      | nil =>
        obtain ⟨tg, it, ifs, a⟩ := gg
        refine both_dflt g (snd_lc g G O hn ih ihb) ?_ fun _ => rfl
        unfold cE
        simp only
        repeat' split
        all_goals rfl
  | _ => exact both_never
theorem snd_S (ihb : ∀ (Y : Cx) (V : WX), XG Γ Y V k → GF Γ c T wl n Y → Snd Γ c (ctF T wl n) m Y V) : Snd Γ c (ctF T wl n) (m + 1) X W where
  e := snd_e g G O hn ih ihb
  a := fun es h => by
    cases es with
    | nil => exact sa_nil.eq fun ρ => rfl
    | cons e es =>
      rw [List.all_cons, Bool.and_eq_true] at h
      exact (sa_cons (ih.e e).1 (ih.a es h.2) (star_cons h.1)).eq fun ρ => by
        show evs _ (_ :: _) ρ = _
        simp [evs]
  b := fun op vs pos => by
    cases vs with
    | nil => exact ⟨both_never.1, sw_never fun ρ => by show evT _ .never ρ = _; simp [evT]⟩
    | cons a r =>
      cases r with
      | nil => exact ⟨pe_one (ih.e a).1, st_one (ih.e a).2⟩
      | cons b r =>
        obtain ⟨h1, h2⟩ := ih.b op (b :: r) pos
        cases op with
        | And => exact ⟨(se_and (v_truth g) (ih.e a).1 h1).eq fun ρ => by show ev _ (.and _ _) ρ = _; simp only [ev] <;> rfl, (st_and (ih.e a).2 h2).eq fun ρ => by show evT _ (.and _ _) ρ = _; simp only [evT] <;> rfl⟩
        | Or => exact ⟨(se_or (v_truth g) (ih.e a).1 h1).eq fun ρ => by show ev _ (.or _ _) ρ = _; simp only [ev] <;> rfl, (st_or (ih.e a).2 h2).eq fun ρ => by show evT _ (.or _ _) ρ = _; simp only [evT] <;> rfl⟩
  p := fun o => by
    cases o with
    | none => exact ⟨false, .Constant .none 0 ⟨0, 0, 0, 0⟩, fun _ => stuck, rfl, (fun h => nomatch h), fun ρ => by
      show evP _ none ρ = _
      simp [evP, mPart]⟩
    | some e => exact ⟨true, e, _, rfl, fun _ => (ih.e e).1, fun ρ => by
      show evP _ (some _) ρ = _
      simp [evP, mPart]⟩
  j := fun e r => by
    cases r with
    | nil =>
      refine ⟨[ev (ctF T wl n) (cE c X.N m X.env.scope e)], .cons (ih.e e).1 .nil, fun acc ρ => ?_⟩
      cases m with
      | zero =>
        show evJ _ (.never :: _) acc ρ = joinM [ev _ .never] acc ρ
        simp only [evJ, joinM, ev]
        rfl
      | succ m =>
        show evJ _ [_] acc ρ = joinM [_] acc ρ
        simp only [evJ, joinM] <;> rfl
    | cons b r =>
      obtain ⟨ms, h1, h2⟩ := ih.j b r
      refine ⟨ev (ctF T wl n) (cE c X.N m X.env.scope e) :: ms, .cons (ih.e e).1 h1, fun acc ρ => ?_⟩
      show evJ _ (_ :: cEs c X.N m X.env.scope (b :: r)) acc ρ = joinM (_ :: ms) acc ρ
      simp only [evJ, joinM, h2] <;> rfl
  s := fun es => by
    cases es with
    | nil => exact sa_nil.eq fun ρ => rfl
    | cons e es =>
      have key : noStar e = true → SA Γ X W (e :: es) (evS (ctF T wl n) (.prim .tup [cE c X.N m X.env.scope e] :: cSt c X.N m X.env.scope es)) := fun h => (sa_cons (ih.e e).1 (ih.s es) (star_cons h)).eq fun ρ => by
        simp only [evS, ev_prim1, LawfulMonad.bind_assoc]
        congr 1
      cases e <;> first | exact key rfl | skip
      exact (sa_star g (ih.e _).1 (ih.s es)).eq fun ρ => by
        show evS _ (_ :: _) ρ = tupM _ _ ρ
        simp only [evS, tupM] <;> rfl
  i := fun t e => by
    have key : ∀ e, SI Γ X W t e (evI (ctF T wl n) (.seq (cE c X.N m X.env.scope e))) := fun e => (si_seq g (ih.e e).1).eq fun ρ => by simp only [evI]
    unfold cI
    split
    · rename_i x p a q
      split
      · rename_i h
        rw [Bool.and_eq_true, Bool.and_eq_true] at h
        obtain ⟨hx, hg, hs⟩ := h
        have := eq_of_beq hx
        subst this
        exact (si_range1 (isGl_gl hg) (G.bl _ (by decide +kernel)) (ih.e a).1 hs).eq fun ρ => by simp only [evI] <;> rfl
      · exact key _
    · rename_i x p a b q
      split
      · rename_i h
        simp only [Bool.and_eq_true] at h
        obtain ⟨hx, hg, ht, hs, hs2⟩ := h
        have := eq_of_beq hx
        subst this
        cases t <;> first | (cases ht; done) | skip
        exact (si_zip g (isGl_gl hg) (G.bl _ (by decide +kernel)) (ih.e a).1 (ih.e b).1 hs hs2).eq fun ρ => by simp only [evI] <;> rfl
      · exact key _
    · exact key _
  l := fun x a r e p pos h hg => by
    unfold cLR at h
    split at h
    · rename_i hx
      rw [Bool.and_eq_true] at hx
      have := eq_of_beq hx.1
      subst this
      have hr : r = [] := by simpa using hx.2
      subst hr
      split at h
      · rename_i y p2 b p3
        split at h
        · rename_i h2
          rw [Bool.and_eq_true, Bool.and_eq_true] at h2
          obtain ⟨hy, hg2, hs⟩ := h2
          have := eq_of_beq hy
          subst this
          cases h
          exact both_dflt g ((se_lrange g (isGl_gl hg2) (G.bl _ (by decide +kernel)) (isGl_gl hg) (G.bl _ (by decide +kernel)) (ih.e b).1 hs).eq fun ρ => by simp only [ev] <;> rfl) rfl fun _ => rfl
        · cases h
      · cases h
    · cases h
end
/-- expressions mean what they are compiled to -/
theorem snd {k : Nat} (hn : 6 * n + c.room ≤ k) : ∀ (m : Nat) (X : Cx) (W : WX), XG Γ X W k → GF Γ c T wl n X → Snd Γ c (ctF T wl n) m X W
  | 0, X, W, g, G => snd0
  | m + 1, X, W, g, G => snd_S g G (G.gm X W k rfl rfl rfl rfl g (by have := G.rm; omega)) hn (snd hn m X W g G) fun Y V g' G' => snd hn m Y V g' G'
end
end G
set_option Elab.async false
set_option linter.all false
set_option maxRecDepth 100000
set_option maxHeartbeats 4000000
/-! GB5: x, y = a, b. -/
namespace G
open PySem PySem.Spec PyProof.Rows L2 SlX
section
variable {Γ : Gx} {X : Cx} {W : WX} {k : Nat}
theorem par_yes {x y : Str} {px py pt pt2 : Pos} {k1 k2 : Nat} {a b : Expr} {env : PySem.Env} (h : parYes env.scope x y px py a b = true) : swappedStores [.Tuple [.Name x px, .Name y py] k1 pt] (.Tuple [a, b] k2 pt2) env = pure (some [x, y]) := by
  unfold parYes at h
  simp only [Bool.and_eq_true, decide_eq_true_eq, Bool.not_eq_true', decide_eq_false_iff_not] at h
  obtain ⟨h1, h2, h3, h4, h5, ⟨h6, h7⟩, h8, h9⟩ := h
  have hk : env.scope.kind = .function := eq_of_beq h1
  have hb : env.blockKind = .function := by
    unfold Env.blockKind
    rw [hk]
    rfl
  have kx : (env.kindOf x == some .local && px.line == px.line) = true := by
    show (env.scope.names.lookup x == some .local && px.line == px.line) = true
    rw [h2]; simp
  have ky : (env.kindOf y == some .local && py.line == px.line) = true := by
    show (env.scope.names.lookup y == some .local && py.line == px.line) = true
    rw [h3, eq_of_beq h4]; simp
  have ed : [x, y].eraseDups = [x, y] := by
    have : (y == x) = false := by simpa using fun z => h5 z.symm
    simp [List.eraseDups_cons, this]
  unfold swappedStores
  simp only [List.head?_cons, Option.map_some, Option.getD_some, List.filterMap_cons, List.filterMap_nil, Expr.pos, kx, ky, if_true, hb, ed, h8, h9]
  rw [if_neg (by simp), if_neg, if_neg (by simp)]
  · rfl
  · intro z
    obtain ⟨e, he, hz⟩ := List.any_eq_true.mp z
    have ne : noStar e = true := by
      rcases List.mem_cons.mp he with rfl | he
      · exact h6
      · rcases List.mem_cons.mp he with rfl | he
        · exact h7
        · cases he
    cases e <;> first | exact absurd (show false = true from hz) Bool.false_ne_true | exact absurd (show false = true from ne) Bool.false_ne_true
theorem par_no {x y : Str} {px py pt pt2 : Pos} {k1 k2 : Nat} {a b : Expr} {env : PySem.Env} (h : parNo env.scope x y = true) : swappedStores [.Tuple [.Name x px, .Name y py] k1 pt] (.Tuple [a, b] k2 pt2) env = pure none := by
  unfold parNo at h
  simp only [Bool.or_eq_true, Bool.not_eq_true', decide_eq_false_iff_not] at h
  have z : ∀ (n : Str) (q l : Nat), env.scope.names.lookup n ≠ some .local → (env.kindOf n == some .local && q == l) = false := fun n q l hn => by
    show (env.scope.names.lookup n == some .local && q == l) = false
    rw [show (env.scope.names.lookup n == some NameKind.local) = false by simpa using hn]
    rfl
  unfold swappedStores
  simp only
  split
  · rfl
  · split
    · rfl
    · rw [if_pos]
      · rw [Bool.or_eq_true]
        left
        simp only [List.filterMap_cons, List.filterMap_nil]
        rcases h with h | h
        · rw [z x _ _ h]
          simp only [Bool.false_eq_true, if_false]
          split <;> simp
        · rw [z y _ _ h]
          simp only [Bool.false_eq_true, if_false]
          split <;> simp
theorem par_two {i j : Nat} {xs : List D} {ρ ρ' : Env} (h : assign (.t [.n i, .n j]) (.tup xs) ρ = some ρ') : ∃ d1 d2, xs = [d1, d2] ∧ ρ' = (ρ.set i (some d1)).set j (some d2) := by
  have h : assigns [.n i, .n j] xs ρ = some ρ' := h
  have one : ∀ (k : Nat) (d : D) (ρ ρ' : Env), assign (.n k) d ρ = some ρ' → ρ' = ρ.set k (some d) := fun k d ρ ρ' z => by
    unfold assign at z
    split at z
    · cases z; rfl
    · cases z
  cases xs with
  | nil => simp [assigns] at h
  | cons d1 r =>
    unfold assigns at h
    cases e1 : assign (.n i) d1 ρ with
    | none => rw [e1] at h; cases h
    | some ρ1 =>
      rw [e1] at h
      cases r with
      | nil => simp [assigns] at h
      | cons d2 r =>
        simp only at h
        unfold assigns at h
        cases e2 : assign (.n j) d2 ρ1 with
        | none => rw [e2] at h; cases h
        | some ρ2 =>
          rw [e2] at h
          cases r with
          | nil =>
            simp only [assigns, Option.some.injEq] at h
            subst h
            exact ⟨d1, d2, rfl, by rw [one _ _ _ _ e2, one _ _ _ _ e1]⟩
          | cons d3 r => simp [assigns] at h
theorem ss_par {i j : Nat} {x y : Str} {px py pt pt2 pos : Pos} {k1 k2 : Nat} {a b : Expr} {ct : Ct} {es : List E} (g : XS Γ X W k) (hi : X.N[i]? = some x) (hj : X.N[j]? = some y) (hp : parYes X.env.scope x y px py a b = true) (ha : SA Γ X W [a, b] (evs ct es)) :
    SS Γ X W (.Assign [.Tuple [.Name x px, .Name y py] k1 pt] (.Tuple [a, b] k2 pt2) pos) (ex ct (.asg (.t [.n i, .n j]) (.prim .tup es))) := by
  have h := hp
  unfold parYes at h
  simp only [Bool.and_eq_true, decide_eq_true_eq, Bool.not_eq_true', decide_eq_false_iff_not] at h
  obtain ⟨h1, h2, h3, h4, h5, ⟨h6, h7⟩, h8, h9⟩ := h
  have hij : i ≠ j := fun z => by
    rw [z, hj] at hi
    cases hi
    exact h5 rfl
  refine PS_imp (ps_par g.calm g.nd hi hj hij h2 h3 ha (par_yes hp) rfl) fun D σ H ⟨as, st, ρ, mt, er, p⟩ => ?_
  have e : ex ct (.asg (.t [.n i, .n j]) (.prim .tup es)) ρ st = eb (evs ct es ρ) ρ (fun xs => need (Nat.ble xs.length line) >>= fun _ => ofO (assign (.t [.n i, .n j]) (.tup xs) ρ) >>= fun σ => pure (.nx σ)) st := by
    show eb (ev ct (.prim .tup es) ρ) ρ _ st = _
    unfold eb
    rw [ev_prim, bind_run]
    cases evs ct es ρ st with
    | ok xs s1 =>
      have hp : prim ct .tup xs s1 = (need (Nat.ble xs.length line) >>= fun _ => (pure (.tup xs) : M G.D)) s1 := rfl
      simp only
      rw [hp]
      cases Nat.ble xs.length line <;> rfl
    | exc c v s1 => rfl
    | stuck => rfl
  rw [e] at p
  refine eb_bnd (rl := Reps Γ) mt er p fun xs as1 st1 H1 vs k1 m1 e1 rx p1 => ?_
  cases hb : Nat.ble xs.length line with
  | false => rw [hb] at p1; exact p1.elim
  | true =>
    rw [hb] at p1
    replace p1 : PoS Γ D W as1 H1 ((ofO (assign (.t [.n i, .n j]) (.tup xs) ρ) >>= fun σ => (pure (.nx σ) : M Fl)) st1) := p1
    cases ea : assign (.t [.n i, .n j]) (.tup xs) ρ with
    | none => rw [ea] at p1; exact p1.elim
    | some ρ' =>
      rw [ea] at p1
      obtain ⟨d1, d2, rfl, rfl⟩ := par_two ea
      obtain ⟨v, u, rfl, r1, r2⟩ := rx.two
      exact ⟨v, u, rfl, PoS.nx' p1 m1 ((e1.set i r1).set j r2)⟩
end
end G
set_option Elab.async false
set_option linter.all false
set_option maxRecDepth 100000
set_option maxHeartbeats 4000000
/-! G21: soundness of the compiled statements. -/
namespace G
open PySem PySem.Spec PyProof.Rows L2 SlX
section
variable {Γ : Gx} {c : CC} {T : Tab} {wl n : Nat} {X : Cx} {W : WX} {k : Nat}
theorem SS.eq {e : Stmt} {m m' : Env → M Fl} (h : SS Γ X W e m) (i : ∀ ρ, m' ρ = m ρ) : SS Γ X W e m' := by rw [show m' = m from funext i]; exact h
theorem SSs.eq {e : List Stmt} {m m' : Env → M Fl} (h : SSs Γ X W e m) (i : ∀ ρ, m' ρ = m ρ) : SSs Γ X W e m' := by rw [show m' = m from funext i]; exact h
theorem sss_never {st : List Stmt} {m : Env → M Fl} (hm : ∀ ρ, m ρ = stuck) : SSs Γ X W st m := ⟨fun _ _ _ _ _ _ ⟨_, _, ρ, _, _, p⟩ => by
  rw [hm] at p
  exact p.elim⟩
theorem ssN {st : Stmt} : SS Γ X W st (ex (ctF T wl n) .never) := ss_never fun ρ => by simp [ex]
/-- y = [..] -/
theorem snd_setlc {m : Nat} {y : Str} {py : Pos} {i : Nat} {elt tg it : Expr} {ifs : List Expr} {scope : Scope} {pos spos : Pos} {a : Int} (g : XS Γ X W k) (G : GF Γ c T wl n X) (hn : 6 * n + c.room ≤ k) (hy : X.N[i]? = some y) (hyl : X.env.scope.names.lookup y = some .local) (hsw : ∀ ifs : List Expr, swapsWith (.ListComp elt [⟨tg, it, ifs, 0⟩] scope pos) (some (.Name y py)) spos.line X.env = pure true) :
    SS Γ X W (.Assign [.Name y py] (.ListComp elt [⟨tg, it, ifs, a⟩] scope pos) spos) (ex (ctF T wl n) (.asg (.n i) (cE c X.N (m + 1) X.env.scope (.ListComp elt [⟨tg, it, ifs, a⟩] scope pos)))) := by
  have ih := snd (Γ := Γ) (c := c) (T := T) (wl := wl) (n := n) hn m X W g.toXG G
  have ihb : ∀ (Y : Cx) (V : WX), XG Γ Y V k → GF Γ c T wl n Y → Snd Γ c (ctF T wl n) m Y V := fun Y V g' G' => snd hn m Y V g' G'
  have nev : ∀ {st : Stmt}, SS Γ X W st (ex (ctF T wl n) (.asg (.n i) .never)) := fun {st} => ss_never fun ρ => by
    simp [ex, ev]
    rfl
  unfold cE
  simp only
  cases e1 : cT X.N scope m tg with
  | none => exact nev
  | some t =>
    simp only
    split
    · rename_i h
      simp only [Bool.and_eq_true, decide_eq_true_eq, List.all_eq_true] at h
      obtain ⟨rfl, hs, hb, hsl⟩ := h
      have ok := blkOk_by hb
      have sg : ∀ (s : Shared) (H : Hp) (C : Addr) (cl : List (Str × Addr)) (fp : List Addr), SG Γ (X.blk s H scope (compEnvC scope cl C X.env) fp) tg t := fun s H C cl fp =>
        sg_of (g.toXG.blk s H scope _ fp) (fun x hx => relS_keeps (by simp) hx) (fun x hx => ⟨relS_keeps (by simp) hx, by show (scope.names.lookup x == some .cell) = true; rw [hx]; rfl⟩) e1
      have sb : ∀ (s : Shared) (H : Hp) (C : Addr) (cl : List (Str × Addr)) (fp : List Addr), Snd Γ c (ctF T wl n) m (X.blk s H scope (compEnvC scope cl C X.env) fp) W0 := fun s H C cl fp => ihb _ _ (g.toXG.blk s H scope _ fp) (G.blk s H scope _ _ fp)
      split
      · refine (ss_setComp (o := none) (mt' := fun _ => stuck) (me := ev (ctF T wl n) (cE c X.N m (relS scope X.env.scope) elt)) g.toXG hy hyl (hsw _) (ih.i tg it) ok sg (fun s H C cl fp e z => nomatch z) (fun s H C cl fp => (sb s H C cl fp).e elt |>.1) (fold_plain hs) hsl).eq fun ρ => ?_
        simp only [ex, ev, evO]
        rfl
      · rename_i f
        refine (ss_setComp (o := some f) (mt' := evT (ctF T wl n) (cE c X.N m (relS scope X.env.scope) f)) (me := ev (ctF T wl n) (cE c X.N m (relS scope X.env.scope) elt)) g.toXG hy hyl (hsw _) (ih.i tg it) ok sg (fun s H C cl fp e z => by cases z; exact ((sb s H C cl fp).e f).2) (fun s H C cl fp => (sb s H C cl fp).e elt |>.1) (fold_plain hs) hsl).eq fun ρ => ?_
        simp only [ex, ev, evO]
        rfl
      · exact nev
    · exact nev
theorem pair_ix {N : List Str} {sc : Scope} {m i j : Nat} {x y : Str} {px py pt : Pos} {k1 : Nat} (h2 : sc.names.lookup x = some .local) (h3 : sc.names.lookup y = some .local) (e : cT N sc (m + 1) (.Tuple [.Name x px, .Name y py] k1 pt) = some (.t [.n i, .n j])) : N[i]? = some x ∧ N[j]? = some y := by
  have one : ∀ (z : Str) (p : Pos) (l : Nat), sc.names.lookup z = some .local → cT N sc m (.Name z p) = some (.n l) → N[l]? = some z := fun z p l hz h => by
    cases m with
    | zero => cases h
    | succ m =>
      unfold cT at h
      rw [hz] at h
      simp only at h
      cases e2 : ixOf z N with
      | none => rw [e2] at h; cases h
      | some q =>
        rw [e2] at h
        cases h
        exact ixOf_get e2
  unfold cT at e
  split at e
  · cases e1 : oAll ([Expr.Name x px, .Name y py].map (cT N sc m)) with
    | none => rw [e1] at e; cases e
    | some l =>
      rw [e1] at e
      cases e
      obtain ⟨a, r, a1, a2, a3⟩ := oAll_inv (f := cT N sc m) (x := .Name x px) (xs := [.Name y py]) e1
      cases a3
      obtain ⟨b, r', b1, b2, b3⟩ := oAll_inv (f := cT N sc m) (x := .Name y py) (xs := []) a2
      cases b3
      exact ⟨one x px i h2 a1, one y py j h3 b1⟩
  · cases e
theorem sndS (g : XS Γ X W k) (G : GF Γ c T wl n X) (hn : 6 * n + c.room ≤ k) : ∀ (m : Nat), (∀ s, SS Γ X W s (ex (ctF T wl n) (cS c X.N m X.env.scope s))) ∧ ∀ ss, SSs Γ X W ss (exs (ctF T wl n) (cSs c X.N m X.env.scope ss))
  | 0 => ⟨fun s => ssN, fun ss => sss_never fun ρ => by
      show exs _ [.never] ρ = _
      simp [exs, ex]
      rfl⟩
  | m + 1 => by
    obtain ⟨i1, i2⟩ := sndS g G hn m
    have ih := snd (Γ := Γ) (c := c) (T := T) (wl := wl) (n := n) hn m X W g.toXG G
    have sg : ∀ {e : Expr} {t : Tg}, cT X.N X.env.scope m e = some t → SG Γ X e t := fun {e t} h => sg_of g.toXG (fun x h => h) (fun x h => ⟨h, g.fnT x⟩) h
    refine ⟨fun s => ?_, fun ss => ?_⟩
    · cases s with
      | Expr e p =>
        unfold cS
        simp only
        split
        · exact ss_doc.eq fun ρ => by simp [ex]
        · split
          · rename_i h
            exact (ss_expr (ih.e _).1 h).eq fun ρ => by simp [ex]
          · exact ssN
      | Assign ts e p =>
        unfold cS
        simp only
        split
        · rename_i t
          split
          · rename_i x p'
            split
            · rename_i h
              split
              · rename_i t' e1
                cases m with
                | zero => cases e1
                | succ m =>
                  unfold cT at e1
                  have fin : ∀ {o : Option Nat}, o = ixOf x X.N → L2.Loc X.env.scope x → o.map Tg.n = some t' → SS Γ X W (.Assign [.Name x p'] e p) (ex (ctF T wl n) (.asg t' (cE c X.N (m + 1) X.env.scope e))) := fun {o} ho hl e2 => by
                    cases o with
                    | none => cases e2
                    | some i =>
                      cases e2
                      exact (ss_set g (ixOf_get ho.symm) hl (ih.e e).1 (sw_false h)).eq fun ρ => by simp [ex]
                  split at e1
                  · rename_i hl
                    exact fin rfl (.inl hl) e1
                  · rename_i hl
                    exact fin rfl (.inr hl) e1
                  · cases e1
              · exact ssN
            · split
              · rename_i h
                split
                · rename_i t' e1
                  cases m with
                  | zero => cases e1
                  | succ m =>
                    cases e <;> try (cases h; done)
                    rename_i elt gens scope pos hnc
                    have h' : (X.env.scope.kind == .function && (X.env.scope.names.lookup x == some .local && ((p'.line == pos.line) && !(scope.names.any fun (n, k) => n == x && (k == .local || k == .cell))))) = true := h
                    simp only [Bool.and_eq_true, Bool.not_eq_true'] at h'
                    obtain ⟨h1, h2, h3, h4⟩ := h'
                    have hl : X.env.scope.names.lookup x = some .local := eq_of_beq h2
                    unfold cT at e1
                    rw [hl] at e1
                    simp only at e1
                    cases e2 : ixOf x X.N with
                    | none => rw [e2] at e1; cases e1
                    | some i =>
                      rw [e2] at e1
                      cases e1
                      cases gens with
                      | nil =>
                        refine ss_never fun ρ => ?_
                        show ex _ (.asg _ .never) ρ = _
                        simp [ex, ev]
                        rfl
                      | cons gg r =>
                        cases r with
                        | cons _ _ =>
                          obtain ⟨tg, it, ifs, a⟩ := gg
                          refine ss_never fun ρ => ?_
                          show ex _ (.asg _ .never) ρ = _
                          simp [ex, ev]
                          rfl
                        | nil =>
                          obtain ⟨tg, it, ifs, a⟩ := gg
                          exact snd_setlc g G hn (ixOf_get e2) hl fun ifs => sw_true (eq_of_beq h1) hl h3 h4
                · exact ssN
              · exact ssN
          · rename_i o i p'
            split
            · rename_i h
              rw [Bool.and_eq_true] at h
              exact (ss_setIdx g.toXG (ih.e o).1 (ih.e i).1 (ih.e e).1 h.1 h.2).eq fun ρ => by simp [ex]
            · exact ssN
          · rename_i o a p'
            split
            · rename_i h
              split
              · rename_i kk e1
                exact (ss_setAtt (G.gm X W k rfl rfl rfl rfl g.toXG (by have := G.rm; omega)) e1 (ih.e o).1 (ih.e e).1 h).eq fun ρ => by simp [ex]
              · exact ssN
            · exact ssN
          · rename_i ts' k' p'
            split
            · rename_i ht
              split
              · rename_i x px y py a b k2 pt2
                split
                · rename_i hyn
                  split
                  · rename_i i j e1
                    cases m with
                    | zero => cases e1
                    | succ m =>
                      have sgt := sg e1
                      rw [Bool.or_eq_true] at hyn
                      rcases hyn with hy | hn'
                      · have h := hy
                        unfold parYes at h
                        simp only [Bool.and_eq_true, decide_eq_true_eq, Bool.not_eq_true', decide_eq_false_iff_not] at h
                        obtain ⟨h1, h2, h3, h4, h5, ⟨h6, h7⟩, h8, h9⟩ := h
                        obtain ⟨q1, q2⟩ := pair_ix h2 h3 e1
                        have hall : ([a, b] : List Expr).all noStar = true := by simp [h6, h7]
                        have hs := snd (Γ := Γ) (c := c) (T := T) (wl := wl) (n := n) hn m X W g.toXG G
                        refine (ss_par g q1 q2 hy (hs.a [a, b] hall)).eq fun ρ => ?_
                        unfold cE
                        simp only [hall, if_true]
                      · exact (ss_asg (ih.e _).1 sgt (sole_false rfl) (par_no hn') rfl).eq fun ρ => by simp only [ex]
                  · exact ssN
                · exact ssN
              · exact ssN
            · rename_i ht
              split
              · rename_i hnc
                split
                · rename_i t' e1
                  exact (ss_asg (ih.e _).1 (sg e1) (sole_false hnc) (by cases e <;> first | rfl | exact absurd rfl ht) rfl).eq fun ρ => by simp only [ex]
                · exact ssN
              · exact ssN
          · exact ssN
        · exact ssN
      | Return o p =>
        cases o with
        | none => exact ss_retN.eq fun ρ => by show ex _ .retN ρ = _; simp [ex]
        | some e => exact (ss_ret (ih.e e).1).eq fun ρ => by show ex _ (.ret _) ρ = _; simp [ex]
      | If t a b p =>
        refine (ss_if (ih.e t).2 (i2 a) (i2 b)).eq fun ρ => ?_
        show ex _ (.ifS _ _ _) ρ = _
        simp only [ex] <;> rfl
      | For tg it b els p =>
        cases els with
        | cons x y => exact ssN
        | nil =>
          unfold cS
          simp only
          cases e1 : cT X.N X.env.scope m tg with
          | none => exact ssN
          | some t =>
            simp only
            split
            · rename_i h
              exact (ss_for g (ih.i tg it) (sg e1) (i2 b) (fold_plain h)).eq fun ρ => by simp [ex]
            · exact ssN
      | While t b els p =>
        cases els with
        | cons x y => exact ssN
        | nil => exact (ss_while g (ih.e t).2 (i2 b)).eq fun ρ => by show ex _ (.whileS _ _) ρ = _; simp [ex]; rfl
      | Raise o cause p =>
        unfold cS
        simp only
        split
        · rename_i x p1 a p2
          split
          · rename_i h
            rw [Bool.and_eq_true, Bool.and_eq_true] at h
            obtain ⟨hg, hd, hs⟩ := h
            split
            · rename_i kk e
              split
              · rename_i he
                obtain ⟨⟨fI, DC, ⟨F⟩, TT⟩, y, hy, hk⟩ := G.exc kk he
                exact (ss_raise g.toXG F TT (by have := G.rm; omega) (isGl_gl hg) (G.cls x kk e) (ih.e a).1 hs (noDbg_d hd).1).eq fun ρ => by simp [ex]
              · exact ssN
            · exact ssN
          · exact ssN
        · exact ssN
      | Pass p => exact ss_pass.eq fun ρ => by show ex _ .pass ρ = _; simp [ex]
      | Break p => exact ss_break.eq fun ρ => by show ex _ .brk ρ = _; simp [ex]
      | Continue p => exact ss_cont.eq fun ρ => by show ex _ .cont ρ = _; simp [ex]
      | _ => exact ssN
    · cases ss with
      | nil => exact sss_nil.eq fun ρ => by show exs _ [] ρ = _; simp [exs]
      | cons s r =>
        refine (sss_cons (i1 s) (i2 r)).eq fun ρ => ?_
        show exs _ (_ :: _) ρ = _
        simp only [exs] <;> rfl
end
end G
set_option Elab.async false
set_option linter.all false
set_option maxRecDepth 100000
set_option maxHeartbeats 4000000
/-! GB4: _law_told(lambda: e), compiled. -/
namespace G
open PySem PySem.Spec PyProof.Rows L2 SlX LamX
def noParams (p : Arguments) : Bool := match p with
  | ⟨[], [], none, [], [], none, []⟩ => true
  | _ => false
/-- told: its name, the class that it catches; the defs that hand a lambda on to it, and what they then return -/
structure TdI where
  nm : Str
  ex : Nat
  rf : List (Str × E) := []
/-- told's calls, and those of the defs that hand on -/
def toldHook (c0 : CC) (td : Option TdI) : List Str → Nat → Scope → Str → List Expr → Option E := fun N m sc x as => match td with
  | none => none
  | some t => match as with
    | [.Lambda params body scope _] => if decide (x = t.nm) && (lamSB sc scope && noParams params) then some (.told t.ex (cE c0 N m scope body)) else none
    | [.Lambda params body scope _, v] => match t.rf.lookup x, cEs c0 N m sc [v] with
      | some r, [ve] => if noStar v && (lamSB sc scope && noParams params) then some (.refd t.ex (cE c0 N m scope body) ve r) else none
      | _, _ => none
    | _ => none
def cLam (c0 : CC) (td : Option TdI) : CC := { c0 with hook := toldHook c0 td, room := 5 }
/-- a def that makes lambdas: its code's table -/
structure LamAt (Γ : Gx) (mg : Str → Option Value) (base : Heap) (q : Str) (cd : Value) : Prop where
  ex : ∃ cc P, cd = .ref cc ∧ TabB base mg cc P ∧ (P, q ++ "<lambda>") ∈ Γ.tabs ∧ ∀ p ∈ Γ.tabs, p.1 = P → p.2 = q ++ "<lambda>"
/-- what is known of told -/
def ToldAt (Γ : Gx) (c0 : CC) (T : Tab) (mg : Str → Option Value) (td : Option TdI) : Prop := ∀ t, td = some t → ∃ g, mg t.nm = some (.ref g) ∧ Nonempty (ToldF Γ T t.nm g t.ex) ∧ mg "MirrorError" = some (.ref (Γ.ca t.ex)) ∧ noDbg t.nm = true ∧
  ∀ y r, t.rf.lookup y = some r → ∃ (gr : Addr) (ret : Expr) (R : RefF Γ y gr t.nm ret), mg y = some (.ref gr) ∧ r = cE c0 refdNames 200 R.sg ret
section
variable {Γ : Gx} {c0 : CC} {T : Tab} {wl n : Nat} {td : Option TdI} {X : Cx} {W : WX} {k m : Nat}
theorem GF.lam {scope : Scope} {A : Around} {outer : List PySem.Env} {s : Shared} {H : Hp} {E : XK} {f c' : Addr} (G : GF Γ c0 T wl n X) (h0 : c0.hook = fun _ _ _ _ _ => none) : GF Γ c0 T wl n (lamCx X A outer s H E scope f c') :=
  ⟨G.fn, G.cls, G.exc, G.con, G.bl, G.cf, G.kx, G.slc, G.sp, G.gm, G.rm, G.dvF, G.dvC, G.stm, fun Y W k m _ _ _ _ _ _ _ _ x as e p pos h => by rw [h0] at h; cases h⟩
theorem GF.frame {N : List Str} {q : Str} {sg : Scope} {g : Addr} {cdv : Value} {s : Shared} {H : Hp} (G : GF Γ c0 T wl n X) (h0 : c0.hook = fun _ _ _ _ _ => none) : GF Γ c0 T wl n (cxOf C8.CX0 X.prog X.w X.K X.mg X.base N q sg g cdv X.A X.stack s H C8.E0) :=
  ⟨G.fn, G.cls, G.exc, G.con, G.bl, G.cf, G.kx, G.slc, G.sp, G.gm, G.rm, G.dvF, G.dvC, G.stm, fun Y W k m _ _ _ _ _ _ _ _ x as e p pos h => by rw [h0] at h; cases h⟩
theorem hook_ok (G : GF Γ c0 T wl n X) (h0 : c0.hook = fun _ _ _ _ _ => none) (r0 : c0.room = 2) (F : ToldAt Γ c0 T X.mg td) (L : LamAt Γ X.mg X.base X.env.qual X.env.code) (g : XG Γ X W k) (hn : 6 * n + 5 ≤ k) {x : Str} {as : List Expr} {e : E} {p pos : Pos} (h : toldHook c0 td X.N m X.env.scope x as = some e) (hg : isGl X.env.scope x = true) (hd : noDbg x = true) :
    SE Γ X W (.Call (.Name x p) as [] pos) (ev (ctF T wl n) e) ∧ ST Γ X W (.Call (.Name x p) as [] pos) (evT (ctF T wl n) e) := by
  unfold toldHook at h
  cases td with
  | none => cases h
  | some t =>
  simp only at h
  obtain ⟨gg, hm, ⟨FF⟩, hE, hdn, hrf⟩ := F t rfl
  obtain ⟨cc, P, e1, TB, mT, uT⟩ := L.ex
  have bodyOk : ∀ (scope : Scope) (body : Expr), (∀ (A : Around) (outer : List PySem.Env) (s : Shared) (H : Hp) (E : XK) (f c' : Addr), A.guards = X.A.guards → Room (6 * n + 2) (A.deeper (lamEnv X scope s.heap.objs.size f c')) → SE Γ (lamCx X A outer s H E scope f c') (fun cls d _ H => E cls d H) body (ev (ctF T wl n) (cE c0 X.N m scope body))) := fun scope body A outer s H E f c' hgd hr => by
    have g' : XG Γ (lamCx X A outer s H E scope f c') (fun cls d _ H => E cls d H) (6 * n + 2) :=
      { hK := g.hK, calm := rfl, nd := g.nd, tk := takes_of rfl rfl rfl rfl, hr := hr, gd := fun h => by show A.guards = _; rw [hgd]; exact g.gd h, sm := g.sm }
    exact ((snd (by rw [r0]; exact Nat.le_refl _) m _ _ g' (G.lam h0)).e body).1
  split at h
  · rename_i params body scope lpos
    split at h
    · rename_i hc
      simp only [Bool.and_eq_true, decide_eq_true_eq] at hc
      obtain ⟨rfl, hl, hp⟩ := hc
      cases h
      have hpar : params = ⟨[], [], none, [], [], none, []⟩ := by
        unfold noParams at hp
        split at hp
        · rfl
        · cases hp
      subst hpar
      refine ⟨(se_told (k := 6 * n + 2) (m := ev (ctF T wl n) (cE c0 X.N m scope body)) FF g.hK (isGl_gl hg) hm hE TB e1 mT uT (g.hr.mono (by omega)) (lamS_by hl) rfl (fun _ _ _ _ _ => rfl) (bodyOk scope body) (noDbg_d hd).1).eq fun ρ => ?_, st_never fun ρ => by simp [evT]⟩
      funext s
      simp only [ev]
      unfold toldM
      rfl
    · cases h
  · rename_i params body scope lpos v
    split at h
    · rename_i r ve hlk hve
      split at h
      · rename_i hc
        simp only [Bool.and_eq_true] at hc
        obtain ⟨hns, hl, hp⟩ := hc
        cases h
        have hpar : params = ⟨[], [], none, [], [], none, []⟩ := by
          unfold noParams at hp
          split at hp
          · rfl
          · cases hp
        subst hpar
        obtain ⟨gr, ret, R, hmr, rfl⟩ := hrf x _ hlk
        have S0 : Snd Γ c0 (ctF T wl n) m X W := snd (by rw [r0]; omega) m _ _ g G
        have hv : SA Γ X W [v] (fun ρ => do return [← ev (ctF T wl n) ve ρ]) := by
          have h := S0.a [v] (by rw [List.all_cons, hns]; rfl)
          rw [hve] at h
          exact PA_imp h fun σ H Q ⟨as, st, ρ, mt, er, p⟩ => ⟨as, st, ρ, mt, er, by
            have e : evs (ctF T wl n) [ve] ρ = (do return [← ev (ctF T wl n) ve ρ]) := by simp [evs]
            rw [e]
            exact p⟩
        have main : SE Γ X W (.Call (.Name x p) [.Lambda ⟨[], [], none, [], [], none, []⟩ body scope lpos, v] [] pos) (fun ρ => refdM T t.ex (ev (ctF T wl n) (cE c0 X.N m scope body) ρ) (ev (ctF T wl n) ve ρ) (ev (ctF T wl n) (cE c0 refdNames 200 R.sg ret))) := by
          refine se_refd (k := 6 * n + 2) FF R g.hK (isGl_gl hg) hmr hm hE TB e1 mT uT (g.hr.mono (by omega)) (lamS_by hl) rfl (fun _ _ _ _ _ => rfl) (bodyOk scope body) hv hns (fun s H hr => ?_) (noDbg_d hd).1 (noDbg_d hdn).1
          have g' : XG Γ (cxOf C8.CX0 X.prog X.w X.K X.mg X.base refdNames x R.sg gr R.cdv X.A X.stack s H C8.E0) (fun _ _ _ _ => False) (6 * n + 4) :=
            { hK := g.hK, calm := rfl, nd := (show refdNames.Nodup by decide +kernel), tk := L2.takes0, hr := hr, gd := g.gd, sm := g.sm }
          exact ((snd (by rw [r0]; omega) 200 _ _ g' (G.frame h0)).e ret).1
        have e2 : ev (ctF T wl n) (.refd t.ex (cE c0 X.N m scope body) ve (cE c0 refdNames 200 R.sg ret)) = fun ρ => refdM T t.ex (ev (ctF T wl n) (cE c0 X.N m scope body) ρ) (ev (ctF T wl n) ve ρ) (ev (ctF T wl n) (cE c0 refdNames 200 R.sg ret)) := by
          funext ρ
          simp only [ev] <;> rfl
        exact both_dflt g (main.eq fun ρ => congrFun e2 ρ) rfl fun _ => rfl
      · cases h
    · cases h
  · cases h
end
end G
set_option Elab.async false
set_option linter.all false
set_option maxRecDepth 100000
set_option maxHeartbeats 4000000
/-! G22: the defs of the text keep their promises. -/
namespace G
open PySem PySem.Spec PyProof.Rows L2 SlX
/-- a def of the text and its row -/
def DefF (Γ : Gx) (c : CC) (td : Option TdI) (mg : Str → Option Value) (base : Heap) (f : Nat) (fn : Fn) : Prop := ∃ (x qual : Str) (st : Stmt) (N : List Str) (m : Nat) (b : Bool), C8.Fun Γ.K x qual st (Γ.fa f) (Γ.fd f) ∧ FnScope N (Γ.ps f) (C8.fnScope st) ∧ fn = ⟨N.length, (Γ.ps f).length, cSs (if b then cLam c td else c) N m (C8.fnScope st) (C8.fnBody st)⟩ ∧ (b = true → LamAt Γ mg base (qual ++ ".<locals>.") (Γ.fd f).code)
/-- what is known of the text -/
structure GS (Γ : Gx) (c : CC) (td : Option TdI) (T : Tab) (wl : Nat) (P : Program) (w : World) (mg : Str → Option Value) (base : Heap) : Prop where
  fn : ∀ x f, c.fns.lookup x = some f → mg x = some (.ref (Γ.fa f)) ∧ FI Γ f
  cls : ∀ x k, c.cls.lookup x = some k → mg x = some (.ref (Γ.ca k))
  exc : ∀ k, c.exc.contains k = true → (∃ fI DC, Nonempty (ExI P Γ.K fI DC) ∧ ExC Γ.K fI DC (Γ.ca k)) ∧ ∃ y, T.cl k = some y ∧ y.kind = .exc
  con : ∀ x d, c.con.lookup x = some d → ∃ v u, mg x = some u ∧ RelV v u ∧ ∀ as H, Rep Γ as H d v
  bl : ∀ x, x ∈ bltNames → mg x = none
  cf : ClsF Γ.K T Γ.ca
  kx : ∀ c x, T.cl c = some x → x.kind = .exc → x.slots = [] ∧ x.props = []
  slc : ∀ k, c.slc.contains k = true → ∃ y, T.cl k = some y ∧ y.kind = .slots ∧ PySem.W.keepIn Γ.K (.ref (Γ.ca k)) = true
  sp : SpN c.met c.att
  fi : ∀ c x m f, T.cl c = some x → x.meths.lookup m = some f → FI Γ f
  fp : ∀ c x a f, T.cl c = some x → x.props.lookup a = some f → FI Γ f
  ow : OwnF Γ T c.met c.att
  df : ∀ f fn, T.fn f = some fn → DefF Γ c td mg base f fn
  rpe : T.rp = true → Γ.rp = true
  f0 : T.rp = true → ∀ n f, FnG false P w Γ.K mg base (6 * n) (Γ.fa f) (Γ.fd f) (Γ.ps f) (spF Γ T.t0 wl n f)
  h0 : c.hook = fun _ _ _ _ _ => none
  r0 : c.room = 2
  told : ToldAt Γ c T mg td
  dvF : ∀ x f k ds, c.fns.lookup x = some f → c.dv.lookup x = some (k, ds) → ds = Γ.dv f
  dvC : ∀ x q y f k ds, c.cls.lookup x = some q → T.cl q = some y → y.meths.lookup mInit = some f → c.dv.lookup x = some (k, ds) → ds = Γ.dv f
  sm : BaseOk base
  stm : ∀ x m f, c.st.lookup (x, m) = some f → (∃ C, mg x = some (.ref C) ∧ StAt Γ.K C m (Γ.fa f)) ∧ FI Γ f
section
variable {Γ : Gx} {c : CC} {td : Option TdI} {T : Tab} {wl : Nat} {P : Program} {w : World} {mg : Str → Option Value} {base : Heap}
theorem GS.gf {n : Nat} (S : GS Γ c td T wl P w mg base) (F : ∀ f, FnG Γ.rp P w Γ.K mg base (6 * n) (Γ.fa f) (Γ.fd f) (Γ.ps f) (spF Γ T wl n f)) {X : Cx} (h1 : X.prog = P) (h2 : X.w = w) (h3 : X.mg = mg) (h4 : X.base = base) (h5 : X.K = Γ.K) : GF Γ c T wl n X := by
  subst h1 h2 h3 h4
  refine ⟨fun x f e => ⟨(S.fn x f e).1, (S.fn x f e).2, ?_⟩, S.cls, ?_, S.con, S.bl, S.cf, S.kx, S.slc, S.sp, fun Y W k e1 e2 e3 e4 g hn => ⟨g, hn, fun f => ?_, S.fi, S.fp, S.cf, S.ow, S.rpe, fun hT f => ?_⟩, Nat.le_of_eq S.r0.symm, S.dvF, S.dvC, fun x m f e => ⟨(S.stm x m f e).1, (S.stm x m f e).2, by show FnG _ _ _ _ _ _ _ _ _ _ _; rw [h5]; exact F f⟩, fun Y W k m _ _ _ _ _ _ _ _ x as e p pos h => by rw [S.h0] at h; cases h⟩
  · show FnG _ _ _ _ _ _ _ _ _ _ _
    rw [h5]
    exact F f
  · rw [h5]
    exact S.exc
  · show FnG _ _ _ _ _ _ _ _ _ _ _
    rw [e1, e2, e3, e4, g.hK]
    exact F f
  · rw [e1, e2, e3, e4, g.hK]
    exact S.f0 hT n f
theorem GS.gfL {n : Nat} (S : GS Γ c td T wl P w mg base) (F : ∀ f, FnG Γ.rp P w Γ.K mg base (6 * n) (Γ.fa f) (Γ.fd f) (Γ.ps f) (spF Γ T wl n f)) {X : Cx} (h1 : X.prog = P) (h2 : X.w = w) (h3 : X.mg = mg) (h4 : X.base = base) (h5 : X.K = Γ.K) (L : LamAt Γ mg base X.env.qual X.env.code) : GF Γ (cLam c td) T wl n X := by
  have G := S.gf F h1 h2 h3 h4 h5
  refine ⟨G.fn, G.cls, G.exc, G.con, G.bl, G.cf, G.kx, G.slc, G.sp, G.gm, by show 2 ≤ 5; decide, G.dvF, G.dvC, G.stm, fun Y W k m e1 e2 e3 e4 e5 e6 g hn x as e p pos h hg hd => ?_⟩
  have GY := S.gf F (X := Y) (e1.trans h1) (e2.trans h2) (e3.trans h3) (e4.trans h4) g.hK
  exact hook_ok GY S.h0 S.r0 (by rw [e3, h3]; exact S.told) (by rw [e3, h3, e4, h4, e5, e6]; exact L) g hn h hg hd
theorem envR_start {as : List Loc} {H : Hp} {ds : List D} {vs : List V} {N : List Str} (r : Reps Γ as H ds vs) {p : Nat} (hp : ds.length = p) : EnvR Γ as H (ds.map some ++ List.replicate (N.length - p) none) (L2.start N vs) := by
  have hl := r.len
  unfold L2.start
  refine ⟨by simp [hl, hp], fun i d e => ?_⟩
  rw [List.getElem?_append] at e ⊢
  split at e
  · rename_i hi
    rw [List.getElem?_map] at e
    cases e1 : ds[i]? with
    | none => rw [e1] at e; cases e
    | some d' =>
      rw [e1] at e
      cases e
      obtain ⟨v, hv, rv⟩ := r.get e1
      rw [List.length_map] at hi
      rw [if_pos (by rw [List.length_map, hl]; exact hi)]
      exact ⟨v, by rw [List.getElem?_map, hv]; rfl, rv⟩
  · rw [List.getElem?_replicate] at e
    split at e <;> cases e
theorem spF_stuck {n f : Nat} (h : ∀ ds st, callF T wl n f ds st = .stuck) {vs : List V} {H : Hp} {Q : VK} {E : XK} : ¬ spF Γ T wl n f vs H Q E := fun ⟨as, st, ds, mt, r, p⟩ => by
  rw [h] at p
  exact p
/-- the promises, level by level -/
theorem GS.all (S : GS Γ c td T wl P w mg base) : ∀ (n f : Nat), FnG Γ.rp P w Γ.K mg base (6 * n) (Γ.fa f) (Γ.fd f) (Γ.ps f) (spF Γ T wl n f)
  | 0, f => ⟨fun vs H Q E h => absurd h (spF_stuck fun ds st => rfl), fun A outer s H args us vs Q E _ _ _ _ _ h => absurd h (spF_stuck fun ds st => rfl)⟩
  | n + 1, f => by
    cases e : T.fn f with
    | none =>
      have z : ∀ ds st, callF T wl (n + 1) f ds st = .stuck := fun ds st => by
        unfold callF callN
        rw [e]
        rfl
      exact ⟨fun vs H Q E h => absurd h (spF_stuck z), fun A outer s H args us vs Q E _ _ _ _ _ h => absurd h (spF_stuck z)⟩
    | some fn =>
      have F := GS.all S n
      obtain ⟨x, qual, st, N, m, b, ⟨oc, od, dV, kV, doc, pm, an, cdv, ct, osl, hfd, lk, hcd⟩, sc, rfl, hlam⟩ := S.df f fn e
      rw [hfd]
      rw [hfd] at lk
      have inv : ∀ {vs H Q E}, spF Γ T wl (n + 1) f vs H Q E → ∃ as st' ds, Mt Γ as st' H ∧ Reps Γ as H ds vs ∧ Po Γ (Rep Γ) as H (runFn (ctF T wl n) ⟨N.length, (Γ.ps f).length, cSs (if b then cLam c td else c) N m (C8.fnScope st) (C8.fnBody st)⟩ ds st') Q E := fun {vs H Q E} ⟨as, st', ds, mt, r, p⟩ => ⟨as, st', ds, mt, r, by
        unfold callF callN at p
        rw [e] at p
        exact p⟩
      have cond : ∀ {as st' ds H Q E}, Po Γ (Rep Γ) as H (runFn (ctF T wl n) ⟨N.length, (Γ.ps f).length, cSs (if b then cLam c td else c) N m (C8.fnScope st) (C8.fnBody st)⟩ ds st') Q E → ds.length = (Γ.ps f).length := fun {as st' ds H Q E} p => by
        unfold runFn at p
        simp only at p
        split at p
        · rename_i h
          exact h.1
        · exact p.elim
      refine fnG_of lk hcd sc (fun vs H Q E h => ?_) fun A outer s H vs Q E hr gd h => ?_
      · obtain ⟨as, st', ds, mt, r, p⟩ := inv h
        rw [r.len]
        exact cond p
      · obtain ⟨as, st', ds, mt, r, p⟩ := inv h
        have hlen := cond p
        have g : XS Γ (cxOf (L2.CX P w) P w Γ.K mg base N qual (C8.fnScope st) (Γ.fa f) cdv A outer s H E) (fun cls d _ H => E cls d H) (6 * n + 5) :=
          { hK := rfl, calm := rfl, nd := sc.nd, tk := takes_of rfl rfl rfl rfl, hr := hr, gd := gd, sm := S.sm, fnT := fun _ => rfl, po := passes_of rfl }
        have hb : SSs Γ (cxOf (L2.CX P w) P w Γ.K mg base N qual (C8.fnScope st) (Γ.fa f) cdv A outer s H E) (fun cls d _ H => E cls d H) (C8.fnBody st) (exs (ctF T wl n) (cSs (if b then cLam c td else c) N m (C8.fnScope st) (C8.fnBody st))) := by
          cases b with
          | false => exact (sndS g (S.gf F (X := cxOf (L2.CX P w) P w Γ.K mg base N qual (C8.fnScope st) (Γ.fa f) cdv A outer s H E) rfl rfl rfl rfl rfl) (by rw [S.r0]; omega) m).2 (C8.fnBody st)
          | true =>
            have L := hlam rfl
            rw [hfd] at L
            exact (sndS g (S.gfL F (X := cxOf (L2.CX P w) P w Γ.K mg base N qual (C8.fnScope st) (Γ.fa f) cdv A outer s H E) rfl rfl rfl rfl rfl L) (Nat.le_refl _) m).2 (C8.fnBody st)
        refine ⟨_, hb, as, st', ds.map some ++ List.replicate (N.length - (Γ.ps f).length) none, mt, envR_start r hlen, ?_⟩
        unfold runFn at p
        simp only at p
        split at p
        · show PoS Γ _ _ as H (exs (ctF T wl n) (cSs (if b then cLam c td else c) N m (C8.fnScope st) (C8.fnBody st)) (ds.map some ++ List.replicate (N.length - (Γ.ps f).length) none) st')
          cases e2 : exs (ctF T wl n) (cSs (if b then cLam c td else c) N m (C8.fnScope st) (C8.fnBody st)) (ds.map some ++ List.replicate (N.length - (Γ.ps f).length) none) st' with
          | stuck => rw [e2] at p; exact p
          | exc cc v s1 => rw [e2] at p; exact p
          | ok fl s1 =>
            rw [e2] at p
            cases fl with
            | bk _ => exact p.elim
            | ct _ => exact p.elim
            | nx ρ =>
              intro as' σ' H' k1 m1 er
              obtain ⟨as3, k3, m3, r3, _⟩ := trunc_ok (d := .non) (v := V.non) mt k1 m1 .ofNon
              exact p as3 .non H' k3 m3 r3
            | rt d =>
              intro as' v H' k1 m1 rv
              obtain ⟨as3, k3, m3, r3, _⟩ := trunc_ok mt k1 m1 rv
              exact p as3 v H' k3 m3 r3
            | xc ρ cc y =>
              intro as' σ' H' dx w' k1 m1 er g1 g2 g3
              obtain ⟨as3, k3, m3, r3, i3⟩ := trunc_ok mt k1 m1 g3
              exact p as3 H' dx w' k3 m3 g1 (i3 _ g2) r3
        · exact p.elim
end
end G
set_option Elab.async false
set_option linter.all false
set_option maxRecDepth 100000
set_option maxHeartbeats 4000000
/-! G23: the law's end. -/
namespace G
open PySem PySem.Spec PyProof.Rows L2 SlX LamX
/-- the law's call, by the def's promise; cs: the code objects whose tables are asked for, and these -/
theorem law_callG {b0 : Bool} {P : Program} {w : World} {K : PySem.W.Frag} {mg mb : Str → Option Value} {k : Nat} {fa a : Addr} {cs : List (Addr × Addr)} {fd : FuncData} {x : Str} {sp : Sp} {s₁ : Shared} {vs : List Value} {ns : List Int}
    (KX : K.In s₁.heap) (hns : s₁.heap.Ns mainGlobals mg) (hb : s₁.heap.Ns builtinsNs mb) (hbb : ∀ x : Str, x ≠ "__name__" → mb x = bootBuiltins x) (hlim : s₁.heap.NoLimit) (hsm : ∃ mm, s₁.heap.Ns sysModules mm) (hnd : s₁.heap.NoDigits) (hg : s₁.gens = #[])
    (hT : ∀ p ∈ cs, s₁.heap.get? p.2 = some { cls := .none, data := .fields #[] }) (nT : ∀ p ∈ cs, K.lookup p.2 = none) (C : ∀ p ∈ cs, PySem.W.CodeHd s₁.heap p.1 p.2)
    (hbm : ∃ (bm : Addr) (ob : Obj), mg "__builtins__" = some (.ref bm) ∧ bm ≠ builtinsNs ∧ s₁.heap.get? bm = some ob ∧ ob.cls = .type "module" ∧ ob.dict = some builtinsNs ∧ ob.data = .plain)
    (ha : s₁.heap.get? a = some { cls := .type "list", data := .seq vs.toArray }) (hi : IntsAre vs ns) (hl : ns.length ≤ sizeLine) (hr : Room k callerA)
    (F : ∀ base : Heap, K.In base → base.Ns mainGlobals mg → BaseOk base → (∀ p ∈ cs, TabB base mg p.1 p.2) → FnG b0 P w K mg base k fa fd [x] sp) (hbind : ∀ (s : Shared) (u : Value), BindsTo s fd ⟨[u], []⟩ [(x, u)])
    (hsp : ∀ H : Hp, (∀ p ∈ cs, H p.2 = some (.tbl #[])) → (∀ b ps, H b = some (.tbl ps) → b ∈ cs.map (·.2)) → SqL K H a (ns.map V.int) → sp [.ref a] H (fun v _ => v = .bl true) fun _ _ _ => False) :
    codeAny (model P w) callerA (.call (.ref fa) ⟨[.ref a], []⟩) (fun r s' => r = .ok (.ret (.bool true)) ∧ OldK s₁.heap s'.heap ∧ s'.os = s₁.os ∧ AllBare s'.gens) s₁ := by
  have rv := vals_ints hi
  have lenV := hi.length
  have isT : ∀ b : Addr, b ∈ cs.map (·.2) → s₁.heap.get? b = some { cls := .none, data := .fields #[] } := fun b hb => by
    obtain ⟨p, hp, e⟩ := List.mem_map.mp hb
    rw [← e]
    exact hT p hp
  have aT : a ∉ cs.map (·.2) := fun z => by
    have q := isT a z
    rw [ha] at q
    have z' : Data.seq vs.toArray _ = Data.fields #[] := congrArg Obj.data (Option.some.inj q)
    cases z'
  have memT : ∀ p ∈ cs, p.2 ∈ cs.map (·.2) := fun p hp => List.mem_map.mpr ⟨p, hp, rfl⟩
  have core : ∀ H : Hp, (∀ p ∈ cs, H p.2 = some (.tbl #[])) → (∀ b, H b = none ∨ b ∈ cs.map (·.2) ∨ ∃ o xs, H b = some (.frz o (.lst xs))) → SqL K H a (ns.map V.int) → HOk P w H s₁.heap → (∀ b, H b ≠ none → b = a ∨ b ∈ cs.map (·.2)) → (H a ≠ none → K.lookup a = none) →
      codeAny (model P w) callerA (.call (.ref fa) ⟨[.ref a], []⟩) (fun r s' => r = .ok (.ret (.bool true)) ∧ OldK s₁.heap s'.heap ∧ s'.os = s₁.os ∧ AllBare s'.gens) s₁ := by
    intro H hH hO hS hok hA hK
    have base_of : ∀ {b : Addr} {o : Obj}, s₁.heap.get? b = some o → H b = none → (hidT s₁.heap H).get? b = some o := fun e n => hidT_get e n
    have noD : ∀ {b : Addr} {o : Obj}, s₁.heap.get? b = some o → (∀ vs n, o.data ≠ .seq vs n) → o.data ≠ .fields #[] → H b = none := fun {b o} e h1 h2 => by
      cases q : H b with
      | none => rfl
      | some u =>
        rcases hA b (by rw [q]; simp) with e' | e'
        · rw [e', ha] at e
          cases e
          exact (h1 _ _ rfl).elim
        · rw [isT b e'] at e
          cases e
          exact (h2 rfl).elim
    have noA : ∀ {b : Addr} {o : Obj} {es : Array DictEntry} {ep : Nat}, s₁.heap.get? b = some o → o.data = .dict es ep → H b = none := fun {b o es ep} e d => noD e (fun vs n z => by rw [d] at z; cases z) fun z => by rw [d] at z; cases z
    have nsK : ∀ {b : Addr} {m : Str → Option Value}, s₁.heap.Ns b m → (hidT s₁.heap H).Ns b m := fun {b m} ⟨o, es, ep, e, d, r⟩ => ⟨o, es, ep, base_of e (noA e d), d, r⟩
    have hKb : K.In (hidT s₁.heap H) := fun b o e => base_of (KX b o e) (by
      cases q : H b with
      | none => rfl
      | some u =>
        rcases hA b (by rw [q]; simp) with e' | e'
        · rw [e'] at e q
          rw [hK (by rw [q]; simp)] at e
          cases e
        · obtain ⟨p, hp, ep⟩ := List.mem_map.mp e'
          rw [← ep, nT p hp] at e
          cases e)
    have hM : L2.Mod K mg (hidT s₁.heap H) := ⟨hKb, nsK hns, ⟨mb, nsK hb, hbb⟩, let ⟨mc, h1, h2⟩ := hlim; ⟨mc, nsK h1, h2⟩⟩
    have TB : ∀ p ∈ cs, TabB (hidT s₁.heap H) mg p.1 p.2 := fun p hp => by
      have hTp := hT p hp
      refine ⟨?_, ?_, fun z => ?_⟩
      · obtain ⟨o, us, file, tf, flags, tg, inF, text, tt, e1, r1, r2, r3, r4, r5, r6, r7, r8, hne⟩ := C p hp
        refine ⟨o, us, file, tf, flags, tg, inF, text, tt, base_of e1 (noD e1 (fun vs n z => by rw [r2] at z; cases z) fun z => ?_), r1, r2, r3, r4, r5, r6, r7, r8, hne⟩
        rw [r2] at z
        cases z
        simp at r3
      · obtain ⟨bm, ob, b1, b2, b3, b4, b5, b6⟩ := hbm
        have nG : bm ≠ mainGlobals := fun q => by
          obtain ⟨o, es, ep, e, hd, _⟩ := hns
          rw [q, e] at b3
          cases b3
          rw [hd] at b6
          cases b6
        have nP : bm ≠ p.2 := fun q => by
          rw [q, hTp] at b3
          cases b3
          cases b6
        exact ⟨bm, ob, b1, b2, nG, nP, base_of b3 (noD b3 (fun vs n z => by rw [b6] at z; cases z) fun z => by rw [b6] at z; cases z), b4, b5, b6⟩
      · obtain ⟨o, es, ep, e, hd, _⟩ := hns
        rw [z, hTp] at e
        cases e
        cases hd
    have e0 : Env0 P w K mg (hidT s₁.heap H) callerA [] s₁ H := ⟨rfl, hM, fun b o e => of_hidT e, Nat.le_of_eq (hidT_size _ _), trivial, fun b hb => absurd (show b ∈ ([] : List Addr) from hb) (by simp), hok, .of_eq hg⟩
    have sm : ∃ o, (hidT s₁.heap H).get? sysModules = some o := by
      obtain ⟨mm, o, es, ep, e, d, _⟩ := hsm
      exact ⟨o, base_of e (noA e d)⟩
    have smB : BaseOk (hidT s₁.heap H) := ⟨sm, let ⟨mc, h1, h2⟩ := hnd; ⟨mc, nsK h1, h2⟩⟩
    have hAll : ∀ b ps, H b = some (.tbl ps) → b ∈ cs.map (·.2) := fun b ps e => by
      rcases hO b with z | z | ⟨_, _, z⟩
      · rw [e] at z; cases z
      · exact z
      · rw [e] at z; cases z
    refine codeAny_mono ((F _ hKb (nsK hns) smB TB).run callerA [] s₁ H ⟨[.ref a], []⟩ [.ref a] [.ref a] _ _ hr (fun _ => rfl) e0 (hbind s₁ (.ref a)) (.cons rfl .nil) (hsp H hH hAll hS)) fun r s' h => ?_
    cases r with
    | error e =>
      obtain ⟨_, _, _, _, _, _, _, _, _, _, _, _, z⟩ := h
      exact z.elim
    | ok fl =>
      cases fl with
      | next => exact False.elim h
      | brk => exact False.elim h
      | cont => exact False.elim h
      | ret u =>
        obtain ⟨v, H', os, bare, un, hok', r', q⟩ := h
        have q' : v = .bl true := q
        subst q'
        obtain rfl : u = Value.bool true := r'
        have key : ∀ b o, b ∉ cs.map (·.2) → s₁.heap.get? b = some o → s'.heap.get? b = some o := fun b o nb e => by
          cases q : H b with
          | none => exact un.keep b o e q (by intro z; exact absurd (show b ∈ ([] : List Addr) from z) (by simp)) (by simp)
          | some u =>
            rcases hO b with z | z | ⟨ob, xs, z⟩
            · rw [q] at z; cases z
            · exact absurd z nb
            · have z2 := un.frzs b ob _ z
              obtain ⟨e1, _⟩ := hok b _ z
              obtain ⟨e2, _⟩ := hok' b _ z2
              rw [e] at e1; cases e1
              exact e2
        have grown : ∀ p ∈ cs, ∃ more : Array Value, s'.heap.get? p.2 = some { cls := .none, data := .fields more } := fun p hp => by
          obtain ⟨more, z⟩ := un.tbls p.2 #[] (hH p hp)
          exact ⟨_, hok' p.2 _ z⟩
        refine ⟨rfl, ⟨fun b o e => ?_, fun b o e => ?_⟩, os, bare⟩
        · by_cases hb : b ∈ cs.map (·.2)
          · obtain ⟨p, hp, ep⟩ := List.mem_map.mp hb
            obtain ⟨more, hm⟩ := grown p hp
            rw [← ep] at e ⊢
            rw [hT p hp] at e
            cases e
            exact .inr (.inl ⟨((C p hp).tab (hT p hp)).isCodeTable, rfl, #[], more, rfl, by rw [Array.empty_append]; exact hm⟩)
          · exact .inl (key b o hb e)
        · by_cases hb : b ∈ cs.map (·.2)
          · obtain ⟨p, hp, ep⟩ := List.mem_map.mp hb
            obtain ⟨more, hm⟩ := grown p hp
            rw [← ep]
            exact ⟨_, hm⟩
          · exact ⟨o, key b o hb e⟩
  cases hk : K.lookup a with
  | some o =>
    have e := KX a o hk
    rw [ha] at e
    cases e
    refine core (fun b => if b ∈ cs.map (·.2) then some (.tbl #[]) else none) (fun p hp => if_pos (memT p hp)) (fun b => ?_) (.inr ⟨_, vs.toArray, _, hk, rfl, rfl, rfl, by rw [List.size_toArray, lenV]; exact hl, by simpa using rv⟩) (fun b u z => ?_) (fun b z => ?_) fun z => absurd (show (if a ∈ cs.map (·.2) then some (HO.tbl #[]) else none) = none from if_neg aT) z
    · by_cases hb : b ∈ cs.map (·.2)
      · exact .inr (.inl hb)
      · exact .inl (if_neg hb)
    · by_cases hb : b ∈ cs.map (·.2)
      · have z' := (if_pos hb).symm.trans z
        cases z'
        exact isT b hb
      · have z' := (if_neg hb).symm.trans z
        cases z'
    · by_cases hb : b ∈ cs.map (·.2)
      · exact .inr hb
      · exact absurd (if_neg hb) z
  | none =>
    refine core (fun b => if b = a then some (.frz { cls := .type "list", data := .seq vs.toArray } (.lst (ns.map V.int))) else if b ∈ cs.map (·.2) then some (.tbl #[]) else none) (fun p hp => (if_neg (show ¬ p.2 = a from fun z => aT (by rw [← z]; exact memT p hp))).trans (if_pos (memT p hp))) (fun b => ?_)
      (.inl (.inr ⟨{ cls := .type "list", data := .seq vs.toArray }, if_pos rfl⟩)) (fun b u z => ?_) (fun b z => ?_) fun _ => hk
    · by_cases hb : b = a
      · exact .inr (.inr ⟨_, _, if_pos hb⟩)
      · by_cases hb2 : b ∈ cs.map (·.2)
        · exact .inr (.inl hb2)
        · exact .inl ((if_neg hb).trans (if_neg hb2))
    · by_cases hb : b = a
      · have z' := (if_pos hb).symm.trans z
        cases z'
        rw [hb]
        exact ⟨ha, by rw [List.length_map]; exact hl, vs, _, rv, ha⟩
      · have z1 := (if_neg hb).symm.trans z
        by_cases hb2 : b ∈ cs.map (·.2)
        · have z' := (if_pos hb2).symm.trans z1
          cases z'
          exact isT b hb2
        · have z' := (if_neg hb2).symm.trans z1
          cases z'
    · by_cases hb : b = a
      · exact .inl hb
      · by_cases hb2 : b ∈ cs.map (·.2)
        · exact .inr hb2
        · exact absurd ((if_neg hb).trans (if_neg hb2)) z
/-- what a law of the program asks of the IR -/
def Good (T : Tab) (wl n f : Nat) (ns : List Int) : Prop := ∃ s', callF T wl n f [.scr ns] [] = .ok (.bl true) s'
theorem spF_law {Γ : Gx} {T : Tab} {wl n f : Nat} {ns : List Int} {H : Hp} {a : Addr} (g : Good T wl n f ns) (hT : ∀ p ∈ Γ.tabs, H p.1 = some (.tbl #[])) (hA : ∀ b ps, H b = some (.tbl ps) → ∃ q, (b, q) ∈ Γ.tabs) (h : SqL Γ.K H a (ns.map V.int)) : spF Γ T wl n f [.ref a] H (fun v _ => v = .bl true) fun _ _ _ => False := by
  obtain ⟨s', e⟩ := g
  refine ⟨[], [], [.scr ns], ⟨rfl, fun i j p q h => by simp at h, fun i o p h => by simp at h, hA, fun p hp => ⟨fun ⟨q, hq, _⟩ => (nomatch hq), #[], hT p hp, True.intro, fun pos cv z => by simp [codeAmong] at z⟩⟩, .cons ?_ .nil, ?_⟩
  · unfold Rep
    refine ⟨a, rfl, h, ?_⟩
    rcases h with (q | ⟨u, q⟩) | q
    · exact .inl ⟨fun ⟨p, hp, _⟩ => (nomatch hp), _, q⟩
    · exact .inl ⟨fun ⟨p, hp, _⟩ => (nomatch hp), _, q⟩
    · exact .inr q
  · rw [e]
    exact fun as' v H' _ _ r => r.bl
/-- the table of the code of the def x of the text is empty -/
def TabOf (h : Heap) (mg : Str → Option Value) (x : Str) : Prop := ∃ (a : Addr) (o : Obj) (fd : FuncData) (c P : Addr) (oc : Obj) (vc : Array Value), mg x = some (.ref a) ∧ h.get? a = some o ∧ o.data = .func fd ∧ fd.code = .ref c ∧ h.get? c = some oc ∧ oc.data = .fields vc ∧ vc[11]? = some (.ref P) ∧ h.get? P = some { cls := .none, data := .fields #[] }
/-- the walk of a law's row -/
theorem walk_G {l : PySem.W.OpenLaw} {n lv wl fl : Nat} {q : Program} {loose : List Str} {XP : (Str → Option Value) → Heap → Prop} {YP : World → Heap → Prop} {d : DefRec} {K : Params → PySem.W.Frag} {Γ : World → Gx} {T : Tab} {c : CC} {td : Option TdI} {x : Str} {names : List Str}
    (hn : l.most = some n) (hn2 : n ≤ sizeLine) (hdf : d.params.defaults = []) (hr : Room (6 * lv) callerA) (him : importsNone q = true) (hrec : (names.all fun x => (recsOf q).any fun e => e.name == x) = true)
    (hY : ∀ (w : World) (h : Heap), YP w h → (K w.params).In h) (hK : ∀ w, (Γ w).K = K w.params)
    (F : ∀ (w : World) (mg : Str → Option Value) (fa : Addr) (h : Heap), (K w.params).In h → h.Ns mainGlobals mg → mg d.name = some (.ref fa) → (∀ x ∈ names, TabOf h mg x) →
      fa = (Γ w).fa fl ∧ (Γ w).ps fl = [x] ∧ (∀ (s : Shared) (u : Value), BindsTo s ((Γ w).fd fl) ⟨[u], []⟩ [(x, u)]) ∧
        ∃ cs : List (Addr × Addr), (∀ p ∈ cs, h.get? p.2 = some { cls := .none, data := .fields #[] }) ∧ (∀ p ∈ cs, (K w.params).lookup p.2 = none) ∧ (∀ p ∈ cs, PySem.W.CodeHd h p.1 p.2) ∧ (∀ p ∈ (Γ w).tabs, p.1 ∈ cs.map (·.2)) ∧ (∀ b ∈ cs.map (·.2), ∃ q, (b, q) ∈ (Γ w).tabs) ∧
        ∀ base : Heap, (K w.params).In base → base.Ns mainGlobals mg → BaseOk base → (∀ p ∈ cs, TabB base mg p.1 p.2) → GS (Γ w) c td T wl l.prog w mg base)
    (good : ∀ ns : List Int, ns.length ≤ n → (∀ z ∈ ns, Builtin.Int.intBits z ≤ 1048576) → Good T wl lv fl ns) :
    PySem.W.WalkO q loose XP YP l.row.toRowW d [] (fun f vs => PySem.call f vs) := by
  refine Att.attach_callB hn hdf fun w s₀ s₁ mg mb fa o pm cd doc a vs ns G Y ho hd hcd hmg hobj hints hlen hbits hg => ?_
  have KX := hY w _ Y
  have tabO : ∀ x ∈ names, TabOf s₁.heap mg x := fun x hx => by
    obtain ⟨dL, hm, hn1⟩ := List.any_eq_true.mp (List.all_eq_true.mp hrec x hx)
    have hn2 : dL.name = x := beq_iff_eq.mp hn1
    obtain ⟨a', o', fd', c', P', h1, h2, h3, h4, h5, ⟨⟨oc, vc, e1, _, e3, e4⟩, hP⟩⟩ := G.T.tab dL hm
    rw [hn2] at h1
    exact ⟨a', o', fd', c', P', oc, vc, h1, h2, h3, h4, e1, e3, e4, hP⟩
  obtain ⟨rfl, hps, hb, cs, t1, t2, t3, t4, t5, hF⟩ := F w mg fa _ KX G.T.g hmg tabO
  obtain ⟨mm, hmm, _⟩ := (G.T.seer him).mods
  exact law_callG KX G.T.g G.T.b G.T.builtins G.T.nolimit ⟨mm, hmm⟩ G.T.nodigits hg t1 t2 t3 G.T.bmain hobj hints (Nat.le_trans hlen hn2) hr (fun base h1 h2 h3 h4 => by
    have := (hF base h1 h2 h3 h4).all lv fl
    rw [hps, hK w] at this
    exact this) hb fun H hH hA hS => spF_law (good ns hlen hbits) (fun p hp => by
      obtain ⟨r, hr, e⟩ := List.mem_map.mp (t4 p hp)
      rw [← e]
      exact hH r hr) (fun b ps e => t5 b (hA b ps e)) (by rw [hK w]; exact hS)
end G
set_option Elab.async false
set_option linter.all false
set_option maxRecDepth 100000
set_option maxHeartbeats 4000000
/-! G24: the tables of a text. -/
namespace G
open PySem PySem.Spec PyProof.Rows L2 SlX
/-- where a def stands: at the top; in the class c, as a method, a property, a static method -/
inductive Wh where
  | top (i : Nat) | meth (i j c : Nat) | prop (i j c : Nat) | stat (i j c : Nat)
def Wh.isTop : Wh → Bool
  | .top _ => true
  | _ => false
def stOf (body : List Stmt) : Wh → Option Stmt
  | .top i => body[i]?
  | .meth i j _ | .prop i j _ | .stat i j _ => match body[i]? with
    | some st => (C8.clsBody st)[j]?
    | none => none
structure DefRow where
  name : String
  qual : String
  wh : Wh
  ps : List Str
  ns : List Str
  /-- whether it makes lambdas -/
  lam : Bool
  /-- whole numbers that stand for the last parameters where they are left out -/
  dv : List Int
structure ClsRow where
  name : String
  exc : Bool
  mro : List Nat
  slots : List Nat
  meths : List (Nat × Nat)
  props : List (Nat × Nat)
  value : Bool
def numF {α β : Type} (f : Nat → α → β) : Nat → List α → List β
  | _, [] => []
  | n, a :: r => f n a :: numF f (n + 1) r
/-- the names of methods that the language gives -/
def metB : List (Str × Nat) := [("__eq__", mEq), (PySem.dunder Operator.Add.info.2, mAdd), (PySem.dunder Operator.Sub.info.2, mSub), (PySem.dunder Operator.Mult.info.2, mMul), ((cmpInfo .Lt).2.1, mLt), ((cmpInfo .LtE).2.1, mLe), ((cmpInfo .Gt).2.1, mGt), ((cmpInfo .GtE).2.1, mGe), ("__neg__", mNeg), ("__invert__", mInv), ("__len__", mLen), ("__repr__", mRepr), (dunderR Operator.Add.info.2, mRadd), (dunderR Operator.Sub.info.2, mRsub), (dunderR Operator.Mult.info.2, mRmul)]
def mkCC (defs : List DefRow) (clss : List ClsRow) (con : List (Str × D)) (met att : List (Str × Nat)) : CC where
  fns := (numF (fun i (d : DefRow) => (d.wh.isTop, (sx d.name, i))) 0 defs).filterMap fun p => if p.1 then some p.2 else none
  cls := numF (fun i (d : ClsRow) => (sx d.name, i)) 0 clss
  exc := (numF (fun i (d : ClsRow) => (i, d.exc)) 0 clss).filterMap fun p => if p.2 then some p.1 else none
  slc := (numF (fun i (d : ClsRow) => (i, d.exc)) 0 clss).filterMap fun p => if p.2 then none else some p.1
  met := metB ++ met
  att := (sx "value", aValue) :: att
  con := con
  dv := ((numF (fun i (d : DefRow) => (d.wh.isTop, (sx d.name, (d.ps.length - d.dv.length, d.dv)))) 0 defs).filterMap fun p => if p.1 && !p.2.2.2.isEmpty then some p.2 else none) ++
    (clss.filterMap fun c => match c.meths.lookup mInit with
      | some f => match defs[f]? with
        | some d => if d.dv.isEmpty then none else some (sx c.name, (d.ps.length - 1 - d.dv.length, d.dv))
        | none => none
      | none => none)
  st := (numF (fun i (d : DefRow) => (i, d)) 0 defs).filterMap fun p => match p.2.wh with
    | .stat _ _ q => match clss[q]? with
      | some y => some ((sx y.name, sx p.2.name), p.1)
      | none => none
    | _ => none
/-- told's name, the number of the class that it catches, the numbers of the defs that hand a lambda on to it -/
structure TdN where
  nm : Str
  ex : Nat
  rf : List Nat := []
/-- what a def that hands on returns -/
def refdRet (x : Str) (b : List Stmt) : Option Expr := match b with
  | [.Assign [.Name a1 _] (.Subscript (.Call (.Name a2 _) [.Name a3 _] [] _) (.Constant (.int i) _ _) _) _, .Return (some e) _] => if a1 == "caught" && (a2 == x && (a3 == "call" && decide (i = 0))) then some e else none
  | _ => none
def rfE (c : CC) (body : List Stmt) (x : Str) (d : DefRow) : E := match stOf body d.wh with
  | some st => match refdRet x (C8.fnBody st) with
    | some ret => cE c refdNames 200 (C8.fnScope st) ret
    | none => .never
  | none => .never
def tdOf (c : CC) (body : List Stmt) (defs : List DefRow) (td : Option TdN) : Option TdI := match td with
  | none => none
  | some t => some ⟨t.nm, t.ex, t.rf.filterMap fun i => match defs[i]? with
    | some d => some (sx d.name, rfE c body t.nm d)
    | none => none⟩
def mkFn (c : CC) (td : Option TdI) (body : List Stmt) (d : DefRow) : Fn := match stOf body d.wh with
  | some st => ⟨d.ns.length, d.ps.length, cSs (if d.lam then cLam c td else c) d.ns 200 (C8.fnScope st) (C8.fnBody st)⟩
  | none => ⟨0, 0, [.never]⟩
def mkT (c : CC) (td : Option TdN) (body : List Stmt) (defs : List DefRow) (clss : List ClsRow) : Tab where
  fns := numF (fun i d => (i, mkFn c (tdOf c body defs td) body d)) 0 defs
  cls := numF (fun i (d : ClsRow) => (i, ⟨if d.exc then .exc else .slots, d.slots, d.meths, d.props, d.value, d.mro⟩)) 0 clss
theorem spN_mk {met att : List (Str × Nat)} (h : (att.all fun p => !(p.2 == aValue)) = true) : SpN (metB ++ met) ((sx "value", aValue) :: att) := by
  refine ⟨rfl, rfl, rfl, rfl, rfl, rfl, rfl, rfl, rfl, rfl, rfl, rfl, rfl, rfl, rfl, fun nm a e ha => ?_⟩
  rw [List.lookup_cons] at e
  split at e
  · rename_i z
    exact eq_of_beq z
  · have := List.all_eq_true.mp h _ (lookup_in e)
    subst ha
    simp at this
end G
set_option Elab.async false
set_option linter.all false
set_option maxRecDepth 100000
set_option maxHeartbeats 4000000
/-! G25: the facts of a text, looked up in the written part. -/
namespace G
open PySem PySem.Spec PyProof.Rows L2 SlX
def addrIn (K : PySem.W.Frag) (x : Str) : Addr := match PySem.W.nsIn K mainGlobals x with
  | some (some (.ref a)) => a
  | _ => 0
def fdIn (K : PySem.W.Frag) (a : Addr) : FuncData := match K.lookup a with
  | some ⟨_, _, .func fd, _⟩ => fd
  | _ => default
theorem addr_of {K : PySem.W.Frag} {x : Str} {f : Addr} (a : PySem.W.nsIn K mainGlobals x = some (some (.ref f))) : addrIn K x = f := by
  unfold addrIn
  rw [a]
/-- where a def of a class stands -/
def inCls (K : PySem.W.Frag) (C : Addr) (nm : Str) : Wh → Addr
  | .meth _ _ _ => match PySem.W.findIn K (.ref C) nm with
    | some (some (.ref f)) => f
    | _ => 0
  | .prop _ _ _ => match PySem.W.findIn K (.ref C) nm with
    | some (some (.ref p)) => match PySem.W.recIn K p "property" with
      | some (.ref f :: _) => f
      | _ => 0
    | _ => 0
  | .stat _ _ _ => match PySem.W.findIn K (.ref C) nm with
    | some (some (.ref p)) => match PySem.W.recIn K p "staticmethod" with
      | some (.ref f :: _) => f
      | _ => 0
    | _ => 0
  | .top _ => 0
def clsAt (clss : List ClsRow) (i : Nat) : ClsRow := clss.getD i ⟨"", false, [], [], [], [], false⟩
def defAt (defs : List DefRow) (i : Nat) : DefRow := defs.getD i ⟨"", "", .top 0, [], [], false, []⟩
def caOf (K : PySem.W.Frag) (clss : List ClsRow) (k : Nat) : Addr := addrIn K (sx (clsAt clss k).name)
def faOf (K : PySem.W.Frag) (clss : List ClsRow) (d : DefRow) : Addr := match d.wh with
  | .top _ => addrIn K (sx d.name)
  | .meth i j c => inCls K (caOf K clss c) (sx d.name) (.meth i j c)
  | .prop i j c => inCls K (caOf K clss c) (sx d.name) (.prop i j c)
  | .stat i j c => inCls K (caOf K clss c) (sx d.name) (.stat i j c)
/-- a def's code object; a code object's table -/
def codeOf (K : PySem.W.Frag) (f : Addr) : Addr := match (fdIn K f).code with
  | .ref c => c
  | _ => 0
def tabOf (K : PySem.W.Frag) (c : Addr) : Addr := match K.lookup c with
  | some ⟨_, _, .fields vs, _⟩ => match (vs[11]? : Option Value) with
    | some (.ref P) => P
    | _ => 0
  | _ => 0
def lamRows (defs : List DefRow) : List DefRow := defs.filter (·.lam)
def lamName (d : DefRow) : Str := (sx d.qual ++ ".<locals>.") ++ "<lambda>"
def lamTabs (K : PySem.W.Frag) (defs : List DefRow) (clss : List ClsRow) : List (Addr × Str) := (lamRows defs).map fun d => (tabOf K (codeOf K (faOf K clss d)), lamName d)
def lamCs (K : PySem.W.Frag) (defs : List DefRow) (clss : List ClsRow) : List (Addr × Addr) := (lamRows defs).map fun d => (codeOf K (faOf K clss d), tabOf K (codeOf K (faOf K clss d)))
def gxOf (K : PySem.W.Frag) (defs : List DefRow) (clss : List ClsRow) : Gx where
  K := K
  ca := caOf K clss
  fa f := faOf K clss (defAt defs f)
  fd f := fdIn K (faOf K clss (defAt defs f))
  ps f := (defAt defs f).ps
  dv f := (defAt defs f).dv
  tabs := lamTabs K defs clss
  rp := true
/-- .. where no repr of a list, a tuple, a dict is asked for -/
def Gx.r (Γ : Gx) (b : Bool) : Gx := { Γ with rp := b }
/-- a def as it stands in the written part -/
def FnIs (K : PySem.W.Frag) (x qual : Str) (st : Stmt) (f : Addr) (dv : List Int) : Prop := C8.Fun K x qual st f (fdIn K f) ∧ DflV K (fdIn K f).defaults (dv.map V.int)
/-- no defaults; one, a whole number -/
theorem dfl0 {K : PySem.W.Frag} : DflV K .none (([] : List Int).map V.int) := .inl ⟨rfl, rfl⟩
theorem dfl1 {K : PySem.W.Frag} {A : Addr} {o : Obj} {i : Int} {t : Tok} {n : Nat} (l : K.lookup A = some o) (d : o.data = .seq #[.int i t] n) : DflV K (.ref A) ([i].map V.int) := .inr ⟨by simp, A, o, [.int i t], n, rfl, l, d, .cons ⟨t, rfl⟩ .nil⟩
theorem fn_is {K : PySem.W.Frag} {x qual : Str} {st : Stmt} {f : Addr} {oc : Value} {od an : Option Addr} {dV kV doc pm cdv ct : Value} {osl : Array (Option Value)} {dv : List Int}
    (l : K.lookup f = some ⟨oc, od, .func (PySem.W.fnOf x qual (C8.fnArgs st) (C8.fnBody st) (C8.fnScope st) dV kV doc pm an cdv ct), osl⟩) (c : PySem.W.codeIn K cdv qual = true) (d : DflV K dV (dv.map V.int)) : FnIs K x qual st f dv := by
  have e : fdIn K f = PySem.W.fnOf x qual (C8.fnArgs st) (C8.fnBody st) (C8.fnScope st) dV kV doc pm an cdv ct := by
    unfold fdIn
    rw [l]
  exact ⟨⟨oc, od, dV, kV, doc, pm, an, cdv, ct, osl, e, by rw [e]; exact l, c⟩, by rw [e]; exact d⟩
theorem fa_top {K : PySem.W.Frag} {clss : List ClsRow} {d : DefRow} {f i : Nat} (hw : d.wh = .top i) (a : PySem.W.nsIn K mainGlobals (sx d.name) = some (some (.ref f))) : faOf K clss d = f := by
  unfold faOf
  rw [hw]
  exact addr_of a
theorem fa_meth {K : PySem.W.Frag} {clss : List ClsRow} {d : DefRow} {C f i j c : Nat} (hw : d.wh = .meth i j c) (a : PySem.W.nsIn K mainGlobals (sx (clsAt clss c).name) = some (some (.ref C))) (b : PySem.W.findIn K (.ref C) (sx d.name) = some (some (.ref f))) : faOf K clss d = f := by
  unfold faOf
  rw [hw]
  show inCls K (addrIn K _) _ _ = _
  rw [addr_of a]
  unfold inCls
  simp only
  rw [b]
theorem fa_prop {K : PySem.W.Frag} {clss : List ClsRow} {d : DefRow} {C p f i j c : Nat} {r : List Value} (hw : d.wh = .prop i j c) (a : PySem.W.nsIn K mainGlobals (sx (clsAt clss c).name) = some (some (.ref C))) (b : PySem.W.findIn K (.ref C) (sx d.name) = some (some (.ref p))) (e : PySem.W.recIn K p "property" = some (.ref f :: r)) : faOf K clss d = f := by
  unfold faOf
  rw [hw]
  show inCls K (addrIn K _) _ _ = _
  rw [addr_of a]
  unfold inCls
  simp only
  rw [b]
  simp only
  rw [e]
theorem fa_stat {K : PySem.W.Frag} {clss : List ClsRow} {d : DefRow} {C p f i j c : Nat} {r : List Value} (hw : d.wh = .stat i j c) (a : PySem.W.nsIn K mainGlobals (sx (clsAt clss c).name) = some (some (.ref C))) (b : PySem.W.findIn K (.ref C) (sx d.name) = some (some (.ref p))) (e : PySem.W.recIn K p "staticmethod" = some (.ref f :: r)) : faOf K clss d = f := by
  unfold faOf
  rw [hw]
  show inCls K (addrIn K _) _ _ = _
  rw [addr_of a]
  unfold inCls
  simp only
  rw [b]
  simp only
  rw [e]
/-- a def's parameters, bound by place, no defaults -/
def BindsOk0 (x qual : Str) (st : Stmt) (ps : List Str) : Prop := ∀ (kV doc pm : Value) (an : Option Addr) (cdv ct : Value) (us : List Value), us.length = ps.length → bindArgs (PySem.W.fnOf x qual (C8.fnArgs st) (C8.fnBody st) (C8.fnScope st) .none kV doc pm an cdv ct) ⟨us, []⟩ = pure (ps.zip us)
/-- a def's parameters, bound by place -/
def BindsOk (x qual : Str) (st : Stmt) (ps : List Str) (dv : List Int) : Prop := match dv with
  | [] => BindsOk0 x qual st ps
  | _ => ∀ (A : Addr) (kV doc pm : Value) (an : Option Addr) (cdv ct : Value) (us its : List Value), its.length = dv.length →
    (us.length = ps.length → ∃ k, bindArgs (PySem.W.fnOf x qual (C8.fnArgs st) (C8.fnBody st) (C8.fnScope st) (.ref A) kV doc pm an cdv ct) ⟨us, []⟩ = seqItems? (.ref A) >>= k ∧ k (some its.toArray) = pure (ps.zip us)) ∧
    (us.length + dv.length = ps.length → ∃ k, bindArgs (PySem.W.fnOf x qual (C8.fnArgs st) (C8.fnBody st) (C8.fnScope st) (.ref A) kV doc pm an cdv ct) ⟨us, []⟩ = seqItems? (.ref A) >>= k ∧ k (some its.toArray) = pure (ps.zip (us ++ its)))
/-- an object is an error's class as it stands -/
def excOk (C : Addr) : Obj → Bool
  | ⟨.type t, _, .cls ⟨_, _, .ref c :: bm, _, _, true, _, _, _, _, false⟩, ⟨[_, _, _, _, some (.builtin id), _]⟩⟩ => t == "type" && (c == C && (PySem.HandSPX.refsVE bm && id == "ValueError.__new__"))
  | _ => false
theorem excOk_ex {K : PySem.W.Frag} {C : Addr} {o : Obj} (l : K.lookup C = some o) (h : excOk C o = true) : ∃ nm q N bs bm sn sub ab col dd k0 k1 k2 k3 k5, K.lookup C = some (excClassObj nm q C N bs bm true sn sub ab col dd k0 k1 k2 k3 k5 "ValueError.__new__") ∧ PySem.HandSPX.refsVE bm = true := by
  unfold excOk at h
  split at h
  · simp only [Bool.and_eq_true, beq_iff_eq] at h
    obtain ⟨rfl, rfl, h3, rfl⟩ := h
    rename_i sn sub ab col k0 k1 k2 k3 k5
    exact ⟨_, _, _, _, _, _, _, _, _, _, _, _, _, _, _, l, h3⟩
  · cases h
/-- an error's class, whose __init__ stands at fI in the class at D -/
def okC (K : PySem.W.Frag) (fI D C : Addr) : Bool :=
  (match K.lookup C with | some o => excOk C o | none => false) &&
  (decide (PySem.W.findIn K (.ref C) "__setattr__" = some (some (.builtin "object.__setattr__"))) &&
  (decide (PySem.W.subIn K (.ref C) (.type "BaseException") = some true) &&
  (decide (PySem.W.typeIn K (.ref C) = some (.type "type")) &&
  (PySem.W.keepIn K (.ref C) &&
  (decide (PySem.W.findIn K (.ref C) "__init__" = some (some (.ref fI))) &&
  (decide (PySem.W.typeIn K (.ref fI) = some (.type "function")) &&
  (decide (PySem.W.mroIn K C (.ref D) = some true) &&
  (decide (PySem.W.ks_superIn K C D "__init__" = some (some (.builtin "ValueError.__init__"))) &&
  (decide (PySem.W.subIn K (.ref C) (.type "ValueError") = some true) &&
  decide (PySem.W.findIn K (.ref C) "value" = some none))))))))))
theorem okC_C {K : PySem.W.Frag} {fI D C : Addr} (h : okC K fI D C = true) : ExC K fI D C := by
  unfold okC at h
  simp only [Bool.and_eq_true, decide_eq_true_eq] at h
  obtain ⟨h1, h2, h3, h4, h5, h6, h7, h8, h9, h10, h11⟩ := h
  refine ⟨⟨?_, h2, h3, h4, h5⟩, h6, h7, h8, h9, h10, h11⟩
  split at h1
  · rename_i o e
    exact excOk_ex e h1
  · cases h1
def okA (K : PySem.W.Frag) (C : Addr) : Bool :=
  PySem.W.isClsIn K C &&
  (decide (PySem.W.findIn K (.ref C) "__getattribute__" = some (some (.builtin "BaseException.__getattribute__"))) &&
  (decide (PySem.W.findIn K (.ref C) "__getattr__" = some none) &&
  (decide (PySem.W.subIn K (.ref C) (.type "BaseException") = some true) &&
  (PySem.W.hasDictIn K C &&
  (decide (PySem.W.findIn K (.ref C) "__class__" = some (some (.builtin "object.__class__"))) &&
  (decide (PySem.W.specialIn K (.builtin "object.__class__") "__get__" = some (some (.builtin "getset_descriptor.__get__"))) &&
  (decide (PySem.W.takesIn K (.builtin "object.__class__") = some true) &&
  (decide (PySem.W.mroIn K C (.type "object") = some true) &&
  decide (PySem.W.findIn K (.ref C) "value" = some none)))))))))
theorem okA_A {K : PySem.W.Frag} {C : Addr} (h : okA K C = true) : ExA K C := by
  unfold okA at h
  simp only [Bool.and_eq_true, decide_eq_true_eq] at h
  obtain ⟨h1, h2, h3, h4, h5, h6, h7, h8, h9, h10⟩ := h
  exact ⟨h1, h2, h3, h4, h5, h6, h7, h8, h9, h10⟩
/-- a class with slots -/
def okS (K : PySem.W.Frag) (C : Addr) : Bool :=
  PySem.W.plainGet K C Str.empty &&
  (PySem.W.isClsIn K C &&
  (PySem.W.plainOver K C &&
  (decide (PySem.W.findIn K (.ref C) "__setattr__" = some (some (.builtin "object.__setattr__"))) &&
  (decide (PySem.W.findIn K (.ref C) "__class__" = some (some (.builtin "object.__class__"))) &&
  (decide (PySem.W.specialIn K (.builtin "object.__class__") "__get__" = some (some (.builtin "getset_descriptor.__get__"))) &&
  (decide (PySem.W.takesIn K (.builtin "object.__class__") = some true) &&
  decide (PySem.W.mroIn K C (.type "object") = some true)))))))
theorem okS_S {K : PySem.W.Frag} {C : Addr} (h : okS K C = true) : SCls K C ∧ SIsi K C := by
  unfold okS at h
  simp only [Bool.and_eq_true, decide_eq_true_eq] at h
  obtain ⟨h1, h2, h3, h4, h5, h6, h7, h8⟩ := h
  exact ⟨⟨h1, h2, h3, h4⟩, ⟨h5, h6, h7, h8⟩⟩
def uNames : List String := ["NoneType", "bool", "int", "str", "tuple", "list", "dict"]
def tNames : List String := ["int", "bool", "str", "tuple", "list", "dict", "ValueError"]
/-- the classes of a text -/
def okCls (K : PySem.W.Frag) (ca : Nat → Addr) (l : List (Nat × Cls)) : Bool := l.all fun p => !(p.2.kind == .inst) && ((!(p.2.kind == .exc) || okA K (ca p.1)) && ((!(p.2.kind == .slots) || okS K (ca p.1)) &&
  ((tNames.all fun t => decide (PySem.W.kitOne K (.ref (ca p.1)) (.type t) = some (t == "ValueError" && p.2.kind == .exc))) &&
  ((uNames.all fun u => decide (PySem.W.kitOne K (.type u) (.ref (ca p.1)) = some false)) &&
  (l.all fun q => decide (PySem.W.kitOne K (.ref (ca p.1)) (.ref (ca q.1)) = some (p.2.mro.contains q.1)))))))
theorem okCls_F {K : PySem.W.Frag} {ca : Nat → Addr} {T : Tab} (h : okCls K ca T.cls = true) : ClsF K T ca := by
  have key : ∀ c x, T.cl c = some x → (x.kind ≠ .inst) ∧ (x.kind = .exc → okA K (ca c) = true) ∧ (x.kind = .slots → okS K (ca c) = true) ∧ (∀ t ∈ tNames, PySem.W.kitOne K (.ref (ca c)) (.type t) = some (t == "ValueError" && x.kind == .exc)) ∧ (∀ u ∈ uNames, PySem.W.kitOne K (.type u) (.ref (ca c)) = some false) ∧ ∀ m y, T.cl m = some y → PySem.W.kitOne K (.ref (ca c)) (.ref (ca m)) = some (x.mro.contains m) := fun c x e => by
    have m := lookup_in e
    have := List.all_eq_true.mp h _ m
    simp only [Bool.and_eq_true, List.all_eq_true, decide_eq_true_eq] at this
    obtain ⟨h0, h1, h2, h3, h4, h5⟩ := this
    refine ⟨fun z => ?_, fun z => ?_, fun z => ?_, h3, h4, fun m y e' => h5 _ (lookup_in e')⟩
    · rw [z] at h0
      cases h0
    · rw [z] at h1
      simpa using h1
    · rw [z] at h2
      simpa using h2
  refine ⟨fun c x e z => okA_A ((key c x e).2.1 z), fun c x e z => okS_S ((key c x e).2.2.1 z), fun c x e => (key c x e).1, fun c x t e ht => ?_, fun u c x e hu => (key c x e).2.2.2.2.1 u hu, fun c x m y e e' => (key c x e).2.2.2.2.2 m y e'⟩
  refine (key c x e).2.2.2.1 t ?_
  unfold tyNames at ht
  simp only [Bool.or_eq_true, List.contains_eq_mem, decide_eq_true_eq, beq_iff_eq] at ht
  unfold tNames
  rcases ht with ht | ht
  · simp only [List.mem_cons, List.not_mem_nil, or_false] at ht ⊢
    rcases ht with h | h | h | h | h | h <;> simp [h]
  · simp [ht]
/-! ### the classes' own defs -/
def okMeth (K : PySem.W.Frag) (C : Addr) (nm : Str) (f : Addr) : Bool := decide (PySem.W.findIn K (.ref C) nm = some (some (.ref f))) && (PySem.W.isFn K (.ref f) && PySem.W.keepIn K (.ref f))
def okSlot (K : PySem.W.Frag) (C : Addr) (nm : Str) (i : Nat) : Bool := match PySem.W.findIn K (.ref C) nm with
  | some (some (.ref p)) => decide (PySem.W.specialIn K (.ref p) "__get__" = some (some (.builtin "member_descriptor.__get__"))) && (decide (PySem.W.takesIn K (.ref p) = some true) && (decide (PySem.W.typeIn K (.ref p) = some (.type "member_descriptor")) && (decide (PySem.W.slotIn K p C = some i) && decide (i < 1000))))
  | _ => false
def okProp (K : PySem.W.Frag) (C : Addr) (nm : Str) (f : Addr) : Bool := match PySem.W.findIn K (.ref C) nm with
  | some (some (.ref p)) => decide (PySem.W.specialIn K (.ref p) "__get__" = some (some (.builtin "property.__get__"))) && (decide (PySem.W.takesIn K (.ref p) = some true) && (match PySem.W.recIn K p "property" with
    | some (.ref g :: _) => decide (g = f)
    | _ => false))
  | _ => false
theorem okSlot_S {K : PySem.W.Frag} {C : Addr} {nm : Str} {i : Nat} (h : okSlot K C nm i = true) : ∃ p, Slot1 K C nm p i := by
  unfold okSlot at h
  split at h
  · rename_i p e
    simp only [Bool.and_eq_true, decide_eq_true_eq] at h
    obtain ⟨h1, h2, h3, h4, h5⟩ := h
    exact ⟨p, e, h1, h2, h3, h4, h5⟩
  · cases h
theorem okProp_P {K : PySem.W.Frag} {C : Addr} {nm : Str} {f : Addr} (h : okProp K C nm f = true) : PropF K C nm f := by
  unfold okProp at h
  split at h
  · rename_i p e
    simp only [Bool.and_eq_true, decide_eq_true_eq] at h
    obtain ⟨h1, h2, h3⟩ := h
    split at h3
    · rename_i g r e2
      have := of_decide_eq_true h3
      subst this
      exact ⟨p, e, h1, h2, _, e2⟩
    · cases h3
  · cases h
/-- a class with slots: as an operand, made -/
def okOwn1 (K : PySem.W.Frag) (ca fa : Nat → Addr) (l : List (Nat × Cls)) (C : Addr) (x : Cls) : Bool :=
  PySem.W.selfFirst K C && ((l.all fun q => PySem.W.notFirst K C (.ref (ca q.1))) && ((uNames.all fun u => PySem.W.notFirst K C (.type u)) &&
  (decide (PySem.W.findIn K (.ref C) "__ne__" = some (some (.builtin "object.__ne__"))) && (decide (PySem.W.subIn K (.ref C) (.type "object") = some true) &&
  (PySem.W.keepIn K (.ref C) && (decide (PySem.W.subIn K (.ref C) (.type "int") = some false) && (match x.meths.lookup mInit with
    | some f => PySem.W.makesIn K C && (decide (PySem.W.findIn K (.ref C) "__init__" = some (some (.ref (fa f)))) && (PySem.W.isFn K (.ref (fa f)) && decide (x.slots.length ≤ 100)))
    | none => true)))))))
def okOwn (K : PySem.W.Frag) (ca fa : Nat → Addr) (l : List (Nat × Cls)) (met att : List (Str × Nat)) : Bool := l.all fun p =>
  (p.2.kind == .slots || (p.2.meths.isEmpty && (p.2.props.isEmpty && p.2.slots.isEmpty))) &&
  ((met.all fun q => match p.2.meths.lookup q.2 with | some f => okMeth K (ca p.1) q.1 (fa f) | none => true) &&
  ((att.all fun q => match idxOf q.2 p.2.slots with
    | some i => okSlot K (ca p.1) q.1 i
    | none => match p.2.props.lookup q.2 with
      | some f => okProp K (ca p.1) q.1 (fa f)
      | none => true) &&
  (!(p.2.kind == .slots) || okOwn1 K ca fa l (ca p.1) p.2)))
theorem okOwn_F {Γ : Gx} {T : Tab} {met att : List (Str × Nat)} (h : okOwn Γ.K Γ.ca Γ.fa T.cls met att = true) : OwnF Γ T met att ∧ (∀ c x, T.cl c = some x → x.kind = .exc → x.slots = [] ∧ x.props = []) ∧ ∀ c x, T.cl c = some x → x.kind = .slots → PySem.W.keepIn Γ.K (.ref (Γ.ca c)) = true := by
  have key : ∀ c x, T.cl c = some x → (x.kind = .slots ∨ (x.meths = [] ∧ x.props = [] ∧ x.slots = [])) ∧ (∀ q ∈ met, ∀ f, x.meths.lookup q.2 = some f → okMeth Γ.K (Γ.ca c) q.1 (Γ.fa f) = true) ∧ (∀ q ∈ att, (∀ i, idxOf q.2 x.slots = some i → okSlot Γ.K (Γ.ca c) q.1 i = true) ∧ (idxOf q.2 x.slots = none → ∀ f, x.props.lookup q.2 = some f → okProp Γ.K (Γ.ca c) q.1 (Γ.fa f) = true)) ∧ (x.kind = .slots → okOwn1 Γ.K Γ.ca Γ.fa T.cls (Γ.ca c) x = true) := fun c x e => by
    have := List.all_eq_true.mp h _ (lookup_in e)
    simp only [Bool.and_eq_true, Bool.or_eq_true, List.all_eq_true, List.isEmpty_iff, beq_iff_eq] at this
    obtain ⟨h1, h2, h3, h4⟩ := this
    refine ⟨h1, fun q hq f hf => ?_, fun q hq => ⟨fun i hi => ?_, fun hn f hf => ?_⟩, fun z => ?_⟩
    · have := h2 q hq
      rw [hf] at this
      exact this
    · have := h3 q hq
      rw [hi] at this
      exact this
    · have := h3 q hq
      rw [hn] at this
      simp only at this
      rw [hf] at this
      exact this
    · rw [z] at h4
      rcases h4 with h4 | h4
      · cases h4
      · exact h4
  have o1 : ∀ c x, T.cl c = some x → x.kind = .slots → PySem.W.selfFirst Γ.K (Γ.ca c) = true ∧ (∀ q ∈ T.cls, PySem.W.notFirst Γ.K (Γ.ca c) (.ref (Γ.ca q.1)) = true) ∧ (∀ u ∈ uNames, PySem.W.notFirst Γ.K (Γ.ca c) (.type u) = true) ∧ PySem.W.findIn Γ.K (.ref (Γ.ca c)) "__ne__" = some (some (.builtin "object.__ne__")) ∧ PySem.W.subIn Γ.K (.ref (Γ.ca c)) (.type "object") = some true ∧ PySem.W.keepIn Γ.K (.ref (Γ.ca c)) = true ∧ PySem.W.subIn Γ.K (.ref (Γ.ca c)) (.type "int") = some false ∧ ∀ f, x.meths.lookup mInit = some f → PySem.W.makesIn Γ.K (Γ.ca c) = true ∧ PySem.W.findIn Γ.K (.ref (Γ.ca c)) "__init__" = some (some (.ref (Γ.fa f))) ∧ PySem.W.isFn Γ.K (.ref (Γ.fa f)) = true ∧ x.slots.length ≤ 100 := fun c x e z => by
    have := (key c x e).2.2.2 z
    unfold okOwn1 at this
    simp only [Bool.and_eq_true, List.all_eq_true, decide_eq_true_eq] at this
    obtain ⟨a1, a2, a3, a4, a5, a6, a8, a7⟩ := this
    refine ⟨a1, a2, a3, a4, a5, a6, a8, fun f hf => ?_⟩
    rw [hf] at a7
    simp only [Bool.and_eq_true, decide_eq_true_eq] at a7
    exact a7
  refine ⟨⟨fun c x m f e hf => ?_, fun c x a f e hf => ?_, fun c x a i e hi => ?_, fun c x nm m f e hm hf => ?_, fun c x nm a i e ha hi => okSlot_S (((key c x e).2.2.1 _ (lookup_in ha)).1 i hi), fun c x nm a f e ha hn hf => okProp_P (((key c x e).2.2.1 _ (lookup_in ha)).2 hn f hf), fun c x e z => (o1 c x e z).1, fun c x d y e z e' => (o1 c x e z).2.1 _ (lookup_in e'), fun c x u e z hu => (o1 c x e z).2.2.1 u hu, fun c x e z => ⟨(o1 c x e z).2.2.2.1, (o1 c x e z).2.2.2.2.1⟩, fun c x e z => (o1 c x e z).2.2.2.2.2.2.1, fun c x f e z hf => ?_⟩, fun c x e z => ?_, fun c x e z => (o1 c x e z).2.2.2.2.2.1⟩
  · rcases (key c x e).1 with z | ⟨z, _, _⟩
    · exact z
    · rw [z] at hf; cases hf
  · rcases (key c x e).1 with z | ⟨_, z, _⟩
    · exact z
    · rw [z] at hf; cases hf
  · rcases (key c x e).1 with z | ⟨_, _, z⟩
    · exact z
    · rw [z] at hi; cases hi
  · have := (key c x e).2.1 _ (lookup_in hm) f hf
    unfold okMeth at this
    simp only [Bool.and_eq_true, decide_eq_true_eq] at this
    exact ⟨this.1, this.2.1, this.2.2⟩
  · obtain ⟨_, _, _, _, _, a6, a8, a7⟩ := o1 c x e z
    obtain ⟨b1, b2, b3, b4⟩ := a7 f hf
    exact ⟨⟨b1, b2, b3, a6⟩, b4⟩
  · rcases (key c x e).1 with q | ⟨_, q2, q3⟩
    · rw [q] at z; cases z
    · exact ⟨q3, q2⟩
/-- constants of the module -/
def okCon (K : PySem.W.Frag) (l : List (Str × D)) : Bool := l.all fun p => match PySem.W.nsIn K mainGlobals p.1, p.2 with
  | some (some (.str y _)), .str x => decide (x = y)
  | some (some (.int j _)), .int i => decide (i = j)
  | _, _ => false
theorem okCon_C {Γ : Gx} {l : List (Str × D)} {mg : Str → Option Value} {h : Heap} (KX : Γ.K.In h) (hg : h.Ns mainGlobals mg) (ok : okCon Γ.K l = true) {x : Str} {d : D} (e : l.lookup x = some d) : ∃ v u, mg x = some u ∧ RelV v u ∧ ∀ as H, Rep Γ as H d v := by
  have := List.all_eq_true.mp ok _ (lookup_in e)
  simp only at this
  split at this
  · rename_i _ _ y t x' q1
    have q3 := of_decide_eq_true this
    subst q3
    exact ⟨.str x', _, PySem.W.mg_of KX hg q1, ⟨_, rfl⟩, fun as H => .ofStr⟩
  · rename_i _ _ y t x' q1
    have q3 := of_decide_eq_true this
    subst q3
    exact ⟨.int x', _, PySem.W.mg_of KX hg q1, ⟨_, rfl⟩, fun as H => .ofInt⟩
  · cases this
end G
set_option Elab.async false
set_option linter.all false
set_option maxRecDepth 100000
set_option maxHeartbeats 4000000
/-! G27: all that is known of a text. -/
namespace G
open PySem PySem.Spec PyProof.Rows L2 SlX
theorem numF_mem {α β : Type} {f : Nat → α → β} {y : β} : ∀ {n : Nat} {l : List α}, y ∈ numF f n l → ∃ i a, l[i]? = some a ∧ y = f (n + i) a
  | n, [], h => by cases h
  | n, a :: r, h => by
    unfold numF at h
    rcases List.mem_cons.mp h with rfl | h
    · exact ⟨0, a, rfl, rfl⟩
    · obtain ⟨i, b, h1, h2⟩ := numF_mem h
      exact ⟨i + 1, b, by simpa using h1, by rw [h2]; congr 1; omega⟩
theorem mem_numF {α β : Type} {f : Nat → α → β} : ∀ {n i : Nat} {l : List α} {a : α}, l[i]? = some a → f (n + i) a ∈ numF f n l
  | n, i, [], a, h => by simp at h
  | n, 0, b :: r, a, h => by
    simp at h
    subst h
    unfold numF
    exact List.mem_cons_self ..
  | n, i + 1, b :: r, a, h => by
    have := mem_numF (f := f) (n := n + 1) (i := i) (a := a) (l := r) (by simpa using h)
    rw [show n + 1 + i = n + (i + 1) by omega] at this
    unfold numF
    exact List.mem_cons_of_mem _ this
def okNames (K : PySem.W.Frag) (l : List (Str × Nat)) (f : Nat → Addr) (keep : Bool) : Bool := l.all fun p => decide (PySem.W.nsIn K mainGlobals p.1 = some (some (.ref (f p.2)))) && (!keep || PySem.W.keepIn K (.ref (f p.2)))
def okBl (K : PySem.W.Frag) : Bool := bltNames.all fun x => decide (PySem.W.nsIn K mainGlobals x = some none)
def okExc (K : PySem.W.Frag) (fI D : Addr) (ca : Nat → Addr) (T : Tab) (l : List Nat) : Bool := l.all fun k => okC K fI D (ca k) && (match T.cl k with | some y => y.kind == .exc | none => false)
def okSlc (T : Tab) (l : List Nat) : Bool := l.all fun k => match T.cl k with | some y => y.kind == .slots | none => false
/-- the defs of the classes are kept -/
def okKeep (K : PySem.W.Frag) (fa : Nat → Addr) (defs : List DefRow) (l : List (Nat × Cls)) : Bool := l.all fun p => (p.2.meths.all fun q => decide (q.2 < defs.length) && PySem.W.keepIn K (.ref (fa q.2))) && (p.2.props.all fun q => decide (q.2 < defs.length) && PySem.W.keepIn K (.ref (fa q.2)))
def okSc (body : List Stmt) (defs : List DefRow) : Bool := defs.all fun d => match stOf body d.wh with
  | some st => C8.scC d.ns d.ps (C8.fnScope st)
  | none => false
/-- a def as it stands in the written part -/
def FnAt (K : PySem.W.Frag) (body : List Stmt) (clss : List ClsRow) (d : DefRow) : Prop := ∃ st, stOf body d.wh = some st ∧ FnIs K (sx d.name) (sx d.qual) st (faOf K clss d) d.dv ∧ BindsOk (sx d.name) (sx d.qual) st d.ps d.dv
theorem fnAt_mk {K : PySem.W.Frag} {body : List Stmt} {clss : List ClsRow} {d : DefRow} {f : Addr} (st : Stmt) (h1 : stOf body d.wh = some st) (h2 : faOf K clss d = f) (h3 : FnIs K (sx d.name) (sx d.qual) st f d.dv) (h4 : BindsOk (sx d.name) (sx d.qual) st d.ps d.dv) : FnAt K body clss d := ⟨st, h1, by rw [h2]; exact h3, h4⟩
theorem binds_dv {K : PySem.W.Frag} {x qual : Str} {st : Stmt} {f : Addr} {fd : FuncData} {ps : List Str} {dv : List Int} (F : C8.Fun K x qual st f fd) (D : DflV K fd.defaults (dv.map V.int)) (B : BindsOk x qual st ps dv) : Binds K fd ps [] ∧ ∃ ds, Vals (dv.map V.int) ds ∧ Binds K fd ps ds := by
  cases dv with
  | nil =>
    rcases D with ⟨_, h⟩ | ⟨h, _⟩
    · exact ⟨F.binds h B, [], .nil, F.binds h B⟩
    · exact absurd rfl h
  | cons i r =>
    obtain ⟨oc, od, dV, kV, doc, pm, an, cdv, ct, osl, e, lk, cd⟩ := F
    subst e
    rcases D with ⟨z, _⟩ | ⟨_, A, o, its, m, hT, lT, oT, rT⟩
    · cases z
    · have hT : dV = .ref A := hT
      subst hT
      have l1 : its.length = (i :: r).length := by
        have := rT.length
        rw [List.length_map] at this
        exact this.symm
      refine ⟨fun s us X hl => ?_, its, rT, fun s us X hl => ?_⟩
      · rw [List.append_nil] at hl ⊢
        obtain ⟨k, e1, e2⟩ := (B A kV doc pm an cdv ct us its l1).1 hl
        refine BindsTo.of_looks fun M => ?_
        rw [e1]
        exact looks_items X lT oT (.of_pure e2)
      · rw [List.length_append, l1] at hl
        obtain ⟨k, e1, e2⟩ := (B A kV doc pm an cdv ct us its l1).2 hl
        refine BindsTo.of_looks fun M => ?_
        rw [e1]
        exact looks_items X lT oT (.of_pure e2)
/-- what stands for parameters that are left out is what the defs say -/
def okDv (c : CC) (defs : List DefRow) (T : Tab) : Bool := c.dv.all fun p => (match c.fns.lookup p.1 with | some f => decide (p.2.2 = (defAt defs f).dv) | none => true) && (match c.cls.lookup p.1 with | some q => (match T.cl q with | some y => (match y.meths.lookup mInit with | some f => decide (p.2.2 = (defAt defs f).dv) | none => true) | none => true) | none => true)
/-- the defs that make lambdas -/
def okLam (K : PySem.W.Frag) (defs : List DefRow) (clss : List ClsRow) : Bool := ((lamRows defs).all fun d => d.wh.isTop && (PySem.W.codeHdIn K (codeOf K (faOf K clss d)) (tabOf K (codeOf K (faOf K clss d))) && ((K.lookup (tabOf K (codeOf K (faOf K clss d)))).isNone && ((match (fdIn K (faOf K clss d)).code with | .ref _ => true | _ => false) &&
    decide (PySem.W.nsIn K mainGlobals (sx d.name) = some (some (.ref (faOf K clss d)))))))) && ((lamTabs K defs clss).all fun p => (lamTabs K defs clss).all fun q => !decide (p.1 = q.1) || decide (p.2 = q.2))
/-- the errors that a clause catches -/
def okExm (K : PySem.W.Frag) (ca : Nat → Addr) (l : List (Nat × Cls)) (c : Nat) : Bool := l.all fun p => !p.2.mro.contains c || (match PySem.W.exmOne K (.ref (ca p.1)) (.ref (ca c)) with | some true => true | _ => false)
/-- the names of a def that hands on -/
def refdSc (x : Str) (sc : Scope) : Bool := decide (sc.names.lookup ("call" : Str) = some .local) && (decide (sc.names.lookup ("caught" : Str) = some .local) && decide (sc.names.lookup x = some .globalImplicit))
def okRf (K : PySem.W.Frag) (clss : List ClsRow) (body : List Stmt) (x : Str) (d : DefRow) : Bool := d.wh.isTop && (decide (sx d.qual = sx d.name) && (decide (d.ps = ([("call" : Str), ("value" : Str)])) && (PySem.W.keepIn K (.ref (faOf K clss d)) && (decide (PySem.W.nsIn K mainGlobals (sx d.name) = some (some (.ref (faOf K clss d)))) &&
  (match stOf body d.wh with
    | some st => (refdRet x (C8.fnBody st)).isSome && (refdSc x (C8.fnScope st) && C8.scC refdNames [("call" : Str), ("value" : Str)] (C8.fnScope st))
    | none => false)))))
/-- told -/
def okTold (K : PySem.W.Frag) (defs : List DefRow) (clss : List ClsRow) (body : List Stmt) (l : List (Nat × Cls)) : Option TdN → Bool
  | none => true
  | some ⟨x, k, rf⟩ => match defs.find? fun d => decide (sx d.name = x) && d.wh.isTop with
    | none => false
    | some d => (noDbg x && rf.all fun i => match defs[i]? with | some d => okRf K clss body x d | none => false) && (decide (sx d.qual = x) && (decide (d.ps = ([("call" : Str)])) && (PySem.W.keepIn K (.ref (faOf K clss d)) && (decide (PySem.W.nsIn K mainGlobals x = some (some (.ref (faOf K clss d)))) && (decide (PySem.W.nsIn K mainGlobals "MirrorError" = some (some (.ref (caOf K clss k)))) && (okExm K (caOf K clss) l k &&
      (match stOf body d.wh with
        | some st => isTold (C8.fnBody st) && (toldSc (C8.fnScope st) && C8.scC toldNames [("call" : Str)] (C8.fnScope st))
        | none => false)))))))
/-- a static method of C -/
def stB (K : PySem.W.Frag) (C : Addr) (m : Str) (fa : Addr) : Bool :=
  (match PySem.W.specialIn K (.ref C) "__getattribute__" with | some (some (.builtin i)) => i == "type.__getattribute__" | _ => false) && (PySem.W.readsIn K C (.type "type") && (PySem.W.handedIn (.ref fa) &&
    (match PySem.W.findCls K (.ref C) (.type "type") m with
      | some (.get (.builtin g) (.ref p) .none (.ref C')) => g == "staticmethod.__get__" && (decide (C' = C) && (match PySem.W.recIn K p "staticmethod" with | some (.ref a :: _) => decide (a = fa) | _ => false))
      | _ => false)))
theorem stB_F {K : PySem.W.Frag} {C : Addr} {m : Str} {fa : Addr} (h : stB K C m fa = true) : StAt K C m fa := by
  unfold stB at h
  simp only [Bool.and_eq_true] at h
  obtain ⟨a, b, c, d⟩ := h
  refine ⟨?_, b, ?_, c⟩
  · split at a
    · rename_i i e
      rw [e, eq_of_beq a]
    · cases a
  · split at d
    · rename_i g p C' e
      simp only [Bool.and_eq_true, decide_eq_true_eq] at d
      obtain ⟨d1, rfl, d2⟩ := d
      refine ⟨p, ?_⟩
      split at d2
      · rename_i a' rest e2
        have := of_decide_eq_true d2
        subst this
        exact ⟨_, by rw [e, eq_of_beq d1], e2⟩
      · cases d2
    · cases d
def okSt (K : PySem.W.Frag) (ca fa : Nat → Addr) (n : Nat) (c : CC) : Bool := c.st.all fun p => (match c.cls.lookup p.1.1 with
  | some q => stB K (ca q) p.1.2 (fa p.2)
  | none => false) && (Nat.blt p.2 n && PySem.W.keepIn K (.ref (fa p.2)))
/-- all that is looked up in the written part -/
structure Facts (K : PySem.W.Frag) (P : Program) (defs : List DefRow) (clss : List ClsRow) (body : List Stmt) (c : CC) (td : Option TdN) (T : Tab) (fI D : Addr) : Prop where
  h1 : okNames K c.fns (gxOf K defs clss).fa true = true
  h2 : okNames K c.cls (gxOf K defs clss).ca false = true
  h3 : okBl K = true
  h4 : okCls K (gxOf K defs clss).ca T.cls = true
  h5 : okExc K fI D (gxOf K defs clss).ca T c.exc = true
  h6 : okOwn K (gxOf K defs clss).ca (gxOf K defs clss).fa T.cls c.met c.att = true
  h7 : okKeep K (gxOf K defs clss).fa defs T.cls = true
  h8 : okCon K c.con = true
  h9 : okSt K (gxOf K defs clss).ca (gxOf K defs clss).fa defs.length c = true
  hF : Nonempty (ExI P K fI D)
  hD : ∀ d ∈ defs, FnAt K body clss d
  hL : okLam K defs clss = true
  hT : okTold K defs clss body T.cls td = true
theorem rfE_eq {c : CC} {body : List Stmt} {x : Str} {d : DefRow} {st : Stmt} {ret : Expr} (h1 : stOf body d.wh = some st) (h2 : refdRet x (C8.fnBody st) = some ret) : rfE c body x d = cE c refdNames 200 (C8.fnScope st) ret := by
  unfold rfE
  rw [h1]
  simp only
  rw [h2]
theorem gs_mkB {b : Bool} {K : PySem.W.Frag} {defs : List DefRow} {clss : List ClsRow} {body : List Stmt} {con : List (Str × D)} {met att : List (Str × Nat)} {P : Program} {w : World} {mg : Str → Option Value} {base : Heap} {wl : Nat} {fI D : Addr} {c : CC} {td : Option TdN} {T : Tab}
    (ec : c = mkCC defs clss con met att) (eT : T = { mkT c td body defs clss with rp := b }) (KX : K.In base) (hg : base.Ns mainGlobals mg) (sm : BaseOk base) (tb : ∀ p ∈ lamCs K defs clss, LamX.TabB base mg p.1 p.2)
    (s1 : okSc body defs = true) (s2 : okSlc T c.slc = true) (s3 : (att.all fun p => !(p.2 == aValue)) = true) (s4 : okDv c defs T = true) (F : Facts K P defs clss body c td T fI D)
    (f0 : T.rp = true → ∀ n f, FnG false P w K mg base (6 * n) ((gxOf K defs clss).fa f) ((gxOf K defs clss).fd f) ((gxOf K defs clss).ps f) (spF ((gxOf K defs clss).r b) T.t0 wl n f)) : GS ((gxOf K defs clss).r b) c (tdOf c body defs td) T wl P w mg base := by
  obtain ⟨h1, h2, h3, h4, h5, h6, h7, h8, h9, hF, hD, hL, hT⟩ := F
  have dAt : ∀ {i : Nat} {d : DefRow}, defs[i]? = some d → defAt defs i = d := fun {i d} e => by
    unfold defAt
    rw [List.getD_eq_getElem?_getD, e]
    rfl
  have cf := okCls_F h4
  obtain ⟨ow, kx, kpc⟩ := okOwn_F (Γ := (gxOf K defs clss).r b) h6
  have fiOf : ∀ (f : Nat), f < defs.length → PySem.W.keepIn K (.ref ((gxOf K defs clss).fa f)) = true → FI ((gxOf K defs clss).r b) f := fun f hf kp => by
    have e : defs[f]? = some defs[f] := List.getElem?_eq_getElem hf
    obtain ⟨st, z1, ⟨z2, z3⟩, z4⟩ := hD _ (List.getElem_mem hf)
    obtain ⟨b1, b2⟩ := binds_dv z2 z3 z4
    refine ⟨kp, ?_, ?_⟩
    · show Binds K (fdIn K (faOf K clss (defAt defs f))) (defAt defs f).ps []
      rw [dAt e]
      exact b1
    · show ∃ ds, Vals ((defAt defs f).dv.map V.int) ds ∧ Binds K (fdIn K (faOf K clss (defAt defs f))) (defAt defs f).ps ds
      rw [dAt e]
      exact b2
  refine ⟨fun x f e => ?_, fun x k e => ?_, fun k hk => ?_, fun x d e => okCon_C (Γ := (gxOf K defs clss).r b) KX hg h8 e, fun x hx => ?_, cf, kx, fun k hk => ?_, ?_, fun c' x m f e hf => ?_, fun c' x m f e hf => ?_, ow, fun f fn e => ?_, fun h => by rw [eT] at h; exact h, f0, by rw [ec]; rfl, by rw [ec]; rfl, fun t0 e => ?_, fun x f k ds e e2 => ?_, fun x q y f k ds e hy hf e2 => ?_, sm, fun x m f e => ?_⟩
  rotate_right 1
  · have := List.all_eq_true.mp h9 _ (lookup_in e)
    simp only [Bool.and_eq_true] at this
    obtain ⟨a, b, d⟩ := this
    split at a
    · rename_i q eq
      have := List.all_eq_true.mp h2 _ (lookup_in eq)
      simp only [Bool.and_eq_true, decide_eq_true_eq] at this
      exact ⟨⟨_, PySem.W.mg_of KX hg this.1, stB_F a⟩, fiOf f (Nat.blt_eq.mp b) d⟩
    · cases a
  rotate_right 2
  · have := List.all_eq_true.mp s4 _ (lookup_in e2)
    simp only [e, Bool.and_eq_true, decide_eq_true_eq] at this
    exact this.1
  · have := List.all_eq_true.mp s4 _ (lookup_in e2)
    rw [Bool.and_eq_true] at this
    have h := this.2
    simp only [e, hy, hf, decide_eq_true_eq] at h
    exact h
  · have m := lookup_in e
    have := List.all_eq_true.mp h1 _ m
    simp only [Bool.and_eq_true, decide_eq_true_eq] at this
    rw [ec] at m
    obtain ⟨⟨t, p⟩, q1, q2⟩ := List.mem_filterMap.mp m
    obtain ⟨i, d, q3, q4⟩ := numF_mem q1
    cases q4
    have q5 : f = 0 + i := by
      split at q2
      · cases q2; rfl
      · cases q2
    subst q5
    have kp := this.2
    rw [Bool.not_true, Bool.false_or] at kp
    exact ⟨PySem.W.mg_of KX hg this.1, fiOf _ (by rw [Nat.zero_add]; exact (List.getElem?_eq_some_iff.mp q3).1) kp⟩
  · have := List.all_eq_true.mp h2 _ (lookup_in e)
    simp only [Bool.and_eq_true, decide_eq_true_eq] at this
    exact PySem.W.mg_of KX hg this.1
  · have hk' : k ∈ c.exc := by simpa using hk
    have := List.all_eq_true.mp h5 _ hk'
    rw [Bool.and_eq_true] at this
    refine ⟨⟨fI, D, hF, okC_C this.1⟩, ?_⟩
    have q := this.2
    split at q
    · rename_i y ey
      exact ⟨y, ey, eq_of_beq q⟩
    · cases q
  · have := List.all_eq_true.mp h3 _ hx
    simp only [decide_eq_true_eq] at this
    exact PySem.W.mg_none_of KX hg this
  · have hk' : k ∈ c.slc := by simpa using hk
    have q := List.all_eq_true.mp s2 _ hk'
    split at q
    · rename_i y ey
      exact ⟨y, ey, eq_of_beq q, kpc k y ey (eq_of_beq q)⟩
    · cases q
  · rw [ec]
    exact spN_mk s3
  · have := List.all_eq_true.mp h7 _ (lookup_in e)
    rw [Bool.and_eq_true] at this
    have := List.all_eq_true.mp this.1 _ (lookup_in hf)
    simp only [Bool.and_eq_true, decide_eq_true_eq] at this
    exact fiOf f this.1 this.2
  · have := List.all_eq_true.mp h7 _ (lookup_in e)
    rw [Bool.and_eq_true] at this
    have := List.all_eq_true.mp this.2 _ (lookup_in hf)
    simp only [Bool.and_eq_true, decide_eq_true_eq] at this
    exact fiOf f this.1 this.2
  · have m := lookup_in (show T.fns.lookup f = some fn from e)
    rw [eT] at m
    obtain ⟨i, d, q1, q2⟩ := numF_mem m
    cases q2
    obtain ⟨st, z1, ⟨z2, z3⟩, z4⟩ := hD d (List.mem_of_getElem? q1)
    have sc := List.all_eq_true.mp s1 _ (List.mem_of_getElem? q1)
    rw [z1] at sc
    refine ⟨sx d.name, sx d.qual, st, d.ns, 200, d.lam, ?_, ?_, ?_, fun hb => ?_⟩
    · show C8.Fun K _ _ _ (faOf K clss (defAt defs (0 + i))) (fdIn K (faOf K clss (defAt defs (0 + i))))
      rw [Nat.zero_add, dAt q1]
      exact z2
    · show FnScope _ (defAt defs (0 + i)).ps _
      rw [Nat.zero_add, dAt q1]
      exact C8.fnScope_by sc
    · show mkFn c (tdOf c body defs td) body d = ⟨_, (defAt defs (0 + i)).ps.length, _⟩
      rw [Nat.zero_add, dAt q1]
      unfold mkFn
      rw [z1]
    · have md : d ∈ lamRows defs := List.mem_filter.mpr ⟨List.mem_of_getElem? q1, hb⟩
      unfold okLam at hL
      rw [Bool.and_eq_true] at hL
      have q := List.all_eq_true.mp hL.1 d md
      simp only [Bool.and_eq_true, decide_eq_true_eq] at q
      obtain ⟨_, q2, q3, q4, q5⟩ := q
      refine ⟨codeOf K (faOf K clss d), tabOf K (codeOf K (faOf K clss d)), ?_, tb _ (List.mem_map.mpr ⟨d, md, rfl⟩), List.mem_map.mpr ⟨d, md, rfl⟩, fun p hp e => ?_⟩
      · show (fdIn K (faOf K clss (defAt defs (0 + i)))).code = _
        rw [Nat.zero_add, dAt q1]
        unfold codeOf
        split at q4
        · rename_i c0 e0
          rw [e0]
        · cases q4
      · have u := List.all_eq_true.mp (List.all_eq_true.mp hL.2 p hp) _ (List.mem_map.mpr ⟨d, md, rfl⟩)
        rw [Bool.or_eq_true, decide_eq_true_eq] at u
        rcases u with u | u
        · rw [e] at u
          simp at u
        · exact u
  · cases td with
    | none => cases e
    | some t =>
    obtain ⟨x, k, rf⟩ := t
    replace e : some (TdI.mk x k (rf.filterMap fun i => match defs[i]? with
      | some d => some (sx d.name, rfE c body x d)
      | none => none)) = some _ := e
    injection e with e
    subst e
    unfold okTold at hT
    simp only at hT
    split at hT
    · cases hT
    · rename_i d hf
      have md := List.mem_of_find?_eq_some hf
      have hx := List.find?_some hf
      simp only [Bool.and_eq_true, decide_eq_true_eq] at hT hx
      obtain ⟨⟨tn, trf⟩, t1, t2, t3, t4, t5, t6, t7⟩ := hT
      obtain ⟨x1, x2⟩ := hx
      obtain ⟨st, z1, ⟨⟨oc, od, dV, kV, doc, pm, an, cdv, ct, osl, e1, e2, e3⟩, z3⟩, z4⟩ := hD d md
      rw [z1] at t7
      simp only [Bool.and_eq_true] at t7
      obtain ⟨u1, u2, u3⟩ := t7
      have bd := (C8.Fun.mk (K := K) (x := sx d.name) (qual := sx d.qual) (st := st) (f := faOf K clss d) (fd := fdIn K (faOf K clss d)) ⟨oc, od, dV, kV, doc, pm, an, cdv, ct, osl, e1, e2, e3⟩)
      refine ⟨faOf K clss d, PySem.W.mg_of KX hg t4, ⟨{ pg := C8.fnArgs st, bg := C8.fnBody st, sg := C8.fnScope st, dV := dV, kV := kV, doc := doc, pm := pm, cdv := cdv, ct := ct, oc := oc, an := an, od := od, osl := osl, kp := t3, lk := ?_, cd := ?_, bd := ?_, sc := C8.fnScope_by u3, body := u1, names := u2, ex := fun e he => ?_ }⟩, PySem.W.mg_of KX hg t5, tn, fun y r hyr => ?_⟩
      · rw [e1, x1, t1] at e2
        exact e2
      · rw [t1] at e3
        exact e3
      · have b := (binds_dv bd z3 z4).1
        rw [e1, x1, t1, t2] at b
        exact b
      · have hm : ∃ y, T.cl e = some y ∧ y.mro.contains k = true := by
          unfold isE at he
          cases hc : T.cl e with
          | none => rw [hc] at he; cases he
          | some y => rw [hc] at he; exact ⟨y, rfl, by simpa using he⟩
        obtain ⟨y, hy, hm⟩ := hm
        have q := List.all_eq_true.mp t6 _ (lookup_in (show T.cls.lookup e = some y from hy))
        simp only [hm, Bool.not_true, Bool.false_or] at q
        split at q
        · assumption
        · cases q
      · obtain ⟨i, hi, hi2⟩ := List.mem_filterMap.mp (lookup_in hyr)
        have q := List.all_eq_true.mp trf i hi
        cases hdi : defs[i]? with
        | none => rw [hdi] at hi2; cases hi2
        | some d2 =>
          rw [hdi] at hi2 q
          simp only at hi2 q
          injection hi2 with hi2
          injection hi2 with hy hr
          subst hy hr
          unfold okRf at q
          simp only [Bool.and_eq_true, decide_eq_true_eq] at q
          obtain ⟨v0, v1, v2, v3, v4, v5⟩ := q
          obtain ⟨st2, y1, ⟨⟨oc2, od2, dV2, kV2, doc2, pm2, an2, cdv2, ct2, osl2, f1, f2, f3⟩, y3⟩, y4⟩ := hD d2 (List.mem_of_getElem? hdi)
          rw [y1] at v5
          simp only [Bool.and_eq_true] at v5
          obtain ⟨w1, w2, w3⟩ := v5
          obtain ⟨ret, hret⟩ := Option.isSome_iff_exists.mp w1
          have bd2 := (C8.Fun.mk (K := K) (x := sx d2.name) (qual := sx d2.qual) (st := st2) (f := faOf K clss d2) (fd := fdIn K (faOf K clss d2)) ⟨oc2, od2, dV2, kV2, doc2, pm2, an2, cdv2, ct2, osl2, f1, f2, f3⟩)
          unfold refdSc at w2
          simp only [Bool.and_eq_true, decide_eq_true_eq] at w2
          obtain ⟨s1', s2', s3'⟩ := w2
          refine ⟨faOf K clss d2, ret, { pg := C8.fnArgs st2, bg := C8.fnBody st2, sg := C8.fnScope st2, dV := dV2, kV := kV2, doc := doc2, pm := pm2, cdv := cdv2, ct := ct2, oc := oc2, an := an2, od := od2, osl := osl2, kp := v3, lk := ?_, cd := ?_, bd := ?_, sc := C8.fnScope_by w3, body := ?_, n1 := s1', n3 := s2', nx := s3' }, PySem.W.mg_of KX hg v4, ?_⟩
          · rw [f1, v1] at f2
            exact f2
          · rw [v1] at f3
            exact f3
          · have b := (binds_dv bd2 y3 y4).1
            rw [f1, v1, v2] at b
            exact b
          · unfold refdRet at hret
            split at hret
            · rename_i hbody
              split at hret
              · rename_i hc
                simp only [Bool.and_eq_true, beq_iff_eq, decide_eq_true_eq] at hc
                obtain ⟨rfl, rfl, rfl, rfl⟩ := hc
                injection hret with hret
                subst hret
                exact ⟨_, _, _, _, _, _, _, _, _, hbody⟩
              · cases hret
            · cases hret
          · exact rfE_eq y1 hret
/-- no repr, below that of a tuple -/
theorem Facts.t0 {K : PySem.W.Frag} {P : Program} {defs : List DefRow} {clss : List ClsRow} {body : List Stmt} {c : CC} {td : Option TdN} {T : Tab} {fI D : Addr} (F : Facts K P defs clss body c td T fI D) : Facts K P defs clss body c td T.t0 fI D :=
  ⟨F.h1, F.h2, F.h3, F.h4, F.h5, F.h6, F.h7, F.h8, F.h9, F.hF, F.hD, F.hL, F.hT⟩
section
variable {Γ : Gx} {b : Bool}
mutual
theorem rep_r (as : List Loc) (H : Hp) : ∀ (d : D) (v : V), Rep (Γ.r b) as H d v = Rep Γ as H d v
  | .non, v => by unfold Rep; rfl
  | .bl _, v => by unfold Rep; rfl
  | .int _, v => by unfold Rep; rfl
  | .str _, v => by unfold Rep; rfl
  | .tup ds, v => by
    unfold Rep
    simp only [reps_r as H ds]
    rfl
  | .obj _, v => by unfold Rep; rfl
  | .ins c ds, v => by
    unfold Rep
    simp only [reps_r as H ds]
    rfl
  | .exc c d, v => by
    unfold Rep
    simp only [rep_r as H d]
    rfl
  | .fn _, v => by unfold Rep; rfl
  | .cls _, v => by unfold Rep; rfl
  | .ty _, v => by unfold Rep; rfl
  | .scr _, v => by unfold Rep; rfl
theorem reps_r (as : List Loc) (H : Hp) : ∀ (ds : List D) (vs : List V), Reps (Γ.r b) as H ds vs = Reps Γ as H ds vs
  | [], vs => by unfold Reps; rfl
  | d :: ds, vs => by
    unfold Reps
    simp only [rep_r as H d, reps_r as H ds]
end
theorem orep_r {as : List Loc} {H : Hp} {p : Loc} (o : O) : ORep (Γ.r b) as H p o = ORep Γ as H p o := by
  cases o <;> unfold ORep <;> simp only [rep_r, reps_r] <;> rfl
theorem tab_r {as : List Loc} {H : Hp} : TabG (Γ.r b) as H ↔ TabG Γ as H := ⟨fun m => ⟨m.all, m.tabs⟩, fun m => ⟨m.all, m.tabs⟩⟩
theorem mt_r {as : List Loc} {H : Hp} {st : Store} : Mt (Γ.r b) as st H ↔ Mt Γ as st H :=
  ⟨fun m => ⟨m.len, m.apart, fun i o p h1 h2 => by rw [← orep_r (b := b)]; exact m.obj i o p h1 h2, tab_r.mp m.tab⟩, fun m => ⟨m.len, m.apart, fun i o p h1 h2 => by rw [orep_r]; exact m.obj i o p h1 h2, tab_r.mpr m.tab⟩⟩
theorem spF_r {T : Tab} {wl n f : Nat} {vs : List V} {H : Hp} {Q : VK} {E : XK} (h : spF Γ T wl n f vs H Q E) : spF (Γ.r b) T wl n f vs H Q E := by
  obtain ⟨as, st, ds, m, r, p⟩ := h
  refine ⟨as, st, ds, mt_r.mpr m, by rw [reps_r]; exact r, ?_⟩
  cases e : callF T wl n f ds st with
  | ok d st' =>
    rw [e] at p
    exact fun as' v H' k m r => p as' v H' k (mt_r.mp m) (by rw [← rep_r (b := b)]; exact r)
  | exc c x st' =>
    rw [e] at p
    exact fun as' H' dx w k m e n r => p as' H' dx w k (mt_r.mp m) e n (by rw [← rep_r (b := b)]; exact r)
  | stuck =>
    rw [e] at p
    exact p
end
theorem FnG.imp {b : Bool} {P : Program} {w : World} {K : PySem.W.Frag} {mg : Str → Option Value} {base : Heap} {k : Nat} {f : Addr} {fd : FuncData} {ps : List Str} {sp sp' : Sp} (F : FnG b P w K mg base k f fd ps sp) (h : ∀ vs H Q E, sp' vs H Q E → sp vs H Q E) : FnG b P w K mg base k f fd ps sp' :=
  ⟨fun vs H Q E q => F.len vs H Q E (h _ _ _ _ q), fun A outer s H args us vs Q E hr hg he hb hv hs => F.run A outer s H args us vs Q E hr hg he hb hv (h _ _ _ _ hs)⟩
theorem gs_mk {K : PySem.W.Frag} {defs : List DefRow} {clss : List ClsRow} {body : List Stmt} {con : List (Str × D)} {met att : List (Str × Nat)} {P : Program} {w : World} {mg : Str → Option Value} {base : Heap} {wl : Nat} {fI D : Addr} {c : CC} {td : Option TdN} {T : Tab}
    (ec : c = mkCC defs clss con met att) (eT : T = mkT c td body defs clss) (KX : K.In base) (hg : base.Ns mainGlobals mg) (sm : BaseOk base) (tb : ∀ p ∈ lamCs K defs clss, LamX.TabB base mg p.1 p.2)
    (s1 : okSc body defs = true) (s2 : okSlc T c.slc = true) (s3 : (att.all fun p => !(p.2 == aValue)) = true) (s4 : okDv c defs T = true) (F : Facts K P defs clss body c td T fI D) : GS (gxOf K defs clss) c (tdOf c body defs td) T wl P w mg base := by
  have S0 : GS ((gxOf K defs clss).r false) c (tdOf c body defs td) T.t0 wl P w mg base := gs_mkB ec (b := false) (T := T.t0) (by rw [eT]; rfl) KX hg sm tb s1 s2 s3 s4 F.t0 fun h => by cases h
  exact gs_mkB (b := true) ec (by rw [eT]; rfl) KX hg sm tb s1 s2 s3 s4 F fun _ n f => (S0.all n f).imp fun vs H Q E h => spF_r h
end G
namespace G
open PySem PySem.Spec PyProof.Rows L2 SlX
section
variable {K : PySem.W.Frag} {body : List Stmt} {clss : List ClsRow} {d : DefRow} {f C p : Addr} {oc : Value} {od an : Option Addr} {dV kV doc pm cdv ct : Value} {osl : Array (Option Value)} {i j c : Nat} {r : List Value}
theorem fnAt_top (st : Stmt) (x q : Str) (hx : sx d.name = x) (hq : sx d.qual = q) (h1 : stOf body d.wh = some st) (hw : d.wh = .top i) (b : BindsOk (sx d.name) (sx d.qual) st d.ps d.dv) (a : PySem.W.nsIn K mainGlobals x = some (some (.ref f)))
    (l : K.lookup f = some ⟨oc, od, .func (PySem.W.fnOf x q (C8.fnArgs st) (C8.fnBody st) (C8.fnScope st) dV kV doc pm an cdv ct), osl⟩) (cd : PySem.W.codeIn K cdv q = true) (e : DflV K dV (d.dv.map V.int)) : FnAt K body clss d := by
  subst hx hq
  exact fnAt_mk st h1 (fa_top hw a) (fn_is l cd e) b
theorem fnAt_meth (st : Stmt) (x q y : Str) (hx : sx d.name = x) (hq : sx d.qual = q) (hy : sx (clsAt clss c).name = y) (h1 : stOf body d.wh = some st) (hw : d.wh = .meth i j c) (b : BindsOk (sx d.name) (sx d.qual) st d.ps d.dv) (a : PySem.W.nsIn K mainGlobals y = some (some (.ref C))) (a2 : PySem.W.findIn K (.ref C) x = some (some (.ref f)))
    (l : K.lookup f = some ⟨oc, od, .func (PySem.W.fnOf x q (C8.fnArgs st) (C8.fnBody st) (C8.fnScope st) dV kV doc pm an cdv ct), osl⟩) (cd : PySem.W.codeIn K cdv q = true) (e : DflV K dV (d.dv.map V.int)) : FnAt K body clss d := by
  subst hx hq hy
  exact fnAt_mk st h1 (fa_meth hw a a2) (fn_is l cd e) b
theorem fnAt_prop (st : Stmt) (x q y : Str) (hx : sx d.name = x) (hq : sx d.qual = q) (hy : sx (clsAt clss c).name = y) (h1 : stOf body d.wh = some st) (hw : d.wh = .prop i j c) (b : BindsOk (sx d.name) (sx d.qual) st d.ps d.dv) (a : PySem.W.nsIn K mainGlobals y = some (some (.ref C))) (a2 : PySem.W.findIn K (.ref C) x = some (some (.ref p))) (a3 : PySem.W.recIn K p "property" = some (.ref f :: r))
    (l : K.lookup f = some ⟨oc, od, .func (PySem.W.fnOf x q (C8.fnArgs st) (C8.fnBody st) (C8.fnScope st) dV kV doc pm an cdv ct), osl⟩) (cd : PySem.W.codeIn K cdv q = true) (e : DflV K dV (d.dv.map V.int)) : FnAt K body clss d := by
  subst hx hq hy
  exact fnAt_mk st h1 (fa_prop hw a a2 a3) (fn_is l cd e) b
theorem fnAt_stat (st : Stmt) (x q y : Str) (hx : sx d.name = x) (hq : sx d.qual = q) (hy : sx (clsAt clss c).name = y) (h1 : stOf body d.wh = some st) (hw : d.wh = .stat i j c) (b : BindsOk (sx d.name) (sx d.qual) st d.ps d.dv) (a : PySem.W.nsIn K mainGlobals y = some (some (.ref C))) (a2 : PySem.W.findIn K (.ref C) x = some (some (.ref p))) (a3 : PySem.W.recIn K p "staticmethod" = some (.ref f :: r))
    (l : K.lookup f = some ⟨oc, od, .func (PySem.W.fnOf x q (C8.fnArgs st) (C8.fnBody st) (C8.fnScope st) dV kV doc pm an cdv ct), osl⟩) (cd : PySem.W.codeIn K cdv q = true) (e : DflV K dV (d.dv.map V.int)) : FnAt K body clss d := by
  subst hx hq hy
  exact fnAt_mk st h1 (fa_stat hw a a2 a3) (fn_is l cd e) b
end
end G
set_option Elab.async false
set_option linter.all false
set_option maxRecDepth 100000
set_option maxHeartbeats 4000000
/-! G28: the end for a text with errors and classes with slots. -/
namespace G
open PySem PySem.Spec PyProof.Rows L2 SlX
theorem exI_mk {prog : Program} {K : PySem.W.Frag} {fI D cda cc : Addr} {oc dV kV doc pm ct ccl cl : Value} {od an cdd cld : Option Addr} {osl ccs csl : Array (Option Value)} {qual file : Str} {params : Arguments} {body : List Stmt} {scope : Scope} {vs : Array Value} {tf : Tok}
    (lk : K.lookup fI = some ⟨oc, od, .func (PySem.W.ksFn "__init__" qual params body scope dV kV doc pm an (.ref cda) ct cc), osl⟩) (lkc : K.lookup cda = some ⟨ccl, cdd, .fields vs, ccs⟩) (cell : K.lookup cc = some ⟨cl, cld, .cell (some (.ref D)), csl⟩)
    (code : PySem.W.codeIn K (.ref cda) qual = true) (isB : isExBody body = true)
    (bind : ∀ u v : Value, bindArgs (PySem.W.ksFn "__init__" qual params body scope dV kV doc pm an (.ref cda) ct cc) ⟨[u, v], []⟩ = pure [((PySem.Str.ofString "self" : Str), u), ((PySem.Str.ofString "value" : Str), v)])
    (arg : ((params.posonlyargs ++ params.args).head?.map (·.arg)) = some (PySem.Str.ofString "self")) (hvs : vs[2]? = some (.str file tf)) (hfile : ((prog.main.file : Str) == file) = true) (htop : (prog.main.scope.names.lookup ("super" : Str)).isSome = false)
    (clsD : (PySem.W.clsIn K D).isSome = true) (sup : PySem.W.nsIn K mainGlobals "super" = some none) (thr : PySem.W.nsIn K cStatics "thirdparty.any" = some none)
    (s1 : scope.names.lookup ("super" : Str) = some .globalImplicit) (s2 : scope.names.lookup ("__class__" : Str) = some .free) (s3 : scope.names.lookup ("self" : Str) = some .local) (s4 : scope.names.lookup ("value" : Str) = some .local) (s5 : scope.kind = .function) (s6 : (scope.names.all fun x => decide (x.2 ≠ .cell)) = true) (s7 : scope.isCoroutine = false) (s8 : scope.isGenerator = false) : Nonempty (ExI prog K fI D) :=
  ⟨⟨oc, od, osl, qual, params, body, scope, dV, kV, doc, pm, an, cda, ct, cc, ccl, cdd, vs, ccs, file, tf, cl, cld, csl, lk, isB, code, bind, arg, lkc, hvs, hfile, htop, cell, clsD, sup, thr, s1, s2, s3, s4, s5, fun x hx => of_decide_eq_true (List.all_eq_true.mp s6 x hx), s7, s8⟩⟩
theorem facts_mk {prog : Program} {K : PySem.W.Frag} {defs : List DefRow} {clss : List ClsRow} {tbody : List Stmt} {c : CC} {td : Option TdN} {T : Tab} {x0 : Str} {fI D cda cc : Addr} {oc dV kV doc pm ct ccl cl : Value} {od an cdd cld : Option Addr} {osl ccs csl : Array (Option Value)} {qual file : Str} {params : Arguments} {body : List Stmt} {scope : Scope} {vs : Array Value} {tf : Tok}
    (aD : PySem.W.nsIn K mainGlobals x0 = some (some (.ref D))) (aI : PySem.W.findIn K (.ref D) "__init__" = some (some (.ref fI)))
    (lk : K.lookup fI = some ⟨oc, od, .func (PySem.W.ksFn "__init__" qual params body scope dV kV doc pm an (.ref cda) ct cc), osl⟩) (lkc : K.lookup cda = some ⟨ccl, cdd, .fields vs, ccs⟩) (cell : K.lookup cc = some ⟨cl, cld, .cell (some (.ref D)), csl⟩)
    (code : PySem.W.codeIn K (.ref cda) qual = true) (isB : isExBody body = true)
    (bind : ∀ u v : Value, bindArgs (PySem.W.ksFn "__init__" qual params body scope dV kV doc pm an (.ref cda) ct cc) ⟨[u, v], []⟩ = pure [((PySem.Str.ofString "self" : Str), u), ((PySem.Str.ofString "value" : Str), v)])
    (arg : ((params.posonlyargs ++ params.args).head?.map (·.arg)) = some (PySem.Str.ofString "self")) (hvs : vs[2]? = some (.str file tf)) (hfile : ((prog.main.file : Str) == file) = true) (htop : (prog.main.scope.names.lookup ("super" : Str)).isSome = false)
    (clsD : (PySem.W.clsIn K D).isSome = true) (sup : PySem.W.nsIn K mainGlobals "super" = some none) (thr : PySem.W.nsIn K cStatics "thirdparty.any" = some none)
    (s1 : scope.names.lookup ("super" : Str) = some .globalImplicit) (s2 : scope.names.lookup ("__class__" : Str) = some .free) (s3 : scope.names.lookup ("self" : Str) = some .local) (s4 : scope.names.lookup ("value" : Str) = some .local) (s5 : scope.kind = .function) (s6 : (scope.names.all fun x => decide (x.2 ≠ .cell)) = true) (s7 : scope.isCoroutine = false) (s8 : scope.isGenerator = false)
    (h1 : okNames K c.fns (gxOf K defs clss).fa true = true) (h2 : okNames K c.cls (gxOf K defs clss).ca false = true) (h3 : okBl K = true) (h4 : okCls K (gxOf K defs clss).ca T.cls = true) (h5 : okExc K fI D (gxOf K defs clss).ca T c.exc = true) (h6 : okOwn K (gxOf K defs clss).ca (gxOf K defs clss).fa T.cls c.met c.att = true) (h7 : okKeep K (gxOf K defs clss).fa defs T.cls = true) (h8 : okCon K c.con = true) (h9 : okSt K (gxOf K defs clss).ca (gxOf K defs clss).fa defs.length c = true)
    (hL : okLam K defs clss = true) (hT : okTold K defs clss tbody T.cls td = true)
    (hD : ∀ d ∈ defs, FnAt K tbody clss d) : ∃ fI D, Facts K prog defs clss tbody c td T fI D :=
  ⟨fI, D, h1, h2, h3, h4, h5, h6, h7, h8, h9, exI_mk lk lkc cell code isB bind arg hvs hfile htop clsD sup thr s1 s2 s3 s4 s5 s6 s7 s8, hD, hL, hT⟩
theorem walk_E {l : PySem.W.OpenLaw} {n lv wl fl fi : Nat} {q : Program} {loose : List Str} {XP : (Str → Option Value) → Heap → Prop} {YP : World → Heap → Prop} {d : DefRec} {K : Params → PySem.W.Frag} {T : Tab} {c : CC} {td : Option TdN} {x : Str} {defs : List DefRow} {clss : List ClsRow} {body : List Stmt} {con : List (Str × D)} {met att : List (Str × Nat)} {dl : DefRow}
    (ec : c = mkCC defs clss con met att) (eT : T = mkT c td body defs clss) (q1 : okSc body defs = true) (q2 : okSlc T c.slc = true) (q3 : (att.all fun p => !(p.2 == aValue)) = true) (el : defs[fl]? = some dl) (et : dl.wh = .top fi) (en : sx dl.name = d.name) (ep : dl.ps = [x]) (ed : dl.dv = []) (q4 : okDv c defs T = true)
    (hn : l.most = some n) (hn2 : n ≤ sizeLine) (hdf : d.params.defaults = []) (hr : Room (6 * lv) callerA) (him : importsNone q = true) (hrec : (((lamRows defs).map fun d => sx d.name).all fun x => (recsOf q).any fun e => e.name == x) = true)
    (hY : ∀ (w : World) (h : Heap), YP w h → (K w.params).In h)
    (F : ∀ (w : World) (h : Heap), (K w.params).In h → ∃ fI D, Facts (K w.params) l.prog defs clss body c td T fI D)
    (good : ∀ ns : List Int, ns.length ≤ n → (∀ z ∈ ns, Builtin.Int.intBits z ≤ 1048576) → Good T wl lv fl ns) :
    PySem.W.WalkO q loose XP YP l.row.toRowW d [] (fun f vs => PySem.call f vs) := by
  refine walk_G (K := K) (Γ := fun w => gxOf (K w.params) defs clss) (c := c) (td := tdOf c body defs td) (x := x) hn hn2 hdf hr him hrec hY (fun w => rfl) (fun w mg fa h KX G hmg tabO => ?_) good
  obtain ⟨fI, D, f⟩ := F w h KX
  have dA : defAt defs fl = dl := by
    unfold defAt
    rw [List.getD_eq_getElem?_getD, el]
    rfl
  obtain ⟨st, s1, ⟨⟨oc, od, dV, kV, doc, pm, an, cdv, ct, osl, e1, e2, e3⟩, s3⟩, s4⟩ := f.hD dl (List.mem_of_getElem? el)
  have fT : ∀ K : PySem.W.Frag, faOf K clss dl = addrIn K (sx dl.name) := fun K => by
    unfold faOf
    rw [et]
  have hfa : PySem.W.nsIn (K w.params) mainGlobals (sx dl.name) = some (some (.ref (addrIn (K w.params) (sx dl.name)))) := by
    have m : (sx dl.name, fl) ∈ c.fns := by
      rw [ec]
      refine List.mem_filterMap.mpr ⟨(dl.wh.isTop, (sx dl.name, fl)), ?_, by rw [et]; rfl⟩
      have := mem_numF (f := fun i (d : DefRow) => (d.wh.isTop, (sx d.name, i))) (n := 0) el
      rw [Nat.zero_add] at this
      exact this
    have := List.all_eq_true.mp f.h1 _ m
    simp only [Bool.and_eq_true, decide_eq_true_eq] at this
    have h := this.1
    rw [show (gxOf (K w.params) defs clss).fa fl = addrIn (K w.params) (sx dl.name) by show faOf _ clss (defAt defs fl) = _; rw [dA, fT]] at h
    exact h
  have e := PySem.W.mg_of KX G hfa
  rw [en, hmg] at e
  have ea : fa = addrIn (K w.params) (sx dl.name) := by
    rw [en]
    cases e
    rfl
  have hL := f.hL
  unfold okLam at hL
  rw [Bool.and_eq_true] at hL
  have lam : ∀ p ∈ lamCs (K w.params) defs clss, ∃ d ∈ lamRows defs, p = (codeOf (K w.params) (faOf (K w.params) clss d), tabOf (K w.params) (codeOf (K w.params) (faOf (K w.params) clss d))) ∧ PySem.W.codeHdIn (K w.params) p.1 p.2 = true ∧ ((K w.params).lookup p.2).isNone = true ∧ (∃ c0, (fdIn (K w.params) (faOf (K w.params) clss d)).code = .ref c0) ∧ PySem.W.nsIn (K w.params) mainGlobals (sx d.name) = some (some (.ref (faOf (K w.params) clss d))) := fun p hp => by
    obtain ⟨d, md, rfl⟩ := List.mem_map.mp hp
    have q := List.all_eq_true.mp hL.1 d md
    simp only [Bool.and_eq_true, decide_eq_true_eq] at q
    obtain ⟨_, q2, q3, q4, q5⟩ := q
    refine ⟨d, md, rfl, q2, q3, ?_, q5⟩
    split at q4
    · exact ⟨_, by assumption⟩
    · cases q4
  refine ⟨?_, ?_, fun s u => .of_eq ?_, lamCs (K w.params) defs clss, fun p hp => ?_, fun p hp => ?_, fun p hp => ?_, fun p hp => ?_, fun b hb => ?_, fun base b1 b2 b3 b4 => gs_mk ec eT b1 b2 b3 b4 q1 q2 q3 q4 f⟩
  rotate_left 3
  · obtain ⟨d, md, ep, h1, h2, ⟨c0, h3⟩, h4⟩ := lam p hp
    obtain ⟨a', o', fd', c', P', oc, vc, g1, g2, g3, g4, g5, g6, g7, g8⟩ := tabO (sx d.name) (List.mem_map.mpr ⟨d, md, rfl⟩)
    have m1 := PySem.W.mg_of KX G h4
    rw [m1] at g1
    cases g1
    have fdE : fdIn (K w.params) (faOf (K w.params) clss d) = fd' := by
      obtain ⟨st', _, ⟨⟨oc2, od2, dV2, kV2, doc2, pm2, an2, cdv2, ct2, osl2, k1, k2, k3⟩, _⟩, _⟩ := f.hD d (List.mem_filter.mp md).1
      have := KX _ _ k2
      rw [this] at g2
      cases g2
      cases g3
      rfl
    have cE : c' = p.1 := by
      rw [ep]
      unfold codeOf
      rw [fdE, g4]
    subst cE
    unfold PySem.W.codeHdIn at h1
    split at h1
    · rename_i vs0 sl0 e0
      have := KX _ _ e0
      rw [this] at g5
      cases g5
      cases g6
      simp only [Bool.and_eq_true] at h1
      have h11 := h1.1.1.1.1.1
      rw [g7] at h11
      have : P' = p.2 := eq_of_beq h11
      rw [← this]
      exact g8
    · cases h1
  · obtain ⟨d, md, ep, h1, h2, h3, h4⟩ := lam p hp
    exact Option.isNone_iff_eq_none.mp h2
  · obtain ⟨d, md, ep, h1, h2, h3, h4⟩ := lam p hp
    exact PySem.W.codeHd_of_K KX h1
  · obtain ⟨d, md, rfl⟩ := List.mem_map.mp hp
    exact List.mem_map.mpr ⟨_, List.mem_map.mpr ⟨d, md, rfl⟩, rfl⟩
  · obtain ⟨p, hp, rfl⟩ := List.mem_map.mp hb
    obtain ⟨d, md, rfl⟩ := List.mem_map.mp hp
    exact ⟨_, List.mem_map.mpr ⟨d, md, rfl⟩⟩
  · show fa = faOf _ clss (defAt defs fl)
    rw [dA, fT]
    exact ea
  · show (defAt defs fl).ps = _
    rw [dA]
    exact ep
  · show bindArgs (fdIn (K w.params) (faOf _ clss (defAt defs fl))) _ = _
    rw [dA, e1]
    rw [e1] at s3
    rw [ed] at s3 s4
    have s3 : dV = .none := by
      rcases s3 with ⟨_, h⟩ | ⟨h, _⟩
      · exact h
      · exact absurd rfl h
    subst s3
    have s4 : BindsOk0 _ _ _ _ := s4
    have := s4 kV doc pm an cdv ct [u] (by rw [ep]; rfl)
    rw [ep] at this
    exact this
end G
set_option Elab.async false
set_option linter.all false
set_option maxRecDepth 100000
set_option maxHeartbeats 4000000
/-! G29: a kit for the plain laws: runs of the IR. -/
namespace G
open PySem
section
variable {ct : Ct} {T : Tab} {wl n f : Nat} {fn : Fn} {args : List D} {s s1 : Store} {d : D} {α β : Type}
theorem bind_ok {m : M α} {f : α → M β} {s' : Store} {a : α} (h : m s = .ok a s') : (m >>= f) s = f a s' := by rw [bind_run, h]
theorem call_eq (e : T.fn f = some fn) : callF T wl (n + 1) f args s = runFn ⟨T, callF T wl n, wl, callF T.t0 wl n⟩ fn args s := by
  show (match T.fn f with | some fn => runFn ⟨T, callF T wl n, wl, callF T.t0 wl n⟩ fn args | none => stuck) s = _
  rw [e]
theorem run_rt (h1 : args.length = fn.pars) (h2 : fn.pars ≤ fn.names) (h : exs ct fn.body (args.map some ++ List.replicate (fn.names - fn.pars) none) s = .ok (.rt d) s1) : runFn ct fn args s = .ok d (trunc s d s1) := by
  unfold runFn
  rw [if_pos ⟨h1, h2⟩, h]
theorem newL_run {xs : List D} (h : Nat.ble xs.length line = true) : newL xs s = .ok (.obj s.length) (s ++ [.lst xs]) := by
  unfold newL
  rw [bind_run, h]
  rfl
theorem trunc_drop {l : Store} (h : D.lt s.length d = true) : trunc s d (s ++ l) = s := by
  unfold trunc
  rw [if_pos ⟨by simp, h⟩]
theorem trunc_keep {l : Store} (h : D.lt s.length d = false) : trunc s d (s ++ l) = s ++ l := by
  unfold trunc
  rw [if_neg fun z => by rw [h] at z; cases z.2]
/-- behind a change at k: something of what is new may stay -/
theorem trunc_set {k : Nat} {o : O} {g : Store} : ∃ g', trunc s d (s.set k o ++ g) = s.set k o ++ g' ∧ (g' = g ∨ g' = [] ∧ D.lt s.length d = true) := by
  unfold trunc
  split
  · rename_i h
    have e : s.set k o = s := by
      have := h.1
      rw [List.take_append_of_le_length (by simp)] at this
      rw [List.take_of_length_le (by simp)] at this
      exact this
    exact ⟨[], by rw [e, List.append_nil], .inr ⟨rfl, h.2⟩⟩
  · exact ⟨g, rfl, .inl rfl⟩
theorem ev_lrange {e : E} {ρ : Env} {z : Int} (h : ev ct e ρ s = .ok (.int z) s1) (b : (decide (-(2 ^ 62) ≤ z) && decide (z < 2 ^ 62)) = true) : ev ct (.lrange e) ρ s = newL (intsD 0 z.toNat) s1 := by
  show (ev ct e ρ >>= _) s = _
  rw [bind_ok h]
  show (need (decide (-(2 ^ 62) ≤ z) && decide (z < 2 ^ 62)) >>= _) s1 = _
  rw [b]
  rfl
/-- a statement's expression -/
theorem eb_ok {m : M α} {σ : Env} {k : α → M Fl} {a : α} (h : m s = .ok a s1) : eb m σ k s = k a s1 := by
  unfold eb
  rw [h]
/-- a row of statements, the first done -/
theorem exs_nx {x : S} {r : List S} {σ σ1 : Env} (h : ex ct x σ s = .ok (.nx σ1) s1) : exs ct (x :: r) σ s = exs ct r σ1 s1 := by
  show (ex ct x σ >>= _) s = _
  rw [bind_ok h]
theorem exs_rt {x : S} {r : List S} {σ : Env} {d : D} (h : ex ct x σ s = .ok (.rt d) s1) : exs ct (x :: r) σ s = .ok (.rt d) s1 := by
  show (ex ct x σ >>= _) s = _
  rw [bind_ok h]
  rfl
theorem ex_asg {t : Tg} {e : E} {σ σ1 : Env} {d : D} (h : ev ct e σ s = .ok d s1) (ha : assign t d σ = some σ1) : ex ct (.asg t e) σ s = .ok (.nx σ1) s1 := by
  show eb (ev ct e σ) σ _ s = _
  rw [eb_ok h]
  show (ofO (assign t d σ) >>= _) s1 = _
  rw [ha]
  rfl
theorem ex_ret {e : E} {σ : Env} {d : D} (h : ev ct e σ s = .ok d s1) : ex ct (.ret e) σ s = .ok (.rt d) s1 := by
  show eb (ev ct e σ) σ _ s = _
  rw [eb_ok h]
  rfl
theorem ex_expr {e : E} {σ : Env} {d : D} (h : ev ct e σ s = .ok d s1) : ex ct (.expr e) σ s = .ok (.nx σ) s1 := by
  show eb (ev ct e σ) σ _ s = _
  rw [eb_ok h]
  rfl
theorem ex_if {e : E} {a b : List S} {σ : Env} {t : Bool} (h : evT ct e σ s = .ok t s1) : ex ct (.ifS e a b) σ s = exs ct (if t then a else b) σ s1 := by
  show eb (evT ct e σ) σ _ s = _
  rw [eb_ok h]
  cases t <;> rfl
theorem ev_p1 {p : Pr} {a : E} {ρ : Env} {x d : D} {s2 : Store} (h : ev ct a ρ s = .ok x s1) (q : prim ct p [x] s1 = .ok d s2) : ev ct (.prim p [a]) ρ s = .ok d s2 := by
  rw [ev_prim1, bind_ok h]
  exact q
theorem ev_p2 {p : Pr} {a b : E} {ρ : Env} {x y d : D} {s2 s3 : Store} (h : ev ct a ρ s = .ok x s1) (h2 : ev ct b ρ s1 = .ok y s2) (q : prim ct p [x, y] s2 = .ok d s3) : ev ct (.prim p [a, b]) ρ s = .ok d s3 := by
  rw [ev_prim2, bind_ok h, bind_ok h2]
  exact q
/-- .. where the arguments change nothing -/
theorem ev_q1 {p : Pr} {a : E} {ρ : Env} {x d : D} {s2 : Store} (h : ev ct a ρ s = .ok x s) (q : prim ct p [x] s = .ok d s2) : ev ct (.prim p [a]) ρ s = .ok d s2 := ev_p1 h q
theorem ev_q2 {p : Pr} {a b : E} {ρ : Env} {x y d : D} {s2 : Store} (h : ev ct a ρ s = .ok x s) (h2 : ev ct b ρ s = .ok y s) (q : prim ct p [x, y] s = .ok d s2) : ev ct (.prim p [a, b]) ρ s = .ok d s2 := ev_p2 h h2 q
theorem ev_pn {p : Pr} {as : List E} {ρ : Env} {xs : List D} {d : D} {s2 : Store} (h : evs ct as ρ s = .ok xs s1) (q : prim ct p xs s1 = .ok d s2) : ev ct (.prim p as) ρ s = .ok d s2 := by
  rw [ev_prim, bind_ok h]
  exact q
theorem ev_cl {f : Nat} {as : List E} {ρ : Env} {xs : List D} (h : evs ct as ρ s = .ok xs s1) : ev ct (.call f as) ρ s = ct.call f xs s1 := by
  rw [ev_call, bind_ok h]
theorem evs_cons {e : E} {es : List E} {ρ : Env} {x : D} {xs : List D} {s2 : Store} (h : ev ct e ρ s = .ok x s1) (h2 : evs ct es ρ s1 = .ok xs s2) : evs ct (e :: es) ρ s = .ok (x :: xs) s2 := by
  show (ev ct e ρ >>= _) s = _
  rw [bind_ok h]
  show (evs ct es ρ >>= _) s1 = _
  rw [bind_ok h2]
  rfl
theorem evs_nil {ρ : Env} : evs ct [] ρ s = .ok [] s := rfl
theorem ev_v {i : Nat} {ρ : Env} {d : D} (h : ρ[i]? = some (some d)) : ev ct (.var i) ρ s = .ok d s := by
  show envGet ρ i s = _
  rw [envGet_run, h]
theorem ev_c {d : D} {ρ : Env} : ev ct (.con d) ρ s = .ok d s := rfl
theorem evT_p {p : Pr} {as : List E} {ρ : Env} {d : D} (h : ev ct (.prim p as) ρ s = .ok d s1) : evT ct (.prim p as) ρ s = truth d s1 := by
  have e : evT ct (.prim p as) ρ = (ev ct (.prim p as) ρ >>= truth) := by simp only [evT, ev, LawfulMonad.bind_assoc]
  rw [e, bind_ok h]
/-! .. step by step -/
theorem st_asg {t : Tg} {e : E} {r : List S} {σ σ1 : Env} {z : R Fl} (d : D) (s1 : Store) (h : ev ct e σ s = .ok d s1) (ha : assign t d σ = some σ1) (k : exs ct r σ1 s1 = z) : exs ct (.asg t e :: r) σ s = z := (exs_nx (ex_asg h ha)).trans k
theorem st_ret {e : E} {r : List S} {σ : Env} {d : D} (h : ev ct e σ s = .ok d s1) : exs ct (.ret e :: r) σ s = .ok (.rt d) s1 := exs_rt (ex_ret h)
theorem st_expr {e : E} {r : List S} {σ : Env} {z : R Fl} (d : D) (s1 : Store) (h : ev ct e σ s = .ok d s1) (k : exs ct r σ s1 = z) : exs ct (.expr e :: r) σ s = z := (exs_nx (ex_expr h)).trans k
theorem st_ifT {e : E} {a b r : List S} {σ : Env} {d : D} {s2 : Store} (s1 : Store) (h : evT ct e σ s = .ok true s1) (k : exs ct a σ s1 = .ok (.rt d) s2) : exs ct (.ifS e a b :: r) σ s = .ok (.rt d) s2 := exs_rt ((ex_if h).trans k)
theorem st_ifF {e : E} {a r : List S} {σ : Env} {z : R Fl} (s1 : Store) (h : evT ct e σ s = .ok false s1) (k : exs ct r σ s1 = z) : exs ct (.ifS e a [] :: r) σ s = z := (exs_nx ((ex_if h).trans rfl)).trans k
theorem st_setIdx {o i v : E} {r : List S} {σ : Env} {z : R Fl} {x : D} {n : Nat} {j : Int} {xs : List D} (hv : ev ct v σ s = .ok x s) (ho : ev ct o σ s = .ok (.obj n) s) (hi : ev ct i σ s = .ok (.int j) s) (hs : s[n]? = some (.lst xs)) (hj : 0 ≤ j ∧ j < xs.length) (k : exs ct r σ (s.set n (.lst (xs.set j.toNat x))) = z) : exs ct (.setIdx o i v :: r) σ s = z := by
  refine (exs_nx (σ1 := σ) (s1 := s.set n (.lst (xs.set j.toNat x))) ?_).trans k
  show eb (ev ct v σ) σ _ s = _
  rw [eb_ok hv]
  show eb (ev ct o σ) σ _ s = _
  rw [eb_ok ho]
  show eb (ev ct i σ) σ _ s = _
  rw [eb_ok hi]
  have e : setIdxD (.obj n) (.int j) x s = .ok () (s.set n (.lst (xs.set j.toNat x))) := by
    show (getO n >>= _) s = _
    rw [bind_ok (getO_some hs)]
    show (need (decide (0 ≤ j) && decide (j < xs.length)) >>= _) s = _
    rw [decide_eq_true hj.1, decide_eq_true hj.2]
    rfl
  show (setIdxD (.obj n) (.int j) x >>= _) s = _
  rw [bind_ok e]
  rfl
theorem at_len {s0 g : Store} {o : O} : (s0 ++ o :: g)[s0.length]? = some o := by simp
theorem set_len {s0 g : Store} {o o' : O} : (s0 ++ o :: g).set s0.length o' = s0 ++ o' :: g := by
  rw [List.set_append_right _ _ (Nat.le_refl _), Nat.sub_self]
  rfl
theorem st_extend {i : Nat} {s0 g : Store} {xs ys : List D} {es : List E} {σ : Env} {r : List S} {z : R Fl} (hσ : σ[i]? = some (some (.obj s0.length))) (he : evs ct es σ (s0 ++ .lst xs :: g) = .ok ys (s0 ++ .lst xs :: g)) (hy : Nat.ble ys.length line = true) (hl : Nat.ble (xs.length + ys.length) line = true)
    (k : exs ct r σ (s0 ++ .lst (xs ++ ys) :: (g ++ [.lst ys])) = z) : exs ct (.expr (.bm .extend (.var i) [.prim .lst es]) :: r) σ (s0 ++ .lst xs :: g) = z := by
  refine st_expr .non (s0 ++ .lst (xs ++ ys) :: (g ++ [.lst ys])) ?_ k
  rw [ev_bm, bind_ok (ev_v hσ)]
  have e0 : recvOk .extend (.obj s0.length) (s0 ++ .lst xs :: g) = .ok () (s0 ++ .lst xs :: g) := by
    show (getO s0.length >>= _) _ = _
    rw [bind_ok (getO_some at_len)]
    rfl
  rw [bind_ok e0]
  have e1 : evs ct [.prim .lst es] σ (s0 ++ .lst xs :: g) = .ok [.obj (s0 ++ .lst xs :: g).length] ((s0 ++ .lst xs :: g) ++ [.lst ys]) := evs_cons (ev_pn he (newL_run hy)) evs_nil
  rw [bind_ok e1]
  have q : (s0 ++ O.lst xs :: g) ++ [O.lst ys] = s0 ++ O.lst xs :: (g ++ [O.lst ys]) := by simp
  rw [q]
  show (getO s0.length >>= _) _ = _
  rw [bind_ok (getO_some at_len)]
  show (getO (s0 ++ .lst xs :: g).length >>= _) _ = _
  rw [bind_ok (getO_some (o := .lst ys) (by rw [← q, List.getElem?_append_right (Nat.le_refl _)]; simp))]
  show (need (Nat.ble (xs.length + ys.length) line) >>= _) _ = _
  rw [hl]
  show R.ok D.non ((s0 ++ O.lst xs :: (g ++ [O.lst ys])).set s0.length (O.lst (xs ++ ys))) = _
  rw [set_len]
theorem st_append {i : Nat} {s0 g : Store} {xs : List D} {y : D} {e : E} {σ : Env} {r : List S} {z : R Fl} (hσ : σ[i]? = some (some (.obj s0.length))) (he : ev ct e σ (s0 ++ .lst xs :: g) = .ok y (s0 ++ .lst xs :: g)) (hl : Nat.blt xs.length line = true)
    (k : exs ct r σ (s0 ++ .lst (xs ++ [y]) :: g) = z) : exs ct (.expr (.bm .append (.var i) [e]) :: r) σ (s0 ++ .lst xs :: g) = z := by
  refine st_expr .non (s0 ++ .lst (xs ++ [y]) :: g) ?_ k
  rw [ev_bm, bind_ok (ev_v hσ)]
  have e0 : recvOk .append (.obj s0.length) (s0 ++ .lst xs :: g) = .ok () (s0 ++ .lst xs :: g) := by
    show (getO s0.length >>= _) _ = _
    rw [bind_ok (getO_some at_len)]
    rfl
  rw [bind_ok e0, bind_ok (evs_cons he evs_nil)]
  show (getO s0.length >>= _) _ = _
  rw [bind_ok (getO_some at_len)]
  show (need (Nat.blt xs.length line) >>= _) _ = _
  rw [hl]
  show R.ok D.non ((s0 ++ .lst xs :: g).set s0.length (.lst (xs ++ [y]))) = _
  rw [set_len]
theorem getO_eq {n : Nat} {o : O} (h : s[n]? = some o) : getO n s = .ok o s := getO_some h
theorem isi_exc {c m : Nat} {v : D} {x y : Cls} (h : ct.T.cl c = some x) (hk : x.kind = .exc) (h2 : ct.T.cl m = some y) : prim ct .isi [.exc c v, .cls m] s = .ok (.bl (x.mro.contains m)) s := by
  show (isiD ct (.exc c v) (.own m) >>= _) s = _
  have e : isiD ct (.exc c v) (.own m) s = .ok (x.mro.contains m) s := by
    unfold isiD
    simp only [tyOf, clsX, h, hk, h2, isExc]
    rfl
  rw [bind_ok e]
  rfl
theorem isi_val {c : Nat} {v : D} {x : Cls} (h : ct.T.cl c = some x) (hk : x.kind = .exc) : prim ct .isi [.exc c v, .ty "ValueError"] s = .ok (.bl true) s := by
  show (isiD ct (.exc c v) (.ty "ValueError") >>= _) s = _
  have e : isiD ct (.exc c v) (.ty "ValueError") s = .ok true s := by
    unfold isiD
    simp only [tyOf, clsX, h, hk, isExc]
    rfl
  rw [bind_ok e]
  rfl
theorem intsD_len (a : Int) (n : Nat) : (intsD a n).length = n := by
  induction n generalizing a with
  | zero => rfl
  | succ n ih => show (intsD (a + 1) n).length + 1 = _; rw [ih]
theorem intsD_get (a : Int) (n i : Nat) (d : D) (h : (intsD a n)[i]? = some d) : i < n ∧ d = .int (a + (i : Nat)) := by
  induction n generalizing a i with
  | zero => simp [intsD] at h
  | succ n ih =>
    cases i with
    | zero =>
      simp [intsD] at h
      exact ⟨Nat.succ_pos _, by rw [← h]; simp⟩
    | succ i =>
      have h' : (intsD (a + 1) n)[i]? = some d := by simpa [intsD] using h
      obtain ⟨q1, q2⟩ := ih (a + 1) i h'
      refine ⟨Nat.succ_lt_succ q1, ?_⟩
      rw [q2]
      congr 1
      push_cast
      omega
/-! ### data, whatever stands elsewhere -/
/-- s' holds all that s holds -/
def Sub (s s' : Store) : Prop := ∀ (i : Nat) (o : O), s[i]? = some o → o ≠ .gone → s'[i]? = some o
theorem Sub.refl (s : Store) : Sub s s := fun _ _ h _ => h
theorem Sub.trans {s s' s'' : Store} (a : Sub s s') (b : Sub s' s'') : Sub s s'' := fun i o h n => b i o (a i o h n) n
theorem Sub.app (s g : Store) : Sub s (s ++ g) := fun i o h _ => by
  rw [List.getElem?_append_left (List.getElem?_eq_some_iff.mp h).1]
  exact h
theorem oAll_mono {g g' : D → Option PyData} : ∀ {xs : List D} {ps : List PyData}, (∀ x p, g x = some p → g' x = some p) → oAll (xs.map g) = some ps → oAll (xs.map g') = some ps
  | [], ps, _, h => h
  | x :: xs, ps, i, h => by
    obtain ⟨y, r, h1, h2, rfl⟩ := oAll_inv h
    rw [List.map_cons, i x y h1, oAll.eq_2, oAll_mono i h2]
theorem oAll_mono2 {α : Type} {g g' : α → Option PyData} : ∀ {xs : List α} {ps : List PyData}, (∀ x p, g x = some p → g' x = some p) → oAll (xs.map g) = some ps → oAll (xs.map g') = some ps
  | [], ps, _, h => h
  | x :: xs, ps, i, h => by
    obtain ⟨y, r, h1, h2, rfl⟩ := oAll_inv h
    rw [List.map_cons, i x y h1, oAll.eq_2, oAll_mono2 i h2]
theorem toP_mono {s s' : Store} (h : Sub s s') : ∀ {n m : Nat} (d : D) (p : PyData), n ≤ m → toP s n d = some p → toP s' m d = some p
  | 0, _, _, _, _, e => by cases e
  | n + 1, 0, _, _, hm, _ => by omega
  | n + 1, m + 1, d, p, hm, e => by
    have ih : ∀ x q, toP s n x = some q → toP s' m x = some q := fun x q => toP_mono h x q (by omega)
    unfold toP at e ⊢
    cases d with
    | tup xs =>
      simp only at e ⊢
      cases e1 : oAll (xs.map (toP s n)) with
      | none => rw [e1] at e; cases e
      | some l =>
        rw [e1] at e
        rw [oAll_mono ih e1]
        exact e
    | obj k =>
      simp only at e ⊢
      cases e0 : s[k]? with
      | none => rw [e0] at e; cases e
      | some o =>
        rw [e0] at e
        cases o with
        | lst xs =>
          rw [h k _ e0 (by simp)]
          simp only at e ⊢
          cases e1 : oAll (xs.map (toP s n)) with
          | none => rw [e1] at e; cases e
          | some l =>
            rw [e1] at e
            rw [oAll_mono ih e1]
            exact e
        | dic kvs =>
          rw [h k _ e0 (by simp)]
          simp only at e ⊢
          cases e1 : oAll (kvs.map fun p => toP s n p.1) with
          | none => rw [e1] at e; cases e
          | some l =>
            rw [e1] at e
            cases e2 : oAll (kvs.map fun p => toP s n p.2) with
            | none => rw [e2] at e; cases e
            | some l2 =>
              rw [e2] at e
              rw [oAll_mono2 (fun (x : D × D) q => ih x.1 q) e1, oAll_mono2 (fun (x : D × D) q => ih x.2 q) e2]
              exact e
        | sl _ _ => cases e
        | ins _ _ => cases e
        | gone => cases e
    | _ => exact e
end
end G
set_option Elab.async false
set_option linter.all false
set_option maxRecDepth 100000
set_option maxHeartbeats 4000000
/-! G30: more of the kit for the plain laws. -/
namespace G
open PySem
section
variable {ct : Ct} {T : Tab} {wl n f : Nat} {fn : Fn} {args : List D} {s s1 : Store} {d : D} {α β : Type}
theorem still_nil : still [] s = .ok () s := by
  unfold still
  rw [if_pos (fun p hp => nomatch hp)]
theorem still_ok {g : Gd} (h : ∀ p ∈ g, s[p.1]? = some (.lst p.2)) : still g s = .ok () s := by
  unfold still
  rw [if_pos h]
theorem still_one {all : List D} {m : Nat} (h : s[m]? = some (.lst all)) : still [(m, all)] s = .ok () s := still_ok fun p hp => by
  rw [List.mem_singleton] at hp
  subst hp
  exact h
theorem append_ok {n : Nat} {acc : List D} {y : D} (h : s[n]? = some (.lst acc)) (hl : acc.length < line) : appendD (.obj n) y s = .ok .non (s.set n (.lst (acc ++ [y]))) := by
  rw [appendD_run, h]
  simp only
  rw [if_pos (Nat.blt_eq.mpr hl)]
theorem comp_nil {g : Gd} {tg : Tg} {own : List Nat} {test : Env → M Bool} {elt : Env → M D} {σ : Env} {n : Nat} (hs : still g s = .ok () s) : compL g tg own test elt σ n [] s = .ok () s := by
  unfold compL
  exact hs
theorem comp_step {g : Gd} {tg : Tg} {own : List Nat} {test : Env → M Bool} {elt : Env → M D} {σ σ' : Env} {n : Nat} {x y : D} {xs acc : List D} {s1 s2 : Store} (hs : still g s = .ok () s) (ha : assign tg x (wipeE σ own) = some σ') (ht : test σ' s = .ok true s1) (he : elt σ' s1 = .ok y s2) (hn : s2[n]? = some (.lst acc)) (hl : acc.length < line) :
    compL g tg own test elt σ n (x :: xs) s = compL g tg own test elt σ n xs (s2.set n (.lst (acc ++ [y]))) := by
  conv => lhs; unfold compL
  rw [bind_ok hs]
  show (ofO (assign tg x (wipeE σ own)) >>= _) s = _
  rw [ha]
  show (test σ' >>= _) s = _
  rw [bind_ok ht]
  show (elt σ' >>= _) s1 = _
  rw [bind_ok he, bind_ok (append_ok hn hl)]
theorem comp_skip {g : Gd} {tg : Tg} {own : List Nat} {test : Env → M Bool} {elt : Env → M D} {σ σ' : Env} {n : Nat} {x : D} {xs : List D} {s1 : Store} (hs : still g s = .ok () s) (ha : assign tg x (wipeE σ own) = some σ') (ht : test σ' s = .ok false s1) :
    compL g tg own test elt σ n (x :: xs) s = compL g tg own test elt σ n xs s1 := by
  conv => lhs; unfold compL
  rw [bind_ok hs]
  show (ofO (assign tg x (wipeE σ own)) >>= _) s = _
  rw [ha]
  show (test σ' >>= _) s = _
  rw [bind_ok ht]
theorem for_nil {g : Gd} {tg : Tg} {body : Env → M Fl} {σ : Env} (hs : still g s = .ok () s) : forL g tg body [] σ s = .ok (.nx σ) s := by
  unfold forL
  rw [bind_ok hs]
  rfl
theorem for_step {g : Gd} {tg : Tg} {body : Env → M Fl} {σ σ' σ2 : Env} {x : D} {xs : List D} {s2 : Store} (hs : still g s = .ok () s) (ha : assign tg x σ = some σ') (hb : body σ' s = .ok (.nx σ2) s2) :
    forL g tg body (x :: xs) σ s = forL g tg body xs σ2 s2 := by
  conv => lhs; unfold forL
  rw [bind_ok hs]
  show (ofO (assign tg x σ) >>= _) s = _
  rw [ha]
  show (body σ' >>= _) s = _
  rw [bind_ok hb]
/-! what stands from b on -/
def mask (b : Nat) (s : Store) : Store := List.replicate b .gone ++ s.drop b
theorem mask_get {b i : Nat} {s : Store} (h : b ≤ i) : (mask b s)[i]? = s[i]? := by
  unfold mask
  rw [List.getElem?_append_right (by simpa using h), List.length_replicate, List.getElem?_drop]
  congr 1
  omega
theorem mask_lo {b i : Nat} {s : Store} (h : i < b) : (mask b s)[i]? = some .gone := by
  unfold mask
  rw [List.getElem?_append_left (by simpa using h), List.getElem?_replicate, if_pos h]
/-- what stands from b on stays -/
def Ext (b : Nat) (s s' : Store) : Prop := ∀ (i : Nat) (o : O), b ≤ i → s[i]? = some o → s'[i]? = some o
theorem Ext.refl (b : Nat) (s : Store) : Ext b s s := fun _ _ _ h => h
theorem Ext.trans {b : Nat} {s s' s'' : Store} (h : Ext b s s') (h' : Ext b s' s'') : Ext b s s'' := fun i o l e => h' i o l (h i o l e)
theorem Ext.app (b : Nat) (s g : Store) : Ext b s (s ++ g) := fun i o _ h => by
  rw [List.getElem?_append_left (List.getElem?_eq_some_iff.mp h).1]
  exact h
theorem Ext.mono {b b' : Nat} {s s' : Store} (hb : b ≤ b') (h : Ext b s s') : Ext b' s s' := fun i o l e => h i o (by omega) e
theorem Ext.set {b k : Nat} {s : Store} {o : O} (hb : k < b) : Ext b s (s.set k o) := fun i o' l e => by
  rw [List.getElem?_set_ne (by omega)]
  exact e
theorem Ext.sub {b : Nat} {s s' : Store} (h : Ext b s s') : Sub (mask b s) (mask b s') := fun i o e n => by
  by_cases hi : b ≤ i
  · rw [mask_get hi] at e ⊢
    exact h i o hi e
  · rw [mask_lo (by omega)] at e
    cases e
    exact absurd rfl n
theorem mask_sub (b : Nat) (s : Store) : Sub (mask b s) s := fun i o e n => by
  by_cases hi : b ≤ i
  · rw [mask_get hi] at e
    exact e
  · rw [mask_lo (by omega)] at e
    cases e
    exact absurd rfl n
theorem mask_mono {b b' : Nat} (s : Store) (h : b ≤ b') : Sub (mask b' s) (mask b s) := fun i o e n => by
  by_cases hi : b' ≤ i
  · rw [mask_get hi] at e
    rw [mask_get (by omega)]
    exact e
  · rw [mask_lo (by omega)] at e
    cases e
    exact absurd rfl n
end
end G
set_option Elab.async false
set_option linter.all false
set_option maxRecDepth 100000
set_option maxHeartbeats 4000000
/-! G31: the draws of a law: its pot. -/
namespace G
open PySem
/-- a pot at k, of at most N numbers drawn behind its digits -/
def Pot (k N : Nat) (s : Store) : Prop := ∃ a b c : Int, s[k]? = some (.lst [.int a, .int b, .int c]) ∧ (0 ≤ a ∧ a < 10 ^ 300) ∧ (0 ≤ b ∧ b < 2305843009213693921) ∧ 0 ≤ c ∧ c ≤ N
/-- what a def that draws leaves: all but the pot at k as it was, more behind -/
structure Adv (k N : Nat) (s s' : Store) : Prop where
  len : s.length ≤ s'.length
  keep : ∀ (i : Nat) (o : O), i ≠ k → s[i]? = some o → s'[i]? = some o
  pot : Pot k N s'
section
variable {k N M' : Nat} {s s' s'' : Store}
theorem Pot.lt (h : Pot k N s) : k < s.length := by
  obtain ⟨a, b, c, e, _⟩ := h
  exact (List.getElem?_eq_some_iff.mp e).1
theorem Pot.mono (h : Pot k N s) (hn : N ≤ M') : Pot k M' s := by
  obtain ⟨a, b, c, e, h1, h2, h3, h4⟩ := h
  exact ⟨a, b, c, e, h1, h2, h3, by omega⟩
theorem Pot.app (h : Pot k N s) (g : Store) : Pot k N (s ++ g) := by
  obtain ⟨a, b, c, e, r⟩ := h
  exact ⟨a, b, c, by rw [List.getElem?_append_left (List.getElem?_eq_some_iff.mp e).1]; exact e, r⟩
theorem Adv.trans (h : Adv k N s s') (h' : Adv k M' s' s'') : Adv k M' s s'' := ⟨Nat.le_trans h.len h'.len, fun i o n e => h'.keep i o n (h.keep i o n e), h'.pot⟩
theorem Adv.mono (h : Adv k N s s') (hn : N ≤ M') : Adv k M' s s' := ⟨h.len, h.keep, h.pot.mono hn⟩
theorem Adv.refl (h : Pot k N s) : Adv k N s s := ⟨Nat.le_refl _, fun _ _ _ e => e, h⟩
theorem Adv.app (h : Pot k N s) (g : Store) : Adv k N s (s ++ g) := ⟨by simp, fun i o _ e => by rw [List.getElem?_append_left (List.getElem?_eq_some_iff.mp e).1]; exact e, h.app g⟩
/-- something of one's own, made since s, is changed -/
theorem Adv.set (h : Adv k N s s') {n : Nat} {o : O} (hn : s.length ≤ n) (hk : k < s.length) : Adv k N s (s'.set n o) := by
  refine ⟨by rw [List.length_set]; exact h.len, fun i x ni e => ?_, ?_⟩
  · have : i < s.length := (List.getElem?_eq_some_iff.mp e).1
    rw [List.getElem?_set_ne (by omega)]
    exact h.keep i x ni e
  · obtain ⟨a, b, c, e, r⟩ := h.pot
    exact ⟨a, b, c, by rw [List.getElem?_set_ne (by omega)]; exact e, r⟩
theorem Adv.trunc (h : Adv k N s s') (hk : k < s.length) (d : D) : Adv k N s (trunc s d s') := by
  unfold G.trunc
  split
  · rename_i e
    obtain ⟨a, b, c, e1, r⟩ := h.pot
    refine .refl ⟨a, b, c, ?_, r⟩
    rw [← e.1, List.getElem?_take_of_lt hk]
    exact e1
  · exact h
theorem trunc_new {d : D} (h : D.lt s.length d = false) : G.trunc s d s' = s' := by
  unfold G.trunc
  rw [if_neg fun z => by rw [h] at z; cases z.2]
theorem lt_obj {n m : Nat} (h : n ≤ m) : D.lt n (.obj m) = false := by
  unfold D.lt
  cases z : Nat.blt m n with
  | false => rfl
  | true => exact absurd (Nat.blt_eq.mp z) (by omega)
end
section
variable {ct : Ct} {T : Tab} {wl n : Nat} {s : Store}
theorem lg2 {a : Int} {k : Nat} (h : a.natAbs < 2 ^ k) (hk : 0 < k) : a.natAbs.log2 < k := by
  by_cases e : a.natAbs = 0
  · rw [e]; simpa using hk
  · exact (Nat.log2_lt e).mpr h
theorem prim_mul {i j : Int} {k l : Nat} (h1 : i.natAbs < 2 ^ k) (h2 : j.natAbs < 2 ^ l) (hk : 0 < k) (hl : 0 < l) (h : k + l ≤ 1000000) : prim ct .mul [.int i, .int j] s = .ok (.int (i * j)) s := by
  have e : mulOk i j = true := by
    unfold mulOk
    have a := lg2 h1 hk
    have b := lg2 h2 hl
    exact decide_eq_true (by omega)
  show (need (mulOk i j) >>= _) s = _
  rw [e]
  rfl
theorem prim_mod {i j : Int} (h : 0 < j) : prim ct .mod [.int i, .int j] s = .ok (.int (i % j)) s := by
  show (need (decide (0 < j)) >>= _) s = _
  rw [decide_eq_true h]
  rfl
theorem prim_fdiv {i j : Int} (h : 0 < j) (h2 : j.natAbs < 2 ^ 8000) : prim ct .fdiv [.int i, .int j] s = .ok (.int (i / j)) s := by
  have e : divOk j = true := by
    unfold divOk
    have := lg2 h2 (by decide)
    rw [decide_eq_true (show j ≠ 0 by omega), decide_eq_true (by omega)]
    rfl
  have e2 : fdivI i j = i / j := if_pos h
  rw [← e2]
  show (need (divOk j) >>= _) s = _
  rw [e]
  rfl
theorem prim_pow {i j : Int} (h : 0 ≤ j ∧ j ≤ 1000) (h2 : i.natAbs < 2 ^ 40000) : prim ct .pow [.int i, .int j] s = .ok (.int (i ^ j.toNat)) s := by
  have e : powOk i j = true := by
    unfold powOk
    have := lg2 h2 (by decide)
    rw [decide_eq_true h.1, decide_eq_true h.2, decide_eq_true (by omega)]
    rfl
  show (need (powOk i j) >>= _) s = _
  rw [e]
  rfl
theorem big300 {ρ : Env} : ev ct (.prim .pow [(.prim .pow [(.con (.int (10))), (.con (.int (60)))]), (.con (.int (5)))]) ρ s = .ok (.int (10 ^ 300)) s := by
  refine ev_q2 (ev_q2 ev_c ev_c (d := .int (10 ^ 60)) ?_) ev_c ?_
  · rfl
  · show (need (powOk (10 ^ 60) 5) >>= _) s = _
    rw [show powOk (10 ^ 60) 5 = true by decide +kernel]
    show R.ok (D.int ((10 ^ 60) ^ (5 : Int).toNat)) s = _
    rw [show ((10 : Int) ^ 60) ^ (5 : Int).toNat = 10 ^ 300 by decide +kernel]
theorem prim_idx {m : Nat} {i : Int} {xs : List D} {x : D} (hs : s[m]? = some (.lst xs)) (h : atN xs i = some x) : prim ct .idx [.obj m, .int i] s = .ok x s := by
  show (seqOf (.obj m) >>= _) s = _
  have e : seqOf (.obj m) s = .ok xs s := by
    show (getO m >>= _) s = _
    rw [bind_ok (getO_some hs)]
    rfl
  rw [bind_ok e, h]
  rfl
theorem meth_lst {m q : Nat} {xs : List D} (hs : s[m]? = some (.lst xs)) : methOf ct (.obj m) q s = .ok none s := by
  have e : clsOf s (.obj m) = none := by
    unfold clsOf
    simp only
    rw [hs]
  unfold methOf
  rw [e]
theorem prim_len {m : Nat} {xs : List D} (hs : s[m]? = some (.lst xs)) : prim ct .len [.obj m] s = .ok (.int xs.length) s := by
  show (lenD ct (.obj m) >>= _) s = _
  have e : lenD ct (.obj m) s = .ok (xs.length : Int) s := by
    rw [lenD_obj (meth_lst hs), bind_ok (getO_some hs)]
    rfl
  rw [bind_ok e]
  rfl
theorem prim_addL {m j : Nat} {xs ys : List D} (h1 : s[m]? = some (.lst xs)) (h2 : s[j]? = some (.lst ys)) : prim ct .add [.obj m, .obj j] s = newL (xs ++ ys) s := by
  show (getO m >>= _) s = _
  rw [bind_ok (getO_some h1)]
  show (getO j >>= _) s = _
  rw [bind_ok (getO_some h2)]
theorem prim_lst (xs : List D) : prim ct .lst xs = newL xs := by
  rcases xs with _ | ⟨a, _ | ⟨b, _ | ⟨c, _ | ⟨d, _⟩⟩⟩⟩ <;> rfl

/-! ### the defs that draw -/
def potFn (a1 a2 a3 a4 a5 : Int) : Fn := ⟨5, 2, [
  (.asg (.n 2) (.ifx (.prim .lt [(.var 1), (.prim .len [(.var 0)])]) (.prim .idx [(.var 0), (.var 1)]) (.prim .add [(.prim .mul [(.con (.int a1)), (.var 1)]), (.con (.int a2))]))),
  (.asg (.n 3) (.prim .mul [(.prim .mod [(.prim .int1 [(.prim .abs [(.var 2)])]), (.prim .pow [(.prim .pow [(.con (.int (10))), (.con (.int (60)))]), (.con (.int (5)))])]), (.prim .int1 [(.prim .ge [(.prim .abs [(.var 2)]), (.prim .pow [(.con (.int (10))), (.con (.int (18)))])])])])),
  (.asg (.n 4) (.prim .mod [(.prim .int1 [(.var 2)]), (.con (.int (2305843009213693951)))])),
  (.ret (.prim .lst [(.var 3), (.prim .mod [(.prim .int1 [(.prim .add [(.prim .add [(.prim .mul [(.var 4), (.con (.int a3))]), (.prim .mul [(.prim .mul [(.con (.int a4)), (.var 1)]), (.var 1)])]), (.con (.int a5))])]), (.con (.int (2305843009213693921)))]), (.con (.int (0)))]))]⟩
def takeFn (c1 c2 c3 c4 : Int) : Fn := ⟨5, 2, [
  (.ifS (.prim .gt [(.prim .idx [(.var 0), (.con (.int (0)))]), (.con (.int (0)))]) [(.asg (.n 2) (.prim .mod [(.prim .int1 [(.prim .idx [(.var 0), (.con (.int (0)))])]), (.var 1)])), (.setIdx (.var 0) (.con (.int (0))) (.prim .fdiv [(.prim .idx [(.var 0), (.con (.int (0)))]), (.var 1)])), (.ret (.var 2))] []),
  (.setIdx (.var 0) (.con (.int (2))) (.prim .add [(.prim .idx [(.var 0), (.con (.int (2)))]), (.con (.int (1)))])),
  (.asg (.n 3) (.prim .idx [(.prim .lst [(.con (.int (2147483647))), (.con (.int (2147483629))), (.con (.int (2147483587))), (.con (.int (2147483579))), (.con (.int (2147483563)))]), (.prim .mod [(.prim .int1 [(.prim .idx [(.var 0), (.con (.int (2)))])]), (.con (.int (5)))])])),
  (.asg (.n 4) (.prim .mod [(.prim .int1 [(.prim .pow [(.prim .int1 [(.prim .add [(.prim .add [(.prim .idx [(.var 0), (.con (.int (1)))]), (.prim .mul [(.prim .mul [(.con (.int c1)), (.prim .idx [(.var 0), (.con (.int (2)))])]), (.prim .idx [(.var 0), (.con (.int (2)))])])]), (.con (.int c2))])]), (.con (.int (3)))])]), (.var 3)])),
  (.ret (.prim .mod [(.prim .int1 [(.prim .fdiv [(.prim .mul [(.var 4), (.prim .add [(.prim .mod [(.prim .int1 [(.var 4)]), (.con (.int c3))]), (.prim .mul [(.con (.int c4)), (.prim .idx [(.var 0), (.con (.int (2)))])])])]), (.con (.int (139)))])]), (.var 1)]))]⟩
def ofFn (t : Nat) : Fn := ⟨2, 2, [
  (.ret (.prim .idx [(.var 1), (.call t [(.var 0), (.prim .len [(.var 1)])])]))]⟩
def cellsFn : Fn := ⟨2, 2, [
  (.ret (.lrange (.prim .max2 [(.con (.int (1))), (.prim .min2 [(.var 1), (.prim .len [(.var 0)])])])))]⟩
theorem cells_ok {i m : Nat} (hT : T.fn i = some cellsFn) (ns : List Int) (s : Store) (h : ns.length ≤ 63) (hm : 1 ≤ m ∧ m ≤ 60) : ∃ j : Nat, j ≤ m ∧ callF T wl (n + 1) i [.scr ns, .int m] s = .ok (.obj s.length) (s ++ [.lst (intsD 0 j)]) := by
  obtain ⟨z, hz⟩ : ∃ z : Int, z = if (if (ns.length : Int) < m then (ns.length : Int) else m) > 1 then (if (ns.length : Int) < m then (ns.length : Int) else m) else 1 := ⟨_, rfl⟩
  have z0 : 1 ≤ z ∧ z ≤ m := by subst hz; split <;> split <;> omega
  refine ⟨z.toNat, by omega, ?_⟩
  rw [call_eq hT, run_rt (d := .obj s.length) (s1 := s ++ [.lst (intsD 0 z.toNat)]) rfl (by decide), trunc_new (lt_obj (Nat.le_refl _))]
  have e : ev ⟨T, callF T wl n, wl, callF T.t0 wl n⟩ (.prim .max2 [(.con (.int (1))), (.prim .min2 [(.var 1), (.prim .len [(.var 0)])])]) [some (.scr ns), some (.int m)] s = .ok (.int z) s := by
    rw [hz]
    rfl
  have b : (decide (-(2 ^ 62) ≤ z) && decide (z < 2 ^ 62)) = true := by
    simp only [Bool.and_eq_true, decide_eq_true_eq]
    omega
  have l : newL (intsD 0 z.toNat) s = .ok (.obj s.length) (s ++ [.lst (intsD 0 z.toNat)]) := newL_run (by
    rw [intsD_len]
    have h6 : z.toNat ≤ 60 := by omega
    exact Nat.ble_eq_true_of_le (Nat.le_trans h6 (by decide)))
  have e2 : ev ⟨T, callF T wl n, wl, callF T.t0 wl n⟩ (.lrange (.prim .max2 [(.con (.int (1))), (.prim .min2 [(.var 1), (.prim .len [(.var 0)])])])) [some (.scr ns), some (.int m)] s = .ok (.obj s.length) (s ++ [.lst (intsD 0 z.toNat)]) := by
    rw [ev_lrange e b]
    exact l
  exact exs_rt (ex_ret e2)
theorem big : (10 : Nat) ^ 300 < 2 ^ 1000 := by decide +kernel
theorem pot_ok {i : Nat} {a1 a2 a3 a4 a5 : Int} (hT : T.fn i = some (potFn a1 a2 a3 a4 a5)) (b1 : 0 ≤ a1 ∧ a1 < 1000000) (b2 : 0 ≤ a2 ∧ a2 < 1000000) (b3 : 0 ≤ a3 ∧ a3 < 1000000) (b4 : 0 ≤ a4 ∧ a4 < 1000000) (b5 : 0 ≤ a5 ∧ a5 < 1000000) (ns : List Int) (p : Nat) (s : Store) (hp : p ≤ 100) :
    ∃ o : O, callF T wl (n + 1) i [.scr ns, .int p] s = .ok (.obj s.length) (s ++ [o]) ∧ Pot s.length 0 (s ++ [o]) := by
  obtain ⟨c, hc⟩ : ∃ c : Int, ev ⟨T, callF T wl n, wl, callF T.t0 wl n⟩ (.ifx (.prim .lt [(.var 1), (.prim .len [(.var 0)])]) (.prim .idx [(.var 0), (.var 1)]) (.prim .add [(.prim .mul [(.con (.int a1)), (.var 1)]), (.con (.int a2))])) [some (.scr ns), some (.int p), none, none, none] s = .ok (.int c) s := by
    have e1 : evT ⟨T, callF T wl n, wl, callF T.t0 wl n⟩ (.prim .lt [(.var 1), (.prim .len [(.var 0)])]) [some (.scr ns), some (.int p), none, none, none] s = .ok (decide ((p : Int) < ns.length)) s := rfl
    by_cases h : p < ns.length
    · refine ⟨ns[p], ?_⟩
      show (evT _ _ _ >>= _) s = _
      rw [bind_ok e1, decide_eq_true (by omega)]
      show (match atN (ns.map D.int) p with | some d => (pure d : M D) | none => stuck) s = _
      unfold atN
      rw [if_pos (by omega), Int.toNat_natCast, List.getElem?_map, List.getElem?_eq_getElem h]
      rfl
    · refine ⟨a1 * p + a2, ?_⟩
      show (evT _ _ _ >>= _) s = _
      rw [bind_ok e1, decide_eq_false (by omega)]
      exact ev_q2 (ev_q2 ev_c rfl (prim_mul (k := 30) (l := 30) (by omega) (by omega) (by decide) (by decide) (by decide))) ev_c rfl
  obtain ⟨t, ht⟩ : ∃ t : Int, t = if decide ((10 : Int) ^ 18 ≤ (if c < 0 then -c else c)) then 1 else 0 := ⟨_, rfl⟩
  have t01 : t = 0 ∨ t = 1 := by
    subst ht
    cases decide ((10 : Int) ^ 18 ≤ (if c < 0 then -c else c)) <;> simp
  obtain ⟨r, hr⟩ : ∃ r : Int, r = (if c < 0 then -c else c) % 10 ^ 300 := ⟨_, rfl⟩
  have r0 : 0 ≤ r ∧ r < 10 ^ 300 := by
    rw [hr]
    exact ⟨Int.emod_nonneg _ (by decide), Int.emod_lt_of_pos _ (by decide)⟩
  obtain ⟨m, hm⟩ : ∃ m : Int, m = c % 2305843009213693951 := ⟨_, rfl⟩
  have m0 : 0 ≤ m ∧ m < 2305843009213693951 := by
    rw [hm]
    exact ⟨Int.emod_nonneg _ (by decide), Int.emod_lt_of_pos _ (by decide)⟩
  obtain ⟨b, hb⟩ : ∃ b : Int, b = (m * a3 + a4 * p * p + a5) % 2305843009213693921 := ⟨_, rfl⟩
  have q1 : 0 ≤ a4 * (p : Int) ∧ a4 * (p : Int) ≤ 1000000 * 100 := ⟨Int.mul_nonneg b4.1 (by omega), Int.mul_le_mul (by omega) (by omega) (by omega) (by decide)⟩
  refine ⟨.lst [.int (r * t), .int b, .int 0], ?_, ⟨r * t, b, 0, by simp, ⟨?_, ?_⟩, ⟨?_, ?_⟩, by decide, by decide⟩⟩
  · rw [call_eq hT, run_rt (d := .obj s.length) (s1 := s ++ [.lst [.int (r * t), .int b, .int 0]]) rfl (show 2 ≤ 5 by decide), trunc_new (lt_obj (Nat.le_refl _))]
    refine st_asg _ s hc rfl (st_asg (.int (r * t)) s (ev_q2 (ev_q2 (x := .int (if c < 0 then -c else c)) (ev_q1 (ev_q1 (ev_v rfl) rfl) rfl) big300 (prim_mod (by decide))) (y := .int t) ?_ ?_) rfl
      (st_asg (.int m) s (ev_q2 (ev_q1 (ev_v rfl) rfl) ev_c ?_) rfl (st_ret ?_)))
    · rw [ht]; rfl
    · rw [← hr]
      refine prim_mul (k := 1000) (l := 10) ?_ ?_ (by decide) (by decide) (by decide)
      · have : (10 : Nat) ^ 300 < 2 ^ 1000 := by decide +kernel
        omega
      · rcases t01 with e | e <;> rw [e] <;> decide
    · rw [hm]
      exact prim_mod (by decide)
    · refine ev_pn (evs_cons (ev_v rfl) (evs_cons (x := .int b) ?_ (evs_cons ev_c evs_nil))) (newL_run rfl)
      exact ev_q2 (ev_q1 (ev_q2 (ev_q2 (ev_q2 (ev_v rfl) ev_c (prim_mul (k := 62) (l := 30) (by omega) (by omega) (by decide) (by decide) (by decide)))
        (ev_q2 (ev_q2 ev_c (ev_v rfl) (prim_mul (k := 30) (l := 30) (by omega) (by omega) (by decide) (by decide) (by decide))) (ev_v rfl) (prim_mul (k := 60) (l := 30) (by omega) (by omega) (by decide) (by decide) (by decide))) rfl) ev_c rfl) rfl) ev_c (by rw [hb]; exact prim_mod (by decide))
  · rcases t01 with e | e <;> rw [e] <;> omega
  · rcases t01 with e | e <;> rw [e] <;> omega
  · rw [hb]; exact Int.emod_nonneg _ (by decide)
  · rw [hb]; exact Int.emod_lt_of_pos _ (by decide)
theorem take_ok {i : Nat} {c1 c2 c3 c4 : Int} (hT : T.fn i = some (takeFn c1 c2 c3 c4)) (d1 : 0 ≤ c1 ∧ c1 < 1000000) (d2 : 0 ≤ c2 ∧ c2 < 1000000) (d3 : 0 < c3 ∧ c3 < 1000000) (d4 : 0 ≤ c4 ∧ c4 < 1000000) {k N : Nat} {s : Store} (hp : Pot k N s) (hN : N ≤ 1000000) {u : Int} (hu : 0 < u ∧ u < 1000000000) :
    ∃ (dg : Int) (s' : Store), callF T wl (n + 1) i [.obj k, .int u] s = .ok (.int dg) s' ∧ 0 ≤ dg ∧ dg < u ∧ Adv k (N + 1) s s' := by
  obtain ⟨a, b, c, hs, ha, hb, hc0, hcN⟩ := hp
  have hc : 0 ≤ c ∧ c ≤ 1000000 := ⟨hc0, by omega⟩
  have hk : k < s.length := (List.getElem?_eq_some_iff.mp hs).1
  have adv : ∀ (a' c' : Int) (g : Store), (0 ≤ a' ∧ a' < 10 ^ 300) → (0 ≤ c' ∧ c' ≤ N + 1) → Adv k (N + 1) s (s.set k (.lst [.int a', .int b, .int c']) ++ g) := fun a' c' g h1 h2 => by
    refine ⟨by simp, fun i o ni e => ?_, ⟨a', b, c', ?_, h1, hb, h2.1, h2.2⟩⟩
    · rw [List.getElem?_append_left (by rw [List.length_set]; exact (List.getElem?_eq_some_iff.mp e).1), List.getElem?_set_ne (Ne.symm ni)]
      exact e
    · rw [List.getElem?_append_left (by rw [List.length_set]; exact hk), List.getElem?_set_self hk]
  have fin : ∀ (dg a' c' : Int) (g : Store), 0 ≤ dg → dg < u → (0 ≤ a' ∧ a' < 10 ^ 300) → (0 ≤ c' ∧ c' ≤ N + 1) → exs ⟨T, callF T wl n, wl, callF T.t0 wl n⟩ (takeFn c1 c2 c3 c4).body [some (.obj k), some (.int u), none, none, none] s = .ok (.rt (.int dg)) (s.set k (.lst [.int a', .int b, .int c']) ++ g) →
      ∃ (dg : Int) (s' : Store), callF T wl (n + 1) i [.obj k, .int u] s = .ok (.int dg) s' ∧ 0 ≤ dg ∧ dg < u ∧ Adv k (N + 1) s s' := fun dg a' c' g h1 h2 h3 h4 h =>
    ⟨dg, _, by rw [call_eq hT, run_rt rfl (show 2 ≤ 5 by decide) h], h1, h2, (adv a' c' g h3 h4).trunc hk _⟩
  have i0 : ∀ {ρ : Env}, ρ[0]? = some (some (.obj k)) → ev ⟨T, callF T wl n, wl, callF T.t0 wl n⟩ (.prim .idx [(.var 0), (.con (.int (0)))]) ρ s = .ok (.int a) s := fun h => ev_q2 (ev_v h) ev_c (prim_idx hs rfl)
  have test : evT ⟨T, callF T wl n, wl, callF T.t0 wl n⟩ (.prim .gt [(.prim .idx [(.var 0), (.con (.int (0)))]), (.con (.int (0)))]) [some (.obj k), some (.int u), none, none, none] s = .ok (decide (0 < a)) s := by
    rw [evT_p (d := .bl (decide (0 < a))) (s1 := s) (ev_q2 (i0 rfl) ev_c rfl)]
    rfl
  have hu8 : u.natAbs < 2 ^ 8000 := Nat.lt_trans (show u.natAbs < 2 ^ 40 by omega) (by decide +kernel)
  by_cases h0 : 0 < a
  · rw [decide_eq_true h0] at test
    refine fin (a % u) (a / u) c [] (Int.emod_nonneg _ (by omega)) (Int.emod_lt_of_pos _ (by omega)) ⟨Int.ediv_nonneg (by omega) (by omega), Int.lt_of_le_of_lt (Int.ediv_le_self _ (by omega)) ha.2⟩ ⟨hc.1, by omega⟩ ?_
    refine st_ifT s test (st_asg (.int (a % u)) s (ev_q2 (ev_q1 (i0 rfl) rfl) (ev_v rfl) (prim_mod hu.1)) rfl
      (st_setIdx (x := .int (a / u)) (n := k) (j := 0) (ev_q2 (i0 rfl) (ev_v rfl) (prim_fdiv hu.1 hu8)) (ev_v rfl) ev_c hs ⟨by decide, by simp⟩ ?_))
    rw [List.append_nil]
    exact st_ret (ev_v rfl)
  · rw [decide_eq_false h0] at test
    obtain ⟨s2, es2⟩ : ∃ s2, s2 = s.set k (.lst [.int a, .int b, .int (c + 1)]) := ⟨_, rfl⟩
    obtain ⟨s3, es3⟩ : ∃ s3, s3 = s2 ++ [.lst [.int 2147483647, .int 2147483629, .int 2147483587, .int 2147483579, .int 2147483563]] := ⟨_, rfl⟩
    have h2 : s2[k]? = some (.lst [.int a, .int b, .int (c + 1)]) := by rw [es2]; exact List.getElem?_set_self hk
    have h3 : s3[k]? = some (.lst [.int a, .int b, .int (c + 1)]) := by rw [es3, List.getElem?_append_left (by rw [es2, List.length_set]; exact hk)]; exact h2
    obtain ⟨pr, hp, hp0, hp1⟩ : ∃ pr : Int, atN [.int 2147483647, .int 2147483629, .int 2147483587, .int 2147483579, .int 2147483563] ((c + 1) % 5) = some (.int pr) ∧ 0 < pr ∧ pr < 2 ^ 31 := by
      have : (c + 1) % 5 = 0 ∨ (c + 1) % 5 = 1 ∨ (c + 1) % 5 = 2 ∨ (c + 1) % 5 = 3 ∨ (c + 1) % 5 = 4 := by omega
      rcases this with e | e | e | e | e <;> rw [e] <;> exact ⟨_, rfl, by decide, by decide⟩
    have l3 : s3[s2.length]? = some (.lst [.int 2147483647, .int 2147483629, .int 2147483587, .int 2147483579, .int 2147483563]) := by rw [es3]; simp
    obtain ⟨bl, hbl⟩ : ∃ bl : Int, bl = (b + c1 * (c + 1) * (c + 1) + c2) ^ 3 % pr := ⟨_, rfl⟩
    have bl0 : 0 ≤ bl ∧ bl < 2 ^ 31 := by
      rw [hbl]
      exact ⟨Int.emod_nonneg _ (by omega), by have := Int.emod_lt_of_pos ((b + c1 * (c + 1) * (c + 1) + c2) ^ 3) hp0; omega⟩
    obtain ⟨v, hv⟩ : ∃ v : Int, v = bl * (bl % c3 + c4 * (c + 1)) / 139 % u := ⟨_, rfl⟩
    have i2 : ∀ {ρ : Env}, ρ[0]? = some (some (.obj k)) → ev ⟨T, callF T wl n, wl, callF T.t0 wl n⟩ (.prim .idx [(.var 0), (.con (.int (2)))]) ρ s3 = .ok (.int (c + 1)) s3 := fun h => ev_q2 (ev_v h) ev_c (prim_idx h3 rfl)
    have i1 : ∀ {ρ : Env}, ρ[0]? = some (some (.obj k)) → ev ⟨T, callF T wl n, wl, callF T.t0 wl n⟩ (.prim .idx [(.var 0), (.con (.int (1)))]) ρ s3 = .ok (.int b) s3 := fun h => ev_q2 (ev_v h) ev_c (prim_idx h3 rfl)
    have w1 : 0 ≤ c1 * (c + 1) ∧ c1 * (c + 1) ≤ 1000000 * 1000001 := ⟨Int.mul_nonneg d1.1 (by omega), Int.mul_le_mul (by omega) (by omega) (by omega) (by decide)⟩
    have w2 : 0 ≤ c1 * (c + 1) * (c + 1) ∧ c1 * (c + 1) * (c + 1) ≤ 1000000 * 1000001 * 1000001 := ⟨Int.mul_nonneg w1.1 (by omega), Int.mul_le_mul w1.2 (by omega) (by omega) (by decide)⟩
    have w4 : 0 ≤ c4 * (c + 1) ∧ c4 * (c + 1) ≤ 1000000 * 1000001 := ⟨Int.mul_nonneg d4.1 (by omega), Int.mul_le_mul (by omega) (by omega) (by omega) (by decide)⟩
    refine fin v a (c + 1) [.lst [.int 2147483647, .int 2147483629, .int 2147483587, .int 2147483579, .int 2147483563]] (by rw [hv]; exact Int.emod_nonneg _ (by omega)) (by rw [hv]; exact Int.emod_lt_of_pos _ (by omega)) ha ⟨by omega, by omega⟩ ?_
    rw [← es2, ← es3]
    refine st_ifF s test (st_setIdx (x := .int (c + 1)) (n := k) (j := 2) (ev_q2 (ev_q2 (ev_v rfl) ev_c (prim_idx hs rfl)) ev_c rfl) (ev_v rfl) ev_c hs ⟨by decide, by simp⟩ ?_)
    show exs _ _ _ (s.set k (.lst [.int a, .int b, .int (c + 1)])) = _
    rw [← es2]
    refine st_asg (.int pr) s3 (ev_p2 (s1 := s3) (x := .obj s2.length) (y := .int ((c + 1) % 5)) (ev_pn (evs_cons ev_c (evs_cons ev_c (evs_cons ev_c (evs_cons ev_c (evs_cons ev_c evs_nil))))) (by rw [es3]; exact newL_run rfl)) (ev_q2 (ev_q1 (i2 rfl) rfl) ev_c (prim_mod (by decide))) (prim_idx l3 hp)) rfl
      (st_asg (.int bl) s3 (ev_q2 (ev_q1 (ev_q2 (ev_q1 (ev_q2 (ev_q2 (i1 rfl) (ev_q2 (ev_q2 ev_c (i2 rfl) (prim_mul (k := 30) (l := 30) (by omega) (by omega) (by decide) (by decide) (by decide))) (i2 rfl) (prim_mul (k := 60) (l := 30) (by omega) (by omega) (by decide) (by decide) (by decide))) rfl) ev_c rfl) rfl) ev_c (prim_pow ⟨by decide, by decide⟩ ?_)) rfl) (ev_v rfl) ?_) rfl
        (st_ret ?_))
    · refine Nat.lt_trans (m := 2 ^ 100) ?_ (by decide +kernel)
      omega
    · rw [hbl]
      exact prim_mod hp0
    · refine ev_q2 (ev_q1 (ev_q2 (ev_q2 (ev_v rfl) (ev_q2 (ev_q2 (ev_q1 (ev_v rfl) rfl) ev_c (prim_mod d3.1)) (ev_q2 ev_c (i2 rfl) (prim_mul (k := 30) (l := 30) (by omega) (by omega) (by decide) (by decide) (by decide))) rfl) (prim_mul (k := 40) (l := 60) (by omega) ?_ (by decide) (by decide) (by decide))) ev_c (prim_fdiv (by decide) (by decide +kernel))) rfl) (ev_v rfl) ?_
      · have := Int.emod_nonneg bl (show c3 ≠ 0 by omega)
        have := Int.emod_lt_of_pos bl d3.1
        omega
      · rw [hv]
        exact prim_mod hu.1
/-- one of a list's items -/
theorem of_ok {t i : Nat} (hO : T.fn i = some (ofFn t)) {k N N' : Nat} {s : Store} {j : Nat} {xs : List D} (take : ∃ (dg : Int) (s' : Store), callF T wl n t [.obj k, .int xs.length] s = .ok (.int dg) s' ∧ 0 ≤ dg ∧ dg < xs.length ∧ Adv k N' s s') (hk : k < s.length) (hj : s[j]? = some (.lst xs)) (ne : j ≠ k) :
    ∃ (x : D) (s' : Store), x ∈ xs ∧ callF T wl (n + 1) i [.obj k, .obj j] s = .ok x s' ∧ Adv k N' s s' := by
  obtain ⟨dg, s', e, d0, d1, av⟩ := take
  have hd : dg.toNat < xs.length := by omega
  have at' : atN xs dg = some xs[dg.toNat] := by
    unfold atN
    rw [if_pos d0, List.getElem?_eq_getElem hd]
  refine ⟨xs[dg.toNat], _, List.getElem_mem hd, ?_, av.trunc hk xs[dg.toNat]⟩
  rw [call_eq hO, run_rt (d := xs[dg.toNat]) (s1 := s') rfl (show 2 ≤ 2 by decide)]
  refine st_ret (ev_p2 (ev_v rfl) (s2 := s') (y := .int dg) ?_ (prim_idx (av.keep j _ ne hj) at'))
  rw [ev_cl (xs := [.obj k, .int xs.length]) (s1 := s) (evs_cons (ev_v rfl) (evs_cons (ev_q1 (ev_v rfl) (prim_len hj)) evs_nil))]
  exact e
end
end G
set_option Elab.async false
set_option linter.all false
set_option maxRecDepth 100000
set_option maxHeartbeats 4000000
/-! G32: runs of comprehensions, loops; equality of data; joined texts. -/
namespace G
open PySem L2
section
variable {ct : Ct} {T : Tab} {wl n : Nat} {s s1 s2 : Store} {σ σ' : Env}
/-- a comprehension whose parts change nothing -/
theorem comp_pureL {g : Gd} {tg : Tg} {own : List Nat} {ifs : Option E} {elt : E} (pf : D → Bool) (f : D → D) (hg : ∀ p ∈ g, s1[p.1]? = some (.lst p.2)) :
    ∀ (r acc : List D), (∀ x ∈ r, ∀ acc : List D, ∃ σ', assign tg x (wipeE σ own) = some σ' ∧ evO ct ifs σ' (s1 ++ [.lst acc]) = .ok (pf x) (s1 ++ [.lst acc]) ∧ (pf x = true → ev ct elt σ' (s1 ++ [.lst acc]) = .ok (f x) (s1 ++ [.lst acc]))) → acc.length + r.length < 1000000 →
      compL g tg own (fun σ => evO ct ifs σ) (fun σ => ev ct elt σ) σ s1.length r (s1 ++ [.lst acc]) = .ok () (s1 ++ [.lst (acc ++ (r.filter pf).map f)])
  | [], acc, h, hl => by
    rw [List.filter_nil, List.map_nil, List.append_nil]
    exact comp_nil (still_ok fun p hp => by rw [List.getElem?_append_left (List.getElem?_eq_some_iff.mp (hg p hp)).1]; exact hg p hp)
  | x :: r, acc, h, hl => by
    have st : still g (s1 ++ [.lst acc]) = .ok () (s1 ++ [.lst acc]) := still_ok fun p hp => by rw [List.getElem?_append_left (List.getElem?_eq_some_iff.mp (hg p hp)).1]; exact hg p hp
    obtain ⟨σ', h1, h2, h3⟩ := h x (by simp) acc
    simp only [List.length_cons] at hl
    cases e : pf x with
    | false =>
      rw [e] at h2
      rw [comp_skip st h1 h2, comp_pureL pf f hg r acc (fun y hy => h y (by simp [hy])) (by omega), List.filter_cons, e]
      rfl
    | true =>
      rw [e] at h2
      rw [comp_step st h1 h2 (h3 e) (acc := acc) (by simp) (Nat.lt_of_lt_of_le (show acc.length < 1000000 by omega) (by decide))]
      have e2 : (s1 ++ [O.lst acc]).set s1.length (.lst (acc ++ [f x])) = s1 ++ [.lst (acc ++ [f x])] := set_len
      rw [e2, comp_pureL pf f hg r (acc ++ [f x]) (fun y hy => h y (by simp [hy])) (by simp; omega), List.filter_cons, e]
      simp
theorem comp_pure {it : It} {g : Gd} {xs : List D} {tg : Tg} {own : List Nat} {ifs : Option E} {elt : E} (pf : D → Bool) (f : D → D) (hw : evI ct it σ s = .ok (xs, g) s1) (hg : ∀ p ∈ g, s1[p.1]? = some (.lst p.2)) (hl : xs.length < 1000000)
    (h : ∀ x ∈ xs, ∀ acc : List D, ∃ σ', assign tg x (wipeE σ own) = some σ' ∧ evO ct ifs σ' (s1 ++ [.lst acc]) = .ok (pf x) (s1 ++ [.lst acc]) ∧ (pf x = true → ev ct elt σ' (s1 ++ [.lst acc]) = .ok (f x) (s1 ++ [.lst acc]))) :
    ev ct (.comp tg own it ifs elt) σ s = .ok (.obj s1.length) (s1 ++ [.lst ((xs.filter pf).map f)]) := by
  show (evI ct it σ >>= _) s = _
  rw [bind_ok hw]
  show (match compL g tg own (fun σ => evO ct ifs σ) (fun σ => ev ct elt σ) σ s1.length xs (s1 ++ [.lst []]) with | .ok _ s' => R.ok (D.obj s1.length) s' | _ => .stuck) = _
  rw [comp_pureL pf f hg xs [] h (by simpa using hl)]
  rfl
/-- .. without a condition -/
theorem comp_map {it : It} {g : Gd} {xs : List D} {tg : Tg} {own : List Nat} {elt : E} (f : D → D) (hw : evI ct it σ s = .ok (xs, g) s1) (hg : ∀ p ∈ g, s1[p.1]? = some (.lst p.2)) (hl : xs.length < 1000000)
    (h : ∀ x ∈ xs, ∀ acc : List D, ∃ σ', assign tg x (wipeE σ own) = some σ' ∧ ev ct elt σ' (s1 ++ [.lst acc]) = .ok (f x) (s1 ++ [.lst acc])) :
    ev ct (.comp tg own it none elt) σ s = .ok (.obj s1.length) (s1 ++ [.lst (xs.map f)]) := by
  have := comp_pure (ifs := none) (fun _ => true) f hw hg hl (fun x hx acc => by
    obtain ⟨σ', h1, h2⟩ := h x hx acc
    exact ⟨σ', h1, rfl, fun _ => h2⟩)
  rw [this, List.filter_eq_self.mpr fun _ _ => rfl]
theorem walk_tup {e : E} {xs : List D} (h : ev ct e σ s = .ok (.tup xs) s1) : evI ct (.seq e) σ s = .ok (xs, []) s1 := by
  show (ev ct e σ >>= walkD) s = _
  rw [bind_ok h]
  rfl
theorem walk_str {e : E} {x : Str} (h : ev ct e σ s = .ok (.str x) s1) : evI ct (.seq e) σ s = .ok (x.cps.toList.map (fun c => .str ⟨#[c]⟩), []) s1 := by
  show (ev ct e σ >>= walkD) s = _
  rw [bind_ok h]
  rfl
theorem walk_lst {e : E} {m : Nat} {xs : List D} (h : ev ct e σ s = .ok (.obj m) s1) (hm : s1[m]? = some (.lst xs)) : evI ct (.seq e) σ s = .ok (xs, [(m, xs)]) s1 := by
  show (ev ct e σ >>= walkD) s = _
  rw [bind_ok h]
  show (getO m >>= _) s1 = _
  rw [bind_ok (getO_some hm)]
  rfl
theorem walk_range {e : E} {z : Int} (h : ev ct e σ s = .ok (.int z) s1) (b : -(2 ^ 62) ≤ z ∧ z < 2 ^ 62) : evI ct (.range1 e) σ s = .ok (intsD 0 z.toNat, []) s1 := by
  show (ev ct e σ >>= _) s = _
  rw [bind_ok h]
  show (need (decide (-(2 ^ 62) ≤ z) && decide (z < 2 ^ 62)) >>= _) s1 = _
  rw [decide_eq_true b.1, decide_eq_true b.2]
  rfl
/-! ### statements -/
theorem st_for {t : Tg} {it : It} {b r : List S} {xs : List D} {g : Gd} {z : R Fl} (hw : evI ct it σ s = .ok (xs, g) s1) (hf : forL g t (fun σ => exs ct b σ) xs σ s1 = .ok (.nx σ') s2) (k : exs ct r σ' s2 = z) : exs ct (.forS t it b :: r) σ s = z := by
  refine (exs_nx (σ1 := σ') (s1 := s2) ?_).trans k
  show eb (evI ct it σ) σ _ s = _
  rw [eb_ok hw]
  exact hf
theorem st_if {e : E} {a b r : List S} {t : Bool} {z : R Fl} (h : evT ct e σ s = .ok t s1) (hb : exs ct (if t then a else b) σ s1 = .ok (.nx σ') s2) (k : exs ct r σ' s2 = z) : exs ct (.ifS e a b :: r) σ s = z := (exs_nx ((ex_if h).trans hb)).trans k
theorem st_end : exs ct [] σ s = .ok (.nx σ) s := rfl
theorem while_stop {test : Env → M Bool} {body : Env → M Fl} {w : Nat} (h : test σ s = .ok false s1) : whileL test body (w + 1) σ s = .ok (.nx σ) s1 := by
  unfold whileL
  rw [h]
theorem while_go {test : Env → M Bool} {body : Env → M Fl} {w : Nat} (h : test σ s = .ok true s1) (hb : body σ s1 = .ok (.nx σ') s2) : whileL test body (w + 1) σ s = whileL test body w σ' s2 := by
  conv => lhs; unfold whileL
  rw [h]
  simp only
  rw [hb]
theorem st_while {e : E} {b r : List S} {z : R Fl} (hf : whileL (fun σ => evT ct e σ) (fun σ => exs ct b σ) ct.w σ s = .ok (.nx σ') s2) (k : exs ct r σ' s2 = z) : exs ct (.whileS e b :: r) σ s = z := (exs_nx (σ1 := σ') (s1 := s2) (by show whileL _ _ ct.w σ s = _; exact hf)).trans k
theorem evT_or {a b : E} {t u : Bool} (h : evT ct a σ s = .ok t s1) (h2 : t = false → evT ct b σ s1 = .ok u s2) (h3 : t = true → u = true ∧ s2 = s1) : evT ct (.or a b) σ s = .ok u s2 := by
  show (evT ct a σ >>= _) s = _
  rw [bind_ok h]
  cases t with
  | true => rw [(h3 rfl).1, (h3 rfl).2]; rfl
  | false => exact h2 rfl
theorem evT_orF {a b : E} {u : Bool} (h : evT ct a σ s = .ok false s1) (h2 : evT ct b σ s1 = .ok u s2) : evT ct (.or a b) σ s = .ok u s2 := by
  show (evT ct a σ >>= _) s = _
  rw [bind_ok h]
  exact h2
theorem evT_andT {a b : E} {u : Bool} (h : evT ct a σ s = .ok true s1) (h2 : evT ct b σ s1 = .ok u s2) : evT ct (.and a b) σ s = .ok u s2 := by
  show (evT ct a σ >>= _) s = _
  rw [bind_ok h]
  exact h2
theorem evT_andF {a b : E} (h : evT ct a σ s = .ok false s1) : evT ct (.and a b) σ s = .ok false s1 := by
  show (evT ct a σ >>= _) s = _
  rw [bind_ok h]
  rfl
theorem evT_not {a : E} {t : Bool} (h : evT ct a σ s = .ok t s1) : evT ct (.not a) σ s = .ok (!t) s1 := by
  show (evT ct a σ >>= _) s = _
  rw [bind_ok h]
  rfl
theorem evT_b {p : Pr} {as : List E} {b : Bool} (h : ev ct (.prim p as) σ s = .ok (.bl b) s1) : evT ct (.prim p as) σ s = .ok b s1 := (evT_p h).trans rfl
theorem ev_ifT {t a b : E} {d : D} (h : evT ct t σ s = .ok true s1) (h2 : ev ct a σ s1 = .ok d s2) : ev ct (.ifx t a b) σ s = .ok d s2 := by
  show (evT ct t σ >>= _) s = _
  rw [bind_ok h]
  exact h2
theorem ev_ifF {t a b : E} {d : D} (h : evT ct t σ s = .ok false s1) (h2 : ev ct b σ s1 = .ok d s2) : ev ct (.ifx t a b) σ s = .ok d s2 := by
  show (evT ct t σ >>= _) s = _
  rw [bind_ok h]
  exact h2
theorem ev_at {a : Nat} {o : E} {x d : D} (h : ev ct o σ s = .ok x s1) (q : attD ct a x s1 = .ok d s2) : ev ct (.att a o) σ s = .ok d s2 := by
  rw [ev_att, bind_ok h]
  exact q
theorem ev_mk {c : Nat} {as : List E} {xs : List D} {d : D} (h : evs ct as σ s = .ok xs s1) (q : makeD ct c xs s1 = .ok d s2) : ev ct (.make c as) σ s = .ok d s2 := by
  rw [ev_make, bind_ok h]
  exact q
theorem asg_ok {i : Nat} {v : D} {ρ : Env} (h : i < ρ.length) : assign (.n i) v ρ = some (ρ.set i (some v)) := by
  show (match Nat.blt i ρ.length with | true => some (ρ.set i (some v)) | false => none) = _
  rw [Nat.blt_eq.mpr h]
theorem run_nx {f : Fn} {args : List D} (h1 : args.length = f.pars) (h2 : f.pars ≤ f.names) (h : exs ct f.body (args.map some ++ List.replicate (f.names - f.pars) none) s = .ok (.nx σ') s1) : runFn ct f args s = .ok .non (trunc s .non s1) := by
  unfold runFn
  rw [if_pos ⟨h1, h2⟩, h]

/-! ### equality of data -/
theorem eqD_dat {a b : D} {p q : PyData} (hm : methOf ct a mEq s = .ok none s) (ha : toP s deep a = some p) (hb : toP s deep b = some q) (h1 : SeqAt.shaped p = true) (h2 : SeqAt.shaped q = true) : eqD ct a b s = .ok (PyData.eqv p q) s := by
  unfold eqD
  rw [bind_ok hm]
  show (match toP s deep a, toP s deep b with | some p, some q => if SeqAt.shaped p && SeqAt.shaped q then R.ok (PyData.eqv p q) s else .stuck | _, _ => .stuck) = _
  rw [ha, hb]
  simp only
  rw [if_pos (by rw [h1, h2]; rfl)]
theorem prim_eq {a b : D} {t : Bool} (h : eqD ct a b s = .ok t s1) : prim ct .eq [a, b] s = .ok (.bl t) s1 := by
  show (eqD ct a b >>= _) s = _
  rw [bind_ok h]
  rfl
theorem prim_ne {a b : D} {t : Bool} (h : eqD ct a b s = .ok t s1) : prim ct .ne [a, b] s = .ok (.bl (!t)) s1 := by
  show (eqD ct a b >>= _) s = _
  rw [bind_ok h]
  rfl
theorem shaped_str {x : Str} (h : PyData.strOk x = true) : SeqAt.shaped (.str x) = true := by
  unfold SeqAt.shaped
  show (PyData.strOk x && decide (0 ≤ 64)) = true
  rw [h]
  rfl
theorem eq_str {x y : Str} (hx : PyData.strOk x = true) (hy : PyData.strOk y = true) : eqD ct (.str x) (.str y) s = .ok (x == y) s := eqD_dat (p := .str x) (q := .str y) rfl rfl rfl (shaped_str hx) (shaped_str hy)
theorem eq_int {i j : Int} : eqD ct (.int i) (.int j) s = .ok (i == j) s := eqD_dat (p := .int i) (q := .int j) rfl rfl rfl rfl rfl
theorem oAll_strs (s : Store) (k : Nat) : ∀ (xs : List Str), oAll ((xs.map D.str).map (toP s (k + 1))) = some (xs.map PyData.str)
  | [] => rfl
  | x :: xs => by
    rw [List.map_cons, List.map_cons, List.map_cons, show toP s (k + 1) (.str x) = some (.str x) from rfl, oAll.eq_2, oAll_strs s k xs]
theorem toP_tups (s : Store) (xs : List Str) : toP s deep (.tup (xs.map D.str)) = some (.tuple (xs.map PyData.str)) := by
  show toP s (39 + 1) _ = _
  unfold toP
  simp only
  rw [oAll_strs s 38 xs]
  rfl
theorem toP_lsts {m : Nat} {xs : List Str} (h : s[m]? = some (.lst (xs.map D.str))) : toP s deep (.obj m) = some (.list (xs.map PyData.str)) := by
  show toP s (39 + 1) _ = _
  unfold toP
  simp only
  rw [h]
  simp only
  rw [oAll_strs s 38 xs]
  rfl
theorem shaped_strs {xs : List Str} (h : ∀ x ∈ xs, PyData.strOk x = true) : SeqAt.shaped (.list (xs.map PyData.str)) = true ∧ SeqAt.shaped (.tuple (xs.map PyData.str)) = true := by
  have h1 : ∀ xs : List Str, (∀ x ∈ xs, PyData.strOk x = true) → PyData.canLayAll0 (xs.map PyData.str) = true := fun xs => by
    induction xs with
    | nil => intro _; rfl
    | cons x xs ih =>
      intro h
      show (PyData.strOk x && _) = true
      rw [h x (by simp), ih fun y hy => h y (by simp [hy])]
      rfl
  have h2 : ∀ xs : List Str, PyData.depthAll (xs.map PyData.str) = 0 := fun xs => by
    induction xs with
    | nil => rfl
    | cons x xs ih =>
      show max 0 _ = 0
      rw [ih]
      rfl
  unfold SeqAt.shaped
  constructor
  · show (PyData.canLayAll0 (xs.map PyData.str) && decide (PyData.depthAll (xs.map PyData.str) + 1 ≤ 64)) = true
    rw [h1 xs h, h2]
    rfl
  · show (PyData.canLayAll0 (xs.map PyData.str) && decide (PyData.depthAll (xs.map PyData.str) + 1 ≤ 64)) = true
    rw [h1 xs h, h2]
    rfl
theorem eqv_strs : ∀ (xs ys : List Str), PyData.eqvAll (xs.map PyData.str) (ys.map PyData.str) = decide (xs = ys)
  | [], [] => rfl
  | [], _ :: _ => by simp [PyData.eqvAll]
  | _ :: _, [] => by simp [PyData.eqvAll]
  | x :: xs, y :: ys => by
    show (PyData.eqv (.str x) (.str y) && _) = _
    rw [eqv_strs xs ys]
    show ((x == y) && decide (xs = ys)) = _
    by_cases h : x = y
    · subst h
      by_cases h2 : xs = ys
      · subst h2; simp
      · simp [h2]
    · have : (x == y) = false := by simp [h]
      rw [this]
      simp [h]
theorem eq_lsts {m j : Nat} {xs ys : List Str} (hm : s[m]? = some (.lst (xs.map D.str))) (hj : s[j]? = some (.lst (ys.map D.str))) (hx : ∀ x ∈ xs, PyData.strOk x = true) (hy : ∀ x ∈ ys, PyData.strOk x = true) : eqD ct (.obj m) (.obj j) s = .ok (decide (xs = ys)) s := by
  rw [eqD_dat (meth_lst hm) (toP_lsts hm) (toP_lsts hj) (shaped_strs hx).1 (shaped_strs hy).1]
  show R.ok (PyData.eqvAll _ _) s = _
  rw [eqv_strs]
theorem eq_tups {xs ys : List Str} (hx : ∀ x ∈ xs, PyData.strOk x = true) (hy : ∀ x ∈ ys, PyData.strOk x = true) : eqD ct (.tup (xs.map D.str)) (.tup (ys.map D.str)) s = .ok (decide (xs = ys)) s := by
  rw [eqD_dat rfl (toP_tups s xs) (toP_tups s ys) (shaped_strs hx).2 (shaped_strs hy).2]
  show R.ok (PyData.eqvAll _ _) s = _
  rw [eqv_strs]
theorem lt_strs (n : Nat) : ∀ (xs : List Str), D.ltL n (xs.map D.str) = true
  | [] => rfl
  | x :: xs => by
    show (true && D.ltL n (xs.map D.str)) = true
    rw [lt_strs n xs]
    rfl

/-! ### joined texts -/
theorem joinL_all {P : Nat → Prop} {sep : List Nat} (h1 : ∀ c ∈ sep, P c) : ∀ (ps : List (List Nat)), (∀ p ∈ ps, ∀ c ∈ p, P c) → ∀ c ∈ TL.joinL sep ps, P c
  | [], _, c, hc => by simp [TL.joinL] at hc
  | [p], h, c, hc => h p (by simp) c (by simpa [TL.joinL] using hc)
  | p :: q :: r, h, c, hc => by
    have hc' : c ∈ p ++ (sep ++ TL.joinL sep (q :: r)) := by simpa [TL.joinL] using hc
    rcases List.mem_append.mp hc' with z | z
    · exact h p (by simp) c z
    · rcases List.mem_append.mp z with z | z
      · exact h1 c z
      · exact joinL_all h1 (q :: r) (fun p hp => h p (by simp [hp])) c z
theorem tl_join' (y : Str) (xs : List Str) : (Txt.join y xs).cps.toList = TL.joinL y.cps.toList (xs.map fun x => x.cps.toList) := by
  rw [TL.join_eq]
  exact TL.tl_join y xs
theorem strOk_list {x : Str} : PyData.strOk x = true ↔ ∀ c ∈ x.cps.toList, c < 0x110000 := by
  unfold PyData.strOk
  rw [← Array.all_toList, List.all_eq_true]
  constructor
  · exact fun h c hc => of_decide_eq_true (h c hc)
  · exact fun h c hc => decide_eq_true (h c hc)
theorem strOk_join {y : Str} {xs : List Str} (hy : PyData.strOk y = true) (hx : ∀ x ∈ xs, PyData.strOk x = true) : PyData.strOk (Txt.join y xs) = true := by
  rw [strOk_list, tl_join']
  refine joinL_all (strOk_list.mp hy) _ fun p hp => ?_
  obtain ⟨x, h1, rfl⟩ := List.mem_map.mp hp
  exact strOk_list.mp (hx x h1)
theorem sum_le {l : List Nat} {b : Nat} (h : ∀ x ∈ l, x ≤ b) : l.sum ≤ l.length * b := by
  induction l with
  | nil => simp
  | cons x l ih =>
    rw [List.sum_cons, List.length_cons, Nat.succ_mul]
    have := h x (by simp)
    have := ih fun y hy => h y (by simp [hy])
    omega
theorem strsD_map : ∀ (xs : List Str), strsD (xs.map D.str) = some xs
  | [] => rfl
  | x :: xs => by
    rw [List.map_cons]
    unfold strsD
    rw [strsD_map xs]
theorem join_ok {y : Str} {xs : List Str} (hy : y.length ≤ 100) (hx : ∀ x ∈ xs, x.length ≤ 100) (hl : xs.length ≤ 1000) : joinD (.str y) (xs.map D.str) s = .ok (.str (Txt.join y xs)) s := by
  unfold joinD
  rw [strsD_map]
  simp only
  have h1 : (xs.map (·.length)).sum ≤ xs.length * 100 := by
    have := sum_le (l := xs.map (·.length)) (b := 100) (fun z hz => by
      obtain ⟨x, h1, rfl⟩ := List.mem_map.mp hz
      exact hx x h1)
    rwa [List.length_map] at this
  have h2 : y.length * xs.length ≤ 100 * 1000 := Nat.mul_le_mul hy hl
  have h3 : xs.length * 100 ≤ 1000 * 100 := Nat.mul_le_mul_right _ hl
  have e : Nat.ble ((xs.map (·.length)).sum + y.length * xs.length) line = true := Nat.ble_eq_true_of_le (Nat.le_trans (show _ ≤ 200000 by omega) (by decide))
  show (need (Nat.ble ((xs.map (·.length)).sum + y.length * xs.length) line) >>= _) s = _
  rw [e]
  rfl
theorem joinT_ok {y : Str} {xs : List Str} (hy : y.length ≤ 100) (hx : ∀ x ∈ xs, x.length ≤ 100) (hl : xs.length ≤ 1000) : prim ct .join [.str y, .tup (xs.map D.str)] s = .ok (.str (Txt.join y xs)) s := join_ok hy hx hl
theorem joinLs_ok {y : Str} {m : Nat} {xs : List Str} (hm : s[m]? = some (.lst (xs.map D.str))) (hy : y.length ≤ 100) (hx : ∀ x ∈ xs, x.length ≤ 100) (hl : xs.length ≤ 1000) : prim ct .join [.str y, .obj m] s = .ok (.str (Txt.join y xs)) s := by
  show (seqOf (.obj m) >>= _) s = _
  have e : seqOf (.obj m) s = .ok (xs.map D.str) s := by
    show (getO m >>= _) s = _
    rw [bind_ok (getO_some hm)]
    rfl
  rw [bind_ok e]
  exact join_ok hy hx hl
theorem ev_join {y : Str} {e : E} {d z : D} (h : ev ct e σ s = .ok d s1) (q : prim ct .join [.str y, d] s1 = .ok z s2) : ev ct (.bm .join (.con (.str y)) [e]) σ s = .ok z s2 := by
  rw [ev_bm]
  rw [bind_ok ev_c, bind_ok (m := recvOk .join (.str y)) (s' := s) (a := ()) rfl, bind_ok (evs_cons h evs_nil)]
  exact q
end
end G
set_option Elab.async false
set_option linter.all false
set_option maxRecDepth 100000
set_option maxHeartbeats 4000000
/-! G33: a law of cells; more steps. -/
namespace G
open PySem L2
section
variable {ct : Ct} {T : Tab} {wl n : Nat} {s s1 s2 : Store} {σ σ' : Env}
theorem bools_map {α : Type} {f : α → D} {g : α → Bool} {l : List α} (h : ∀ x ∈ l, f x = .bl (g x)) : bools (l.map f) = some (l.map g) := by
  induction l with
  | nil => rfl
  | cons x l ih =>
    rw [List.map_cons, h x (by simp)]
    unfold bools
    rw [ih fun y hy => h y (by simp [hy])]
    rfl
theorem all1_ok {m : Nat} {l : List D} {bs : List Bool} (hm : s[m]? = some (.lst l)) (h : bools l = some bs) : prim ct .all1 [.obj m] s = .ok (.bl (bs.all id)) s := by
  show (getO m >>= _) s = _
  rw [bind_ok (getO_some hm)]
  show (match bools l with | some l => (pure (.bl (l.all id)) : M D) | none => stuck) s = _
  rw [h]
  rfl
theorem any1_ok {m : Nat} {l : List D} {bs : List Bool} (hm : s[m]? = some (.lst l)) (h : bools l = some bs) : prim ct .any1 [.obj m] s = .ok (.bl (bs.any id)) s := by
  show (getO m >>= _) s = _
  rw [bind_ok (getO_some hm)]
  show (match bools l with | some l => (pure (.bl (l.any id)) : M D) | none => stuck) s = _
  rw [h]
  rfl
theorem st_push {i m : Nat} {xs : List D} {y : D} {e : E} {r : List S} {z : R Fl} (hσ : σ[i]? = some (some (.obj m))) (hr : s[m]? = some (.lst xs)) (he : ev ct e σ s = .ok y s1) (hm : s1[m]? = some (.lst xs)) (hl : xs.length < line)
    (k : exs ct r σ (s1.set m (.lst (xs ++ [y]))) = z) : exs ct (.expr (.bm .append (.var i) [e]) :: r) σ s = z := by
  refine st_expr .non (s1.set m (.lst (xs ++ [y]))) ?_ k
  rw [ev_bm, bind_ok (ev_v hσ)]
  have e0 : recvOk .append (.obj m) s = .ok () s := by
    show (getO m >>= _) _ = _
    rw [bind_ok (getO_some hr)]
    rfl
  rw [bind_ok e0, bind_ok (evs_cons he evs_nil)]
  exact append_ok hm hl
/-- a slice of a list -/
theorem slc_lst {o : E} {lo hi : Option E} {m : Nat} {xs ys : List D} {a b : Option Int} (ho : ev ct o σ s = .ok (.obj m) s) (hm : s[m]? = some (.lst xs)) (hlo : evP ct lo σ s = .ok a s) (hhi : evP ct hi σ s = .ok b s) (hc : cutD xs a b = ys) (hl : ys.length ≤ line) : ev ct (.slc o lo hi) σ s = .ok (.obj s.length) (s ++ [.lst ys]) := by
  show (ev ct o σ >>= _) s = _
  rw [bind_ok ho]
  show (evP ct lo σ >>= _) s = _
  rw [bind_ok hlo]
  show (evP ct hi σ >>= _) s = _
  rw [bind_ok hhi]
  show (getO m >>= _) s = _
  rw [bind_ok (getO_some hm)]
  show newL (cutD xs a b) s = _
  rw [hc]
  exact newL_run (Nat.ble_eq_true_of_le hl)
theorem evP_none : evP ct none σ s = .ok none s := rfl
theorem evP_int {e : E} {i : Int} (h : ev ct e σ s = .ok (.int i) s1) : evP ct (some e) σ s = .ok (some i) s1 := by
  show (ev ct e σ >>= partD) s = _
  rw [bind_ok h]
  rfl
theorem cut_lo {xs : List D} (i : Nat) : cutD xs (some (i : Int)) none = xs.drop i := by
  unfold cutD
  rw [HT.sIx_none, HT.sIx_nat]
  by_cases h : i ≤ xs.length
  · rw [Nat.min_eq_left h, List.take_of_length_le (by rw [List.length_drop]; omega)]
  · rw [List.drop_of_length_le (by omega), List.drop_of_length_le (by omega), List.take_nil]
theorem cut_hi {xs : List D} (i : Nat) : cutD xs none (some (i : Int)) = xs.take i := by
  unfold cutD
  rw [HT.sIx_none, HT.sIx_nat, List.drop_zero, Nat.sub_zero]
  by_cases h : i ≤ xs.length
  · rw [Nat.min_eq_left h]
  · rw [List.take_of_length_le (by omega), List.take_of_length_le (by omega)]
theorem add_lsts {m j : Nat} {xs ys : List D} (hm : s[m]? = some (.lst xs)) (hj : s[j]? = some (.lst ys)) (hl : (xs ++ ys).length ≤ line) : prim ct .add [.obj m, .obj j] s = .ok (.obj s.length) (s ++ [.lst (xs ++ ys)]) := by
  show (getO m >>= _) s = _
  rw [bind_ok (getO_some hm)]
  show (getO j >>= _) s = _
  rw [bind_ok (getO_some hj)]
  exact newL_run (Nat.ble_eq_true_of_le hl)
theorem walk_zip {a b : E} {m j : Nat} {xs ys : List D} (ha : ev ct a σ s = .ok (.obj m) s1) (hb : ev ct b σ s1 = .ok (.obj j) s2) (hm : s2[m]? = some (.lst xs)) (hj : s2[j]? = some (.lst ys)) : evI ct (.zip a b) σ s = .ok (pairsD xs ys, [(m, xs), (j, ys)]) s2 := by
  show (ev ct a σ >>= _) s = _
  rw [bind_ok ha]
  show (ev ct b σ >>= _) s1 = _
  rw [bind_ok hb]
  show (getO m >>= _) s2 = _
  rw [bind_ok (getO_some hm)]
  show (getO j >>= _) s2 = _
  rw [bind_ok (getO_some hj)]
  rfl
theorem pairs_len : ∀ (xs ys : List D), (pairsD xs ys).length ≤ xs.length
  | [], _ => Nat.le_refl _
  | _ :: _, [] => Nat.zero_le _
  | x :: xs, y :: ys => Nat.succ_le_succ (pairs_len xs ys)
theorem pairs_mem : ∀ {xs ys : List D} {p : D}, p ∈ pairsD xs ys → ∃ a b, p = .tup [a, b] ∧ a ∈ xs ∧ b ∈ ys
  | [], _, p, h => nomatch h
  | _ :: _, [], p, h => nomatch h
  | x :: xs, y :: ys, p, h => by
    rcases List.mem_cons.mp h with e | e
    · exact ⟨x, y, e, by simp, by simp⟩
    · obtain ⟨a, b, e1, h1, h2⟩ := pairs_mem e
      exact ⟨a, b, e1, by simp [h1], by simp [h2]⟩
theorem list1_lst {m : Nat} {xs : List D} (hm : s[m]? = some (.lst xs)) (hl : xs.length ≤ line) : prim ct .list1 [.obj m] s = .ok (.obj s.length) (s ++ [.lst xs]) := by
  show (seqOf (.obj m) >>= _) s = _
  have e : seqOf (.obj m) s = .ok xs s := by
    show (getO m >>= _) s = _
    rw [bind_ok (getO_some hm)]
    rfl
  rw [bind_ok e]
  exact newL_run (Nat.ble_eq_true_of_le hl)
theorem slRev_lst {m : Nat} {xs : List D} (hm : s[m]? = some (.lst xs)) (hl : xs.length ≤ line) : prim ct .slRev [.obj m] s = .ok (.obj s.length) (s ++ [.lst xs.reverse]) := by
  show (getO m >>= _) s = _
  rw [bind_ok (getO_some hm)]
  exact newL_run (Nat.ble_eq_true_of_le (by rw [List.length_reverse]; exact hl))
/-- a test that two things differ, and they don't -/
theorem neF {a b : E} {x y : D} (h1 : ev ct a σ s = .ok x s1) (h2 : ev ct b σ s1 = .ok y s2) (q : eqD ct x y s2 = .ok true s2) : evT ct (.prim .ne [a, b]) σ s = .ok false s2 := evT_b (ev_p2 h1 h2 (prim_ne q))
theorem at_app {g : Store} {i : Nat} {o : O} (h : s[i]? = some o) : (s ++ g)[i]? = some o := by
  rw [List.getElem?_append_left (List.getElem?_eq_some_iff.mp h).1]
  exact h
/-- the law of the cells -/
def lawFn (c p r : Nat) (w : Int) : Fn := ⟨2, 1, [
  (.ret (.prim .all1 [(.comp (.n 1) [1] (.seq (.call c [(.var 0), (.con (.int w))])) none (.call r [(.call p [(.var 0), (.var 1)])]))]))]⟩
section
variable {ns : List Int} {c p r f : Nat}
theorem turnsG {all : List D} (pot : ∀ (p' : Nat) (s : Store), p' ≤ 100 → ∃ o : O, callF T wl n p [.scr ns, .int p'] s = .ok (.obj s.length) (s ++ [o]) ∧ Pot s.length 0 (s ++ [o]))
    (right : ∀ (k : Nat) (s : Store), Pot k 0 s → ∃ (N : Nat) (s' : Store), callF T wl n r [.obj k] s = .ok (.bl true) s' ∧ Adv k N s s') :
    ∀ (xs acc : List D) (st : Store), (∀ v ∈ xs, ∃ p : Nat, p ≤ 100 ∧ v = .int p) → (∀ v ∈ acc, v = .bl true) → acc.length + xs.length < 1000 → 2 ≤ st.length → st[0]? = some (.lst all) → st[1]? = some (.lst acc) →
      ∃ (acc' : List D) (st' : Store), compL [(0, all)] (.n 1) [1] (fun σ => evO ⟨T, callF T wl n, wl, callF T.t0 wl n⟩ none σ) (fun σ => ev ⟨T, callF T wl n, wl, callF T.t0 wl n⟩ (.call r [(.call p [(.var 0), (.var 1)])]) σ) [some (.scr ns), none] 1 xs st = .ok () st' ∧ st'[1]? = some (.lst acc') ∧ ∀ v ∈ acc', v = .bl true
  | [], acc, st, _, ha, _, _, h0, h1 => ⟨acc, st, comp_nil (still_one h0), h1, ha⟩
  | x :: xs, acc, st, hx, ha, hl, h2, h0, h1 => by
    rw [List.length_cons] at hl
    obtain ⟨q, hq, rfl⟩ := hx x (by simp)
    obtain ⟨o, e, hp⟩ := pot q st hq
    obtain ⟨N, s', e', av⟩ := right st.length (st ++ [o]) hp
    have k0 := av.keep 0 _ (by omega) (at_app h0)
    have k1 := av.keep 1 _ (by omega) (at_app h1)
    have l1 : 1 < s'.length := (List.getElem?_eq_some_iff.mp k1).1
    obtain ⟨acc', st', e3, h3, h4⟩ := turnsG (all := all) pot right xs (acc ++ [.bl true]) (s'.set 1 (.lst (acc ++ [.bl true]))) (fun v hv => hx v (by simp [hv])) (fun v hv => by
      rcases List.mem_append.mp hv with z | z
      · exact ha v z
      · simpa using z) (by simp; omega) (by rw [List.length_set]; omega) (by rw [List.getElem?_set_ne (by decide)]; exact k0) (List.getElem?_set_self l1)
    refine ⟨acc', st', ?_, h3, h4⟩
    rw [comp_step (σ' := [some (.scr ns), some (.int q)]) (s1 := st) (s2 := s') (y := .bl true) (acc := acc) (still_one h0) rfl rfl ?_ k1 (Nat.lt_of_lt_of_le (show acc.length < 1000 by omega) (by decide))]
    · exact e3
    · show ev _ (.call r [.call p [.var 0, .var 1]]) _ _ = _
      rw [ev_cl (evs_cons (x := .obj st.length) (s1 := st ++ [o]) ?_ evs_nil)]
      · exact e'
      · rw [ev_cl (evs_cons (ev_v rfl) (evs_cons (ev_v rfl) evs_nil))]
        exact e
theorem bools_true : ∀ (acc : List D), (∀ v ∈ acc, v = .bl true) → ∃ l, bools acc = some l ∧ l.all id = true
  | [], _ => ⟨[], rfl, rfl⟩
  | v :: acc, h => by
    obtain ⟨l, e, t⟩ := bools_true acc fun w hw => h w (by simp [hw])
    have := h v (by simp)
    subst this
    refine ⟨true :: l, ?_, by simp [t]⟩
    unfold bools
    rw [e]
theorem good_law {w : Nat} (hw : w ≤ 60) (hT : T.fn f = some (lawFn c p r w))
    (cells : ∀ s : Store, ∃ j : Nat, j ≤ w ∧ callF T wl n c [.scr ns, .int w] s = .ok (.obj s.length) (s ++ [.lst (intsD 0 j)]))
    (pot : ∀ (p' : Nat) (s : Store), p' ≤ 100 → ∃ o : O, callF T wl n p [.scr ns, .int p'] s = .ok (.obj s.length) (s ++ [o]) ∧ Pot s.length 0 (s ++ [o]))
    (right : ∀ (k : Nat) (s : Store), Pot k 0 s → ∃ (N : Nat) (s' : Store), callF T wl n r [.obj k] s = .ok (.bl true) s' ∧ Adv k N s s') : Good T wl (n + 1) f ns := by
  obtain ⟨j, hj, e⟩ := cells []
  obtain ⟨acc, st, et, h1, h2⟩ := turnsG (all := intsD 0 j) pot right (intsD 0 j) [] [.lst (intsD 0 j), .lst []] (fun v hv => by
    obtain ⟨i, hi, rfl⟩ := List.getElem_of_mem hv
    obtain ⟨h1, h2⟩ := intsD_get 0 j i _ (List.getElem?_eq_getElem hi)
    exact ⟨i, by omega, by rw [h2]; simp⟩) (fun v hv => nomatch hv) (by rw [intsD_len]; simp; omega) (by simp) rfl rfl
  obtain ⟨l, hb, ht⟩ := bools_true acc h2
  have ec : ev ⟨T, callF T wl n, wl, callF T.t0 wl n⟩ (.comp (.n 1) [1] (.seq (.call c [(.var 0), (.con (.int w))])) none (.call r [(.call p [(.var 0), (.var 1)])])) [some (.scr ns), none] [] = .ok (.obj 1) st := by
    show (evI _ (.seq (.call c [(.var 0), (.con (.int w))])) _ >>= _) [] = _
    have e1 : evI ⟨T, callF T wl n, wl, callF T.t0 wl n⟩ (.seq (.call c [(.var 0), (.con (.int w))])) [some (.scr ns), none] [] = .ok (intsD 0 j, [(0, intsD 0 j)]) [.lst (intsD 0 j)] := by
      refine walk_lst ?_ rfl
      rw [ev_cl (evs_cons (ev_v rfl) (evs_cons ev_c evs_nil))]
      exact e
    rw [bind_ok e1]
    show (match compL [(0, intsD 0 j)] (.n 1) [1] (fun σ => evO ⟨T, callF T wl n, wl, callF T.t0 wl n⟩ none σ) (fun σ => ev ⟨T, callF T wl n, wl, callF T.t0 wl n⟩ (.call r [(.call p [(.var 0), (.var 1)])]) σ) [some (.scr ns), none] 1 (intsD 0 j) [.lst (intsD 0 j), .lst []] with | .ok _ s' => R.ok (D.obj 1) s' | _ => .stuck) = _
    rw [et]
  have ea : prim ⟨T, callF T wl n, wl, callF T.t0 wl n⟩ .all1 [.obj 1] st = .ok (.bl true) st := by
    rw [all1_ok h1 hb, ht]
  exact ⟨_, (call_eq hT).trans (run_rt (d := .bl true) (s1 := st) rfl (show 1 ≤ 2 by decide) (st_ret (ev_p1 ec ea)))⟩
end
end
end G
set_option Elab.async false
set_option linter.all false
set_option maxRecDepth 100000
set_option maxHeartbeats 4000000
/-! G34: reprs, values of any kind, drawn values. -/
namespace G
open PySem L2
section
variable {ct : Ct} {T : Tab} {wl n : Nat} {s s1 s2 : Store} {σ σ' : Env}
/-! ### texts -/
theorem strOk_app {x y : Str} (hx : PyData.strOk x = true) (hy : PyData.strOk y = true) : PyData.strOk (x ++ y) = true := by
  rw [strOk_list] at hx hy ⊢
  intro c hc
  have e : (x ++ y).cps.toList = x.cps.toList ++ y.cps.toList := Array.toList_append
  rw [e] at hc
  rcases List.mem_append.mp hc with z | z
  · exact hx c z
  · exact hy c z
theorem char_lt (c : Char) : c.toNat < 0x110000 := by
  have := c.valid
  unfold UInt32.isValidChar Nat.isValidChar at this
  unfold Char.toNat
  omega
theorem strOk_sx (x : String) : PyData.strOk (sx x) = true := by
  rw [strOk_list]
  intro c hc
  have e : (sx x).cps.toList = x.toList.map Char.toNat := by
    show (PySem.Str.ofString x).cps.toList = _
    rw [PySem.Str.ofString_eq_toList]
  rw [e] at hc
  obtain ⟨ch, _, rfl⟩ := List.mem_map.mp hc
  exact char_lt ch
theorem reprChar_lt {q c : Nat} (hc : c < 0x110000) : ∀ d ∈ Builtin.Str.reprChar q c, d < 0x110000 := by
  intro d hd
  have hx : ∀ (w : Nat) (l : List Char), d ∈ List.replicate w 48 ++ l.map Char.toNat → d < 0x110000 := fun w l h => by
    rcases List.mem_append.mp h with z | z
    · have := (List.mem_replicate.mp z).2
      omega
    · obtain ⟨ch, _, rfl⟩ := List.mem_map.mp z
      exact char_lt ch
  unfold Builtin.Str.reprChar at hd
  simp only at hd
  split at hd
  · simp at hd; omega
  split at hd
  · simp at hd; omega
  split at hd
  · simp at hd; omega
  split at hd
  · simp at hd; omega
  split at hd
  · simp at hd; omega
  split at hd
  · rcases List.mem_append.mp hd with z | z
    · simp at z; omega
    · exact hx _ _ z
  split at hd
  · rcases List.mem_append.mp hd with z | z
    · simp at z; omega
    · exact hx _ _ z
  · rcases List.mem_append.mp hd with z | z
    · simp at z; omega
    · exact hx _ _ z
theorem fold_all {q : Nat} {P : Nat → Prop} : ∀ (l : List Nat) (acc : Array Nat), (∀ c ∈ acc.toList, P c) → (∀ c ∈ l, ∀ d ∈ Builtin.Str.reprChar q c, P d) → ∀ d ∈ (l.foldl (fun out c => out ++ (Builtin.Str.reprChar q c).toArray) acc).toList, P d
  | [], acc, h, _ => h
  | c :: l, acc, h, h2 => by
    rw [List.foldl_cons]
    refine fold_all l _ (fun d hd => ?_) fun c' hc => h2 c' (by simp [hc])
    rw [Array.toList_append] at hd
    rcases List.mem_append.mp hd with z | z
    · exact h d z
    · exact h2 c (by simp) d (by simpa using z)
theorem reprText_ok {x : Str} (h : PyData.strOk x = true) : PyData.strOk (reprText x) = true := by
  have hq : reprQuote x = 39 ∨ reprQuote x = 34 := by
    unfold reprQuote
    split
    · exact .inr rfl
    · exact .inl rfl
  rw [strOk_list]
  intro c hc
  unfold reprText at hc
  rw [← Array.foldl_toList, Array.toList_push] at hc
  rcases List.mem_append.mp hc with z | z
  · refine fold_all (P := fun c => c < 0x110000) _ _ (fun c hc => ?_) (fun c hc d hd => ?_) c z
    · have : c = reprQuote x := by simpa using hc
      rcases hq with e | e <;> omega
    · exact reprChar_lt (strOk_list.mp h c hc) d hd
  · have : c = reprQuote x := by simpa using z
    rcases hq with e | e <;> omega
theorem reprText_le {x : Str} (h : PyData.strOk x = true) : (reprText x).length ≤ 10 * x.length + 2 := StrLaws.reprText_len x fun c hc => by
  have := strOk_list.mp h c hc
  omega
/-! ### reprs -/
def okP (p : PyData) : Bool := (okTop p && (decide (p.depth ≤ 64) && Nat.ble (PyData.shown p).length line)) && PyData.strOk (PyData.shown p)
theorem repr_of {v : D} {p : PyData} (hm : methOf ct v mRepr s = .ok none s) (ht : toP s deep v = some p) (ho : okP p = true) (hrp : ct.T.rp = true := by first | rfl | assumption) : prim ct .repr [v] s = .ok (.str (PyData.shown p)) s := by
  show (methOf ct v mRepr >>= _) s = _
  rw [bind_ok hm]
  have old : reprN ct v s = reprD v s := by
    unfold reprN
    rw [hrp]
    cases v <;> first | rfl | skip
    simp only [ht]
  show reprN ct v s = _
  rw [old]
  show (match toP s deep v with | some p => if okTop p && (decide (p.depth ≤ 64) && Nat.ble (PyData.shown p).length line) then R.ok (D.str (PyData.shown p)) s else .stuck | none => .stuck) = _
  rw [ht]
  simp only
  rw [if_pos (Bool.and_eq_true_iff.mp ho).1]
theorem okP_str {p : PyData} (ho : okP p = true) : PyData.strOk (PyData.shown p) = true := (Bool.and_eq_true_iff.mp ho).2
theorem okP_text {x : Str} (h : PyData.strOk x = true) (hl : x.length ≤ 1000000) : okP (.str x) = true := by
  have e : PyData.shown (.str x) = reprText x := rfl
  unfold okP
  rw [e, reprText_ok h, show okTop (.str x) = true from rfl]
  have := reprText_le h
  rw [Nat.ble_eq_true_of_le (Nat.le_trans this (Nat.le_trans (show _ ≤ 10000002 by omega) (by decide)))]
  rfl
theorem repr_str {x : Str} (h : PyData.strOk x = true) (hl : x.length ≤ 1000000) (hrp : ct.T.rp = true := by first | rfl | assumption) : prim ct .repr [.str x] s = .ok (.str (reprText x)) s := repr_of rfl rfl (okP_text h hl)
/-! ### values without objects -/
theorem ltL_all {n : Nat} : ∀ {xs : List D}, D.ltL n xs = true ↔ ∀ x ∈ xs, D.lt n x = true
  | [] => by simp [D.ltL]
  | x :: xs => by
    rw [show D.ltL n (x :: xs) = (D.lt n x && D.ltL n xs) from rfl, Bool.and_eq_true, ltL_all (xs := xs)]
    simp
theorem toP_imm : ∀ (n : Nat) (d : D) (s : Store), D.lt 0 d = true → toP s n d = toP [] n d
  | 0, _, _, _ => rfl
  | n + 1, d, s, h => by
    unfold toP
    cases d with
    | tup xs =>
      simp only
      rw [List.map_congr_left fun x hx => toP_imm n x s (ltL_all.mp h x hx)]
    | obj k => exact absurd (Nat.blt_eq.mp h) (Nat.not_lt_zero _)
    | _ => rfl
mutual
theorem lt_mono {m n : Nat} (hmn : m ≤ n) : ∀ (d : D), D.lt m d = true → D.lt n d = true
  | .tup xs, h => ltL_mono hmn xs h
  | .obj k, h => Nat.blt_eq.mpr (Nat.lt_of_lt_of_le (Nat.blt_eq.mp h) hmn)
  | .ins _ xs, h => ltL_mono hmn xs h
  | .exc _ v, h => lt_mono hmn v h
  | .non, _ => rfl
  | .bl _, _ => rfl
  | .int _, _ => rfl
  | .str _, _ => rfl
  | .fn _, _ => rfl
  | .cls _, _ => rfl
  | .ty _, _ => rfl
  | .scr _, _ => rfl
theorem ltL_mono {m n : Nat} (hmn : m ≤ n) : ∀ (xs : List D), D.ltL m xs = true → D.ltL n xs = true
  | [], _ => rfl
  | x :: xs, h => by
    have h' : (D.lt m x && D.ltL m xs) = true := h
    rw [Bool.and_eq_true] at h'
    show (D.lt n x && D.ltL n xs) = true
    rw [lt_mono hmn x h'.1, ltL_mono hmn xs h'.2]
    rfl
end
/-- a value whose type is told -/
def Val (s : Store) (v : D) : Prop := ∃ u, tyOf s v = some u
def datB (o : Option PyData) : Bool := match o with
  | some p => okP p
  | none => false
theorem datB_some {o : Option PyData} (h : datB o = true) : ∃ p, o = some p ∧ okP p = true := by
  cases o with
  | none => cases h
  | some p => exact ⟨p, rfl, h⟩
/-- a text is short -/
def smB : D → Bool
  | .str x => PyData.strOk x && decide (x.length ≤ 100)
  | _ => true
/-- data without objects -/
def immB (v : D) : Bool := ((D.lt 0 v && (tyOf [] v).isSome) && datB (toP [] deep v)) && smB v
theorem imm_str {x : Str} (h : immB (.str x) = true) : PyData.strOk x = true ∧ x.length ≤ 100 := by
  unfold immB at h
  rw [Bool.and_eq_true] at h
  have := h.2
  unfold smB at this
  rwa [Bool.and_eq_true, decide_eq_true_eq] at this
theorem ty_imm {v : D} (h : D.lt 0 v = true) (s : Store) : tyOf s v = tyOf [] v ∧ (∀ c, clsOf s v = some c → clsOf [] v = some c) := by
  cases v with
  | obj k => exact absurd (Nat.blt_eq.mp h) (Nat.not_lt_zero _)
  | _ => exact ⟨rfl, fun _ h => h⟩
theorem cls_ty {v : D} {u : String} (h : tyOf s v = some u) : clsOf s v = none := by
  cases v with
  | obj k =>
    replace h : (match s[k]? with | some (.lst _) => some "list" | some (.dic _) => some "dict" | _ => none) = some u := h
    show (match s[k]? with | some (.sl c _) => some c | some (.ins c _) => some c | _ => none) = none
    split at h
    · rename_i e; rw [e]
    · rename_i e; rw [e]
    · cases h
  | ins c xs => cases h
  | _ => rfl
theorem meth_ty {v : D} {u : String} {m : Nat} (h : tyOf s v = some u) : methOf ct v m s = .ok none s := by
  unfold methOf
  rw [cls_ty h]
theorem imm_inv {v : D} (h : immB v = true) : D.lt 0 v = true ∧ (∀ s, Val s v) ∧ ∃ p, okP p = true ∧ ∀ s, toP s deep v = some p := by
  unfold immB at h
  simp only [Bool.and_eq_true] at h
  obtain ⟨⟨⟨h1, h2⟩, h3⟩, _⟩ := h
  obtain ⟨p, e, ho⟩ := datB_some h3
  refine ⟨h1, fun s => ?_, p, ho, fun s => by rw [toP_imm _ _ _ h1]; exact e⟩
  rw [Val, (ty_imm h1 s).1]
  exact Option.isSome_iff_exists.mp h2
/-- a list or a dict of such -/
def objB (o : O) : Bool := (match o with
  | .lst xs => D.ltL 0 xs
  | .dic kvs => kvs.all fun p => D.lt 0 p.1 && D.lt 0 p.2
  | _ => false) && datB (toP [o] deep (.obj 0))
theorem obj_inv {o : O} (h : objB o = true) : ∃ p, okP p = true ∧ ∀ (s : Store) (m : Nat), s[m]? = some o → Val s (.obj m) ∧ toP s deep (.obj m) = some p := by
  unfold objB at h
  rw [Bool.and_eq_true] at h
  obtain ⟨p, e, ho⟩ := datB_some h.2
  refine ⟨p, ho, fun s m hm => ?_⟩
  have h1 := h.1
  cases o with
  | lst xs =>
    have hx := ltL_all.mp h1
    refine ⟨⟨"list", by unfold tyOf; simp only; rw [hm]⟩, ?_⟩
    rw [← e]
    show toP s (39 + 1) _ = toP [O.lst xs] (39 + 1) _
    unfold toP
    simp only
    rw [hm]
    simp only [List.getElem?_cons_zero]
    rw [List.map_congr_left fun x hx' => (toP_imm 39 x s (hx x hx')).trans (toP_imm 39 x [O.lst xs] (hx x hx')).symm]
  | dic kvs =>
    have hx : ∀ p ∈ kvs, D.lt 0 p.1 = true ∧ D.lt 0 p.2 = true := fun p hp => by
      have := List.all_eq_true.mp h1 p hp
      rwa [Bool.and_eq_true] at this
    refine ⟨⟨"dict", by unfold tyOf; simp only; rw [hm]⟩, ?_⟩
    rw [← e]
    show toP s (39 + 1) _ = toP [O.dic kvs] (39 + 1) _
    unfold toP
    simp only
    rw [hm]
    simp only [List.getElem?_cons_zero]
    rw [List.map_congr_left fun (x : D × D) hx' => (toP_imm 39 x.1 s (hx x hx').1).trans (toP_imm 39 x.1 [O.dic kvs] (hx x hx').1).symm,
      List.map_congr_left fun (x : D × D) hx' => (toP_imm 39 x.2 s (hx x hx').2).trans (toP_imm 39 x.2 [O.dic kvs] (hx x hx').2).symm]
  | _ => cases h1
/-- a value of any kind, none of it in the pot at k -/
def OD (k : Nat) (s : Store) (v : D) : Prop := immB v = true ∨ ∃ m o, v = .obj m ∧ m ≠ k ∧ s[m]? = some o ∧ objB o = true
theorem OD.adv {k N : Nat} {v : D} (h : OD k s v) (av : Adv k N s s1) : OD k s1 v := by
  rcases h with h | ⟨m, o, e, nk, hm, ho⟩
  · exact .inl h
  · exact .inr ⟨m, o, e, nk, av.keep m o nk hm, ho⟩
theorem OD.str {k : Nat} {x : Str} (h : OD k s (.str x)) : PyData.strOk x = true ∧ x.length ≤ 100 := by
  rcases h with h | ⟨m, o, e, _⟩
  · exact imm_str h
  · cases e
theorem OD.val {k : Nat} {v : D} (h : OD k s v) : Val s v := by
  rcases h with h | ⟨m, o, rfl, _, hm, ho⟩
  · exact (imm_inv h).2.1 s
  · exact ((obj_inv ho).choose_spec.2 s m hm).1
theorem OD.lt {k : Nat} {v : D} (h : OD k s v) : D.lt s.length v = true := by
  rcases h with h | ⟨m, o, rfl, _, hm, ho⟩
  · exact lt_mono (Nat.zero_le _) v (imm_inv h).1
  · exact Nat.blt_eq.mpr (List.getElem?_eq_some_iff.mp hm).1
theorem OD.repr {k : Nat} {v : D} (h : OD k s v) : ∃ r, PyData.strOk r = true ∧ ∀ ct : Ct, ct.T.rp = true → prim ct .repr [v] s = .ok (.str r) s := by
  obtain ⟨u, hu⟩ := h.val
  rcases h with h | ⟨m, o, rfl, _, hm, ho⟩
  · obtain ⟨_, _, p, ok, e⟩ := imm_inv h
    exact ⟨_, okP_str ok, fun ct _ => repr_of (meth_ty hu) (e s) ok⟩
  · obtain ⟨p, ok, e⟩ := obj_inv ho
    exact ⟨_, okP_str ok, fun ct _ => repr_of (meth_ty hu) (e s m hm).2 ok⟩
/-! ### expressions that tell such values -/
def ElOk (ct : Ct) (k : Nat) (σ : Env) (P : Store → D → Prop) (e : E) : Prop := ∀ (s : Store) (N : Nat), Pot k N s → ∃ d s', ev ct e σ s = .ok d s' ∧ P s' d ∧ Adv k N s s'
def Keeps (k : Nat) (P : Store → D → Prop) : Prop := ∀ (s s' : Store) (N : Nat) (d : D), P s d → Adv k N s s' → P s' d
theorem OD.keeps {k : Nat} : Keeps k (OD k) := fun _ _ _ _ h av => h.adv av
theorem el_imm {k : Nat} {e : E} {v : D} {P : Store → D → Prop} (h : ∀ s, ev ct e σ s = .ok v s) (hv : ∀ s, P s v) : ElOk ct k σ P e := fun s N hp => ⟨v, s, h s, hv s, .refl hp⟩
theorem el_od {k : Nat} {e : E} {v : D} (h : ∀ s, ev ct e σ s = .ok v s) (hv : immB v = true) : ElOk ct k σ (OD k) e := el_imm h fun _ => .inl hv
theorem el_lst {k : Nat} {es : List E} {xs : List D} (h : ∀ s, evs ct es σ s = .ok xs s) (hl : xs.length ≤ 1000) (ho : objB (.lst xs) = true) : ElOk ct k σ (OD k) (.prim .lst es) := fun s N hp =>
  ⟨.obj s.length, s ++ [.lst xs], ev_pn (h s) ((congrFun (prim_lst xs) s).trans (newL_run (Nat.ble_eq_true_of_le (Nat.le_trans hl (by decide))))), .inr ⟨_, _, rfl, by have := hp.lt; omega, at_len, ho⟩, .app hp _⟩
theorem el_dic0 {k : Nat} : ElOk ct k σ (OD k) (.prim .dic0 []) := fun s N hp =>
  ⟨.obj s.length, s ++ [.dic []], ev_pn evs_nil rfl, .inr ⟨_, _, rfl, by have := hp.lt; omega, at_len, by kernel_rfl⟩, .app hp _⟩
theorem el_dicS {k : Nat} {es : List E} {ks xs : List D} (h : ∀ s, evs ct es σ s = .ok xs s) (q : ∀ s, prim ct (.dicS ks) xs s = .ok (.obj s.length) (s ++ [.dic (ks.zip xs)])) (ho : objB (.dic (ks.zip xs)) = true) : ElOk ct k σ (OD k) (.prim (.dicS ks) es) := fun s N hp =>
  ⟨.obj s.length, s ++ [.dic (ks.zip xs)], ev_pn (h s) (q s), .inr ⟨_, _, rfl, by have := hp.lt; omega, at_len, ho⟩, .app hp _⟩
theorem els_ok {k : Nat} {P : Store → D → Prop} (hP : Keeps k P) : ∀ {es : List E}, (∀ e ∈ es, ElOk ct k σ P e) → ∀ (s : Store) (N : Nat), Pot k N s → ∃ xs s', evs ct es σ s = .ok xs s' ∧ (∀ x ∈ xs, P s' x) ∧ xs.length = es.length ∧ Adv k N s s'
  | [], _, s, N, hp => ⟨[], s, evs_nil, (fun _ h => nomatch h), rfl, .refl hp⟩
  | e :: es, h, s, N, hp => by
    obtain ⟨d, s1, e1, p1, a1⟩ := h e (by simp) s N hp
    obtain ⟨xs, s2, e2, p2, l2, a2⟩ := els_ok (es := es) hP (fun e he => h e (List.mem_cons_of_mem _ he)) s1 N a1.pot
    refine ⟨d :: xs, s2, evs_cons e1 e2, fun x hx => ?_, by rw [List.length_cons, List.length_cons, l2], a1.trans a2⟩
    rcases List.mem_cons.mp hx with rfl | hx
    · exact hP _ _ _ _ p1 a2
    · exact p2 x hx
/-- .. a list of them -/
theorem el_list {k : Nat} {P : Store → D → Prop} (hP : Keeps k P) {es : List E} (h : ∀ e ∈ es, ElOk ct k σ P e) (hl : es.length ≤ 1000) {s : Store} {N : Nat} (hp : Pot k N s) : ∃ m xs s', ev ct (.prim .lst es) σ s = .ok (.obj m) s' ∧ s.length ≤ m ∧ s'[m]? = some (.lst xs) ∧ (∀ x ∈ xs, P s' x) ∧ xs.length = es.length ∧ Adv k N s s' := by
  obtain ⟨xs, s1, e1, p1, l1, a1⟩ := els_ok hP h s N hp
  have a2 : Adv k N s1 (s1 ++ [.lst xs]) := .app a1.pot _
  refine ⟨s1.length, xs, s1 ++ [.lst xs], ev_pn e1 ((congrFun (prim_lst xs) s1).trans (newL_run (Nat.ble_eq_true_of_le (by rw [l1]; exact Nat.le_trans hl (by decide))))), a1.len, at_len, fun x hx => hP _ _ _ _ (p1 x hx) a2, l1, a1.trans a2⟩
/-! ### a drawn value of any kind -/
def oddEs1 : List E := [(.con .non), (.con (.bl true)), (.con (.bl false)), (.con (.int (0))), (.con (.int (1))), (.prim .neg [(.con (.int (1)))]), (.con (.int (7))), (.prim .pow [(.con (.int (10))), (.con (.int (8)))]), (.con (.str (sx ""))), (.con (.str (sx "a"))), (.con (.str (sx "p"))), (.con (.str (sx "mirror q"))), (.prim .tup []), (.prim .lst []), (.prim .dic0 []), (.prim .tup [(.con (.int (0)))]), (.prim .tup [(.prim .tup [])]), (.prim .lst [(.con (.int (0)))]), (.prim .tup [(.con (.int (0))), (.con (.int (0)))])]
def oddEs2 : List E := [(.prim .tup [(.con (.str (sx "a")))]), (.prim .tup [(.con (.str (sx "always")))]), (.con (.str (sx "a a"))), (.con (.str (sx "mirror a"))), (.prim .tup [(.con (.int (1))), (.con (.int (0))), (.con (.int (0)))]), (.prim .tup [(.con .non)]), (.prim .tup [(.con (.str (sx "same")))]), (.con (.str (sx "row"))), (.prim (.dicS [(.str (sx "a"))]) [(.con (.int (1)))])]
def oddFn (i : Nat) : Fn := ⟨2, 1, [
  (.asg (.n 1) (.prim .lst oddEs1)),
  (.asg (.n 1) (.prim .add [(.var 1), (.prim .lst oddEs2)])),
  (.ret (.call i [(.var 0), (.var 1)]))]⟩
theorem odd_els1 {k : Nat} : ∀ e ∈ oddEs1, ElOk ct k σ (OD k) e := by
  have tup : ∀ {es : List E} {xs : List D}, (∀ s, evs ct es σ s = .ok xs s) → (∀ s, prim ct .tup xs s = .ok (.tup xs) s) → immB (.tup xs) = true → ElOk ct k σ (OD k) (.prim .tup es) := fun h q i => el_od (fun s => ev_pn (h s) (q s)) i
  unfold oddEs1
  simp only [List.forall_mem_cons]
  exact ⟨el_od (fun _ => ev_c) (by kernel_rfl), el_od (fun _ => ev_c) (by kernel_rfl), el_od (fun _ => ev_c) (by kernel_rfl), el_od (fun _ => ev_c) (by kernel_rfl), el_od (fun _ => ev_c) (by kernel_rfl),
    el_od (v := .int (-1)) (fun _ => ev_q1 ev_c rfl) (by kernel_rfl), el_od (fun _ => ev_c) (by kernel_rfl), el_od (v := .int (10 ^ 8)) (fun _ => ev_q2 ev_c ev_c (by kernel_rfl)) (by kernel_rfl),
    el_od (fun _ => ev_c) (by kernel_rfl), el_od (fun _ => ev_c) (by kernel_rfl), el_od (fun _ => ev_c) (by kernel_rfl), el_od (fun _ => ev_c) (by kernel_rfl),
    tup (fun _ => evs_nil) (fun _ => rfl) (by kernel_rfl), el_lst (fun _ => evs_nil) (by decide) (by kernel_rfl), el_dic0,
    tup (fun _ => evs_cons ev_c evs_nil) (fun _ => rfl) (by kernel_rfl), tup (fun _ => evs_cons (ev_pn (d := .tup []) evs_nil rfl) evs_nil) (fun _ => rfl) (by kernel_rfl),
    el_lst (fun _ => evs_cons ev_c evs_nil) (by decide) (by kernel_rfl), tup (fun _ => evs_cons ev_c (evs_cons ev_c evs_nil)) (fun _ => rfl) (by kernel_rfl), fun _ h => nomatch h⟩
theorem odd_els2 {k : Nat} : ∀ e ∈ oddEs2, ElOk ct k σ (OD k) e := by
  have tup : ∀ {es : List E} {xs : List D}, (∀ s, evs ct es σ s = .ok xs s) → (∀ s, prim ct .tup xs s = .ok (.tup xs) s) → immB (.tup xs) = true → ElOk ct k σ (OD k) (.prim .tup es) := fun h q i => el_od (fun s => ev_pn (h s) (q s)) i
  unfold oddEs2
  simp only [List.forall_mem_cons]
  exact ⟨tup (fun _ => evs_cons ev_c evs_nil) (fun _ => rfl) (by kernel_rfl), tup (fun _ => evs_cons ev_c evs_nil) (fun _ => rfl) (by kernel_rfl), el_od (fun _ => ev_c) (by kernel_rfl), el_od (fun _ => ev_c) (by kernel_rfl),
    tup (fun _ => evs_cons ev_c (evs_cons ev_c (evs_cons ev_c evs_nil))) (fun _ => rfl) (by kernel_rfl), tup (fun _ => evs_cons ev_c evs_nil) (fun _ => rfl) (by kernel_rfl), tup (fun _ => evs_cons ev_c evs_nil) (fun _ => rfl) (by kernel_rfl),
    el_od (fun _ => ev_c) (by kernel_rfl), el_dicS (fun _ => evs_cons ev_c evs_nil) (fun _ => rfl) (by kernel_rfl), fun _ h => nomatch h⟩
/-- what `_law_of` does -/
def OfOk (T : Tab) (wl n i : Nat) : Prop := ∀ (k N : Nat) (s : Store) (j : Nat) (xs : List D), Pot k N s → N ≤ 1000000 → 0 < xs.length → xs.length < 1000 → s[j]? = some (.lst xs) → j ≠ k → ∃ (x : D) (s' : Store), x ∈ xs ∧ callF T wl n i [.obj k, .obj j] s = .ok x s' ∧ Adv k (N + 1) s s'
/-- .. and a value of any kind -/
def OddOk (T : Tab) (wl n i : Nat) : Prop := ∀ (k N : Nat) (s : Store), Pot k N s → N ≤ 100000 → ∃ (v : D) (s' : Store), callF T wl n i [.obj k] s = .ok v s' ∧ OD k s' v ∧ Adv k (N + 1) s s'
theorem od_trunc {k : Nat} {v : D} (h : OD k s1 v) : OD k (trunc s v s1) v := by
  unfold trunc
  split
  · rename_i q
    rcases h with h | ⟨m, o, rfl, nk, hm, ho⟩
    · exact .inl h
    · refine .inr ⟨m, o, rfl, nk, ?_, ho⟩
      have lm : m < s.length := Nat.blt_eq.mp q.2
      have e := q.1
      rw [← e, List.getElem?_take_of_lt lm]
      exact hm
  · exact h
theorem odd_ok {o i : Nat} (hT : T.fn i = some (oddFn o)) (of_ : OfOk T wl n o) : OddOk T wl (n + 1) i := fun k N s hp hN => by
  obtain ⟨m1, l1, t1, e1, h1, k1, p1, c1, a1⟩ := el_list (ct := ⟨T, callF T wl n, wl, callF T.t0 wl n⟩) (σ := [some (.obj k), none]) OD.keeps odd_els1 (by decide) hp
  obtain ⟨m2, l2, t2, e2, h2, k2, p2, c2, a2⟩ := el_list (ct := ⟨T, callF T wl n, wl, callF T.t0 wl n⟩) (σ := [some (.obj k), some (.obj m1)]) OD.keeps odd_els2 (by decide) a1.pot
  have lk := hp.lt
  have ne1 : m1 ≠ k := by omega
  have k1' := a2.keep m1 _ ne1 k1
  have n1 : l1.length = 19 := c1
  have n2 : l2.length = 9 := c2
  have a3 : Adv k N t2 (t2 ++ [.lst (l1 ++ l2)]) := .app a2.pot _
  have x3 : ev ⟨T, callF T wl n, wl, callF T.t0 wl n⟩ (.prim .add [(.var 1), (.prim .lst oddEs2)]) [some (.obj k), some (.obj m1)] t1 = .ok (.obj t2.length) (t2 ++ [.lst (l1 ++ l2)]) := ev_p2 (ev_v rfl) e2 (add_lsts k1' k2 (by rw [List.length_append, n1, n2]; decide))
  have l2' := a2.len
  have l1' := a1.len
  obtain ⟨v, s', hv, e, av⟩ := of_ k N _ t2.length (l1 ++ l2) a3.pot (by omega) (by rw [List.length_append, n1, n2]; decide) (by rw [List.length_append, n1, n2]; decide) at_len (by omega)
  have od : OD k s' v := by
    rcases List.mem_append.mp hv with h | h
    · exact ((((p1 v h).adv a2).adv a3)).adv av
    · exact ((p2 v h).adv a3).adv av
  refine ⟨v, _, ?_, od_trunc od, (((a1.trans a2).trans a3).trans av).trunc lk v⟩
  rw [call_eq hT, run_rt (d := v) (s1 := s') rfl (show 1 ≤ 2 by decide)]
  refine st_asg _ _ e1 rfl (st_asg _ _ x3 rfl (st_ret ?_))
  rw [ev_cl (evs_cons (ev_v rfl) (evs_cons (ev_v rfl) evs_nil))]
  exact e
/-- what `_law_take` does -/
def TakeOk (T : Tab) (wl n i : Nat) : Prop := ∀ (k N : Nat) (s : Store) (u : Int), Pot k N s → N ≤ 1000000 → 0 < u → u < 1000000000 → ∃ (dg : Int) (s' : Store), callF T wl n i [.obj k, .int u] s = .ok (.int dg) s' ∧ 0 ≤ dg ∧ dg < u ∧ Adv k (N + 1) s s'
theorem ofOk {t i : Nat} (hT : T.fn i = some (ofFn t)) (take : TakeOk T wl n t) : OfOk T wl (n + 1) i := fun k N s j xs hp hN h0 h1 hj ne =>
  of_ok (N := N) (t := t) (i := i) (xs := xs) hT (take k N s xs.length hp hN (by omega) (by omega)) hp.lt hj ne
/-- one of a list that is made there -/
theorem pick_ {o k N : Nat} {P : Store → D → Prop} (of_ : OfOk T wl n o) (hP : Keeps k P) {es : List E} (h0 : σ[0]? = some (some (.obj k))) (h : ∀ e ∈ es, ElOk ⟨T, callF T wl n, wl, callF T.t0 wl n⟩ k σ P e) (hl : 0 < es.length ∧ es.length < 1000) (hp : Pot k N s) (hN : N ≤ 1000000) :
    ∃ x s', ev ⟨T, callF T wl n, wl, callF T.t0 wl n⟩ (.call o [(.var 0), (.prim .lst es)]) σ s = .ok x s' ∧ P s' x ∧ Adv k (N + 1) s s' := by
  obtain ⟨m, xs, t, e, hm, km, p, c, a⟩ := el_list hP h (by omega) hp
  obtain ⟨x, s', hx, e2, av⟩ := of_ k N t m xs a.pot hN (by omega) (by omega) km (by have := hp.lt; omega)
  refine ⟨x, s', ?_, hP _ _ _ _ (p x hx) av, a.trans av⟩
  rw [ev_cl (evs_cons (ev_v h0) (evs_cons e evs_nil))]
  exact e2
end
end G
set_option Elab.async false
set_option linter.all false
set_option maxRecDepth 100000
set_option maxHeartbeats 4000000
/-! G35: what holds behind a run: rules, and a tactic that goes by them. -/
namespace G
open PySem L2
section
variable {α β : Type}
/-- behind a run Q holds of what it tells, or X of what it raises -/
@[irreducible] def wp (m : M α) (Q : α → Store → Prop) (X : Nat → D → Store → Prop) (s : Store) : Prop := match m s with
  | .ok a s' => Q a s'
  | .exc c v s' => X c v s'
  | .stuck => False
abbrev noX : Nat → D → Store → Prop := fun _ _ _ => False
variable {m : M α} {Q Q' : α → Store → Prop} {X X' : Nat → D → Store → Prop} {s s1 s2 : Store} {a : α} {c : Nat} {v : D}
theorem wp_of {m' : M α} (h : m = m') (k : wp m' Q X s) : wp m Q X s := by
  rw [h]
  exact k
theorem wp_eq (h : m s = .ok a s1) (k : Q a s1) : wp m Q X s := by
  unfold wp
  rw [h]
  with_unfolding_all exact k
theorem wp_eqX (h : m s = .exc c v s1) (k : X c v s1) : wp m Q X s := by
  unfold wp
  rw [h]
  with_unfolding_all exact k
theorem wp_ok (h : wp m Q noX s) : ∃ a s', m s = .ok a s' ∧ Q a s' := by
  unfold wp at h
  cases e : m s with
  | ok a s' => rw [e] at h; with_unfolding_all exact ⟨a, s', rfl, h⟩
  | exc c v s' => rw [e] at h; with_unfolding_all exact h.elim
  | stuck => rw [e] at h; with_unfolding_all exact h.elim
theorem wp_inv (h : wp m Q X s) : (∃ a s', m s = .ok a s' ∧ Q a s') ∨ ∃ c v s', m s = .exc c v s' ∧ X c v s' := by
  unfold wp at h
  cases e : m s with
  | ok a s' => rw [e] at h; with_unfolding_all exact .inl ⟨a, s', rfl, h⟩
  | exc c v s' => rw [e] at h; with_unfolding_all exact .inr ⟨c, v, s', rfl, h⟩
  | stuck => rw [e] at h; with_unfolding_all exact h.elim
theorem wp_mono (h : wp m Q' X' s) (q : ∀ a s', Q' a s' → Q a s') (x : ∀ c v s', X' c v s' → X c v s') : wp m Q X s := by
  unfold wp at h ⊢
  cases e : m s with
  | ok a s' => rw [e] at h; with_unfolding_all exact q _ _ h
  | exc c v s' => rw [e] at h; with_unfolding_all exact x _ _ _ h
  | stuck => rw [e] at h; with_unfolding_all exact h.elim
theorem wp_bind {f : α → M β} {Q : β → Store → Prop} (h : wp m (fun a s1 => wp (f a) Q X s1) X s) : wp (m >>= f) Q X s := by
  unfold wp at h ⊢
  rw [bind_run]
  cases e : m s with
  | ok a s' => rw [e] at h; with_unfolding_all exact h
  | exc c v s' => rw [e] at h; with_unfolding_all exact h
  | stuck => rw [e] at h; with_unfolding_all exact h
theorem wp_pure (k : Q a s) : wp (pure a) Q X s := by with_unfolding_all exact wp_eq rfl k
theorem wp_need {b : Bool} {Q : Unit → Store → Prop} (h : b = true) (k : Q () s) : wp (need b) Q X s := by
  rw [h]
  with_unfolding_all exact k
theorem wp_getO {n : Nat} {o : O} {Q : O → Store → Prop} (h : s[n]? = some o) (k : Q o s) : wp (getO n) Q X s := by with_unfolding_all exact wp_eq (getO_some h) k
theorem wp_newL {xs : List D} {Q : D → Store → Prop} (h : xs.length ≤ line) (k : Q (.obj s.length) (s ++ [.lst xs])) : wp (newL xs) Q X s := by with_unfolding_all exact wp_eq (newL_run (Nat.ble_eq_true_of_le h)) k
end
section
variable {ct : Ct} {σ : Env} {s : Store} {Q : D → Store → Prop} {X : Nat → D → Store → Prop}
/-- by a Bool -/
def cs (b : Bool) (P1 P2 : Prop) : Prop := match b with
  | true => P1
  | false => P2
theorem csT {b : Bool} {P1 P2 : Prop} (h : b = true) (k : P1) : cs b P1 P2 := by
  subst h
  with_unfolding_all exact k
theorem csF {b : Bool} {P1 P2 : Prop} (h : b = false) (k : P2) : cs b P1 P2 := by
  subst h
  with_unfolding_all exact k
theorem csC {b : Bool} {P1 P2 : Prop} (k1 : b = true → P1) (k2 : b = false → P2) : cs b P1 P2 := by
  cases b with
  | true => with_unfolding_all exact k1 rfl
  | false => with_unfolding_all exact k2 rfl
theorem line_of {n : Nat} (h : n ≤ 1000000) : n ≤ line := by with_unfolding_all exact Nat.le_trans h (by decide)
theorem noG {s : Store} : ∀ p ∈ ([] : Gd), s[p.1]? = some (.lst p.2) := by with_unfolding_all exact fun _ h => nomatch h
/-! ### expressions -/
theorem wp_var {i : Nat} {d : D} (h : σ[i]? = some (some d)) (k : Q d s) : wp (ev ct (.var i) σ) Q X s := by with_unfolding_all exact wp_eq (ev_v h) k
theorem wp_con {d : D} (k : Q d s) : wp (ev ct (.con d) σ) Q X s := by with_unfolding_all exact wp_eq rfl k
theorem wp_evs0 {Q : List D → Store → Prop} (k : Q [] s) : wp (evs ct [] σ) Q X s := by with_unfolding_all exact wp_eq rfl k
theorem wp_evs1 {e : E} {es : List E} {Q : List D → Store → Prop} (k : wp (ev ct e σ) (fun x s1 => wp (evs ct es σ) (fun xs s2 => Q (x :: xs) s2) X s1) X s) : wp (evs ct (e :: es) σ) Q X s := by
  with_unfolding_all show wp (ev ct e σ >>= fun x => (evs ct es σ >>= fun xs => pure (x :: xs))) Q X s
  with_unfolding_all exact wp_bind (wp_mono k (fun _ _ h => wp_bind h) fun _ _ _ h => h)
theorem wp_prim {p : Pr} {as : List E} (k : wp (evs ct as σ) (fun xs s1 => wp (prim ct p xs) Q X s1) X s) : wp (ev ct (.prim p as) σ) Q X s := by
  rw [ev_prim]
  with_unfolding_all exact wp_bind k
theorem wp_bm {p : Pr} {o : E} {as : List E} (k : wp (ev ct o σ) (fun x s1 => wp (recvOk p x) (fun _ s2 => wp (evs ct as σ) (fun xs s3 => wp (prim ct p (x :: xs)) Q X s3) X s2) X s1) X s) : wp (ev ct (.bm p o as) σ) Q X s := by
  rw [ev_bm]
  with_unfolding_all exact wp_bind (wp_mono k (fun _ _ h => wp_bind (wp_mono h (fun _ _ h => wp_bind h) fun _ _ _ h => h)) fun _ _ _ h => h)
theorem wp_call {f : Nat} {as : List E} (k : wp (evs ct as σ) (fun xs s1 => wp (ct.call f xs) Q X s1) X s) : wp (ev ct (.call f as) σ) Q X s := by
  rw [ev_call]
  with_unfolding_all exact wp_bind k
theorem wp_make {c : Nat} {as : List E} (k : wp (evs ct as σ) (fun xs s1 => wp (makeD ct c xs) Q X s1) X s) : wp (ev ct (.make c as) σ) Q X s := by
  rw [ev_make]
  with_unfolding_all exact wp_bind k
theorem wp_att {a : Nat} {o : E} (k : wp (ev ct o σ) (fun x s1 => wp (attD ct a x) Q X s1) X s) : wp (ev ct (.att a o) σ) Q X s := by
  rw [ev_att]
  with_unfolding_all exact wp_bind k
/-- a method's def -/
def mth (ct : Ct) (s : Store) (x : D) (m : Nat) : Option Nat := match clsOf s x with
  | some c => ct.T.meth c m
  | none => none
def Mth (ct : Ct) (s : Store) (x : D) (m : Nat) (Q : Nat → Prop) : Prop := match mth ct s x m with | some f => Q f | none => False
theorem mth_ {x : D} {m f : Nat} {Q : Nat → Prop} (h : mth ct s x m = some f) (k : Q f) : Mth ct s x m Q := by
  unfold Mth
  rw [h]
  with_unfolding_all exact k
theorem wp_meth {m : Nat} {o : E} {as : List E} (k : wp (ev ct o σ) (fun x s1 => Mth ct s1 x m fun f => wp (evs ct as σ) (fun xs s2 => wp (ct.call f (x :: xs)) Q X s2) X s1) X s) : wp (ev ct (.meth m o as) σ) Q X s := by
  with_unfolding_all show wp (ev ct o σ >>= fun x => methOf ct x m >>= fun f => match f with | some f => (evs ct as σ >>= fun xs => ct.call f (x :: xs)) | none => stuck) Q X s
  with_unfolding_all refine wp_bind (wp_mono k (fun x s1 h => ?_) fun _ _ _ h => h)
  with_unfolding_all refine wp_bind (wp_eq (a := mth ct s1 x m) (s1 := s1) rfl ?_)
  unfold Mth at h
  cases e : mth ct s1 x m with
  | none => rw [e] at h; with_unfolding_all exact h.elim
  | some f => rw [e] at h; with_unfolding_all exact wp_bind h
theorem wp_and {a b : E} (k : wp (ev ct a σ) (fun x s1 => wp (truth x) (fun t s2 => cs t (wp (ev ct b σ) Q X s2) (Q x s2)) X s1) X s) : wp (ev ct (.and a b) σ) Q X s := by
  with_unfolding_all show wp (ev ct a σ >>= fun x => truth x >>= fun t => match t with | true => ev ct b σ | false => pure x) Q X s
  with_unfolding_all exact wp_bind (wp_mono k (fun _ _ h => wp_bind (wp_mono h (fun t _ h => by cases t <;> with_unfolding_all exact h) fun _ _ _ h => h)) fun _ _ _ h => h)
theorem wp_or {a b : E} (k : wp (ev ct a σ) (fun x s1 => wp (truth x) (fun t s2 => cs t (Q x s2) (wp (ev ct b σ) Q X s2)) X s1) X s) : wp (ev ct (.or a b) σ) Q X s := by
  with_unfolding_all show wp (ev ct a σ >>= fun x => truth x >>= fun t => match t with | true => pure x | false => ev ct b σ) Q X s
  with_unfolding_all exact wp_bind (wp_mono k (fun _ _ h => wp_bind (wp_mono h (fun t _ h => by cases t <;> with_unfolding_all exact h) fun _ _ _ h => h)) fun _ _ _ h => h)
theorem wp_not {a : E} (k : wp (ev ct a σ) (fun x s1 => wp (truth x) (fun t s2 => cs t (Q (.bl false) s2) (Q (.bl true) s2)) X s1) X s) : wp (ev ct (.not a) σ) Q X s := by
  with_unfolding_all show wp (ev ct a σ >>= fun x => truth x >>= fun t => pure (.bl (!t))) Q X s
  with_unfolding_all exact wp_bind (wp_mono k (fun _ _ h => wp_bind (wp_mono h (fun t _ h => by cases t <;> with_unfolding_all exact h) fun _ _ _ h => h)) fun _ _ _ h => h)
theorem wp_ifx {t a b : E} (k : wp (evT ct t σ) (fun t s1 => cs t (wp (ev ct a σ) Q X s1) (wp (ev ct b σ) Q X s1)) X s) : wp (ev ct (.ifx t a b) σ) Q X s := by
  with_unfolding_all show wp (evT ct t σ >>= fun t => match t with | true => ev ct a σ | false => ev ct b σ) Q X s
  with_unfolding_all exact wp_bind (wp_mono k (fun t _ h => by cases t <;> with_unfolding_all exact h) fun _ _ _ h => h)
theorem wp_chain {p q : Pr} {a b c : E} (k : wp (ev ct a σ) (fun x s1 => wp (ev ct b σ) (fun y s2 => wp (prim ct p [x, y]) (fun z s3 => wp (asB z) (fun t s4 => cs t (wp (ev ct c σ) (fun z s5 => wp (prim ct q [y, z]) Q X s5) X s4) (Q (.bl false) s4)) X s3) X s2) X s1) X s) : wp (ev ct (.chain p q a b c) σ) Q X s := by
  with_unfolding_all show wp (ev ct a σ >>= fun x => ev ct b σ >>= fun y => prim ct p [x, y] >>= fun z => asB z >>= fun t => match t with | true => (ev ct c σ >>= fun z => prim ct q [y, z]) | false => pure (.bl false)) Q X s
  with_unfolding_all refine wp_bind (wp_mono k (fun _ _ h => wp_bind (wp_mono h (fun _ _ h => wp_bind (wp_mono h (fun _ _ h => wp_bind (wp_mono h (fun t _ h => ?_) fun _ _ _ h => h)) fun _ _ _ h => h)) fun _ _ _ h => h)) fun _ _ _ h => h)
  cases t with
  | true => with_unfolding_all exact wp_bind h
  | false => with_unfolding_all exact h
theorem told_ok {b : E} {c : Nat} {d : D} {s1 : Store} (h : ev ct b σ s = .ok d s1) : ev ct (.told c b) σ s = .ok (.tup [.non, d]) s1 := by
  with_unfolding_all show (match ev ct b σ s with | .ok d s => _ | .exc e v s => _ | .stuck => _) = _
  rw [h]
theorem told_exc {b : E} {c e : Nat} {v : D} {s1 : Store} (h : ev ct b σ s = .exc e v s1) (he : isE ct.T e c = some true) : ev ct (.told c b) σ s = .ok (.tup [.exc e v, .non]) s1 := by
  with_unfolding_all show (match ev ct b σ s with | .ok d s => _ | .exc e v s => _ | .stuck => _) = _
  rw [h]
  simp only
  rw [he]
theorem wp_told {c : Nat} {b : E} (k : wp (ev ct b σ) (fun d s1 => Q (.tup [.non, d]) s1) (fun e v s1 => isE ct.T e c = some true ∧ Q (.tup [.exc e v, .non]) s1) s) : wp (ev ct (.told c b) σ) Q X s := by
  rcases wp_inv k with ⟨d, s1, e, h⟩ | ⟨e, v, s1, he, h⟩
  · with_unfolding_all exact wp_eq (told_ok e) h
  · with_unfolding_all exact wp_eq (told_exc he h.1) h.2
theorem wp_lrange {e : E} (k : wp (ev ct e σ) (fun x s1 => ∃ z : Int, x = .int z ∧ (-(2 ^ 62) ≤ z ∧ z < 2 ^ 62) ∧ wp (newL (intsD 0 z.toNat)) Q X s1) X s) : wp (ev ct (.lrange e) σ) Q X s := by
  with_unfolding_all show wp (ev ct e σ >>= _) Q X s
  with_unfolding_all refine wp_bind (wp_mono k (fun x s1 h => ?_) fun _ _ _ h => h)
  obtain ⟨z, rfl, hz, h⟩ := h
  with_unfolding_all refine wp_bind (wp_need ?_ h)
  rw [decide_eq_true hz.1, decide_eq_true hz.2]
  rfl
/-- parts of a slice -/
theorem wp_P0 {Q : Option Int → Store → Prop} (k : Q none s) : wp (evP ct none σ) Q X s := by with_unfolding_all exact wp_eq rfl k
theorem wp_P1 {e : E} {Q : Option Int → Store → Prop} (k : wp (ev ct e σ) (fun x s1 => wp (partD x) Q X s1) X s) : wp (evP ct (some e) σ) Q X s := by with_unfolding_all exact wp_bind k
theorem wp_slc {o : E} {lo hi : Option E} (k : wp (ev ct o σ) (fun x s1 => wp (evP ct lo σ) (fun l s2 => wp (evP ct hi σ) (fun h s3 => wp (sliceD x l h) Q X s3) X s2) X s1) X s) : wp (ev ct (.slc o lo hi) σ) Q X s := by
  with_unfolding_all show wp (ev ct o σ >>= fun x => evP ct lo σ >>= fun l => evP ct hi σ >>= fun h => sliceD x l h) Q X s
  with_unfolding_all exact wp_bind (wp_mono k (fun _ _ h => wp_bind (wp_mono h (fun _ _ h => wp_bind h) fun _ _ _ h => h)) fun _ _ _ h => h)
theorem wp_S0 {Q : List D → Store → Prop} (k : Q [] s) : wp (evS ct [] σ) Q X s := by with_unfolding_all exact wp_eq rfl k
theorem wp_S1 {e : E} {es : List E} {Q : List D → Store → Prop} (k : wp (ev ct e σ) (fun x s1 => ∃ l, x = .tup l ∧ wp (evS ct es σ) (fun xs s2 => Q (l ++ xs) s2) X s1) X s) : wp (evS ct (e :: es) σ) Q X s := by
  with_unfolding_all show wp (ev ct e σ >>= _) Q X s
  with_unfolding_all refine wp_bind (wp_mono k (fun x s1 h => ?_) fun _ _ _ h => h)
  obtain ⟨l, rfl, h⟩ := h
  with_unfolding_all exact wp_bind h
theorem wp_tups {as : List E} (k : wp (evS ct as σ) (fun xs s1 => xs.length ≤ line ∧ Q (.tup xs) s1) X s) : wp (ev ct (.tups as) σ) Q X s := by
  with_unfolding_all show wp (evS ct as σ >>= _) Q X s
  with_unfolding_all refine wp_bind (wp_mono k (fun x s1 h => ?_) fun _ _ _ h => h)
  with_unfolding_all exact wp_bind (wp_need (Nat.ble_eq_true_of_le h.1) h.2)
theorem wp_J0 {acc : Str} {Q : Str → Store → Prop} (k : Q acc s) : wp (evJ ct [] acc σ) Q X s := by with_unfolding_all exact wp_eq rfl k
theorem wp_J1 {e : E} {es : List E} {acc : Str} {Q : Str → Store → Prop} (k : wp (ev ct e σ) (fun x s1 => ∃ y, x = .str y ∧ (acc ++ y).length ≤ line ∧ wp (evJ ct es (acc ++ y) σ) Q X s1) X s) : wp (evJ ct (e :: es) acc σ) Q X s := by
  with_unfolding_all show wp (ev ct e σ >>= _) Q X s
  with_unfolding_all refine wp_bind (wp_mono k (fun x s1 h => ?_) fun _ _ _ h => h)
  obtain ⟨y, rfl, hl, h⟩ := h
  with_unfolding_all exact wp_bind (wp_need (Nat.ble_eq_true_of_le hl) h)
theorem wp_fstr {as : List E} (k : wp (evJ ct as PySem.Str.empty σ) (fun x s1 => Q (.str x) s1) X s) : wp (ev ct (.fstr as) σ) Q X s := by
  with_unfolding_all show wp (evJ ct as PySem.Str.empty σ >>= _) Q X s
  with_unfolding_all exact wp_bind k
/-! ### truth -/
section
variable {Q : Bool → Store → Prop}
theorem wpT_and {a b : E} (k : wp (evT ct a σ) (fun t s1 => cs t (wp (evT ct b σ) Q X s1) (Q false s1)) X s) : wp (evT ct (.and a b) σ) Q X s := by
  with_unfolding_all show wp (evT ct a σ >>= fun t => match t with | true => evT ct b σ | false => pure false) Q X s
  with_unfolding_all exact wp_bind (wp_mono k (fun t _ h => by cases t <;> with_unfolding_all exact h) fun _ _ _ h => h)
theorem wpT_or {a b : E} (k : wp (evT ct a σ) (fun t s1 => cs t (Q true s1) (wp (evT ct b σ) Q X s1)) X s) : wp (evT ct (.or a b) σ) Q X s := by
  with_unfolding_all show wp (evT ct a σ >>= fun t => match t with | true => pure true | false => evT ct b σ) Q X s
  with_unfolding_all exact wp_bind (wp_mono k (fun t _ h => by cases t <;> with_unfolding_all exact h) fun _ _ _ h => h)
theorem wpT_not {a : E} (k : wp (evT ct a σ) (fun t s1 => cs t (Q false s1) (Q true s1)) X s) : wp (evT ct (.not a) σ) Q X s := by
  with_unfolding_all show wp (evT ct a σ >>= fun t => pure (!t)) Q X s
  with_unfolding_all exact wp_bind (wp_mono k (fun t _ h => by cases t <;> with_unfolding_all exact h) fun _ _ _ h => h)
theorem wpT_var {i : Nat} {d : D} (h : σ[i]? = some (some d)) (k : wp (truth d) Q X s) : wp (evT ct (.var i) σ) Q X s := by
  with_unfolding_all show wp (envGet σ i >>= truth) Q X s
  with_unfolding_all refine wp_bind (wp_eq (a := d) (s1 := s) ?_ k)
  rw [envGet_run, h]
theorem wpT_con {d : D} (k : wp (truth d) Q X s) : wp (evT ct (.con d) σ) Q X s := by with_unfolding_all exact wp_of rfl k
theorem wpT_prim {p : Pr} {as : List E} (k : wp (ev ct (.prim p as) σ) (fun x s1 => wp (truth x) Q X s1) X s) : wp (evT ct (.prim p as) σ) Q X s := by
  have e : evT ct (.prim p as) σ = (ev ct (.prim p as) σ >>= truth) := by simp only [evT, ev, LawfulMonad.bind_assoc]
  rw [e]
  with_unfolding_all exact wp_bind k
theorem wpT_bm {p : Pr} {o : E} {as : List E} (k : wp (ev ct (.bm p o as) σ) (fun x s1 => wp (truth x) Q X s1) X s) : wp (evT ct (.bm p o as) σ) Q X s := by
  have e : evT ct (.bm p o as) σ = (ev ct (.bm p o as) σ >>= truth) := by simp only [evT, ev, LawfulMonad.bind_assoc]
  rw [e]
  with_unfolding_all exact wp_bind k
theorem wpT_call {f : Nat} {as : List E} (k : wp (ev ct (.call f as) σ) (fun x s1 => wp (truth x) Q X s1) X s) : wp (evT ct (.call f as) σ) Q X s := by
  have e : evT ct (.call f as) σ = (ev ct (.call f as) σ >>= truth) := by simp only [evT, ev, LawfulMonad.bind_assoc]
  rw [e]
  with_unfolding_all exact wp_bind k
theorem wpT_att {a : Nat} {o : E} (k : wp (ev ct (.att a o) σ) (fun x s1 => wp (truth x) Q X s1) X s) : wp (evT ct (.att a o) σ) Q X s := by
  have e : evT ct (.att a o) σ = (ev ct (.att a o) σ >>= truth) := by simp only [evT, ev, LawfulMonad.bind_assoc]
  rw [e]
  with_unfolding_all exact wp_bind k
theorem wpT_meth {m : Nat} {o : E} {as : List E} (k : wp (ev ct (.meth m o as) σ) (fun x s1 => wp (truth x) Q X s1) X s) : wp (evT ct (.meth m o as) σ) Q X s := by
  have e : evT ct (.meth m o as) σ = (ev ct (.meth m o as) σ >>= truth) := by
    simp only [evT, ev, LawfulMonad.bind_assoc]
    congr 1
    funext x
    congr 1
    funext f
    cases f with
    | none => rfl
    | some f => simp only [LawfulMonad.bind_assoc]
  rw [e]
  with_unfolding_all exact wp_bind k
theorem wpT_chain {p q : Pr} {a b c : E} (k : wp (ev ct (.chain p q a b c) σ) (fun x s1 => wp (truth x) Q X s1) X s) : wp (evT ct (.chain p q a b c) σ) Q X s := by
  have e : evT ct (.chain p q a b c) σ = (ev ct (.chain p q a b c) σ >>= truth) := by
    simp only [evT, ev, LawfulMonad.bind_assoc]
    congr 1
    funext x
    congr 1
    funext y
    congr 1
    funext z
    congr 1
    funext t
    cases t with
    | false => rfl
    | true => simp only [LawfulMonad.bind_assoc]
  rw [e]
  with_unfolding_all exact wp_bind k
theorem wp_truth_bl {b : Bool} (k : Q b s) : wp (truth (.bl b)) Q X s := by with_unfolding_all exact wp_eq rfl k
theorem wp_truth_int {i : Int} (k : Q (i != 0) s) : wp (truth (.int i)) Q X s := by with_unfolding_all exact wp_eq rfl k
theorem wp_truth_non (k : Q false s) : wp (truth .non) Q X s := by with_unfolding_all exact wp_eq rfl k
theorem wp_truth_tup {xs : List D} (k : Q (!xs.isEmpty) s) : wp (truth (.tup xs)) Q X s := by with_unfolding_all exact wp_eq rfl k
theorem wp_truth_str {x : Str} (h : x.length ≤ line) (k : Q (x.length != 0) s) : wp (truth (.str x)) Q X s := by with_unfolding_all exact wp_bind (wp_need (Nat.ble_eq_true_of_le h) k)
theorem wp_asB {b : Bool} (k : Q b s) : wp (asB (.bl b)) Q X s := by with_unfolding_all exact wp_eq rfl k
theorem wp_O0 (k : Q true s) : wp (evO ct none σ) Q X s := by with_unfolding_all exact wp_eq rfl k
theorem wp_O1 {e : E} (k : wp (evT ct e σ) Q X s) : wp (evO ct (some e) σ) Q X s := by with_unfolding_all exact wp_of rfl k
end
/-! ### walks -/
section
variable {Q : List D × Gd → Store → Prop}
theorem wp_seq {e : E} (k : wp (ev ct e σ) (fun x s1 => wp (walkD x) Q X s1) X s) : wp (evI ct (.seq e) σ) Q X s := by with_unfolding_all exact wp_bind k
theorem wp_walk_tup {xs : List D} (k : Q (xs, []) s) : wp (walkD (.tup xs)) Q X s := by with_unfolding_all exact wp_eq rfl k
theorem wp_walk_str {x : Str} (k : Q (x.cps.toList.map (fun c => .str ⟨#[c]⟩), []) s) : wp (walkD (.str x)) Q X s := by with_unfolding_all exact wp_eq rfl k
theorem wp_walk_lst {m : Nat} {xs : List D} (h : s[m]? = some (.lst xs)) (k : Q (xs, [(m, xs)]) s) : wp (walkD (.obj m)) Q X s := by with_unfolding_all exact wp_bind (wp_getO h k)
theorem wp_range1 {e : E} (k : wp (ev ct e σ) (fun x s1 => ∃ z : Int, x = .int z ∧ (-(2 ^ 62) ≤ z ∧ z < 2 ^ 62) ∧ Q (intsD 0 z.toNat, []) s1) X s) : wp (evI ct (.range1 e) σ) Q X s := by
  with_unfolding_all show wp (ev ct e σ >>= _) Q X s
  with_unfolding_all refine wp_bind (wp_mono k (fun x s1 h => ?_) fun _ _ _ h => h)
  obtain ⟨z, rfl, hz, h⟩ := h
  with_unfolding_all refine wp_bind (wp_need ?_ h)
  rw [decide_eq_true hz.1, decide_eq_true hz.2]
  rfl
theorem wp_zip {a b : E} (k : wp (ev ct a σ) (fun x s1 => wp (ev ct b σ) (fun y s2 => wp (zipD x y) Q X s2) X s1) X s) : wp (evI ct (.zip a b) σ) Q X s := by
  with_unfolding_all show wp (ev ct a σ >>= fun x => ev ct b σ >>= fun y => zipD x y) Q X s
  with_unfolding_all exact wp_bind (wp_mono k (fun _ _ h => wp_bind h) fun _ _ _ h => h)
end
/-! ### statements -/
section
variable {Q : Fl → Store → Prop}
def thn (ct : Ct) (r : List S) (Q : Fl → Store → Prop) (X : Nat → D → Store → Prop) (f : Fl) (s : Store) : Prop := match f with
  | .nx σ => wp (exs ct r σ) Q X s
  | .rt d => Q (.rt d) s
  | .bk σ => Q (.bk σ) s
  | .ct σ => Q (.ct σ) s
  | .xc σ c v => Q (.xc σ c v) s
theorem thn_nx {r : List S} (k : wp (exs ct r σ) Q X s) : thn ct r Q X (.nx σ) s := by with_unfolding_all exact wp_of rfl k
theorem thn_rt {r : List S} {d : D} (k : Q (.rt d) s) : thn ct r Q X (.rt d) s := by with_unfolding_all exact k
theorem thn_bk {r : List S} (k : Q (.bk σ) s) : thn ct r Q X (.bk σ) s := by with_unfolding_all exact k
theorem thn_ct {r : List S} (k : Q (.ct σ) s) : thn ct r Q X (.ct σ) s := by with_unfolding_all exact k
theorem thn_xc {r : List S} {c : Nat} {v : D} (k : Q (.xc σ c v) s) : thn ct r Q X (.xc σ c v) s := by with_unfolding_all exact k
theorem wp_exs0 (k : Q (.nx σ) s) : wp (exs ct [] σ) Q X s := by with_unfolding_all exact wp_eq rfl k
theorem wp_exs1 {x : S} {r : List S} (k : wp (ex ct x σ) (thn ct r Q X) X s) : wp (exs ct (x :: r) σ) Q X s := by
  with_unfolding_all show wp (ex ct x σ >>= fun f => match f with | .nx σ => exs ct r σ | f => pure f) Q X s
  with_unfolding_all refine wp_bind (wp_mono k (fun f s1 h => ?_) fun _ _ _ h => h)
  cases f <;> with_unfolding_all exact h
theorem wp_eb {α : Type} {m : M α} {k : α → M Fl} (h : wp m (fun a s1 => wp (k a) Q X s1) (fun c v s1 => Q (.xc σ c v) s1) s) : wp (eb m σ k) Q X s := by
  unfold wp at h ⊢
  unfold eb
  cases e : m s with
  | ok a s' => rw [e] at h; with_unfolding_all exact h
  | exc c v s' => rw [e] at h; with_unfolding_all exact h
  | stuck => rw [e] at h; with_unfolding_all exact h
theorem wp_expr {e : E} (k : wp (ev ct e σ) (fun _ s1 => Q (.nx σ) s1) (fun c v s1 => Q (.xc σ c v) s1) s) : wp (ex ct (.expr e) σ) Q X s := by with_unfolding_all exact wp_eb k
theorem wp_ret {e : E} (k : wp (ev ct e σ) (fun d s1 => Q (.rt d) s1) (fun c v s1 => Q (.xc σ c v) s1) s) : wp (ex ct (.ret e) σ) Q X s := by with_unfolding_all exact wp_eb k
theorem wp_retN (k : Q (.rt .non) s) : wp (ex ct .retN σ) Q X s := by with_unfolding_all exact wp_eq rfl k
theorem wp_pass (k : Q (.nx σ) s) : wp (ex ct .pass σ) Q X s := by with_unfolding_all exact wp_eq rfl k
theorem wp_brk (k : Q (.bk σ) s) : wp (ex ct .brk σ) Q X s := by with_unfolding_all exact wp_eq rfl k
theorem wp_cont (k : Q (.ct σ) s) : wp (ex ct .cont σ) Q X s := by with_unfolding_all exact wp_eq rfl k
/-- a target takes a value -/
def Asg (t : Tg) (d : D) (σ : Env) (Q : Env → Prop) : Prop := match assign t d σ with | some σ1 => Q σ1 | none => False
theorem asg_ {t : Tg} {d : D} {σ σ1 : Env} {Q : Env → Prop} (h : assign t d σ = some σ1) (k : Q σ1) : Asg t d σ Q := by
  unfold Asg
  rw [h]
  with_unfolding_all exact k
theorem asg0 {a0 : Option D} {d : D} {r : Env} {Q : Env → Prop} (k : Q (some d :: r)) : Asg (.n 0) d (a0 :: r) Q := by
  with_unfolding_all refine asg_ (σ1 := some d :: r) ?_ k
  unfold assign
  rw [show Nat.blt 0 (List.length (a0 :: r)) = true by simp [Nat.blt_eq] <;> omega]
  rfl
theorem asg1 {a0 a1 : Option D} {d : D} {r : Env} {Q : Env → Prop} (k : Q (a0 :: some d :: r)) : Asg (.n 1) d (a0 :: a1 :: r) Q := by
  with_unfolding_all refine asg_ (σ1 := a0 :: some d :: r) ?_ k
  unfold assign
  rw [show Nat.blt 1 (List.length (a0 :: a1 :: r)) = true by simp [Nat.blt_eq] <;> omega]
  rfl
theorem asg2 {a0 a1 a2 : Option D} {d : D} {r : Env} {Q : Env → Prop} (k : Q (a0 :: a1 :: some d :: r)) : Asg (.n 2) d (a0 :: a1 :: a2 :: r) Q := by
  with_unfolding_all refine asg_ (σ1 := a0 :: a1 :: some d :: r) ?_ k
  unfold assign
  rw [show Nat.blt 2 (List.length (a0 :: a1 :: a2 :: r)) = true by simp [Nat.blt_eq] <;> omega]
  rfl
theorem asg3 {a0 a1 a2 a3 : Option D} {d : D} {r : Env} {Q : Env → Prop} (k : Q (a0 :: a1 :: a2 :: some d :: r)) : Asg (.n 3) d (a0 :: a1 :: a2 :: a3 :: r) Q := by
  with_unfolding_all refine asg_ (σ1 := a0 :: a1 :: a2 :: some d :: r) ?_ k
  unfold assign
  rw [show Nat.blt 3 (List.length (a0 :: a1 :: a2 :: a3 :: r)) = true by simp [Nat.blt_eq] <;> omega]
  rfl
theorem asg4 {a0 a1 a2 a3 a4 : Option D} {d : D} {r : Env} {Q : Env → Prop} (k : Q (a0 :: a1 :: a2 :: a3 :: some d :: r)) : Asg (.n 4) d (a0 :: a1 :: a2 :: a3 :: a4 :: r) Q := by
  with_unfolding_all refine asg_ (σ1 := a0 :: a1 :: a2 :: a3 :: some d :: r) ?_ k
  unfold assign
  rw [show Nat.blt 4 (List.length (a0 :: a1 :: a2 :: a3 :: a4 :: r)) = true by simp [Nat.blt_eq] <;> omega]
  rfl
theorem asg5 {a0 a1 a2 a3 a4 a5 : Option D} {d : D} {r : Env} {Q : Env → Prop} (k : Q (a0 :: a1 :: a2 :: a3 :: a4 :: some d :: r)) : Asg (.n 5) d (a0 :: a1 :: a2 :: a3 :: a4 :: a5 :: r) Q := by
  with_unfolding_all refine asg_ (σ1 := a0 :: a1 :: a2 :: a3 :: a4 :: some d :: r) ?_ k
  unfold assign
  rw [show Nat.blt 5 (List.length (a0 :: a1 :: a2 :: a3 :: a4 :: a5 :: r)) = true by simp [Nat.blt_eq] <;> omega]
  rfl
theorem asg6 {a0 a1 a2 a3 a4 a5 a6 : Option D} {d : D} {r : Env} {Q : Env → Prop} (k : Q (a0 :: a1 :: a2 :: a3 :: a4 :: a5 :: some d :: r)) : Asg (.n 6) d (a0 :: a1 :: a2 :: a3 :: a4 :: a5 :: a6 :: r) Q := by
  with_unfolding_all refine asg_ (σ1 := a0 :: a1 :: a2 :: a3 :: a4 :: a5 :: some d :: r) ?_ k
  unfold assign
  rw [show Nat.blt 6 (List.length (a0 :: a1 :: a2 :: a3 :: a4 :: a5 :: a6 :: r)) = true by simp [Nat.blt_eq] <;> omega]
  rfl
theorem asg7 {a0 a1 a2 a3 a4 a5 a6 a7 : Option D} {d : D} {r : Env} {Q : Env → Prop} (k : Q (a0 :: a1 :: a2 :: a3 :: a4 :: a5 :: a6 :: some d :: r)) : Asg (.n 7) d (a0 :: a1 :: a2 :: a3 :: a4 :: a5 :: a6 :: a7 :: r) Q := by
  with_unfolding_all refine asg_ (σ1 := a0 :: a1 :: a2 :: a3 :: a4 :: a5 :: a6 :: some d :: r) ?_ k
  unfold assign
  rw [show Nat.blt 7 (List.length (a0 :: a1 :: a2 :: a3 :: a4 :: a5 :: a6 :: a7 :: r)) = true by simp [Nat.blt_eq] <;> omega]
  rfl
theorem asg8 {a0 a1 a2 a3 a4 a5 a6 a7 a8 : Option D} {d : D} {r : Env} {Q : Env → Prop} (k : Q (a0 :: a1 :: a2 :: a3 :: a4 :: a5 :: a6 :: a7 :: some d :: r)) : Asg (.n 8) d (a0 :: a1 :: a2 :: a3 :: a4 :: a5 :: a6 :: a7 :: a8 :: r) Q := by
  with_unfolding_all refine asg_ (σ1 := a0 :: a1 :: a2 :: a3 :: a4 :: a5 :: a6 :: a7 :: some d :: r) ?_ k
  unfold assign
  rw [show Nat.blt 8 (List.length (a0 :: a1 :: a2 :: a3 :: a4 :: a5 :: a6 :: a7 :: a8 :: r)) = true by simp [Nat.blt_eq] <;> omega]
  rfl
theorem asg9 {a0 a1 a2 a3 a4 a5 a6 a7 a8 a9 : Option D} {d : D} {r : Env} {Q : Env → Prop} (k : Q (a0 :: a1 :: a2 :: a3 :: a4 :: a5 :: a6 :: a7 :: a8 :: some d :: r)) : Asg (.n 9) d (a0 :: a1 :: a2 :: a3 :: a4 :: a5 :: a6 :: a7 :: a8 :: a9 :: r) Q := by
  with_unfolding_all refine asg_ (σ1 := a0 :: a1 :: a2 :: a3 :: a4 :: a5 :: a6 :: a7 :: a8 :: some d :: r) ?_ k
  unfold assign
  rw [show Nat.blt 9 (List.length (a0 :: a1 :: a2 :: a3 :: a4 :: a5 :: a6 :: a7 :: a8 :: a9 :: r)) = true by simp [Nat.blt_eq] <;> omega]
  rfl
theorem asg10 {a0 a1 a2 a3 a4 a5 a6 a7 a8 a9 a10 : Option D} {d : D} {r : Env} {Q : Env → Prop} (k : Q (a0 :: a1 :: a2 :: a3 :: a4 :: a5 :: a6 :: a7 :: a8 :: a9 :: some d :: r)) : Asg (.n 10) d (a0 :: a1 :: a2 :: a3 :: a4 :: a5 :: a6 :: a7 :: a8 :: a9 :: a10 :: r) Q := by
  with_unfolding_all refine asg_ (σ1 := a0 :: a1 :: a2 :: a3 :: a4 :: a5 :: a6 :: a7 :: a8 :: a9 :: some d :: r) ?_ k
  unfold assign
  rw [show Nat.blt 10 (List.length (a0 :: a1 :: a2 :: a3 :: a4 :: a5 :: a6 :: a7 :: a8 :: a9 :: a10 :: r)) = true by simp [Nat.blt_eq] <;> omega]
  rfl
theorem asg11 {a0 a1 a2 a3 a4 a5 a6 a7 a8 a9 a10 a11 : Option D} {d : D} {r : Env} {Q : Env → Prop} (k : Q (a0 :: a1 :: a2 :: a3 :: a4 :: a5 :: a6 :: a7 :: a8 :: a9 :: a10 :: some d :: r)) : Asg (.n 11) d (a0 :: a1 :: a2 :: a3 :: a4 :: a5 :: a6 :: a7 :: a8 :: a9 :: a10 :: a11 :: r) Q := by
  with_unfolding_all refine asg_ (σ1 := a0 :: a1 :: a2 :: a3 :: a4 :: a5 :: a6 :: a7 :: a8 :: a9 :: a10 :: some d :: r) ?_ k
  unfold assign
  rw [show Nat.blt 11 (List.length (a0 :: a1 :: a2 :: a3 :: a4 :: a5 :: a6 :: a7 :: a8 :: a9 :: a10 :: a11 :: r)) = true by simp [Nat.blt_eq] <;> omega]
  rfl
theorem asg12 {a0 a1 a2 a3 a4 a5 a6 a7 a8 a9 a10 a11 a12 : Option D} {d : D} {r : Env} {Q : Env → Prop} (k : Q (a0 :: a1 :: a2 :: a3 :: a4 :: a5 :: a6 :: a7 :: a8 :: a9 :: a10 :: a11 :: some d :: r)) : Asg (.n 12) d (a0 :: a1 :: a2 :: a3 :: a4 :: a5 :: a6 :: a7 :: a8 :: a9 :: a10 :: a11 :: a12 :: r) Q := by
  with_unfolding_all refine asg_ (σ1 := a0 :: a1 :: a2 :: a3 :: a4 :: a5 :: a6 :: a7 :: a8 :: a9 :: a10 :: a11 :: some d :: r) ?_ k
  unfold assign
  rw [show Nat.blt 12 (List.length (a0 :: a1 :: a2 :: a3 :: a4 :: a5 :: a6 :: a7 :: a8 :: a9 :: a10 :: a11 :: a12 :: r)) = true by simp [Nat.blt_eq] <;> omega]
  rfl
theorem asg13 {a0 a1 a2 a3 a4 a5 a6 a7 a8 a9 a10 a11 a12 a13 : Option D} {d : D} {r : Env} {Q : Env → Prop} (k : Q (a0 :: a1 :: a2 :: a3 :: a4 :: a5 :: a6 :: a7 :: a8 :: a9 :: a10 :: a11 :: a12 :: some d :: r)) : Asg (.n 13) d (a0 :: a1 :: a2 :: a3 :: a4 :: a5 :: a6 :: a7 :: a8 :: a9 :: a10 :: a11 :: a12 :: a13 :: r) Q := by
  with_unfolding_all refine asg_ (σ1 := a0 :: a1 :: a2 :: a3 :: a4 :: a5 :: a6 :: a7 :: a8 :: a9 :: a10 :: a11 :: a12 :: some d :: r) ?_ k
  unfold assign
  rw [show Nat.blt 13 (List.length (a0 :: a1 :: a2 :: a3 :: a4 :: a5 :: a6 :: a7 :: a8 :: a9 :: a10 :: a11 :: a12 :: a13 :: r)) = true by simp [Nat.blt_eq] <;> omega]
  rfl
theorem asg14 {a0 a1 a2 a3 a4 a5 a6 a7 a8 a9 a10 a11 a12 a13 a14 : Option D} {d : D} {r : Env} {Q : Env → Prop} (k : Q (a0 :: a1 :: a2 :: a3 :: a4 :: a5 :: a6 :: a7 :: a8 :: a9 :: a10 :: a11 :: a12 :: a13 :: some d :: r)) : Asg (.n 14) d (a0 :: a1 :: a2 :: a3 :: a4 :: a5 :: a6 :: a7 :: a8 :: a9 :: a10 :: a11 :: a12 :: a13 :: a14 :: r) Q := by
  with_unfolding_all refine asg_ (σ1 := a0 :: a1 :: a2 :: a3 :: a4 :: a5 :: a6 :: a7 :: a8 :: a9 :: a10 :: a11 :: a12 :: a13 :: some d :: r) ?_ k
  unfold assign
  rw [show Nat.blt 14 (List.length (a0 :: a1 :: a2 :: a3 :: a4 :: a5 :: a6 :: a7 :: a8 :: a9 :: a10 :: a11 :: a12 :: a13 :: a14 :: r)) = true by simp [Nat.blt_eq] <;> omega]
  rfl
theorem asg15 {a0 a1 a2 a3 a4 a5 a6 a7 a8 a9 a10 a11 a12 a13 a14 a15 : Option D} {d : D} {r : Env} {Q : Env → Prop} (k : Q (a0 :: a1 :: a2 :: a3 :: a4 :: a5 :: a6 :: a7 :: a8 :: a9 :: a10 :: a11 :: a12 :: a13 :: a14 :: some d :: r)) : Asg (.n 15) d (a0 :: a1 :: a2 :: a3 :: a4 :: a5 :: a6 :: a7 :: a8 :: a9 :: a10 :: a11 :: a12 :: a13 :: a14 :: a15 :: r) Q := by
  with_unfolding_all refine asg_ (σ1 := a0 :: a1 :: a2 :: a3 :: a4 :: a5 :: a6 :: a7 :: a8 :: a9 :: a10 :: a11 :: a12 :: a13 :: a14 :: some d :: r) ?_ k
  unfold assign
  rw [show Nat.blt 15 (List.length (a0 :: a1 :: a2 :: a3 :: a4 :: a5 :: a6 :: a7 :: a8 :: a9 :: a10 :: a11 :: a12 :: a13 :: a14 :: a15 :: r)) = true by simp [Nat.blt_eq] <;> omega]
  rfl
theorem asgT2 {t u : Tg} {x y : D} {Q : Env → Prop} (k : Asg t x σ fun σ1 => Asg u y σ1 Q) : Asg (.t [t, u]) (.tup [x, y]) σ Q := by
  unfold Asg at k
  cases e : assign t x σ with
  | none => rw [e] at k; with_unfolding_all exact k.elim
  | some σ1 =>
    rw [e] at k
    simp only at k
    cases e2 : assign u y σ1 with
    | none => rw [e2] at k; exact k.elim
    | some σ2 =>
      rw [e2] at k
      with_unfolding_all refine asg_ (σ1 := σ2) ?_ k
      with_unfolding_all show assigns [t, u] [x, y] σ = _
      simp only [assigns, e, e2]
theorem asgT3 {t u w : Tg} {x y z : D} {Q : Env → Prop} (k : Asg t x σ fun σ1 => Asg u y σ1 fun σ2 => Asg w z σ2 Q) : Asg (.t [t, u, w]) (.tup [x, y, z]) σ Q := by
  unfold Asg at k
  cases e : assign t x σ with
  | none => rw [e] at k; with_unfolding_all exact k.elim
  | some σ1 =>
    rw [e] at k
    simp only at k
    cases e2 : assign u y σ1 with
    | none => rw [e2] at k; exact k.elim
    | some σ2 =>
      rw [e2] at k
      simp only at k
      cases e3 : assign w z σ2 with
      | none => rw [e3] at k; exact k.elim
      | some σ3 =>
        rw [e3] at k
        with_unfolding_all refine asg_ (σ1 := σ3) ?_ k
        with_unfolding_all show assigns [t, u, w] [x, y, z] σ = _
        simp only [assigns, e, e2, e3]
theorem wp_asg {t : Tg} {e : E} (k : wp (ev ct e σ) (fun d s1 => Asg t d σ fun σ1 => Q (.nx σ1) s1) (fun c v s1 => Q (.xc σ c v) s1) s) : wp (ex ct (.asg t e) σ) Q X s := by
  with_unfolding_all refine wp_eb (wp_mono k (fun d s1 h => ?_) fun _ _ _ h => h)
  unfold Asg at h
  cases e : assign t d σ with
  | none => rw [e] at h; with_unfolding_all exact h.elim
  | some σ1 =>
    rw [e] at h
    with_unfolding_all refine wp_bind (wp_eq (a := σ1) (s1 := s1) ?_ h)
    rfl
theorem wp_if {c : E} {a b : List S} (k : wp (evT ct c σ) (fun t s1 => cs t (wp (exs ct a σ) Q X s1) (wp (exs ct b σ) Q X s1)) (fun c v s1 => Q (.xc σ c v) s1) s) : wp (ex ct (.ifS c a b) σ) Q X s := by
  with_unfolding_all show wp (eb (evT ct c σ) σ fun t => match t with | true => exs ct a σ | false => exs ct b σ) Q X s
  with_unfolding_all exact wp_eb (wp_mono k (fun t _ h => by cases t <;> with_unfolding_all exact h) fun _ _ _ h => h)
theorem wp_for {t : Tg} {it : It} {b : List S} (k : wp (evI ct it σ) (fun w s1 => wp (forL w.2 t (fun σ => exs ct b σ) w.1 σ) Q X s1) (fun c v s1 => Q (.xc σ c v) s1) s) : wp (ex ct (.forS t it b) σ) Q X s := by with_unfolding_all exact wp_eb k
theorem wp_raise {c : Nat} {e : E} (k : wp (ev ct e σ) (fun v s1 => Q (.xc σ c v) s1) (fun c v s1 => Q (.xc σ c v) s1) s) : wp (ex ct (.raise c e) σ) Q X s := by with_unfolding_all exact wp_eb k
theorem wp_setAtt {a : Nat} {o v : E} (k : wp (ev ct v σ) (fun x s1 => wp (ev ct o σ) (fun y s2 => wp (setAttD ct a y x) (fun _ s3 => Q (.nx σ) s3) X s2) (fun c v s1 => Q (.xc σ c v) s1) s1) (fun c v s1 => Q (.xc σ c v) s1) s) : wp (ex ct (.setAtt a o v) σ) Q X s := by with_unfolding_all exact wp_eb (wp_mono k (fun _ _ h => wp_eb (wp_mono h (fun _ _ h => wp_bind h) fun _ _ _ h => h)) fun _ _ _ h => h)
theorem wp_setIdx {o i v : E} (k : wp (ev ct v σ) (fun x s1 => wp (ev ct o σ) (fun y s2 => wp (ev ct i σ) (fun z s3 => wp (setIdxD y z x) (fun _ s4 => Q (.nx σ) s4) X s3) (fun c v s1 => Q (.xc σ c v) s1) s2) (fun c v s1 => Q (.xc σ c v) s1) s1) (fun c v s1 => Q (.xc σ c v) s1) s) : wp (ex ct (.setIdx o i v) σ) Q X s := by with_unfolding_all exact wp_eb (wp_mono k (fun _ _ h => wp_eb (wp_mono h (fun _ _ h => wp_eb (wp_mono h (fun _ _ h => wp_bind h) fun _ _ _ h => h)) fun _ _ _ h => h)) fun _ _ _ h => h)
/-- a for: what holds ahead of each turn -/
theorem wp_forL {g : Gd} {tg : Tg} {body : Env → M Fl} (I : List D → Env → Store → Prop)
    (turn : ∀ (x : D) (xs : List D) (σ : Env) (s : Store), I (x :: xs) σ s → (∀ p ∈ g, s[p.1]? = some (.lst p.2)) ∧ Asg tg x σ fun σ1 => wp (body σ1) (fun f s1 => match f with
        | .nx σ2 => I xs σ2 s1
        | .ct σ2 => I xs σ2 s1
        | .bk σ2 => Q (.nx σ2) s1
        | .rt d => Q (.rt d) s1
        | .xc σ2 c v => Q (.xc σ2 c v) s1) X s)
    (fin : ∀ (σ : Env) (s : Store), I [] σ s → (∀ p ∈ g, s[p.1]? = some (.lst p.2)) ∧ Q (.nx σ) s) :
    ∀ (xs : List D) (σ : Env) (s : Store), I xs σ s → wp (forL g tg body xs σ) Q X s
  | [], σ, s, h => by
    obtain ⟨h1, h2⟩ := fin σ s h
    with_unfolding_all exact wp_eq (for_nil (still_ok h1)) h2
  | x :: xs, σ, s, h => by
    obtain ⟨h1, h2⟩ := turn x xs σ s h
    with_unfolding_all show wp (still g >>= fun _ => ofO (assign tg x σ) >>= fun σ' => body σ' >>= fun f => match f with
      | .nx σ => forL g tg body xs σ
      | .ct σ => forL g tg body xs σ
      | .bk σ => pure (.nx σ)
      | .rt d => pure (.rt d)
      | .xc σ c v => pure (.xc σ c v)) Q X s
    with_unfolding_all refine wp_bind (wp_eq (still_ok h1) ?_)
    unfold Asg at h2
    cases e : assign tg x σ with
    | none => rw [e] at h2; with_unfolding_all exact h2.elim
    | some σ1 =>
      rw [e] at h2
      with_unfolding_all refine wp_bind (wp_eq (a := σ1) (s1 := s) rfl ?_)
      with_unfolding_all refine wp_bind (wp_mono h2 (fun f s1 h => ?_) fun _ _ _ h => h)
      cases f with
      | nx σ2 => with_unfolding_all exact wp_forL I turn fin xs σ2 s1 h
      | ct σ2 => with_unfolding_all exact wp_forL I turn fin xs σ2 s1 h
      | _ => with_unfolding_all exact h
end
/-- a comprehension: what holds ahead of each turn, by what is left, what was made; the list has the number m -/
theorem wp_compL {σ0 : Env} {g : Gd} {tg : Tg} {own : List Nat} {test : Env → M Bool} {elt : Env → M D} {m : Nat} {Q : Unit → Store → Prop} (hσ : wipeE σ own = σ0) (I : List D → List D → Store → Prop)
    (turn : ∀ (x : D) (xs acc : List D) (s : Store), I (x :: xs) acc s → (∀ p ∈ g, s[p.1]? = some (.lst p.2)) ∧ acc.length < line ∧ Asg tg x σ0 fun σ1 => wp (test σ1) (fun t s1 => cs t (wp (elt σ1) (fun y s2 => s2[m]? = some (.lst acc) ∧ I xs (acc ++ [y]) (s2.set m (.lst (acc ++ [y])))) X s1) (I xs acc s1)) X s)
    (fin : ∀ (acc : List D) (s : Store), I [] acc s → (∀ p ∈ g, s[p.1]? = some (.lst p.2)) ∧ Q () s) :
    ∀ (xs acc : List D) (s : Store), I xs acc s → wp (compL g tg own test elt σ m xs) Q X s
  | [], acc, s, h => by
    obtain ⟨h1, h2⟩ := fin acc s h
    with_unfolding_all exact wp_eq (comp_nil (still_ok h1)) h2
  | x :: xs, acc, s, h => by
    obtain ⟨h1, h3, h2⟩ := turn x xs acc s h
    with_unfolding_all show wp (still g >>= fun _ => ofO (assign tg x (wipeE σ own)) >>= fun σ' => test σ' >>= fun t => match t with
      | true => (elt σ' >>= fun y => appendD (.obj m) y >>= fun _ => compL g tg own test elt σ m xs)
      | false => compL g tg own test elt σ m xs) Q X s
    with_unfolding_all refine wp_bind (wp_eq (still_ok h1) ?_)
    rw [← hσ] at h2
    unfold Asg at h2
    cases e : assign tg x (wipeE σ own) with
    | none => rw [e] at h2; with_unfolding_all exact h2.elim
    | some σ1 =>
      rw [e] at h2
      with_unfolding_all refine wp_bind (wp_eq (a := σ1) (s1 := s) rfl ?_)
      with_unfolding_all refine wp_bind (wp_mono h2 (fun t s1 h => ?_) fun _ _ _ h => h)
      cases t with
      | false => with_unfolding_all exact wp_compL hσ I turn fin xs acc s1 h
      | true =>
        with_unfolding_all refine wp_bind (wp_mono h (fun y s2 h => ?_) fun _ _ _ h => h)
        with_unfolding_all refine wp_bind (wp_eq (append_ok h.1 h3) ?_)
        with_unfolding_all exact wp_compL hσ I turn fin xs (acc ++ [y]) _ h.2
theorem wp_compR {w : List D × Gd} {tg : Tg} {own : List Nat} {test : Env → M Bool} {elt : Env → M D} (k : wp (compL w.2 tg own test elt σ s.length w.1) (fun _ s1 => Q (.obj s.length) s1) noX (s ++ [.lst []])) : wp (compR w tg own test elt σ) Q X s := by
  obtain ⟨a, s', e, h⟩ := wp_ok k
  with_unfolding_all refine wp_eq (a := .obj s.length) (s1 := s') ?_ h
  with_unfolding_all show (match compL w.2 tg own test elt σ s.length w.1 (s ++ [.lst []]) with | .ok _ s' => R.ok (D.obj s.length) s' | _ => .stuck) = _
  rw [e]
theorem wp_comp {tg : Tg} {own : List Nat} {it : It} {ifs : Option E} {elt : E} (k : wp (evI ct it σ) (fun w s1 => wp (compR w tg own (fun σ => evO ct ifs σ) (fun σ => ev ct elt σ) σ) Q X s1) X s) : wp (ev ct (.comp tg own it ifs elt) σ) Q X s := by with_unfolding_all exact wp_bind k
theorem wpT_comp {tg : Tg} {own : List Nat} {it : It} {ifs : Option E} {elt : E} {Q : Bool → Store → Prop} (k : wp (ev ct (.comp tg own it ifs elt) σ) (fun x s1 => wp (truth x) Q X s1) X s) : wp (evT ct (.comp tg own it ifs elt) σ) Q X s := by
  have e : evT ct (.comp tg own it ifs elt) σ = (ev ct (.comp tg own it ifs elt) σ >>= truth) := by simp only [evT, ev, LawfulMonad.bind_assoc]
  rw [e]
  with_unfolding_all exact wp_bind k
/-! ### calls -/
/-- behind a call's body -/
def Beh (Q : D → Store → Prop) (X : Nat → D → Store → Prop) (s : Store) (f : Fl) (s1 : Store) : Prop := match f with
  | .rt d => Q d (trunc s d s1)
  | .nx _ => Q .non (trunc s .non s1)
  | .xc _ c v => X c v (trunc s v s1)
  | _ => False
theorem beh_rt {d : D} {s1 : Store} (k : Q d (trunc s d s1)) : Beh Q X s (.rt d) s1 := by with_unfolding_all exact k
theorem beh_nx {s1 : Store} (k : Q .non (trunc s .non s1)) : Beh Q X s (.nx σ) s1 := by with_unfolding_all exact k
theorem beh_xc {c : Nat} {v : D} {s1 : Store} (k : X c v (trunc s v s1)) : Beh Q X s (.xc σ c v) s1 := by with_unfolding_all exact k
theorem wp_fn {T : Tab} {wl n f names pars : Nat} {body : List S} {args : List D} {σ : Env} (hT : T.fn f = some ⟨names, pars, body⟩) (h1 : args.length = pars) (h2 : pars ≤ names) (hσ : args.map some ++ List.replicate (names - pars) none = σ)
    (k : wp (exs ⟨T, callF T wl n, wl, callF T.t0 wl n⟩ body σ) (Beh Q X s) noX s) : wp (callF T wl (n + 1) f args) Q X s := by
  unfold wp
  rw [call_eq hT]
  unfold runFn
  rw [if_pos ⟨h1, h2⟩]
  unfold wp at k
  simp only
  rw [hσ]
  cases e : exs ⟨T, callF T wl n, wl, callF T.t0 wl n⟩ body σ s with
  | ok f s1 =>
    rw [e] at k
    cases f <;> first | with_unfolding_all exact k | with_unfolding_all exact k.elim
  | exc c v s' => rw [e] at k; with_unfolding_all exact k.elim
  | stuck => rw [e] at k; with_unfolding_all exact k.elim
/-! ### attributes -/
theorem wp_noExc {m : M D} (k : wp m Q noX s) : wp (noExc m) Q X s := by
  obtain ⟨a, s', e, h⟩ := wp_ok k
  with_unfolding_all refine wp_eq (a := a) (s1 := s') ?_ h
  unfold noExc
  rw [e]
theorem wp_attX {a c : Nat} {v : D} {x : Cls} (h : ct.T.cl c = some x) (hk : (a == aValue && x.kind == .exc) = true) (k : Q v s) : wp (attD ct a (.exc c v)) Q X s := by
  with_unfolding_all refine wp_eq (a := v) (s1 := s) ?_ k
  unfold attD
  simp only [h]
  rw [if_pos hk]
  rfl
end
end G
set_option Elab.async false
set_option linter.all false
set_option maxRecDepth 100000
set_option maxHeartbeats 4000000
/-! G36: operations in runs; the tactic ws. -/
namespace G
open PySem L2
section
variable {ct : Ct} {T : Tab} {wl n : Nat} {σ : Env} {s : Store} {Q : D → Store → Prop} {X : Nat → D → Store → Prop}
/-! ### operations -/
theorem wpp_addI {i j : Int} (k : Q (.int (i + j)) s) : wp (prim ct .add [.int i, .int j]) Q X s := by with_unfolding_all exact wp_eq rfl k
theorem wpp_addS {x y : Str} (h : x.length + y.length ≤ line) (k : Q (.str (x ++ y)) s) : wp (prim ct .add [.str x, .str y]) Q X s := by
  with_unfolding_all show wp (need (Nat.ble (x.length + y.length) line) >>= _) Q X s
  with_unfolding_all exact wp_bind (wp_need (Nat.ble_eq_true_of_le h) k)
theorem wpp_addT {x y : List D} (h : x.length + y.length ≤ line) (k : Q (.tup (x ++ y)) s) : wp (prim ct .add [.tup x, .tup y]) Q X s := by
  with_unfolding_all show wp (need (Nat.ble (x.length + y.length) line) >>= _) Q X s
  with_unfolding_all exact wp_bind (wp_need (Nat.ble_eq_true_of_le h) k)
theorem wpp_addL {m j : Nat} {xs ys : List D} (h1 : s[m]? = some (.lst xs)) (h2 : s[j]? = some (.lst ys)) (hl : (xs ++ ys).length ≤ line) (k : Q (.obj s.length) (s ++ [.lst (xs ++ ys)])) : wp (prim ct .add [.obj m, .obj j]) Q X s := by with_unfolding_all exact wp_eq (add_lsts h1 h2 hl) k
theorem wpp_subI {i j : Int} (k : Q (.int (i - j)) s) : wp (prim ct .sub [.int i, .int j]) Q X s := by with_unfolding_all exact wp_eq rfl k
theorem wpp_mulI {i j : Int} (h : mulOk i j = true) (k : Q (.int (i * j)) s) : wp (prim ct .mul [.int i, .int j]) Q X s := by
  with_unfolding_all show wp (need (mulOk i j) >>= _) Q X s
  with_unfolding_all exact wp_bind (wp_need h k)
theorem wpp_mulL {m : Nat} {j : Int} {xs : List D} (hs : s[m]? = some (.lst xs)) (h1 : -(2 ^ 63) ≤ j ∧ j < 2 ^ 63) (hl : (List.replicate j.toNat xs).flatten.length ≤ line) (k : Q (.obj s.length) (s ++ [.lst (List.replicate j.toNat xs).flatten])) : wp (prim ct .mul [.obj m, .int j]) Q X s := by
  refine wp_of (m' := getO m >>= fun o => match o with
    | .lst xs => do
      need (decide (-(2 ^ 63) ≤ j) && decide (j < 2 ^ 63))
      newL (List.replicate j.toNat xs).flatten
    | _ => stuck) rfl (wp_bind (wp_getO hs ?_))
  simp only
  refine wp_bind (wp_need ?_ (wp_newL hl k))
  rw [decide_eq_true h1.1, decide_eq_true h1.2]
  rfl
theorem wpp_modI {i j : Int} (h : 0 < j) (k : Q (.int (i % j)) s) : wp (prim ct .mod [.int i, .int j]) Q X s := by with_unfolding_all exact wp_eq (prim_mod h) k
theorem wpp_negI {i : Int} (k : Q (.int (-i)) s) : wp (prim ct .neg [.int i]) Q X s := by with_unfolding_all exact wp_eq rfl k
theorem wpp_absI {i : Int} (k : Q (.int (if i < 0 then -i else i)) s) : wp (prim ct .abs [.int i]) Q X s := by with_unfolding_all exact wp_eq rfl k
theorem wpp_ltT {i j : Int} (h : i < j) (k : Q (.bl true) s) : wp (prim ct .lt [.int i, .int j]) Q X s := by
  have : Q (.bl (decide (i < j))) s := by rw [decide_eq_true h]; exact k
  with_unfolding_all exact wp_eq rfl this
theorem wpp_ltF {i j : Int} (h : j ≤ i) (k : Q (.bl false) s) : wp (prim ct .lt [.int i, .int j]) Q X s := by
  have : Q (.bl (decide (i < j))) s := by rw [decide_eq_false (by omega)]; exact k
  with_unfolding_all exact wp_eq rfl this
theorem wpp_leT {i j : Int} (h : i ≤ j) (k : Q (.bl true) s) : wp (prim ct .le [.int i, .int j]) Q X s := by
  have : Q (.bl (decide (i ≤ j))) s := by rw [decide_eq_true h]; exact k
  with_unfolding_all exact wp_eq rfl this
theorem wpp_leF {i j : Int} (h : j < i) (k : Q (.bl false) s) : wp (prim ct .le [.int i, .int j]) Q X s := by
  have : Q (.bl (decide (i ≤ j))) s := by rw [decide_eq_false (by omega)]; exact k
  with_unfolding_all exact wp_eq rfl this
theorem wpp_gtT {i j : Int} (h : j < i) (k : Q (.bl true) s) : wp (prim ct .gt [.int i, .int j]) Q X s := by
  have : Q (.bl (decide (j < i))) s := by rw [decide_eq_true h]; exact k
  with_unfolding_all exact wp_eq rfl this
theorem wpp_gtF {i j : Int} (h : i ≤ j) (k : Q (.bl false) s) : wp (prim ct .gt [.int i, .int j]) Q X s := by
  have : Q (.bl (decide (j < i))) s := by rw [decide_eq_false (by omega)]; exact k
  with_unfolding_all exact wp_eq rfl this
theorem wpp_geT {i j : Int} (h : j ≤ i) (k : Q (.bl true) s) : wp (prim ct .ge [.int i, .int j]) Q X s := by
  have : Q (.bl (decide (j ≤ i))) s := by rw [decide_eq_true h]; exact k
  with_unfolding_all exact wp_eq rfl this
theorem wpp_geF {i j : Int} (h : i < j) (k : Q (.bl false) s) : wp (prim ct .ge [.int i, .int j]) Q X s := by
  have : Q (.bl (decide (j ≤ i))) s := by rw [decide_eq_false (by omega)]; exact k
  with_unfolding_all exact wp_eq rfl this
theorem wpp_ltI {i j : Int} (k : Q (.bl (decide (i < j))) s) : wp (prim ct .lt [.int i, .int j]) Q X s := by with_unfolding_all exact wp_eq rfl k
theorem wpp_leI {i j : Int} (k : Q (.bl (decide (i ≤ j))) s) : wp (prim ct .le [.int i, .int j]) Q X s := by with_unfolding_all exact wp_eq rfl k
theorem wpp_gtI {i j : Int} (k : Q (.bl (decide (j < i))) s) : wp (prim ct .gt [.int i, .int j]) Q X s := by with_unfolding_all exact wp_eq rfl k
theorem wpp_geI {i j : Int} (k : Q (.bl (decide (j ≤ i))) s) : wp (prim ct .ge [.int i, .int j]) Q X s := by with_unfolding_all exact wp_eq rfl k
theorem wpp_isN {d : D} (k : Q (.bl (decide (d = .non))) s) : wp (prim ct .isN [d]) Q X s := by with_unfolding_all exact wp_eq rfl k
theorem wpp_isnotN {d : D} (k : Q (.bl (!decide (d = .non))) s) : wp (prim ct .isnotN [d]) Q X s := by with_unfolding_all exact wp_eq rfl k
theorem wpp_int1I {i : Int} (k : Q (.int i) s) : wp (prim ct .int1 [.int i]) Q X s := by with_unfolding_all exact wp_eq rfl k
theorem wpp_int1B {b : Bool} (k : Q (.int (if b then 1 else 0)) s) : wp (prim ct .int1 [.bl b]) Q X s := by with_unfolding_all exact wp_eq rfl k
theorem wpp_max2 {i j : Int} (k : Q (.int (if j > i then j else i)) s) : wp (prim ct .max2 [.int i, .int j]) Q X s := by with_unfolding_all exact wp_eq rfl k
theorem wpp_min2 {i j : Int} (k : Q (.int (if j < i then j else i)) s) : wp (prim ct .min2 [.int i, .int j]) Q X s := by with_unfolding_all exact wp_eq rfl k
theorem wpp_eq {a b : D} {t : Bool} (h : eqD ct a b s = .ok t s) (k : Q (.bl t) s) : wp (prim ct .eq [a, b]) Q X s := by with_unfolding_all exact wp_eq (prim_eq h) k
theorem wpp_ne {a b : D} {t : Bool} (h : eqD ct a b s = .ok t s) (k : Q (.bl (!t)) s) : wp (prim ct .ne [a, b]) Q X s := by with_unfolding_all exact wp_eq (prim_ne h) k
theorem wpp_eqI {i j : Int} (k : Q (.bl (i == j)) s) : wp (prim ct .eq [.int i, .int j]) Q X s := by with_unfolding_all exact wpp_eq eq_int k
theorem wpp_neI {i j : Int} (k : Q (.bl (!(i == j))) s) : wp (prim ct .ne [.int i, .int j]) Q X s := by with_unfolding_all exact wpp_ne eq_int k
theorem wpp_eqIT {i j : Int} (h : i = j) (k : Q (.bl true) s) : wp (prim ct .eq [.int i, .int j]) Q X s := by with_unfolding_all exact wpp_eq (t := true) (by rw [eq_int]; simp [h]) k
theorem wpp_eqIF {i j : Int} (h : i ≠ j) (k : Q (.bl false) s) : wp (prim ct .eq [.int i, .int j]) Q X s := by with_unfolding_all exact wpp_eq (t := false) (by rw [eq_int]; simp [h]) k
theorem wpp_neIF {i j : Int} (h : i = j) (k : Q (.bl false) s) : wp (prim ct .ne [.int i, .int j]) Q X s := by with_unfolding_all exact wpp_ne (t := true) (by rw [eq_int]; simp [h]) k
theorem wpp_neIT {i j : Int} (h : i ≠ j) (k : Q (.bl true) s) : wp (prim ct .ne [.int i, .int j]) Q X s := by with_unfolding_all exact wpp_ne (t := false) (by rw [eq_int]; simp [h]) k
theorem wpp_eqSS {x : Str} (hx : PyData.strOk x = true) (k : Q (.bl true) s) : wp (prim ct .eq [.str x, .str x]) Q X s := by with_unfolding_all exact wpp_eq (t := true) (by rw [eq_str hx hx]; simp) k
theorem wpp_neSS {x : Str} (hx : PyData.strOk x = true) (k : Q (.bl false) s) : wp (prim ct .ne [.str x, .str x]) Q X s := by with_unfolding_all exact wpp_ne (t := true) (by rw [eq_str hx hx]; simp) k
theorem wpp_isNT (k : Q (.bl true) s) : wp (prim ct .isN [.non]) Q X s := by with_unfolding_all exact wp_eq rfl k
theorem wpp_isNF {d : D} (h : d ≠ .non) (k : Q (.bl false) s) : wp (prim ct .isN [d]) Q X s := by
  have : Q (.bl (decide (d = .non))) s := by rw [decide_eq_false h]; exact k
  with_unfolding_all exact wp_eq rfl this
theorem wpp_eqS {x y : Str} (hx : PyData.strOk x = true) (hy : PyData.strOk y = true) (k : Q (.bl (x == y)) s) : wp (prim ct .eq [.str x, .str y]) Q X s := by with_unfolding_all exact wpp_eq (eq_str hx hy) k
theorem wpp_neS {x y : Str} (hx : PyData.strOk x = true) (hy : PyData.strOk y = true) (k : Q (.bl (!(x == y))) s) : wp (prim ct .ne [.str x, .str y]) Q X s := by with_unfolding_all exact wpp_ne (eq_str hx hy) k
theorem wpp_idxL {m : Nat} {i : Int} {xs : List D} {x : D} (hs : s[m]? = some (.lst xs)) (h : atN xs i = some x) (k : Q x s) : wp (prim ct .idx [.obj m, .int i]) Q X s := by with_unfolding_all exact wp_eq (prim_idx hs h) k
theorem wpp_idxT {i : Int} {xs : List D} {x : D} (h : atN xs i = some x) (k : Q x s) : wp (prim ct .idx [.tup xs, .int i]) Q X s := by
  with_unfolding_all refine wp_eq (a := x) (s1 := s) ?_ k
  with_unfolding_all show (seqOf (.tup xs) >>= _) s = _
  rw [bind_ok (show seqOf (.tup xs) s = .ok xs s from rfl), h]
  rfl
theorem wpp_lenL {m : Nat} {xs : List D} (hs : s[m]? = some (.lst xs)) (k : Q (.int xs.length) s) : wp (prim ct .len [.obj m]) Q X s := by with_unfolding_all exact wp_eq (prim_len hs) k
theorem wpp_lenT {xs : List D} (k : Q (.int xs.length) s) : wp (prim ct .len [.tup xs]) Q X s := by with_unfolding_all exact wp_eq rfl k
theorem wpp_lenM {α : Type} {f : α → D} {xs : List α} (k : Q (.int xs.length) s) : wp (prim ct .len [.tup (xs.map f)]) Q X s := by with_unfolding_all exact wpp_lenT (by rw [List.length_map]; exact k)
theorem wpp_lenLM {α : Type} {f : α → D} {m : Nat} {xs : List α} (hs : s[m]? = some (.lst (xs.map f))) (k : Q (.int xs.length) s) : wp (prim ct .len [.obj m]) Q X s := by with_unfolding_all exact wpp_lenL hs (by rw [List.length_map]; exact k)
theorem wpp_lenS {x : Str} (h : x.length ≤ line) (k : Q (.int x.length) s) : wp (prim ct .len [.str x]) Q X s := by
  with_unfolding_all refine wp_eq (a := .int x.length) (s1 := s) ?_ k
  with_unfolding_all show (lenD ct (.str x) >>= _) s = _
  rw [bind_ok (m := lenD ct (.str x)) (a := (x.length : Int)) (s' := s) (by
    rw [lenD_str]
    with_unfolding_all show (need (Nat.ble x.length line) >>= _) s = _
    rw [Nat.ble_eq_true_of_le h]
    rfl)]
  rfl
theorem wpp_lst {xs : List D} (h : xs.length ≤ line) (k : Q (.obj s.length) (s ++ [.lst xs])) : wp (prim ct .lst xs) Q X s := by
  rw [prim_lst]
  with_unfolding_all exact wp_newL h k
theorem wpp_tup0 (k : Q (.tup []) s) : wp (prim ct .tup []) Q X s := by with_unfolding_all exact wp_eq rfl k
theorem wpp_tup1 {a : D} (k : Q (.tup [a]) s) : wp (prim ct .tup [a]) Q X s := by with_unfolding_all exact wp_eq rfl k
theorem wpp_tup2 {a b : D} (k : Q (.tup [a, b]) s) : wp (prim ct .tup [a, b]) Q X s := by with_unfolding_all exact wp_eq rfl k
theorem wpp_tup3 {a b c : D} (k : Q (.tup [a, b, c]) s) : wp (prim ct .tup [a, b, c]) Q X s := by with_unfolding_all exact wp_eq rfl k
theorem wpp_tup4 {a b c d : D} (k : Q (.tup [a, b, c, d]) s) : wp (prim ct .tup [a, b, c, d]) Q X s := by with_unfolding_all exact wp_eq rfl k
theorem wpp_tup5 {a b c d e : D} (k : Q (.tup [a, b, c, d, e]) s) : wp (prim ct .tup [a, b, c, d, e]) Q X s := by with_unfolding_all exact wp_eq rfl k
theorem wpp_tuple1T {xs : List D} (k : Q (.tup xs) s) : wp (prim ct .tuple1 [.tup xs]) Q X s := by with_unfolding_all exact wp_eq rfl k
theorem wpp_tuple1L {m : Nat} {xs : List D} (hs : s[m]? = some (.lst xs)) (k : Q (.tup xs) s) : wp (prim ct .tuple1 [.obj m]) Q X s := by
  with_unfolding_all refine wp_eq (a := .tup xs) (s1 := s) ?_ k
  with_unfolding_all show (seqOf (.obj m) >>= _) s = _
  have e : seqOf (.obj m) s = .ok xs s := by
    with_unfolding_all show (getO m >>= _) s = _
    rw [bind_ok (getO_some hs)]
    rfl
  rw [bind_ok e]
  rfl
theorem wpp_all1 {m : Nat} {l : List D} {bs : List Bool} (hm : s[m]? = some (.lst l)) (h : bools l = some bs) (k : Q (.bl (bs.all id)) s) : wp (prim ct .all1 [.obj m]) Q X s := by with_unfolding_all exact wp_eq (all1_ok hm h) k
theorem wpp_any1 {m : Nat} {l : List D} {bs : List Bool} (hm : s[m]? = some (.lst l)) (h : bools l = some bs) (k : Q (.bl (bs.any id)) s) : wp (prim ct .any1 [.obj m]) Q X s := by with_unfolding_all exact wp_eq (any1_ok hm h) k
theorem isi_ty {v : D} {u t : String} (h : tyOf s v = some u) (ht : tyNames.contains t = true) : prim ct .isi [v, .ty t] s = .ok (.bl (u == t || (u == "bool" && t == "int"))) s := by
  with_unfolding_all show (isiD ct v (.ty t) >>= _) s = _
  have e : isiD ct v (.ty t) s = .ok (u == t || (u == "bool" && t == "int")) s := by
    unfold isiD
    rw [h]
    simp only
    rw [if_pos ht]
  rw [bind_ok e]
  rfl
theorem isi_ownT {v : D} {u : String} {c : Nat} {x : Cls} (h : tyOf s v = some u) (hc : ct.T.cl c = some x) : prim ct .isi [v, .cls c] s = .ok (.bl false) s := by
  with_unfolding_all show (isiD ct v (.own c) >>= _) s = _
  have e : isiD ct v (.own c) s = .ok false s := by
    unfold isiD
    rw [h]
    simp only
    rw [hc]
  rw [bind_ok e]
  rfl
theorem wpp_isi {v : D} {u t : String} (h : tyOf s v = some u) (ht : tyNames.contains t = true) (k : Q (.bl (u == t || (u == "bool" && t == "int"))) s) : wp (prim ct .isi [v, .ty t]) Q X s := by with_unfolding_all exact wp_eq (isi_ty h ht) k
theorem wpp_isiT {a b : D} (h : prim ct .isi [a, b] s = .ok (.bl true) s) (k : Q (.bl true) s) : wp (prim ct .isi [a, b]) Q X s := by with_unfolding_all exact wp_eq h k
theorem wpp_isiF {a b : D} (h : prim ct .isi [a, b] s = .ok (.bl false) s) (k : Q (.bl false) s) : wp (prim ct .isi [a, b]) Q X s := by with_unfolding_all exact wp_eq h k
theorem wpp_fmtS {x : Str} (h : x.length ≤ line) (k : Q (.str x) s) : wp (prim ct .fmt [.str x]) Q X s := by
  with_unfolding_all show wp (need (Nat.ble x.length line) >>= _) Q X s
  with_unfolding_all exact wp_bind (wp_need (Nat.ble_eq_true_of_le h) k)
theorem wpp_fmtI {i : Int} (h : i.natAbs.log2 < 9000) (k : Q (.str (toString i)) s) : wp (prim ct .fmt [.int i]) Q X s := by
  with_unfolding_all show wp (need (decide (i.natAbs.log2 < 9000)) >>= _) Q X s
  with_unfolding_all exact wp_bind (wp_need (decide_eq_true h) k)
theorem wpp_strI {i : Int} (h : i.natAbs.log2 < 9000) (k : Q (.str (toString i)) s) : wp (prim ct .str1 [.int i]) Q X s := by
  with_unfolding_all show wp (need (decide (i.natAbs.log2 < 9000)) >>= _) Q X s
  with_unfolding_all exact wp_bind (wp_need (decide_eq_true h) k)
theorem wpp_fmtRS {x : Str} (h : (reprText x).length ≤ line) (k : Q (.str (reprText x)) s) : wp (prim ct .fmtR [.str x]) Q X s := by
  with_unfolding_all show wp (need (Nat.ble (reprText x).length line) >>= _) Q X s
  with_unfolding_all exact wp_bind (wp_need (Nat.ble_eq_true_of_le h) k)
theorem wpp_innS {a b : Str} (k : Q (.bl (Txt.contains b a)) s) : wp (prim ct .inn [.str a, .str b]) Q X s := by with_unfolding_all exact wp_eq rfl k
theorem wpp_reprS {x : Str} (h : PyData.strOk x = true) (hl : x.length ≤ 1000000) (k : Q (.str (reprText x)) s) (hrp : ct.T.rp = true := by first | rfl | assumption) : wp (prim ct .repr [.str x]) Q X s := by with_unfolding_all exact wp_eq (repr_str h hl) k
theorem wpp_splitS {x y : Str} (h1 : y.length ≠ 0) (h2 : x.length + 2 ≤ line) (h3 : (Txt.split x y).length ≤ line) (k : Q (.obj s.length) (s ++ [.lst ((Txt.split x y).map D.str)])) : wp (prim ct .split [.str x, .str y]) Q X s := by
  with_unfolding_all show wp (need (!(y.length == 0) && Nat.ble (x.length + 2) line) >>= _) Q X s
  with_unfolding_all refine wp_bind (wp_need ?_ (wp_newL (by rw [List.length_map]; exact h3) k))
  rw [Nat.ble_eq_true_of_le h2]
  simp [h1]
theorem wpp_startswith {x y : Str} (k : Q (.bl (Txt.startswith x y)) s) : wp (prim ct .startswith [.str x, .str y]) Q X s := by with_unfolding_all exact wp_eq rfl k
theorem wpp_removeprefix {x y : Str} (h : x.length ≤ line) (k : Q (.str (Txt.removeprefix x y)) s) : wp (prim ct .removeprefix [.str x, .str y]) Q X s := by
  with_unfolding_all show wp (need (Nat.ble x.length line) >>= _) Q X s
  with_unfolding_all exact wp_bind (wp_need (Nat.ble_eq_true_of_le h) k)
/-- joined texts: how long they are -/
def joinLen (x : Str) (l : List Str) : Nat := (l.map (·.length)).sum + x.length * l.length
theorem wpp_joinL {x : Str} {m : Nat} {l : List Str} (hs : s[m]? = some (.lst (l.map D.str))) (h : joinLen x l ≤ line) (k : Q (.str (Txt.join x l)) s) : wp (prim ct .join [.str x, .obj m]) Q X s := by
  with_unfolding_all refine wp_eq (a := .str (Txt.join x l)) (s1 := s) ?_ k
  with_unfolding_all show (seqOf (.obj m) >>= _) s = _
  have e : seqOf (.obj m) s = .ok (l.map D.str) s := by
    with_unfolding_all show (getO m >>= _) s = _
    rw [bind_ok (getO_some hs)]
    rfl
  rw [bind_ok e]
  unfold joinD
  rw [strsD_map]
  simp only
  have h' : (l.map (·.length)).sum + x.length * l.length ≤ line := h
  with_unfolding_all show (need (Nat.ble ((l.map (·.length)).sum + x.length * l.length) line) >>= _) s = _
  rw [Nat.ble_eq_true_of_le h']
  rfl
theorem wpp_joinT {x : Str} {l : List Str} (h : joinLen x l ≤ line) (k : Q (.str (Txt.join x l)) s) : wp (prim ct .join [.str x, .tup (l.map D.str)]) Q X s := by
  with_unfolding_all refine wp_eq (a := .str (Txt.join x l)) (s1 := s) ?_ k
  with_unfolding_all show (seqOf (.tup (l.map D.str)) >>= _) s = _
  rw [bind_ok (show seqOf (.tup (l.map D.str)) s = .ok (l.map D.str) s from rfl)]
  unfold joinD
  rw [strsD_map]
  simp only
  have h' : (l.map (·.length)).sum + x.length * l.length ≤ line := h
  with_unfolding_all show (need (Nat.ble ((l.map (·.length)).sum + x.length * l.length) line) >>= _) s = _
  rw [Nat.ble_eq_true_of_le h']
  rfl
theorem wpp_appendL {m : Nat} {xs : List D} {y : D} (hs : s[m]? = some (.lst xs)) (hl : xs.length < line) (k : Q .non (s.set m (.lst (xs ++ [y])))) : wp (prim ct .append [.obj m, y]) Q X s := by with_unfolding_all exact wp_eq (append_ok hs hl) k
theorem wpp_extendL {m j : Nat} {xs ys : List D} (hs : s[m]? = some (.lst xs)) (hj : s[j]? = some (.lst ys)) (hl : xs.length + ys.length ≤ line) (k : Q .non (s.set m (.lst (xs ++ ys)))) : wp (prim ct .extend [.obj m, .obj j]) Q X s := by
  with_unfolding_all show wp (getO m >>= _) Q X s
  with_unfolding_all refine wp_bind (wp_getO hs ?_)
  with_unfolding_all show wp (getO j >>= _) Q X s
  with_unfolding_all refine wp_bind (wp_getO hj ?_)
  with_unfolding_all show wp (need (Nat.ble (xs.length + ys.length) line) >>= _) Q X s
  with_unfolding_all exact wp_bind (wp_need (Nat.ble_eq_true_of_le hl) k)
theorem wp_recvL {p : Pr} {m : Nat} {xs : List D} {Q : Unit → Store → Prop} (hp : p = .append ∨ p = .extend ∨ p = .pop) (hs : s[m]? = some (.lst xs)) (k : Q () s) : wp (recvOk p (.obj m)) Q X s := by
  with_unfolding_all refine wp_eq (a := ()) (s1 := s) ?_ k
  rcases hp with rfl | rfl | rfl
  all_goals
    with_unfolding_all show (getO m >>= _) _ = _
    rw [bind_ok (getO_some hs)]
    rfl
theorem wp_recvA {m : Nat} {xs : List D} {Q : Unit → Store → Prop} (hs : s[m]? = some (.lst xs)) (k : Q () s) : wp (recvOk .append (.obj m)) Q X s := by with_unfolding_all exact wp_recvL (.inl rfl) hs k
theorem wp_recvE {m : Nat} {xs : List D} {Q : Unit → Store → Prop} (hs : s[m]? = some (.lst xs)) (k : Q () s) : wp (recvOk .extend (.obj m)) Q X s := by with_unfolding_all exact wp_recvL (.inr (.inl rfl)) hs k
theorem wp_recvP {m : Nat} {xs : List D} {Q : Unit → Store → Prop} (hs : s[m]? = some (.lst xs)) (k : Q () s) : wp (recvOk .pop (.obj m)) Q X s := by with_unfolding_all exact wp_recvL (.inr (.inr rfl)) hs k
theorem wp_recvSj {x : Str} {Q : Unit → Store → Prop} (k : Q () s) : wp (recvOk .join (.str x)) Q X s := by with_unfolding_all exact wp_eq rfl k
theorem wp_recvSs {x : Str} {Q : Unit → Store → Prop} (k : Q () s) : wp (recvOk .split (.str x)) Q X s := by with_unfolding_all exact wp_eq rfl k
theorem wp_recvSt {x : Str} {Q : Unit → Store → Prop} (k : Q () s) : wp (recvOk .startswith (.str x)) Q X s := by with_unfolding_all exact wp_eq rfl k
theorem wp_recvSp {x : Str} {Q : Unit → Store → Prop} (k : Q () s) : wp (recvOk .removeprefix (.str x)) Q X s := by with_unfolding_all exact wp_eq rfl k
theorem wp_partI {i : Int} {Q : Option Int → Store → Prop} (k : Q (some i) s) : wp (partD (.int i)) Q X s := by with_unfolding_all exact wp_eq rfl k
theorem wp_sliceS {x : Str} {lo hi : Option Int} (h : x.length ≤ line) (k : Q (.str (cutS x lo hi)) s) : wp (sliceD (.str x) lo hi) Q X s := by
  with_unfolding_all show wp (need (Nat.ble x.length line) >>= _) Q X s
  with_unfolding_all exact wp_bind (wp_need (Nat.ble_eq_true_of_le h) k)
theorem wp_sliceT {xs : List D} {lo hi : Option Int} (k : Q (.tup (cutD xs lo hi)) s) : wp (sliceD (.tup xs) lo hi) Q X s := by with_unfolding_all exact wp_eq rfl k
theorem wp_sliceL {m : Nat} {xs : List D} {lo hi : Option Int} (hs : s[m]? = some (.lst xs)) (h : (cutD xs lo hi).length ≤ line) (k : Q (.obj s.length) (s ++ [.lst (cutD xs lo hi)])) : wp (sliceD (.obj m) lo hi) Q X s := by with_unfolding_all exact wp_bind (wp_getO hs (wp_newL h k))
theorem wp_zipL {m j : Nat} {xs ys : List D} {Q : List D × Gd → Store → Prop} (hs : s[m]? = some (.lst xs)) (hj : s[j]? = some (.lst ys)) (k : Q (pairsD xs ys, [(m, xs), (j, ys)]) s) : wp (zipD (.obj m) (.obj j)) Q X s := by with_unfolding_all exact wp_bind (wp_getO hs (wp_bind (wp_getO hj k)))
theorem wp_zipT {xs ys : List D} {Q : List D × Gd → Store → Prop} (k : Q (pairsD xs ys, []) s) : wp (zipD (.tup xs) (.tup ys)) Q X s := by with_unfolding_all exact wp_eq rfl k
theorem wp_attIns {a c i : Nat} {k' : Cls} {fs : List D} {d : D} (hc : ct.T.cl c = some k') (hi : idxOf a k'.slots = some i) (hd : fs[i]? = some d) (k : Q d s) : wp (attD ct a (.ins c fs)) Q X s := by
  with_unfolding_all refine wp_eq (a := d) (s1 := s) ?_ k
  unfold attD
  simp only [clsOf, hc, hi, hd]
  rfl
theorem wp_attSl {a c i n : Nat} {k' : Cls} {fs : List (Option D)} {d : D} (hs : s[n]? = some (.sl c fs)) (hc : ct.T.cl c = some k') (hi : idxOf a k'.slots = some i) (hd : fs[i]? = some (some d)) (k : Q d s) : wp (attD ct a (.obj n)) Q X s := by
  with_unfolding_all refine wp_eq (a := d) (s1 := s) ?_ k
  unfold attD
  simp only [clsOf, hs, hc, hi, hd]
/-- a property -/
theorem wp_attProp {a c f : Nat} {k' : Cls} {fs : List D} (hc : ct.T.cl c = some k') (hi : idxOf a k'.slots = none) (hf : k'.props.lookup a = some f) (k : wp (ct.call f [.ins c fs]) Q noX s) : wp (attD ct a (.ins c fs)) Q X s := by
  have h := wp_noExc (X := X) k
  unfold wp at h ⊢
  have e : attD ct a (.ins c fs) s = noExc (ct.call f [.ins c fs]) s := by
    unfold attD
    simp only [clsOf, hc, hi, hf]
  rw [e]
  with_unfolding_all exact h
theorem wp_setAttSl {a c i n : Nat} {k' : Cls} {fs : List (Option D)} {v : D} {Q : Unit → Store → Prop} (hs : s[n]? = some (.sl c fs)) (hc : ct.T.cl c = some k') (hi : idxOf a k'.slots = some i) (hl : i < fs.length) (k : Q () (s.set n (.sl c (fs.set i (some v))))) : wp (setAttD ct a (.obj n) v) Q X s := by
  with_unfolding_all refine wp_eq (a := ()) (s1 := s.set n (.sl c (fs.set i (some v)))) ?_ k
  unfold setAttD
  simp only [hs, hc, hi]
  rw [if_pos hl]
theorem wp_setIdxL {m : Nat} {i : Int} {xs : List D} {v : D} {Q : Unit → Store → Prop} (hs : s[m]? = some (.lst xs)) (h0 : 0 ≤ i) (h1 : i < xs.length) (k : Q () (s.set m (.lst (xs.set i.toNat v)))) : wp (setIdxD (.obj m) (.int i) v) Q X s := by
  with_unfolding_all show wp (getO m >>= _) Q X s
  with_unfolding_all refine wp_bind (wp_getO hs ?_)
  with_unfolding_all show wp (need (decide (0 ≤ i) && decide (i < xs.length)) >>= _) Q X s
  with_unfolding_all refine wp_bind (wp_need ?_ k)
  rw [decide_eq_true h0, decide_eq_true h1]
  rfl
/-- making an error -/
theorem wp_mkX {c : Nat} {k' : Cls} {v : D} (hc : ct.T.cl c = some k') (hk : k'.kind = .exc) (k : Q (.exc c v) s) : wp (makeD ct c [v]) Q X s := by
  with_unfolding_all refine wp_eq (a := .exc c v) (s1 := s) ?_ k
  unfold makeD
  simp only [hc, hk]
/-- making a value -/
theorem wp_mkV {c f : Nat} {k' : Cls} {as : List D} (fs0 : List (Option D)) (hc : ct.T.cl c = some k') (hf : (k'.slots.map fun _ => (none : Option D)) = fs0) (hk : k'.kind = .slots) (hm : k'.meths.lookup mInit = some f) (hv : k'.value = true)
    (k : wp (ct.call f (.obj s.length :: as)) (fun d s1 => d = .non ∧ ∃ fs l, s1[s.length]? = some (.sl c fs) ∧ allSome fs = some l ∧ s1.take s.length = s ∧ D.ltL s.length l = true ∧ Q (.ins c l) s) (fun e v s1 => X e v (trunc s v s1)) (s ++ [.sl c fs0])) : wp (makeD ct c as) Q X s := by
  subst hf
  rcases wp_inv k with ⟨d, s1, e, rfl, fs, l, h1, h2, h3, h4, h5⟩ | ⟨e', v, s1, e, h⟩
  · with_unfolding_all refine wp_eq (a := .ins c l) (s1 := s) ?_ h5
    unfold makeD
    simp only [hc, hk, hm, e, hv, h1, h2]
    rw [if_pos ⟨trivial, h3, h4⟩]
  · with_unfolding_all refine wp_eqX (c := e') (v := v) (s1 := trunc s v s1) ?_ h
    unfold makeD
    simp only [hc, hk, hm, e]
theorem ex_int {P : Int → Prop} {i : Int} (k : P i) : ∃ z : Int, D.int i = .int z ∧ P z := by with_unfolding_all exact ⟨i, rfl, k⟩
theorem ex_str {P : Str → Prop} {i : Str} (k : P i) : ∃ z : Str, D.str i = .str z ∧ P z := by with_unfolding_all exact ⟨i, rfl, k⟩
theorem ex_tup {P : List D → Prop} {i : List D} (k : P i) : ∃ z : List D, D.tup i = .tup z ∧ P z := by with_unfolding_all exact ⟨i, rfl, k⟩
/-! ### which step -/
section
variable {α : Type} {Q : α → Store → Prop}
end
section
theorem g_ev {e : E} (k : wp (ev ct e σ) Q X s) : wp (ev ct e σ) Q X s := by with_unfolding_all exact k
theorem g_evvar {i : Nat} (k : wp (ev ct (.var i) σ) Q X s) : wp (ev ct (.var i) σ) Q X s := by with_unfolding_all exact k
theorem g_evTvar {i : Nat} {Q : Bool → Store → Prop} (k : wp (evT ct (.var i) σ) Q X s) : wp (evT ct (.var i) σ) Q X s := by with_unfolding_all exact k
theorem g_addL {a b : Nat} (k : wp (prim ct .add [.obj a, .obj b]) Q X s) : wp (prim ct .add [.obj a, .obj b]) Q X s := by with_unfolding_all exact k
theorem g_idxL {a : Nat} {b : Int} (k : wp (prim ct .idx [.obj a, .int b]) Q X s) : wp (prim ct .idx [.obj a, .int b]) Q X s := by with_unfolding_all exact k
theorem g_idxT {a : List D} {b : Int} (k : wp (prim ct .idx [.tup a, .int b]) Q X s) : wp (prim ct .idx [.tup a, .int b]) Q X s := by with_unfolding_all exact k
theorem g_lenL {a : Nat} (k : wp (prim ct .len [.obj a]) Q X s) : wp (prim ct .len [.obj a]) Q X s := by with_unfolding_all exact k
theorem g_tuple1L {a : Nat} (k : wp (prim ct .tuple1 [.obj a]) Q X s) : wp (prim ct .tuple1 [.obj a]) Q X s := by with_unfolding_all exact k
theorem g_walkL {a : Nat} {Q : List D × Gd → Store → Prop} (k : wp (walkD (.obj a)) Q X s) : wp (walkD (.obj a)) Q X s := by with_unfolding_all exact k
theorem g_appendL {a : Nat} {d : D} (k : wp (prim ct .append [.obj a, d]) Q X s) : wp (prim ct .append [.obj a, d]) Q X s := by with_unfolding_all exact k
theorem g_extendL {a b : Nat} (k : wp (prim ct .extend [.obj a, .obj b]) Q X s) : wp (prim ct .extend [.obj a, .obj b]) Q X s := by with_unfolding_all exact k
theorem g_recvL {p : Pr} {a : Nat} {Q : Unit → Store → Prop} (k : wp (recvOk p (.obj a)) Q X s) : wp (recvOk p (.obj a)) Q X s := by with_unfolding_all exact k
theorem g_attIns {a c : Nat} {fs : List D} (k : wp (attD ct a (.ins c fs)) Q X s) : wp (attD ct a (.ins c fs)) Q X s := by with_unfolding_all exact k
theorem g_attX {a c : Nat} {v : D} (k : wp (attD ct a (.exc c v)) Q X s) : wp (attD ct a (.exc c v)) Q X s := by with_unfolding_all exact k
theorem g_zipL {a b : Nat} {Q : List D × Gd → Store → Prop} (k : wp (zipD (.obj a) (.obj b)) Q X s) : wp (zipD (.obj a) (.obj b)) Q X s := by with_unfolding_all exact k
theorem g_setIdxL {a : Nat} {i : Int} {v : D} {Q : Unit → Store → Prop} (k : wp (setIdxD (.obj a) (.int i) v) Q X s) : wp (setIdxD (.obj a) (.int i) v) Q X s := by with_unfolding_all exact k
theorem g_mkX {c : Nat} {v : D} (k : wp (makeD ct c [v]) Q X s) : wp (makeD ct c [v]) Q X s := by with_unfolding_all exact k
theorem g_ifx {a b c : E} (k : wp (ev ct (.ifx a b c) σ) Q X s) : wp (ev ct (.ifx a b c) σ) Q X s := by with_unfolding_all exact k
theorem g_comp {tg : Tg} {own : List Nat} {it : It} {ifs : Option E} {elt : E} (k : wp (ev ct (.comp tg own it ifs elt) σ) Q X s) : wp (ev ct (.comp tg own it ifs elt) σ) Q X s := by with_unfolding_all exact k
theorem g_evs {e : List E} {Q : List D → Store → Prop} (k : wp (evs ct e σ) Q X s) : wp (evs ct e σ) Q X s := by with_unfolding_all exact k
theorem g_evT {e : E} {Q : Bool → Store → Prop} (k : wp (evT ct e σ) Q X s) : wp (evT ct e σ) Q X s := by with_unfolding_all exact k
theorem g_evI {e : It} {Q : List D × Gd → Store → Prop} (k : wp (evI ct e σ) Q X s) : wp (evI ct e σ) Q X s := by with_unfolding_all exact k
theorem g_ex {e : S} {Q : Fl → Store → Prop} (k : wp (ex ct e σ) Q X s) : wp (ex ct e σ) Q X s := by with_unfolding_all exact k
theorem g_exs {e : List S} {Q : Fl → Store → Prop} (k : wp (exs ct e σ) Q X s) : wp (exs ct e σ) Q X s := by with_unfolding_all exact k
theorem g_prim {p : Pr} {xs : List D} (k : wp (prim ct p xs) Q X s) : wp (prim ct p xs) Q X s := by with_unfolding_all exact k
theorem g_call {f : Nat} {xs : List D} (k : wp (ct.call f xs) Q X s) : wp (ct.call f xs) Q X s := by with_unfolding_all exact k
theorem g_attD {a : Nat} {d : D} (k : wp (attD ct a d) Q X s) : wp (attD ct a d) Q X s := by with_unfolding_all exact k
theorem g_makeD {a : Nat} {d : List D} (k : wp (makeD ct a d) Q X s) : wp (makeD ct a d) Q X s := by with_unfolding_all exact k
theorem g_truth {d : D} {Q : Bool → Store → Prop} (k : wp (truth d) Q X s) : wp (truth d) Q X s := by with_unfolding_all exact k
theorem g_walk {d : D} {Q : List D × Gd → Store → Prop} (k : wp (walkD d) Q X s) : wp (walkD d) Q X s := by with_unfolding_all exact k
theorem g_recv {p : Pr} {d : D} {Q : Unit → Store → Prop} (k : wp (recvOk p d) Q X s) : wp (recvOk p d) Q X s := by with_unfolding_all exact k
theorem g_evP {e : Option E} {Q : Option Int → Store → Prop} (k : wp (evP ct e σ) Q X s) : wp (evP ct e σ) Q X s := by with_unfolding_all exact k
theorem g_evS {e : List E} {Q : List D → Store → Prop} (k : wp (evS ct e σ) Q X s) : wp (evS ct e σ) Q X s := by with_unfolding_all exact k
theorem g_evJ {e : List E} {a : Str} {Q : Str → Store → Prop} (k : wp (evJ ct e a σ) Q X s) : wp (evJ ct e a σ) Q X s := by with_unfolding_all exact k
theorem g_evO {e : Option E} {Q : Bool → Store → Prop} (k : wp (evO ct e σ) Q X s) : wp (evO ct e σ) Q X s := by with_unfolding_all exact k
theorem g_slice {d : D} {a b : Option Int} (k : wp (sliceD d a b) Q X s) : wp (sliceD d a b) Q X s := by with_unfolding_all exact k
theorem g_cs {b : Bool} {P1 P2 : Prop} (k : cs b P1 P2) : cs b P1 P2 := by with_unfolding_all exact k
theorem g_asg {t : Tg} {d : D} {Q : Env → Prop} (k : Asg t d σ Q) : Asg t d σ Q := by with_unfolding_all exact k
theorem g_thn {r : List S} {f : Fl} {Q : Fl → Store → Prop} (k : thn ct r Q X f s) : thn ct r Q X f s := by with_unfolding_all exact k
theorem g_beh {f : Fl} {s1 : Store} (k : Beh Q X s f s1) : Beh Q X s f s1 := by with_unfolding_all exact k
theorem g_add {xs : List D} (k : wp (prim ct .add xs) Q X s) : wp (prim ct .add xs) Q X s := by with_unfolding_all exact k
theorem g_sub {xs : List D} (k : wp (prim ct .sub xs) Q X s) : wp (prim ct .sub xs) Q X s := by with_unfolding_all exact k
theorem g_mul {xs : List D} (k : wp (prim ct .mul xs) Q X s) : wp (prim ct .mul xs) Q X s := by with_unfolding_all exact k
theorem g_fdiv {xs : List D} (k : wp (prim ct .fdiv xs) Q X s) : wp (prim ct .fdiv xs) Q X s := by with_unfolding_all exact k
theorem g_mod {xs : List D} (k : wp (prim ct .mod xs) Q X s) : wp (prim ct .mod xs) Q X s := by with_unfolding_all exact k
theorem g_pow {xs : List D} (k : wp (prim ct .pow xs) Q X s) : wp (prim ct .pow xs) Q X s := by with_unfolding_all exact k
theorem g_neg {xs : List D} (k : wp (prim ct .neg xs) Q X s) : wp (prim ct .neg xs) Q X s := by with_unfolding_all exact k
theorem g_abs {xs : List D} (k : wp (prim ct .abs xs) Q X s) : wp (prim ct .abs xs) Q X s := by with_unfolding_all exact k
theorem g_int1 {xs : List D} (k : wp (prim ct .int1 xs) Q X s) : wp (prim ct .int1 xs) Q X s := by with_unfolding_all exact k
theorem g_max2 {xs : List D} (k : wp (prim ct .max2 xs) Q X s) : wp (prim ct .max2 xs) Q X s := by with_unfolding_all exact k
theorem g_min2 {xs : List D} (k : wp (prim ct .min2 xs) Q X s) : wp (prim ct .min2 xs) Q X s := by with_unfolding_all exact k
theorem g_str1 {xs : List D} (k : wp (prim ct .str1 xs) Q X s) : wp (prim ct .str1 xs) Q X s := by with_unfolding_all exact k
theorem g_eq {xs : List D} (k : wp (prim ct .eq xs) Q X s) : wp (prim ct .eq xs) Q X s := by with_unfolding_all exact k
theorem g_ne {xs : List D} (k : wp (prim ct .ne xs) Q X s) : wp (prim ct .ne xs) Q X s := by with_unfolding_all exact k
theorem g_lt {xs : List D} (k : wp (prim ct .lt xs) Q X s) : wp (prim ct .lt xs) Q X s := by with_unfolding_all exact k
theorem g_le {xs : List D} (k : wp (prim ct .le xs) Q X s) : wp (prim ct .le xs) Q X s := by with_unfolding_all exact k
theorem g_gt {xs : List D} (k : wp (prim ct .gt xs) Q X s) : wp (prim ct .gt xs) Q X s := by with_unfolding_all exact k
theorem g_ge {xs : List D} (k : wp (prim ct .ge xs) Q X s) : wp (prim ct .ge xs) Q X s := by with_unfolding_all exact k
theorem g_isN {xs : List D} (k : wp (prim ct .isN xs) Q X s) : wp (prim ct .isN xs) Q X s := by with_unfolding_all exact k
theorem g_isnotN {xs : List D} (k : wp (prim ct .isnotN xs) Q X s) : wp (prim ct .isnotN xs) Q X s := by with_unfolding_all exact k
theorem g_inn {xs : List D} (k : wp (prim ct .inn xs) Q X s) : wp (prim ct .inn xs) Q X s := by with_unfolding_all exact k
theorem g_notin {xs : List D} (k : wp (prim ct .notin xs) Q X s) : wp (prim ct .notin xs) Q X s := by with_unfolding_all exact k
theorem g_idx {xs : List D} (k : wp (prim ct .idx xs) Q X s) : wp (prim ct .idx xs) Q X s := by with_unfolding_all exact k
theorem g_slRev {xs : List D} (k : wp (prim ct .slRev xs) Q X s) : wp (prim ct .slRev xs) Q X s := by with_unfolding_all exact k
theorem g_len {xs : List D} (k : wp (prim ct .len xs) Q X s) : wp (prim ct .len xs) Q X s := by with_unfolding_all exact k
theorem g_repr {xs : List D} (k : wp (prim ct .repr xs) Q X s) : wp (prim ct .repr xs) Q X s := by with_unfolding_all exact k
theorem g_tuple1 {xs : List D} (k : wp (prim ct .tuple1 xs) Q X s) : wp (prim ct .tuple1 xs) Q X s := by with_unfolding_all exact k
theorem g_list1 {xs : List D} (k : wp (prim ct .list1 xs) Q X s) : wp (prim ct .list1 xs) Q X s := by with_unfolding_all exact k
theorem g_all1 {xs : List D} (k : wp (prim ct .all1 xs) Q X s) : wp (prim ct .all1 xs) Q X s := by with_unfolding_all exact k
theorem g_any1 {xs : List D} (k : wp (prim ct .any1 xs) Q X s) : wp (prim ct .any1 xs) Q X s := by with_unfolding_all exact k
theorem g_isi {xs : List D} (k : wp (prim ct .isi xs) Q X s) : wp (prim ct .isi xs) Q X s := by with_unfolding_all exact k
theorem g_join {xs : List D} (k : wp (prim ct .join xs) Q X s) : wp (prim ct .join xs) Q X s := by with_unfolding_all exact k
theorem g_split {xs : List D} (k : wp (prim ct .split xs) Q X s) : wp (prim ct .split xs) Q X s := by with_unfolding_all exact k
theorem g_startswith {xs : List D} (k : wp (prim ct .startswith xs) Q X s) : wp (prim ct .startswith xs) Q X s := by with_unfolding_all exact k
theorem g_removeprefix {xs : List D} (k : wp (prim ct .removeprefix xs) Q X s) : wp (prim ct .removeprefix xs) Q X s := by with_unfolding_all exact k
theorem g_append {xs : List D} (k : wp (prim ct .append xs) Q X s) : wp (prim ct .append xs) Q X s := by with_unfolding_all exact k
theorem g_extend {xs : List D} (k : wp (prim ct .extend xs) Q X s) : wp (prim ct .extend xs) Q X s := by with_unfolding_all exact k
theorem g_pop {xs : List D} (k : wp (prim ct .pop xs) Q X s) : wp (prim ct .pop xs) Q X s := by with_unfolding_all exact k
theorem g_fmt {xs : List D} (k : wp (prim ct .fmt xs) Q X s) : wp (prim ct .fmt xs) Q X s := by with_unfolding_all exact k
theorem g_fmtR {xs : List D} (k : wp (prim ct .fmtR xs) Q X s) : wp (prim ct .fmtR xs) Q X s := by with_unfolding_all exact k
theorem g_tup {xs : List D} (k : wp (prim ct .tup xs) Q X s) : wp (prim ct .tup xs) Q X s := by with_unfolding_all exact k
theorem g_lst {xs : List D} (k : wp (prim ct .lst xs) Q X s) : wp (prim ct .lst xs) Q X s := by with_unfolding_all exact k
theorem g_dic0 {xs : List D} (k : wp (prim ct .dic0 xs) Q X s) : wp (prim ct .dic0 xs) Q X s := by with_unfolding_all exact k
theorem g_inv {xs : List D} (k : wp (prim ct .inv xs) Q X s) : wp (prim ct .inv xs) Q X s := by with_unfolding_all exact k
end
/-- an expression, by what holds behind it -/
theorem el_wp {k : Nat} {σ : Env} {P : Store → D → Prop} {e : E} (h : ∀ (s : Store) (N : Nat), Pot k N s → wp (ev ct e σ) (fun d s' => P s' d ∧ Adv k N s s') noX s) : ElOk ct k σ P e := fun s N hp => by
  obtain ⟨d, s', e, h1, h2⟩ := wp_ok (h s N hp)
  exact ⟨d, s', e, h1, h2⟩
end
end G
set_option Elab.async false
set_option linter.all false
set_option maxRecDepth 100000
set_option maxHeartbeats 4000000
/-! G37: data shown. -/
namespace G
open PySem L2
open PySem (PyData)
theorem Asg.mono {t : Tg} {d : D} {σ : Env} {Q Q' : Env → Prop} (h : Asg t d σ Q') (q : ∀ σ, Q' σ → Q σ) : Asg t d σ Q := by
  unfold Asg at h ⊢
  cases e : assign t d σ with
  | none => rw [e] at h; exact h
  | some σ1 => rw [e] at h; exact q _ h
/-- data that is shown in at most b signs -/
structure Sm (d b : Nat) (p : PyData) : Prop where
  sh : PyData.showable p = true
  dp : p.depth ≤ d
  ln : (PyData.shown p).length ≤ b
  ok : PyData.strOk (PyData.shown p) = true
theorem Sm.okP {d b : Nat} {p : PyData} (h : Sm d b p) (hd : d ≤ 64) (hb : b ≤ 1000000) : okP p = true := by
  unfold G.okP
  rw [okTop_show h.sh, h.ok, decide_eq_true (Nat.le_trans h.dp hd), Nat.ble_eq_true_of_le (line_of (Nat.le_trans h.ln hb))]
  rfl
theorem Sm.mono {d b d' b' : Nat} {p : PyData} (h : Sm d b p) (hd : d ≤ d') (hb : b ≤ b') : Sm d' b' p := ⟨h.sh, Nat.le_trans h.dp hd, Nat.le_trans h.ln hb, h.ok⟩
theorem Sm.str {x : Str} (h : PyData.strOk x = true) : Sm 0 (10 * x.length + 2) (.str x) := ⟨rfl, Nat.le_refl _, reprText_le h, reprText_ok h⟩
theorem strOk_join2 {xs : List Str} (hx : ∀ x ∈ xs, PyData.strOk x = true) : PyData.strOk (Str.join ", " xs) = true := by
  have e : Str.join ", " xs = Txt.join (sx ", ") xs := (TL.join_eq _ _).symm
  rw [e]
  exact strOk_join (strOk_sx _) hx
theorem shownAll_map : ∀ ps : List PyData, PyData.shownAll ps = ps.map PyData.shown
  | [] => rfl
  | p :: ps => by
    show PyData.shown p :: PyData.shownAll ps = _
    rw [shownAll_map ps]
    rfl
theorem Sm.tup {d b : Nat} {ps : List PyData} (h : ∀ p ∈ ps, Sm d b p) : Sm (d + 1) (ps.length * (b + 2) + 3) (.tuple ps) := by
  have h1 : ∀ ps : List PyData, (∀ p ∈ ps, Sm d b p) → PyData.showableAll ps = true := fun ps => by
    induction ps with
    | nil => intro _; rfl
    | cons x xs ih =>
      intro h
      show (PyData.showable x && PyData.showableAll xs) = true
      rw [(h x (by simp)).sh, ih fun y hy => h y (by simp [hy])]
      rfl
  have h2 : ∀ ps : List PyData, (∀ p ∈ ps, Sm d b p) → PyData.depthAll ps ≤ d := fun ps => by
    induction ps with
    | nil => intro _; exact Nat.zero_le _
    | cons x xs ih =>
      intro h
      show max (PyData.depth x) (PyData.depthAll xs) ≤ d
      have := (h x (by simp)).dp
      have := ih fun y hy => h y (by simp [hy])
      omega
  have es : PyData.shown (.tuple ps) = tupleText (ps.map PyData.shown) := by
    show tupleText (PyData.shownAll _) = _
    rw [shownAll_map]
  refine ⟨h1 ps h, Nat.succ_le_succ (h2 ps h), ?_, ?_⟩
  · rw [es]
    have a := tupleText_len_le (ps.map PyData.shown)
    have c := sum_le (l := (ps.map PyData.shown).map (·.length)) (b := b) fun z hz => by
      obtain ⟨y, hy, rfl⟩ := List.mem_map.mp hz
      obtain ⟨x, hx, rfl⟩ := List.mem_map.mp hy
      exact (h x hx).ln
    rw [List.length_map, List.length_map] at c
    rw [List.length_map] at a
    rw [Nat.mul_add]
    omega
  · rw [es]
    unfold tupleText
    refine strOk_app (strOk_app (by kernel_rfl) (strOk_join2 fun x hx => ?_)) ?_
    · obtain ⟨y, hy, rfl⟩ := List.mem_map.mp hx
      exact (h y hy).ok
    · split <;> kernel_rfl
theorem Sm.non : Sm 0 4 .none := ⟨rfl, Nat.le_refl _, by decide +kernel, by kernel_rfl⟩
theorem Sm.nat {n : Nat} (h : n ≤ 100) : Sm 0 3 (.int n) := by
  have : (List.range 101).all (fun n => PyData.showable (.int (n : Nat)) && (decide ((PyData.shown (.int (n : Nat))).length ≤ 3) && PyData.strOk (PyData.shown (.int (n : Nat))))) = true := by kernel_rfl
  have := List.all_eq_true.mp this n (by simp; omega)
  simp only [Bool.and_eq_true, decide_eq_true_eq] at this
  exact ⟨this.1, Nat.le_refl _, this.2.1, this.2.2⟩
section
variable {ct : Ct} {s : Store} {Q : D → Store → Prop} {X : Nat → D → Store → Prop}
theorem toP_tup {n : Nat} {xs : List D} {ps : List PyData} (h : oAll (xs.map (toP s n)) = some ps) : toP s (n + 1) (.tup xs) = some (.tuple ps) := by
  unfold toP
  simp only
  rw [h]
  rfl
theorem toP_str {n : Nat} {x : Str} : toP s (n + 1) (.str x) = some (.str x) := rfl
theorem toP_int {n : Nat} {x : Int} : toP s (n + 1) (.int x) = some (.int x) := rfl
theorem toP_tupS {n : Nat} {xs : List Str} : toP s (n + 2) (.tup (xs.map D.str)) = some (.tuple (xs.map PyData.str)) := toP_tup (oAll_strs s n xs)
/-- the repr of a tuple -/
theorem repr_tup {xs : List D} {p : PyData} {d b : Nat} (ht : toP s deep (.tup xs) = some p) (h : Sm d b p) (hd : d ≤ 64) (hb : b ≤ 1000000) (hrp : ct.T.rp = true := by first | rfl | assumption) : prim ct .repr [.tup xs] s = .ok (.str (PyData.shown p)) s := repr_of rfl ht (h.okP hd hb)
theorem eqB {a b : Bool} : eqD ct (.bl a) (.bl b) s = .ok (a == b) s := eqD_dat (p := .bool a) (q := .bool b) rfl rfl rfl rfl rfl
theorem wpp_eqB {a b : Bool} (k : Q (.bl (a == b)) s) : wp (prim ct .eq [.bl a, .bl b]) Q X s := wpp_eq eqB k
theorem wpp_neBB {a : Bool} (k : Q (.bl false) s) : wp (prim ct .ne [.bl a, .bl a]) Q X s := wpp_ne (t := true) (by rw [eqB]; simp) k
theorem wpp_neB {a b : Bool} (k : Q (.bl (!(a == b))) s) : wp (prim ct .ne [.bl a, .bl b]) Q X s := wpp_ne eqB k
end
section
variable {ct : Ct} {s : Store} {σ σ0 : Env} {X : Nat → D → Store → Prop}
/-- turns that draw: a comprehension of True alone -/
theorem wp_compAll {Q : D → Store → Prop} {k N d : Nat} {w : List D × Gd} {tg : Tg} {own : List Nat} {elt : E} (hp : Pot k N s) (hσ : wipeE σ own = σ0)
    (turn : ∀ x ∈ w.1, ∀ (s' : Store) (N' : Nat), N' ≤ N + d * w.1.length → Adv k N' s s' → Asg tg x σ0 fun σ1 => wp (ev ct elt σ1) (fun y s2 => y = .bl true ∧ Adv k (N' + d) s' s2) noX s')
    (hg : ∀ p ∈ w.2, p.1 ≠ k ∧ s[p.1]? = some (.lst p.2)) (hl : w.1.length ≤ 1000)
    (K : ∀ (m : Nat) (s' : Store), prim ct .all1 [.obj m] s' = .ok (.bl true) s' → Adv k (N + d * w.1.length) s s' → Q (.obj m) s') :
    wp (compR w tg own (fun σ => evO ct none σ) (fun σ => ev ct elt σ) σ) Q X s := by
  have lk := hp.lt
  refine wp_compR (wp_compL hσ (fun xs acc s' => (∀ v ∈ acc, v = .bl true) ∧ acc.length + xs.length = w.1.length ∧ (∀ x ∈ xs, x ∈ w.1) ∧ s'[s.length]? = some (.lst acc) ∧ Adv k (N + d * acc.length) s s') ?_ ?_ w.1 [] _ ?_)
  · rintro x xs acc s' ⟨ht, hn, hm, hs, av⟩
    rw [List.length_cons] at hn
    have hb : d * acc.length ≤ d * w.1.length := Nat.mul_le_mul_left _ (by omega)
    refine ⟨fun p hp => av.keep _ _ (hg p hp).1 (hg p hp).2, line_of (by omega), ?_⟩
    have := turn x (hm x (by simp)) s' _ (by omega) av
    refine Asg.mono this fun σ1 h => ?_
    refine wp_O0 (wp_mono h (fun y s2 h => ?_) fun _ _ _ h => h.elim)
    obtain ⟨rfl, a2⟩ := h
    have hs2 := a2.keep _ _ (by omega) hs
    refine ⟨hs2, fun v hv => ?_, by simp; omega, fun y hy => hm y (by simp [hy]), List.getElem?_set_self (List.getElem?_eq_some_iff.mp hs2).1, ?_⟩
    · rcases List.mem_append.mp hv with z | z
      · exact ht v z
      · simpa using z
    · rw [List.length_append, List.length_singleton]
      exact ((av.trans a2).set (Nat.le_refl _) lk).mono (by rw [Nat.mul_add]; omega)
  · rintro acc s' ⟨ht, hn, hm, hs, av⟩
    refine ⟨fun p hp => av.keep _ _ (hg p hp).1 (hg p hp).2, ?_⟩
    obtain ⟨l, e, hb⟩ := bools_true acc ht
    refine K _ _ ?_ ?_
    · rw [all1_ok hs e, hb]
    · rw [List.length_nil] at hn
      have : acc.length = w.1.length := by omega
      rw [← this]
      exact av
  · exact ⟨(fun v hv => nomatch hv), by simp, (fun x hx => hx), at_len, .app hp _⟩
/-- .. a for -/
theorem wp_forA {Q : Fl → Store → Prop} {k N d : Nat} {g : Gd} {tg : Tg} {body : Env → M Fl} (P : Env → Prop) (xs : List D) (h0 : P σ) (hp : Pot k N s)
    (turn : ∀ x ∈ xs, ∀ (σ : Env) (s' : Store) (N' : Nat), N' ≤ N + d * xs.length → P σ → Adv k N' s s' → Asg tg x σ fun σ1 => wp (body σ1) (fun f s2 => ∃ σ2, f = .nx σ2 ∧ P σ2 ∧ Adv k (N' + d) s' s2) noX s')
    (hg : ∀ p ∈ g, p.1 ≠ k ∧ s[p.1]? = some (.lst p.2))
    (K : ∀ (σ : Env) (s' : Store), P σ → Adv k (N + d * xs.length) s s' → Q (.nx σ) s') : wp (forL g tg body xs σ) Q X s := by
  refine wp_forL (fun ys σ s' => P σ ∧ ∃ j, j + ys.length = xs.length ∧ (∀ x ∈ ys, x ∈ xs) ∧ Adv k (N + d * j) s s') ?_ ?_ xs σ s ⟨h0, 0, by simp, (fun x hx => hx), .refl hp⟩
  · rintro x ys σ s' ⟨hP, j, hj, hm, av⟩
    rw [List.length_cons] at hj
    have hb : d * j ≤ d * xs.length := Nat.mul_le_mul_left _ (by omega)
    refine ⟨fun p hp => av.keep _ _ (hg p hp).1 (hg p hp).2, ?_⟩
    refine Asg.mono (turn x (hm x (by simp)) σ s' _ (by omega) hP av) fun σ1 h => ?_
    refine wp_mono h (fun f s2 h => ?_) fun _ _ _ h => h.elim
    obtain ⟨σ2, rfl, h2, a2⟩ := h
    exact ⟨h2, j + 1, by omega, fun y hy => hm y (by simp [hy]), (av.trans a2).mono (by rw [Nat.mul_add]; omega)⟩
  · rintro σ s' ⟨hP, j, hj, hm, av⟩
    refine ⟨fun p hp => av.keep _ _ (hg p hp).1 (hg p hp).2, K σ s' hP ?_⟩
    rw [List.length_nil] at hj
    have : j = xs.length := by omega
    rw [← this]
    exact av
end
end G
set_option Elab.async false
set_option linter.all false
set_option maxRecDepth 1000000
set_option maxHeartbeats 4000000
namespace K01
open PySem PySem.Spec PyProof.Rows L2 G
def body : List Stmt := PySem.Challenge.pw_loosemirrors_k01_ratios_made.main.body
/-- the defs of the text: names, places in the text, parameters, all names -/
def defs : List DefRow := [⟨"_wall", "_wall", .top 0, ["k"], ["k"], false, []⟩,
  ⟨"is_integer", "is_integer", .top 8, ["value"], ["value"], false, []⟩,
  ⟨"is_whole", "is_whole", .top 9, ["word"], ["word", "sign"], false, []⟩,
  ⟨"common", "common", .top 10, ["one", "other"], ["one", "other"], false, []⟩,
  ⟨"__init__", "Ratio.__init__", .meth 13 1 3, ["self", "number", "under"], ["self", "number", "under", "by"], false, [1]⟩,
  ⟨"number", "Ratio.number", .prop 13 2 3, ["self"], ["self"], false, []⟩,
  ⟨"under", "Ratio.under", .prop 13 3 3, ["self"], ["self"], false, []⟩,
  ⟨"text", "Ratio.text", .prop 13 4 3, ["self"], ["self"], false, []⟩,
  ⟨"of", "Ratio.of", .stat 13 5 3, ["text"], ["text", "found"], false, []⟩,
  ⟨"divided", "Ratio.divided", .meth 13 6 3, ["self", "other"], ["self", "other"], false, []⟩,
  ⟨"__repr__", "Ratio.__repr__", .meth 13 7 3, ["self"], ["self"], false, []⟩,
  ⟨"__eq__", "Ratio.__eq__", .meth 13 8 3, ["self", "other"], ["self", "other"], false, []⟩,
  ⟨"__lt__", "Ratio.__lt__", .meth 13 9 3, ["self", "other"], ["self", "other"], false, []⟩,
  ⟨"__le__", "Ratio.__le__", .meth 13 10 3, ["self", "other"], ["self", "other"], false, []⟩,
  ⟨"__gt__", "Ratio.__gt__", .meth 13 11 3, ["self", "other"], ["self", "other"], false, []⟩,
  ⟨"__ge__", "Ratio.__ge__", .meth 13 12 3, ["self", "other"], ["self", "other"], false, []⟩,
  ⟨"__neg__", "Ratio.__neg__", .meth 13 13 3, ["self"], ["self"], false, []⟩,
  ⟨"__add__", "Ratio.__add__", .meth 13 14 3, ["self", "other"], ["self", "other"], false, []⟩,
  ⟨"__radd__", "Ratio.__radd__", .meth 13 15 3, ["self", "other"], ["self", "other"], false, []⟩,
  ⟨"__sub__", "Ratio.__sub__", .meth 13 16 3, ["self", "other"], ["self", "other"], false, []⟩,
  ⟨"__rsub__", "Ratio.__rsub__", .meth 13 17 3, ["self", "other"], ["self", "other"], false, []⟩,
  ⟨"__mul__", "Ratio.__mul__", .meth 13 18 3, ["self", "other"], ["self", "other"], false, []⟩,
  ⟨"__rmul__", "Ratio.__rmul__", .meth 13 19 3, ["self", "other"], ["self", "other"], false, []⟩,
  ⟨"is_number", "is_number", .top 14, ["value"], ["value"], false, []⟩,
  ⟨"as_ratio", "as_ratio", .top 15, ["number"], ["number"], false, []⟩,
  ⟨"gap", "gap", .top 16, ["one", "other"], ["one", "other", "beside"], false, []⟩,
  ⟨"joined", "joined", .top 17, ["one", "other", "sign"], ["one", "other", "sign", "above"], false, []⟩,
  ⟨"multiplied", "multiplied", .top 18, ["one", "other"], ["one", "other"], false, []⟩,
  ⟨"ratio_in", "ratio_in", .top 19, ["text"], ["text", "words", "word", "above", "found"], false, []⟩,
  ⟨"_law_pot", "_law_pot", .top 21, ["script", "place"], ["script", "place", "cell", "own", "small"], false, []⟩,
  ⟨"_law_take", "_law_take", .top 22, ["pot", "upto"], ["pot", "upto", "digit", "prime", "blend"], false, []⟩,
  ⟨"_law_of", "_law_of", .top 23, ["pot", "some"], ["pot", "some"], false, []⟩,
  ⟨"_law_cells", "_law_cells", .top 24, ["script", "most"], ["script", "most"], false, []⟩,
  ⟨"_law_told", "_law_told", .top 25, ["call"], ["call", "caught", "back", "error"], false, []⟩,
  ⟨"_law_gcd", "_law_gcd", .top 26, ["one", "other"], ["one", "other"], false, []⟩,
  ⟨"_law_fr", "_law_fr", .top 27, ["number", "under"], ["number", "under", "by"], false, [1]⟩,
  ⟨"_law_number", "_law_number", .top 28, ["pot"], ["pot", "size"], false, []⟩,
  ⟨"_law_is_made", "_law_is_made", .top 29, ["top", "low"], ["top", "low", "part", "due", "text"], false, []⟩,
  ⟨"_law_is_refused", "_law_is_refused", .top 30, ["call", "value"], ["call", "value", "caught"], false, []⟩,
  ⟨"_law_right", "_law_right", .top 31, ["pot"], ["pot", "lap", "top", "low", "odd"], true, []⟩,
  ⟨"law", "law", .top 32, ["script"], ["script", "place"], false, []⟩]
/-- the classes -/
def clss : List ClsRow := [⟨"MirrorError", true, [0], [], [], [], false⟩,
  ⟨"BadRatio", true, [1, 0], [], [], [], false⟩,
  ⟨"BadText", true, [2, 0], [], [], [], false⟩,
  ⟨"Ratio", false, [3], [2, 3], [(20, 4), (100, 9), (17, 10), (4, 11), (5, 12), (6, 13), (7, 14), (8, 15), (9, 16), (1, 17), (14, 18), (2, 19), (15, 20), (3, 21), (16, 22)], [(4, 5), (5, 6), (6, 7)], true⟩]
def con : List (Str × D) := [("FIGURES", .str (sx "0123456789")), ("MINUS", .str (sx "-")), ("STROKE", .str (sx "/"))]
def met : List (Str × Nat) := [("divided", 100)]
def att : List (Str × Nat) := [("own_number", 2), ("own_under", 3), ("number", 4), ("under", 5), ("text", 6)]
def cc : CC := mkCC defs clss con met att
def td : Option TdN := some ⟨sx "_law_told", 0, [38]⟩
def T : Tab := mkT cc td body defs clss
abbrev lawId : Nat := 40
def st0 : Stmt := (stOf body (.top 0)).getD (.Pass ⟨0, 0, 0, 0⟩)
theorem bd0 : BindsOk (sx "_wall") (sx "_wall") st0 ["k"] [] := fun _ _ _ _ _ _ us hl => match us, hl with | [_], _ => rfl
def st1 : Stmt := (stOf body (.top 8)).getD (.Pass ⟨0, 0, 0, 0⟩)
theorem bd1 : BindsOk (sx "is_integer") (sx "is_integer") st1 ["value"] [] := fun _ _ _ _ _ _ us hl => match us, hl with | [_], _ => rfl
def st2 : Stmt := (stOf body (.top 9)).getD (.Pass ⟨0, 0, 0, 0⟩)
theorem bd2 : BindsOk (sx "is_whole") (sx "is_whole") st2 ["word"] [] := fun _ _ _ _ _ _ us hl => match us, hl with | [_], _ => rfl
def st3 : Stmt := (stOf body (.top 10)).getD (.Pass ⟨0, 0, 0, 0⟩)
theorem bd3 : BindsOk (sx "common") (sx "common") st3 ["one", "other"] [] := fun _ _ _ _ _ _ us hl => match us, hl with | [_, _], _ => rfl
def st4 : Stmt := (stOf body (.meth 13 1 3)).getD (.Pass ⟨0, 0, 0, 0⟩)
theorem bd4 : BindsOk (sx "__init__") (sx "Ratio.__init__") st4 ["self", "number", "under"] [1] := fun _ _ _ _ _ _ _ us its hl => match its, hl with | [_], _ => ⟨fun h => match us, h with | [_, _, _], _ => ⟨_, rfl, rfl⟩, fun h => match us, h with | [_, _], _ => ⟨_, rfl, rfl⟩⟩
def st5 : Stmt := (stOf body (.prop 13 2 3)).getD (.Pass ⟨0, 0, 0, 0⟩)
theorem bd5 : BindsOk (sx "number") (sx "Ratio.number") st5 ["self"] [] := fun _ _ _ _ _ _ us hl => match us, hl with | [_], _ => rfl
def st6 : Stmt := (stOf body (.prop 13 3 3)).getD (.Pass ⟨0, 0, 0, 0⟩)
theorem bd6 : BindsOk (sx "under") (sx "Ratio.under") st6 ["self"] [] := fun _ _ _ _ _ _ us hl => match us, hl with | [_], _ => rfl
def st7 : Stmt := (stOf body (.prop 13 4 3)).getD (.Pass ⟨0, 0, 0, 0⟩)
theorem bd7 : BindsOk (sx "text") (sx "Ratio.text") st7 ["self"] [] := fun _ _ _ _ _ _ us hl => match us, hl with | [_], _ => rfl
def st8 : Stmt := (stOf body (.stat 13 5 3)).getD (.Pass ⟨0, 0, 0, 0⟩)
theorem bd8 : BindsOk (sx "of") (sx "Ratio.of") st8 ["text"] [] := fun _ _ _ _ _ _ us hl => match us, hl with | [_], _ => rfl
def st9 : Stmt := (stOf body (.meth 13 6 3)).getD (.Pass ⟨0, 0, 0, 0⟩)
theorem bd9 : BindsOk (sx "divided") (sx "Ratio.divided") st9 ["self", "other"] [] := fun _ _ _ _ _ _ us hl => match us, hl with | [_, _], _ => rfl
def st10 : Stmt := (stOf body (.meth 13 7 3)).getD (.Pass ⟨0, 0, 0, 0⟩)
theorem bd10 : BindsOk (sx "__repr__") (sx "Ratio.__repr__") st10 ["self"] [] := fun _ _ _ _ _ _ us hl => match us, hl with | [_], _ => rfl
def st11 : Stmt := (stOf body (.meth 13 8 3)).getD (.Pass ⟨0, 0, 0, 0⟩)
theorem bd11 : BindsOk (sx "__eq__") (sx "Ratio.__eq__") st11 ["self", "other"] [] := fun _ _ _ _ _ _ us hl => match us, hl with | [_, _], _ => rfl
def st12 : Stmt := (stOf body (.meth 13 9 3)).getD (.Pass ⟨0, 0, 0, 0⟩)
theorem bd12 : BindsOk (sx "__lt__") (sx "Ratio.__lt__") st12 ["self", "other"] [] := fun _ _ _ _ _ _ us hl => match us, hl with | [_, _], _ => rfl
def st13 : Stmt := (stOf body (.meth 13 10 3)).getD (.Pass ⟨0, 0, 0, 0⟩)
theorem bd13 : BindsOk (sx "__le__") (sx "Ratio.__le__") st13 ["self", "other"] [] := fun _ _ _ _ _ _ us hl => match us, hl with | [_, _], _ => rfl
def st14 : Stmt := (stOf body (.meth 13 11 3)).getD (.Pass ⟨0, 0, 0, 0⟩)
theorem bd14 : BindsOk (sx "__gt__") (sx "Ratio.__gt__") st14 ["self", "other"] [] := fun _ _ _ _ _ _ us hl => match us, hl with | [_, _], _ => rfl
def st15 : Stmt := (stOf body (.meth 13 12 3)).getD (.Pass ⟨0, 0, 0, 0⟩)
theorem bd15 : BindsOk (sx "__ge__") (sx "Ratio.__ge__") st15 ["self", "other"] [] := fun _ _ _ _ _ _ us hl => match us, hl with | [_, _], _ => rfl
def st16 : Stmt := (stOf body (.meth 13 13 3)).getD (.Pass ⟨0, 0, 0, 0⟩)
theorem bd16 : BindsOk (sx "__neg__") (sx "Ratio.__neg__") st16 ["self"] [] := fun _ _ _ _ _ _ us hl => match us, hl with | [_], _ => rfl
def st17 : Stmt := (stOf body (.meth 13 14 3)).getD (.Pass ⟨0, 0, 0, 0⟩)
theorem bd17 : BindsOk (sx "__add__") (sx "Ratio.__add__") st17 ["self", "other"] [] := fun _ _ _ _ _ _ us hl => match us, hl with | [_, _], _ => rfl
def st18 : Stmt := (stOf body (.meth 13 15 3)).getD (.Pass ⟨0, 0, 0, 0⟩)
theorem bd18 : BindsOk (sx "__radd__") (sx "Ratio.__radd__") st18 ["self", "other"] [] := fun _ _ _ _ _ _ us hl => match us, hl with | [_, _], _ => rfl
def st19 : Stmt := (stOf body (.meth 13 16 3)).getD (.Pass ⟨0, 0, 0, 0⟩)
theorem bd19 : BindsOk (sx "__sub__") (sx "Ratio.__sub__") st19 ["self", "other"] [] := fun _ _ _ _ _ _ us hl => match us, hl with | [_, _], _ => rfl
def st20 : Stmt := (stOf body (.meth 13 17 3)).getD (.Pass ⟨0, 0, 0, 0⟩)
theorem bd20 : BindsOk (sx "__rsub__") (sx "Ratio.__rsub__") st20 ["self", "other"] [] := fun _ _ _ _ _ _ us hl => match us, hl with | [_, _], _ => rfl
def st21 : Stmt := (stOf body (.meth 13 18 3)).getD (.Pass ⟨0, 0, 0, 0⟩)
theorem bd21 : BindsOk (sx "__mul__") (sx "Ratio.__mul__") st21 ["self", "other"] [] := fun _ _ _ _ _ _ us hl => match us, hl with | [_, _], _ => rfl
def st22 : Stmt := (stOf body (.meth 13 19 3)).getD (.Pass ⟨0, 0, 0, 0⟩)
theorem bd22 : BindsOk (sx "__rmul__") (sx "Ratio.__rmul__") st22 ["self", "other"] [] := fun _ _ _ _ _ _ us hl => match us, hl with | [_, _], _ => rfl
def st23 : Stmt := (stOf body (.top 14)).getD (.Pass ⟨0, 0, 0, 0⟩)
theorem bd23 : BindsOk (sx "is_number") (sx "is_number") st23 ["value"] [] := fun _ _ _ _ _ _ us hl => match us, hl with | [_], _ => rfl
def st24 : Stmt := (stOf body (.top 15)).getD (.Pass ⟨0, 0, 0, 0⟩)
theorem bd24 : BindsOk (sx "as_ratio") (sx "as_ratio") st24 ["number"] [] := fun _ _ _ _ _ _ us hl => match us, hl with | [_], _ => rfl
def st25 : Stmt := (stOf body (.top 16)).getD (.Pass ⟨0, 0, 0, 0⟩)
theorem bd25 : BindsOk (sx "gap") (sx "gap") st25 ["one", "other"] [] := fun _ _ _ _ _ _ us hl => match us, hl with | [_, _], _ => rfl
def st26 : Stmt := (stOf body (.top 17)).getD (.Pass ⟨0, 0, 0, 0⟩)
theorem bd26 : BindsOk (sx "joined") (sx "joined") st26 ["one", "other", "sign"] [] := fun _ _ _ _ _ _ us hl => match us, hl with | [_, _, _], _ => rfl
def st27 : Stmt := (stOf body (.top 18)).getD (.Pass ⟨0, 0, 0, 0⟩)
theorem bd27 : BindsOk (sx "multiplied") (sx "multiplied") st27 ["one", "other"] [] := fun _ _ _ _ _ _ us hl => match us, hl with | [_, _], _ => rfl
def st28 : Stmt := (stOf body (.top 19)).getD (.Pass ⟨0, 0, 0, 0⟩)
theorem bd28 : BindsOk (sx "ratio_in") (sx "ratio_in") st28 ["text"] [] := fun _ _ _ _ _ _ us hl => match us, hl with | [_], _ => rfl
def st29 : Stmt := (stOf body (.top 21)).getD (.Pass ⟨0, 0, 0, 0⟩)
theorem bd29 : BindsOk (sx "_law_pot") (sx "_law_pot") st29 ["script", "place"] [] := fun _ _ _ _ _ _ us hl => match us, hl with | [_, _], _ => rfl
def st30 : Stmt := (stOf body (.top 22)).getD (.Pass ⟨0, 0, 0, 0⟩)
theorem bd30 : BindsOk (sx "_law_take") (sx "_law_take") st30 ["pot", "upto"] [] := fun _ _ _ _ _ _ us hl => match us, hl with | [_, _], _ => rfl
def st31 : Stmt := (stOf body (.top 23)).getD (.Pass ⟨0, 0, 0, 0⟩)
theorem bd31 : BindsOk (sx "_law_of") (sx "_law_of") st31 ["pot", "some"] [] := fun _ _ _ _ _ _ us hl => match us, hl with | [_, _], _ => rfl
def st32 : Stmt := (stOf body (.top 24)).getD (.Pass ⟨0, 0, 0, 0⟩)
theorem bd32 : BindsOk (sx "_law_cells") (sx "_law_cells") st32 ["script", "most"] [] := fun _ _ _ _ _ _ us hl => match us, hl with | [_, _], _ => rfl
def st33 : Stmt := (stOf body (.top 25)).getD (.Pass ⟨0, 0, 0, 0⟩)
theorem bd33 : BindsOk (sx "_law_told") (sx "_law_told") st33 ["call"] [] := fun _ _ _ _ _ _ us hl => match us, hl with | [_], _ => rfl
def st34 : Stmt := (stOf body (.top 26)).getD (.Pass ⟨0, 0, 0, 0⟩)
theorem bd34 : BindsOk (sx "_law_gcd") (sx "_law_gcd") st34 ["one", "other"] [] := fun _ _ _ _ _ _ us hl => match us, hl with | [_, _], _ => rfl
def st35 : Stmt := (stOf body (.top 27)).getD (.Pass ⟨0, 0, 0, 0⟩)
theorem bd35 : BindsOk (sx "_law_fr") (sx "_law_fr") st35 ["number", "under"] [1] := fun _ _ _ _ _ _ _ us its hl => match its, hl with | [_], _ => ⟨fun h => match us, h with | [_, _], _ => ⟨_, rfl, rfl⟩, fun h => match us, h with | [_], _ => ⟨_, rfl, rfl⟩⟩
def st36 : Stmt := (stOf body (.top 28)).getD (.Pass ⟨0, 0, 0, 0⟩)
theorem bd36 : BindsOk (sx "_law_number") (sx "_law_number") st36 ["pot"] [] := fun _ _ _ _ _ _ us hl => match us, hl with | [_], _ => rfl
def st37 : Stmt := (stOf body (.top 29)).getD (.Pass ⟨0, 0, 0, 0⟩)
theorem bd37 : BindsOk (sx "_law_is_made") (sx "_law_is_made") st37 ["top", "low"] [] := fun _ _ _ _ _ _ us hl => match us, hl with | [_, _], _ => rfl
def st38 : Stmt := (stOf body (.top 30)).getD (.Pass ⟨0, 0, 0, 0⟩)
theorem bd38 : BindsOk (sx "_law_is_refused") (sx "_law_is_refused") st38 ["call", "value"] [] := fun _ _ _ _ _ _ us hl => match us, hl with | [_, _], _ => rfl
def st39 : Stmt := (stOf body (.top 31)).getD (.Pass ⟨0, 0, 0, 0⟩)
theorem bd39 : BindsOk (sx "_law_right") (sx "_law_right") st39 ["pot"] [] := fun _ _ _ _ _ _ us hl => match us, hl with | [_], _ => rfl
def st40 : Stmt := (stOf body (.top 32)).getD (.Pass ⟨0, 0, 0, 0⟩)
theorem bd40 : BindsOk (sx "law") (sx "law") st40 ["script"] [] := fun _ _ _ _ _ _ us hl => match us, hl with | [_], _ => rfl
end K01
set_option Elab.async false
set_option linter.all false
set_option maxRecDepth 1000000
set_option maxHeartbeats 4000000
namespace K01
open G
@[reducible] def f0t1 : E := (.con (.bl true))
@[reducible] def f0b2 : List S := [.pass]
def f0 : Fn := ⟨1, 1, [
  (.whileS f0t1 f0b2)]⟩
theorem t0 : T.fn 0 = some f0 := by kernel_rfl
def f1 : Fn := ⟨1, 1, [
  (.ret (.and (.prim .isi [(.var 0), (.con (.ty "int"))]) (.not (.prim .isi [(.var 0), (.con (.ty "bool"))]))))]⟩
theorem t1 : T.fn 1 = some f1 := by kernel_rfl
@[reducible] def f2e1 : E := (.prim .inn [(.var 1), (.con (.str (sx "0123456789")))])
def f2 : Fn := ⟨2, 1, [
  (.ifS (.or (.prim .eq [(.var 0), (.con (.str (sx "")))]) (.not (.prim .all1 [(.comp (.n 1) [1] (.seq (.var 0)) none f2e1)]))) [(.ret (.con (.bl false)))] []),
  (.ret (.or (.prim .eq [(.var 0), (.con (.str (sx "0")))]) (.prim .ne [(.prim .idx [(.var 0), (.con (.int (0)))]), (.con (.str (sx "0")))])))]⟩
theorem t2 : T.fn 2 = some f2 := by kernel_rfl
@[reducible] def f3t1 : E := (.prim .ne [(.var 1), (.con (.int (0)))])
@[reducible] def f3b2 : List S := [(.asg (.t [(.n 0), (.n 1)]) (.prim .tup [(.var 1), (.prim .mod [(.var 0), (.var 1)])]))]
def f3 : Fn := ⟨2, 2, [
  (.asg (.t [(.n 0), (.n 1)]) (.prim .tup [(.prim .abs [(.var 0)]), (.prim .abs [(.var 1)])])),
  (.whileS f3t1 f3b2),
  (.ret (.var 0))]⟩
theorem t3 : T.fn 3 = some f3 := by kernel_rfl
def f4 : Fn := ⟨4, 3, [
  (.ifS (.or (.not (.call 1 [(.var 1)])) (.or (.not (.call 1 [(.var 2)])) (.prim .eq [(.var 2), (.con (.int (0)))]))) [(.raise 1 (.prim .tup [(.var 1), (.var 2)]))] []),
  (.asg (.n 3) (.call 3 [(.var 1), (.var 2)])),
  (.asg (.n 3) (.ifx (.prim .lt [(.var 2), (.con (.int (0)))]) (.prim .neg [(.var 3)]) (.var 3))),
  (.setAtt 2 (.var 0) (.prim .fdiv [(.var 1), (.var 3)])),
  (.setAtt 3 (.var 0) (.prim .fdiv [(.var 2), (.var 3)]))]⟩
theorem t4 : T.fn 4 = some f4 := by kernel_rfl
def f5 : Fn := ⟨1, 1, [
  (.ret (.att 2 (.var 0)))]⟩
theorem t5 : T.fn 5 = some f5 := by kernel_rfl
def f6 : Fn := ⟨1, 1, [
  (.ret (.att 3 (.var 0)))]⟩
theorem t6 : T.fn 6 = some f6 := by kernel_rfl
def f7 : Fn := ⟨1, 1, [
  (.ifS (.prim .eq [(.att 3 (.var 0)), (.con (.int (1)))]) [(.ret (.prim .str1 [(.att 2 (.var 0))]))] []),
  (.ret (.fstr [(.prim .fmt [(.att 2 (.var 0))]), (.prim .fmt [(.con (.str (sx "/")))]), (.prim .fmt [(.att 3 (.var 0))])]))]⟩
theorem t7 : T.fn 7 = some f7 := by kernel_rfl
def f8 : Fn := ⟨2, 1, [
  (.asg (.n 1) (.ifx (.prim .isi [(.var 0), (.con (.ty "str"))]) (.call 28 [(.var 0)]) (.con .non))),
  (.ifS (.prim .isN [(.var 1)]) [(.raise 2 (.var 0))] []),
  (.ret (.var 1))]⟩
theorem t8 : T.fn 8 = some f8 := by kernel_rfl
def f9 : Fn := ⟨2, 2, [
  (.expr (.call 0 [(.con (.int (0)))]))]⟩
theorem t9 : T.fn 9 = some f9 := by kernel_rfl
def f10 : Fn := ⟨1, 1, [
  (.ifS (.prim .eq [(.att 3 (.var 0)), (.con (.int (1)))]) [(.ret (.fstr [(.con (.str (sx "Ratio("))), (.prim .fmt [(.att 2 (.var 0))]), (.con (.str (sx ")")))]))] []),
  (.ret (.fstr [(.con (.str (sx "Ratio("))), (.prim .fmt [(.att 2 (.var 0))]), (.con (.str (sx ", "))), (.prim .fmt [(.att 3 (.var 0))]), (.con (.str (sx ")")))]))]⟩
theorem t10 : T.fn 10 = some f10 := by kernel_rfl
def f11 : Fn := ⟨2, 2, [
  (.ret (.and (.prim .isi [(.var 1), (.con (.cls 3))]) (.and (.prim .eq [(.att 2 (.var 0)), (.att 2 (.var 1))]) (.prim .eq [(.att 3 (.var 0)), (.att 3 (.var 1))]))))]⟩
theorem t11 : T.fn 11 = some f11 := by kernel_rfl
def f12 : Fn := ⟨2, 2, [
  (.ifS (.not (.call 23 [(.var 1)])) [(.ret .never)] []),
  (.ret (.prim .lt [(.call 25 [(.var 0), (.var 1)]), (.con (.int (0)))]))]⟩
theorem t12 : T.fn 12 = some f12 := by kernel_rfl
def f13 : Fn := ⟨2, 2, [
  (.ifS (.not (.call 23 [(.var 1)])) [(.ret .never)] []),
  (.ret (.prim .le [(.call 25 [(.var 0), (.var 1)]), (.con (.int (0)))]))]⟩
theorem t13 : T.fn 13 = some f13 := by kernel_rfl
def f14 : Fn := ⟨2, 2, [
  (.ifS (.not (.call 23 [(.var 1)])) [(.ret .never)] []),
  (.ret (.prim .gt [(.call 25 [(.var 0), (.var 1)]), (.con (.int (0)))]))]⟩
theorem t14 : T.fn 14 = some f14 := by kernel_rfl
def f15 : Fn := ⟨2, 2, [
  (.ifS (.not (.call 23 [(.var 1)])) [(.ret .never)] []),
  (.ret (.prim .ge [(.call 25 [(.var 0), (.var 1)]), (.con (.int (0)))]))]⟩
theorem t15 : T.fn 15 = some f15 := by kernel_rfl
def f16 : Fn := ⟨1, 1, [
  (.ret (.make 3 [(.prim .neg [(.att 2 (.var 0))]), (.att 3 (.var 0))]))]⟩
theorem t16 : T.fn 16 = some f16 := by kernel_rfl
def f17 : Fn := ⟨2, 2, [
  (.ifS (.not (.call 23 [(.var 1)])) [(.ret .never)] []),
  (.ret (.call 26 [(.var 0), (.call 24 [(.var 1)]), (.con (.int (1)))]))]⟩
theorem t17 : T.fn 17 = some f17 := by kernel_rfl
def f18 : Fn := ⟨2, 2, [
  (.ifS (.not (.call 23 [(.var 1)])) [(.ret .never)] []),
  (.ret (.call 26 [(.call 24 [(.var 1)]), (.var 0), (.con (.int (1)))]))]⟩
theorem t18 : T.fn 18 = some f18 := by kernel_rfl
def f19 : Fn := ⟨2, 2, [
  (.ifS (.not (.call 23 [(.var 1)])) [(.ret .never)] []),
  (.ret (.call 26 [(.var 0), (.call 24 [(.var 1)]), (.prim .neg [(.con (.int (1)))])]))]⟩
theorem t19 : T.fn 19 = some f19 := by kernel_rfl
def f20 : Fn := ⟨2, 2, [
  (.ifS (.not (.call 23 [(.var 1)])) [(.ret .never)] []),
  (.ret (.call 26 [(.call 24 [(.var 1)]), (.var 0), (.prim .neg [(.con (.int (1)))])]))]⟩
theorem t20 : T.fn 20 = some f20 := by kernel_rfl
def f21 : Fn := ⟨2, 2, [
  (.ifS (.not (.call 23 [(.var 1)])) [(.ret .never)] []),
  (.ret (.call 27 [(.var 0), (.call 24 [(.var 1)])]))]⟩
theorem t21 : T.fn 21 = some f21 := by kernel_rfl
def f22 : Fn := ⟨2, 2, [
  (.ifS (.not (.call 23 [(.var 1)])) [(.ret .never)] []),
  (.ret (.call 27 [(.call 24 [(.var 1)]), (.var 0)]))]⟩
theorem t22 : T.fn 22 = some f22 := by kernel_rfl
def f23 : Fn := ⟨1, 1, [
  (.ret (.or (.call 1 [(.var 0)]) (.prim .isi [(.var 0), (.con (.cls 3))])))]⟩
theorem t23 : T.fn 23 = some f23 := by kernel_rfl
def f24 : Fn := ⟨1, 1, [
  (.ret (.ifx (.prim .isi [(.var 0), (.con (.cls 3))]) (.var 0) (.make 3 [(.var 0), (.con (.int (1)))])))]⟩
theorem t24 : T.fn 24 = some f24 := by kernel_rfl
def f25 : Fn := ⟨3, 2, [
  (.asg (.n 2) (.call 24 [(.var 1)])),
  (.ret (.prim .sub [(.prim .mul [(.att 2 (.var 0)), (.att 3 (.var 2))]), (.prim .mul [(.att 2 (.var 2)), (.att 3 (.var 0))])]))]⟩
theorem t25 : T.fn 25 = some f25 := by kernel_rfl
def f26 : Fn := ⟨4, 3, [
  (.asg (.n 3) (.prim .add [(.prim .mul [(.att 2 (.var 0)), (.att 3 (.var 1))]), (.prim .mul [(.prim .mul [(.var 2), (.att 2 (.var 1))]), (.att 3 (.var 0))])])),
  (.ret (.make 3 [(.var 3), (.prim .mul [(.att 3 (.var 0)), (.att 3 (.var 1))])]))]⟩
theorem t26 : T.fn 26 = some f26 := by kernel_rfl
def f27 : Fn := ⟨2, 2, [
  (.ret (.make 3 [(.prim .mul [(.att 2 (.var 0)), (.att 2 (.var 1))]), (.prim .mul [(.att 3 (.var 0)), (.att 3 (.var 1))])]))]⟩
theorem t27 : T.fn 27 = some f27 := by kernel_rfl
@[reducible] def f28e1 : E := (.call 2 [(.var 2)])
def f28 : Fn := ⟨5, 1, [
  (.asg (.n 1) (.bm .split (.bm .removeprefix (.var 0) [(.con (.str (sx "-")))]) [(.con (.str (sx "/")))])),
  (.ifS (.or (.prim .gt [(.prim .len [(.var 1)]), (.con (.int (2)))]) (.or (.not (.prim .all1 [(.comp (.n 2) [2] (.seq (.var 1)) none f28e1)])) (.and (.prim .eq [(.prim .idx [(.var 1), (.prim .neg [(.con (.int (1)))])]), (.con (.str (sx "0")))]) (.prim .eq [(.prim .len [(.var 1)]), (.con (.int (2)))])))) [(.ret (.con .non))] []),
  (.asg (.n 3) (.ifx (.bm .startswith (.var 0) [(.con (.str (sx "-")))]) (.prim .neg [(.prim .int1 [(.prim .idx [(.var 1), (.con (.int (0)))])])]) (.prim .int1 [(.prim .idx [(.var 1), (.con (.int (0)))])]))),
  (.asg (.n 4) (.make 3 [(.var 3), (.ifx (.prim .eq [(.prim .len [(.var 1)]), (.con (.int (2)))]) (.prim .int1 [(.prim .idx [(.var 1), (.con (.int (1)))])]) (.con (.int (1))))])),
  (.ret (.ifx (.prim .eq [(.att 6 (.var 4)), (.var 0)]) (.var 4) (.con .non)))]⟩
theorem t28 : T.fn 28 = some f28 := by kernel_rfl
def f29 : Fn := ⟨5, 2, [
  (.asg (.n 2) (.ifx (.prim .lt [(.var 1), (.prim .len [(.var 0)])]) (.prim .idx [(.var 0), (.var 1)]) (.prim .add [(.prim .mul [(.con (.int (73))), (.var 1)]), (.con (.int (44)))]))),
  (.asg (.n 3) (.prim .mul [(.prim .mod [(.prim .int1 [(.prim .abs [(.var 2)])]), (.prim .pow [(.prim .pow [(.con (.int (10))), (.con (.int (60)))]), (.con (.int (5)))])]), (.prim .int1 [(.prim .ge [(.prim .abs [(.var 2)]), (.prim .pow [(.con (.int (10))), (.con (.int (18)))])])])])),
  (.asg (.n 4) (.prim .mod [(.prim .int1 [(.var 2)]), (.con (.int (2305843009213693951)))])),
  (.ret (.prim .lst [(.var 3), (.prim .mod [(.prim .int1 [(.prim .add [(.prim .add [(.prim .mul [(.var 4), (.con (.int (73202)))]), (.prim .mul [(.prim .mul [(.con (.int (7111))), (.var 1)]), (.var 1)])]), (.con (.int (202)))])]), (.con (.int (2305843009213693921)))]), (.con (.int (0)))]))]⟩
theorem t29 : T.fn 29 = some f29 := by kernel_rfl
def f30 : Fn := ⟨5, 2, [
  (.ifS (.prim .gt [(.prim .idx [(.var 0), (.con (.int (0)))]), (.con (.int (0)))]) [(.asg (.n 2) (.prim .mod [(.prim .int1 [(.prim .idx [(.var 0), (.con (.int (0)))])]), (.var 1)])), (.setIdx (.var 0) (.con (.int (0))) (.prim .fdiv [(.prim .idx [(.var 0), (.con (.int (0)))]), (.var 1)])), (.ret (.var 2))] []),
  (.setIdx (.var 0) (.con (.int (2))) (.prim .add [(.prim .idx [(.var 0), (.con (.int (2)))]), (.con (.int (1)))])),
  (.asg (.n 3) (.prim .idx [(.prim .lst [(.con (.int (2147483647))), (.con (.int (2147483629))), (.con (.int (2147483587))), (.con (.int (2147483579))), (.con (.int (2147483563)))]), (.prim .mod [(.prim .int1 [(.prim .idx [(.var 0), (.con (.int (2)))])]), (.con (.int (5)))])])),
  (.asg (.n 4) (.prim .mod [(.prim .int1 [(.prim .pow [(.prim .int1 [(.prim .add [(.prim .add [(.prim .idx [(.var 0), (.con (.int (1)))]), (.prim .mul [(.prim .mul [(.con (.int (100595))), (.prim .idx [(.var 0), (.con (.int (2)))])]), (.prim .idx [(.var 0), (.con (.int (2)))])])]), (.con (.int (38)))])]), (.con (.int (3)))])]), (.var 3)])),
  (.ret (.prim .mod [(.prim .int1 [(.prim .fdiv [(.prim .mul [(.var 4), (.prim .add [(.prim .mod [(.prim .int1 [(.var 4)]), (.con (.int (10065)))]), (.prim .mul [(.con (.int (92))), (.prim .idx [(.var 0), (.con (.int (2)))])])])]), (.con (.int (139)))])]), (.var 1)]))]⟩
theorem t30 : T.fn 30 = some f30 := by kernel_rfl
def f31 : Fn := ⟨2, 2, [
  (.ret (.prim .idx [(.var 1), (.call 30 [(.var 0), (.prim .len [(.var 1)])])]))]⟩
theorem t31 : T.fn 31 = some f31 := by kernel_rfl
def f32 : Fn := ⟨2, 2, [
  (.ret (.lrange (.prim .max2 [(.con (.int (1))), (.prim .min2 [(.var 1), (.prim .len [(.var 0)])])])))]⟩
theorem t32 : T.fn 32 = some f32 := by kernel_rfl
def f33 : Fn := ⟨4, 1, [
  .never,
  .never,
  (.ret (.prim .tup [(.var 1), (.var 2)]))]⟩
theorem t33 : T.fn 33 = some f33 := by kernel_rfl
@[reducible] def f34t1 : E := (.prim .ne [(.var 1), (.con (.int (0)))])
@[reducible] def f34b2 : List S := [(.asg (.t [(.n 0), (.n 1)]) (.prim .tup [(.var 1), (.prim .mod [(.prim .int1 [(.var 0)]), (.prim .int1 [(.var 1)])])]))]
def f34 : Fn := ⟨2, 2, [
  (.asg (.t [(.n 0), (.n 1)]) (.prim .tup [(.prim .abs [(.var 0)]), (.prim .abs [(.var 1)])])),
  (.whileS f34t1 f34b2),
  (.ret (.var 0))]⟩
theorem t34 : T.fn 34 = some f34 := by kernel_rfl
def f35 : Fn := ⟨3, 2, [
  (.asg (.n 2) (.prim .mul [(.call 34 [(.var 0), (.var 1)]), (.ifx (.prim .lt [(.var 1), (.con (.int (0)))]) (.prim .neg [(.con (.int (1)))]) (.con (.int (1))))])),
  (.ret (.prim .tup [(.prim .fdiv [(.var 0), (.var 2)]), (.prim .fdiv [(.var 1), (.var 2)])]))]⟩
theorem t35 : T.fn 35 = some f35 := by kernel_rfl
def f36 : Fn := ⟨2, 1, [
  (.asg (.n 1) (.call 31 [(.var 0), (.prim .lst [(.con (.int (1))), (.con (.int (2))), (.con (.int (3))), (.con (.int (6))), (.con (.int (10))), (.con (.int (12))), (.con (.int (35))), (.con (.int (360))), (.con (.int (999983))), (.prim .pow [(.con (.int (10))), (.con (.int (6)))]), (.prim .sub [(.prim .pow [(.con (.int (10))), (.con (.int (8)))]), (.con (.int (1)))])])])),
  (.ret (.call 31 [(.var 0), (.prim .lst [(.var 1), (.prim .neg [(.var 1)]), (.con (.int (0))), (.ifx (.prim .lt [(.var 1), (.prim .pow [(.con (.int (10))), (.con (.int (7)))])]) (.prim .mul [(.var 1), (.call 31 [(.var 0), (.prim .lst [(.con (.int (1))), (.con (.int (1))), (.con (.int (2))), (.con (.int (3)))])])]) (.var 1)), (.con (.int (1))), (.prim .neg [(.con (.int (1)))])])]))]⟩
theorem t36 : T.fn 36 = some f36 := by kernel_rfl
def f37 : Fn := ⟨5, 2, [
  (.asg (.t [(.n 2), (.n 3)]) (.prim .tup [(.make 3 [(.var 0), (.var 1)]), (.call 35 [(.var 0), (.var 1)])])),
  (.ifS (.prim .ne [(.prim .repr [(.prim .tup [(.att 4 (.var 2)), (.att 5 (.var 2))])]), (.prim .repr [(.var 3)])]) [(.ret (.con (.bl false)))] []),
  (.asg (.n 4) (.prim .add [(.prim .add [(.prim .add [(.con (.str (sx "Ratio("))), (.prim .str1 [(.prim .idx [(.var 3), (.con (.int (0)))])])]), (.ifx (.prim .eq [(.prim .idx [(.var 3), (.con (.int (1)))]), (.con (.int (1)))]) (.con (.str (sx ""))) (.prim .add [(.con (.str (sx ", "))), (.prim .str1 [(.prim .idx [(.var 3), (.con (.int (1)))])])]))]), (.con (.str (sx ")")))])),
  (.ifS (.or (.prim .ne [(.prim .repr [(.var 2)]), (.var 4)]) (.not (.prim .eq [(.var 2), (.make 3 [(.prim .idx [(.var 3), (.con (.int (0)))]), (.prim .idx [(.var 3), (.con (.int (1)))])])]))) [(.ret (.con (.bl false)))] []),
  (.ret (.and (.not (.prim .eq [(.var 2), (.var 3)])) (.and (.not (.prim .eq [(.var 2), (.prim .idx [(.var 3), (.con (.int (0)))])])) (.and (.prim .ne [(.var 2), (.make 3 [(.prim .add [(.prim .idx [(.var 3), (.con (.int (0)))]), (.prim .idx [(.var 3), (.con (.int (1)))])]), (.prim .idx [(.var 3), (.con (.int (1)))])])]) (.not (.prim .eq [(.var 2), (.var 4)]))))))]⟩
theorem t37 : T.fn 37 = some f37 := by kernel_rfl
def f38 : Fn := ⟨3, 2, [
  (.asg (.n 2) (.prim .idx [(.call 33 [(.var 0)]), (.con (.int (0)))])),
  (.ret (.and (.prim .isi [(.var 2), (.con (.cls 1))]) (.prim .eq [(.prim .repr [(.att 1 (.var 2))]), (.prim .repr [(.var 1)])])))]⟩
theorem t38 : T.fn 38 = some f38 := by kernel_rfl
@[reducible] def f39b1 : List S := [(.asg (.t [(.n 2), (.n 3)]) (.prim .tup [(.call 36 [(.var 0)]), (.call 36 [(.var 0)])])), (.ifS (.prim .eq [(.var 3), (.con (.int (0)))]) [(.ifS (.not (.refd 0 (.make 3 [(.var 2), (.var 3)]) (.prim .tup [(.var 2), (.con (.int (0)))]) (.and (.prim .isi [(.var 2), (.con (.cls 1))]) (.prim .eq [(.prim .repr [(.att 1 (.var 2))]), (.prim .repr [(.var 1)])])))) [(.ret (.con (.bl false)))] [])] [(.ifS (.not (.call 37 [(.var 2), (.var 3)])) [(.ret (.con (.bl false)))] [])]), (.ifS (.prim .ne [(.prim .repr [(.make 3 [(.var 2), (.con (.int (1)))])]), (.prim .add [(.prim .add [(.con (.str (sx "Ratio("))), (.prim .str1 [(.var 2)])]), (.con (.str (sx ")")))])]) [(.ret (.con (.bl false)))] []), (.asg (.n 4) (.call 31 [(.var 0), (.prim .lst [(.con .non), (.con (.bl true)), (.con (.bl false)), (.con (.str (sx "1"))), (.prim .tup [(.con (.int (1)))]), (.prim .lst [(.con (.int (1)))]), (.prim .dic0 []), (.make 3 [(.con (.int (1))), (.con (.int (1)))]), (.con (.str (sx "1/2"))), (.prim .tup [])])])), (.ifS (.not (.refd 0 (.make 3 [(.var 4), (.var 2)]) (.prim .tup [(.var 4), (.var 2)]) (.and (.prim .isi [(.var 2), (.con (.cls 1))]) (.prim .eq [(.prim .repr [(.att 1 (.var 2))]), (.prim .repr [(.var 1)])])))) [(.ret (.con (.bl false)))] []), (.ifS (.not (.refd 0 (.make 3 [(.var 2), (.var 4)]) (.prim .tup [(.var 2), (.var 4)]) (.and (.prim .isi [(.var 2), (.con (.cls 1))]) (.prim .eq [(.prim .repr [(.att 1 (.var 2))]), (.prim .repr [(.var 1)])])))) [(.ret (.con (.bl false)))] []), (.ifS (.not (.refd 0 (.make 3 [(.var 4), (.con (.int (1)))]) (.prim .tup [(.var 4), (.con (.int (1)))]) (.and (.prim .isi [(.var 2), (.con (.cls 1))]) (.prim .eq [(.prim .repr [(.att 1 (.var 2))]), (.prim .repr [(.var 1)])])))) [(.ret (.con (.bl false)))] [])]
def f39 : Fn := ⟨5, 1, [
  (.forS (.n 1) (.range1 (.con (.int (12)))) f39b1),
  (.ret (.con (.bl true)))]⟩
theorem t39 : T.fn 39 = some f39 := by kernel_rfl
@[reducible] def f40e1 : E := (.call 39 [(.call 29 [(.var 0), (.var 1)])])
def f40 : Fn := ⟨2, 1, [
  (.ret (.prim .all1 [(.comp (.n 1) [1] (.seq (.call 32 [(.var 0), (.con (.int (6)))])) none f40e1)]))]⟩
theorem t40 : T.fn 40 = some f40 := by kernel_rfl
end K01
set_option Elab.async false
set_option linter.all false
set_option maxRecDepth 100000
set_option maxHeartbeats 4000000
/-! L02m: reduced pairs, no program in sight. -/
namespace K01
open G PySem
def byI (n u : Int) : Int := if u < 0 then -(Int.gcd n u : Int) else (Int.gcd n u : Int)
def fr (n u : Int) : Int × Int := (fdivI n (byI n u), fdivI u (byI n u))
structure Rd (p : Int × Int) : Prop where
  pos : 0 < p.2
  cop : Int.gcd p.1 p.2 = 1
theorem fdivI_mul {k a : Int} (h : k ≠ 0) : fdivI (k * a) k = a := by
  unfold fdivI
  split
  · exact Int.mul_ediv_cancel_left a h
  · exact Int.mul_fdiv_cancel_left a h
theorem by_eq {k a b : Int} (hk : k ≠ 0) (hb : 0 < b) (hc : Int.gcd a b = 1) : byI (k * a) (k * b) = k := by
  unfold byI
  rw [Int.gcd_mul_left, hc, Nat.mul_one]
  by_cases h : k < 0
  · have : k * b < 0 := Int.mul_neg_of_neg_of_pos h hb
    rw [if_pos this]
    omega
  · have : ¬ k * b < 0 := by
      have := Int.mul_nonneg (show 0 ≤ k by omega) (show 0 ≤ b by omega)
      omega
    rw [if_neg this]
    omega
theorem fr_eq {k a b : Int} (hk : k ≠ 0) (hb : 0 < b) (hc : Int.gcd a b = 1) : fr (k * a) (k * b) = (a, b) := by
  unfold fr
  rw [by_eq hk hb hc, fdivI_mul hk, fdivI_mul hk]
theorem split (n : Int) {u : Int} (hu : u ≠ 0) : ∃ k a b : Int, k ≠ 0 ∧ 0 < b ∧ Int.gcd a b = 1 ∧ n = k * a ∧ u = k * b := by
  have g0 : 0 < Int.gcd n u := Int.gcd_pos_of_ne_zero_right n hu
  have g1 : ((Int.gcd n u : Nat) : Int) ≠ 0 := by omega
  obtain ⟨a, ha⟩ := Int.gcd_dvd_left n u
  obtain ⟨b, hb⟩ := Int.gcd_dvd_right n u
  have hc : Int.gcd a b = 1 := by
    generalize hg : Int.gcd n u = g at *
    rw [ha, hb, Int.gcd_mul_left, Int.natAbs_natCast] at hg
    exact (Nat.mul_eq_left (Nat.pos_iff_ne_zero.mp g0)).mp hg
  by_cases h : 0 < b
  · exact ⟨_, a, b, g1, h, hc, ha, hb⟩
  · have hb0 : b ≠ 0 := fun z => hu (by rw [hb, z, Int.mul_zero])
    refine ⟨-(Int.gcd n u : Int), -a, -b, by omega, by omega, by rw [Int.gcd_neg, Int.neg_gcd]; exact hc, by rw [Int.neg_mul_neg]; exact ha, by rw [Int.neg_mul_neg]; exact hb⟩
theorem fr_rd (n : Int) {u : Int} (hu : u ≠ 0) : Rd (fr n u) := by
  obtain ⟨k, a, b, hk, hb, hc, rfl, rfl⟩ := split n hu
  rw [fr_eq hk hb hc]
  exact ⟨hb, hc⟩
theorem fr_self {p : Int × Int} (h : Rd p) : fr p.1 p.2 = p := by
  have := fr_eq (k := 1) (by decide) h.pos h.cop
  rw [Int.one_mul, Int.one_mul] at this
  exact this
theorem fr_neg (n : Int) {u : Int} (hu : u ≠ 0) : fr (-n) u = (-(fr n u).1, (fr n u).2) := by
  obtain ⟨k, a, b, hk, hb, hc, rfl, rfl⟩ := split n hu
  rw [fr_eq hk hb hc, ← Int.mul_neg, fr_eq hk hb (by rw [Int.neg_gcd]; exact hc)]
theorem Rd.neg {p : Int × Int} (h : Rd p) : Rd (-p.1, p.2) := ⟨h.pos, by show Int.gcd (-p.1) p.2 = 1; rw [Int.neg_gcd]; exact h.cop⟩
theorem fr_le (n : Int) {u : Int} (hu : u ≠ 0) : (fr n u).1.natAbs ≤ n.natAbs ∧ (fr n u).2.natAbs ≤ u.natAbs := by
  obtain ⟨k, a, b, hk, hb, hc, rfl, rfl⟩ := split n hu
  rw [fr_eq hk hb hc, Int.natAbs_mul, Int.natAbs_mul]
  have : 0 < k.natAbs := by omega
  exact ⟨Nat.le_mul_of_pos_left _ this, Nat.le_mul_of_pos_left _ this⟩
theorem by_ne {n u : Int} (hu : u ≠ 0) : byI n u ≠ 0 := by
  obtain ⟨k, a, b, hk, hb, hc, rfl, rfl⟩ := split n hu
  rw [by_eq hk hb hc]
  exact hk
theorem by_le {n u : Int} (hu : u ≠ 0) : (byI n u).natAbs ≤ u.natAbs := by
  obtain ⟨k, a, b, hk, hb, hc, rfl, rfl⟩ := split n hu
  rw [by_eq hk hb hc, Int.natAbs_mul]
  exact Nat.le_mul_of_pos_right _ (by omega)
theorem gcd_next (t : Int) : Int.gcd (t + 1) t = 1 := by rw [Int.add_comm, Int.gcd_add_self_left, Int.gcd_one_left]
theorem rd_succ {s : Int} (h : 0 < s) : Rd (s + 1, s) := ⟨h, gcd_next s⟩
theorem rd_pred {s : Int} (h : 0 < s) : Rd (s - 1, s) := ⟨h, by
  have := gcd_next (s - 1)
  rw [Int.sub_add_cancel, Int.gcd_comm] at this
  exact this⟩
end K01
set_option Elab.async false
set_option linter.all false
set_option maxRecDepth 1000000
set_option maxHeartbeats 4000000
namespace K01
open G L2
open PySem (Str PyData)
open PySem
-- WS
local macro_rules | `(tactic| tm_at "s") => `(tactic| first | (with_reducible assumption) | (with_reducible rfl) | exact G.at_len | exact G.at_app (by with_reducible assumption) | exact G.at_app G.at_len | exact G.at_app (G.at_app (by with_reducible assumption)) | omega | (exact rfl) | decide)
local macro_rules | `(tactic| tm_at "o") => `(tactic| first | (with_reducible assumption) | exact G.strOk_sx _)
local macro_rules | `(tactic| tm_at "l") => `(tactic| first | (with_reducible assumption) | exact G.line_of (by omega) | decide | (exact G.line_of (Nat.le_of_ble_eq_true rfl)) | (refine G.line_of ?_; simp only [PySem.Str.length_append, List.length_append, List.length_map]; omega))
local macro_rules | `(tactic| tm_at "w") => `(tactic| first
  | ((with_reducible refine g_evs ?_); (first | (with_reducible refine wp_evs1 ?_) | (with_reducible refine wp_evs0 ?_)))
  | ((with_reducible refine g_ev ?_); (first | (with_reducible refine wp_con ?_) | ((with_reducible refine g_evvar ?_); refine wp_var rfl ?_) | (with_reducible refine wp_prim ?_) | (with_reducible refine wp_call ?_) | (with_reducible refine wp_att ?_) | (with_reducible refine wp_and ?_) | (with_reducible refine wp_or ?_) | (with_reducible refine wp_not ?_) | ((with_reducible refine g_ifx ?_); (first | (with_reducible refine wp_eq (by assumption) ?_) | (with_reducible refine wp_ifx ?_))) | ((with_reducible refine g_comp ?_); (first | (with_reducible refine wp_eq (by assumption) ?_))) | (with_reducible refine wp_chain ?_) | (with_reducible refine wp_bm ?_) | (with_reducible refine wp_make ?_) | (with_reducible refine wp_meth ?_) | (with_reducible refine wp_slc ?_) | (with_reducible refine wp_told ?_) | (with_reducible refine wp_lrange ?_) | (with_reducible refine wp_tups ?_) | (with_reducible refine wp_fstr ?_)))
  | ((with_reducible refine g_thn ?_); (first | (with_reducible refine thn_nx ?_) | (with_reducible refine thn_rt ?_) | (with_reducible refine thn_xc ?_) | (with_reducible refine thn_bk ?_) | (with_reducible refine thn_ct ?_)))
  | ((with_reducible refine g_exs ?_); (first | (with_reducible refine wp_exs1 ?_) | (with_reducible refine wp_exs0 ?_)))
  | ((with_reducible refine g_ex ?_); (first | (with_reducible refine wp_asg ?_) | (with_reducible refine wp_ret ?_) | (with_reducible refine wp_if ?_) | (with_reducible refine wp_expr ?_) | (with_reducible refine wp_for ?_) | (with_reducible refine wp_raise ?_) | (with_reducible refine wp_setAtt ?_) | (with_reducible refine wp_setIdx ?_) | (with_reducible refine wp_retN ?_) | (with_reducible refine wp_pass ?_) | (with_reducible refine wp_brk ?_) | (with_reducible refine wp_cont ?_)))
  | ((with_reducible refine g_evT ?_); (first | (with_reducible refine wpT_prim ?_) | (with_reducible refine wpT_and ?_) | (with_reducible refine wpT_or ?_) | (with_reducible refine wpT_not ?_) | ((with_reducible refine g_evTvar ?_); refine wpT_var rfl ?_) | (with_reducible refine wpT_call ?_) | (with_reducible refine wpT_att ?_) | (with_reducible refine wpT_con ?_) | (with_reducible refine wpT_meth ?_) | (with_reducible refine wpT_bm ?_) | (with_reducible refine wpT_chain ?_) | (with_reducible refine wpT_comp ?_)))
  | ((with_reducible refine g_asg ?_); (first | (with_reducible refine asg0 ?_) | (with_reducible refine asg1 ?_) | (with_reducible refine asg2 ?_) | (with_reducible refine asg3 ?_) | (with_reducible refine asg4 ?_) | (with_reducible refine asg5 ?_) | (with_reducible refine asg6 ?_) | (with_reducible refine asg7 ?_) | (with_reducible refine asg8 ?_) | (with_reducible refine asg9 ?_) | (with_reducible refine asg10 ?_) | (with_reducible refine asg11 ?_) | (with_reducible refine asg12 ?_) | (with_reducible refine asg13 ?_) | (with_reducible refine asg14 ?_) | (with_reducible refine asg15 ?_) | (with_reducible refine asgT2 ?_) | (with_reducible refine asgT3 ?_)))
  | ((with_reducible refine g_cs ?_); (first | ((with_reducible refine csT ?_ ?_); (first | (with_reducible assumption) | exact rfl)) | ((with_reducible refine csF ?_ ?_); (first | (with_reducible assumption) | exact rfl))))
  | ((with_reducible refine g_prim ?_); (first | ((with_reducible refine g_add ?_); (first | (with_reducible refine wpp_addI ?_) | ((with_reducible refine wpp_addS ?_ ?_); tm_at "l") | ((with_reducible refine wpp_addT ?_ ?_); tm_at "l") | ((with_reducible refine g_addL ?_); refine wpp_addL (by tm_at "s") (by tm_at "s") (by tm_at "l") ?_))) | ((with_reducible refine g_eq ?_); (first | ((with_reducible refine wpp_eqIT ?_ ?_); (first | omega | decide)) | ((with_reducible refine wpp_eqIF ?_ ?_); (first | omega | decide)) | (with_reducible refine wpp_eqI ?_) | (with_reducible refine wpp_eqB ?_) | ((with_reducible refine wpp_eqSS ?_ ?_); tm_at "o") | ((with_reducible refine wpp_eqS ?_ ?_ ?_); tm_at "o"; tm_at "o") | (with_reducible refine wp_eq (by assumption) ?_))) | ((with_reducible refine g_ne ?_); (first | ((with_reducible refine wpp_neIF ?_ ?_); (first | omega | decide)) | ((with_reducible refine wpp_neIT ?_ ?_); (first | omega | decide)) | (with_reducible refine wpp_neI ?_) | (with_reducible refine wpp_neBB ?_) | (with_reducible refine wpp_neB ?_) | ((with_reducible refine wpp_neSS ?_ ?_); tm_at "o") | ((with_reducible refine wpp_neS ?_ ?_ ?_); tm_at "o"; tm_at "o") | (with_reducible refine wp_eq (by assumption) ?_))) | ((with_reducible refine g_lt ?_); (first | ((with_reducible refine wpp_ltT ?_ ?_); (first | omega | decide)) | ((with_reducible refine wpp_ltF ?_ ?_); (first | omega | decide)) | (with_reducible refine wpp_ltI ?_) | (with_reducible refine wp_eq (by assumption) ?_))) | ((with_reducible refine g_le ?_); (first | ((with_reducible refine wpp_leT ?_ ?_); (first | omega | decide)) | ((with_reducible refine wpp_leF ?_ ?_); (first | omega | decide)) | (with_reducible refine wpp_leI ?_) | (with_reducible refine wp_eq (by assumption) ?_))) | ((with_reducible refine g_gt ?_); (first | ((with_reducible refine wpp_gtT ?_ ?_); (first | omega | decide)) | ((with_reducible refine wpp_gtF ?_ ?_); (first | omega | decide)) | (with_reducible refine wpp_gtI ?_) | (with_reducible refine wp_eq (by assumption) ?_))) | ((with_reducible refine g_ge ?_); (first | ((with_reducible refine wpp_geT ?_ ?_); (first | omega | decide)) | ((with_reducible refine wpp_geF ?_ ?_); (first | omega | decide)) | (with_reducible refine wpp_geI ?_) | (with_reducible refine wp_eq (by assumption) ?_))) | ((with_reducible refine g_isi ?_); (first | (with_reducible refine wp_eq (by assumption) ?_) | ((with_reducible refine wpp_isiT ?_ ?_); exact rfl) | ((with_reducible refine wpp_isiF ?_ ?_); exact rfl))) | ((with_reducible refine g_isN ?_); (first | (with_reducible refine wpp_isNT ?_) | ((with_reducible refine wpp_isNF ?_ ?_); exact nofun))) | ((with_reducible refine g_len ?_); (first | (with_reducible refine wpp_lenM ?_) | ((with_reducible refine g_lenL ?_); (with_reducible refine wpp_lenLM (by assumption) ?_)) | (with_reducible refine wpp_lenT ?_) | ((with_reducible refine g_lenL ?_); refine wpp_lenL (by tm_at "s") ?_) | ((with_reducible refine wpp_lenS ?_ ?_); tm_at "l") | (with_reducible refine wp_eq (by assumption) ?_))) | ((with_reducible refine g_idx ?_); (first | ((with_reducible refine g_idxL ?_); refine wpp_idxL (by tm_at "s") (by tm_at "s") ?_) | ((with_reducible refine g_idxT ?_); refine wpp_idxT (by tm_at "s") ?_) | (with_reducible refine wp_eq (by assumption) ?_))) | ((with_reducible refine g_tup ?_); (first | (with_reducible refine wpp_tup2 ?_) | (with_reducible refine wpp_tup1 ?_) | (with_reducible refine wpp_tup0 ?_) | (with_reducible refine wpp_tup3 ?_) | (with_reducible refine wpp_tup4 ?_) | (with_reducible refine wpp_tup5 ?_))) | ((with_reducible refine g_lst ?_); (first | ((with_reducible refine wpp_lst ?_ ?_); tm_at "l"))) | ((with_reducible refine g_sub ?_); (first | (with_reducible refine wpp_subI ?_) | (with_reducible refine wp_eq (by assumption) ?_))) | ((with_reducible refine g_neg ?_); (first | (with_reducible refine wpp_negI ?_) | (with_reducible refine wp_eq (by assumption) ?_))) | ((with_reducible refine g_abs ?_); (first | (with_reducible refine wpp_absI ?_))) | ((with_reducible refine g_mod ?_); (first | ((with_reducible refine wpp_modI ?_ ?_); tm_at "s"))) | ((with_reducible refine g_int1 ?_); (first | (with_reducible refine wpp_int1I ?_) | (with_reducible refine wpp_int1B ?_))) | ((with_reducible refine g_max2 ?_); (first | (with_reducible refine wpp_max2 ?_))) | ((with_reducible refine g_min2 ?_); (first | (with_reducible refine wpp_min2 ?_))) | ((with_reducible refine g_repr ?_); (first | (with_reducible refine wp_eq (by assumption) ?_) | ((with_reducible refine wpp_reprS ?_ ?_ ?_); tm_at "o"; omega))) | ((with_reducible refine g_tuple1 ?_); (first | (with_reducible refine wpp_tuple1T ?_) | ((with_reducible refine g_tuple1L ?_); refine wpp_tuple1L (by tm_at "s") ?_))) | ((with_reducible refine g_inn ?_); (first | (with_reducible refine wpp_innS ?_) | (with_reducible refine wp_eq (by assumption) ?_))) | ((with_reducible refine g_startswith ?_); (first | (with_reducible refine wpp_startswith ?_))) | ((with_reducible refine g_removeprefix ?_); (first | ((with_reducible refine wpp_removeprefix ?_ ?_); tm_at "l"))) | ((with_reducible refine g_append ?_); (first | ((with_reducible refine g_appendL ?_); refine wpp_appendL (by tm_at "s") (by tm_at "l") ?_))) | ((with_reducible refine g_extend ?_); (first | ((with_reducible refine g_extendL ?_); refine wpp_extendL (by tm_at "s") (by tm_at "s") (by tm_at "l") ?_))) | ((with_reducible refine g_fmt ?_); (first | ((with_reducible refine wpp_fmtS ?_ ?_); tm_at "l") | ((with_reducible refine wpp_fmtI ?_ ?_); tm_at "s"))) | ((with_reducible refine g_fmtR ?_); (first | ((with_reducible refine wpp_fmtRS ?_ ?_); tm_at "l"))) | ((with_reducible refine g_str1 ?_); (first | ((with_reducible refine wpp_strI ?_ ?_); tm_at "s"))) | (with_reducible refine wp_eq (by assumption) ?_)))
  | ((with_reducible refine g_call ?_); (first | (with_reducible refine wp_eq (by assumption) ?_)))
  | ((with_reducible refine g_truth ?_); (first | (with_reducible refine wp_truth_bl ?_) | (with_reducible refine wp_truth_int ?_) | (with_reducible refine wp_truth_non ?_) | (with_reducible refine wp_truth_tup ?_) | ((with_reducible refine wp_truth_str ?_ ?_); tm_at "l")))
  | ((with_reducible refine g_attD ?_); (first | ((with_reducible refine g_attIns ?_); refine wp_attIns rfl rfl rfl ?_) | ((with_reducible refine g_attX ?_); refine wp_attX rfl rfl ?_) | (with_reducible refine wp_eq (by assumption) ?_)))
  | ((with_reducible refine g_makeD ?_); (first | (with_reducible refine wp_eq (by assumption) ?_) | ((with_reducible refine g_mkX ?_); refine wp_mkX rfl rfl ?_)))
  | ((with_reducible refine g_beh ?_); (first | (with_reducible refine beh_rt ?_) | (with_reducible refine beh_nx ?_) | (with_reducible refine beh_xc ?_)))
  | ((with_reducible refine g_recv ?_); (first | (with_reducible refine wp_recvSj ?_) | (with_reducible refine wp_recvSs ?_) | (with_reducible refine wp_recvSt ?_) | (with_reducible refine wp_recvSp ?_) | ((with_reducible refine g_recvL ?_); refine wp_recvA (by tm_at "s") ?_) | ((with_reducible refine g_recvL ?_); refine wp_recvE (by tm_at "s") ?_) | ((with_reducible refine g_recvL ?_); refine wp_recvP (by tm_at "s") ?_)))
  | ((with_reducible refine g_evI ?_); (first | (with_reducible refine wp_seq ?_) | (with_reducible refine wp_range1 ?_) | (with_reducible refine wp_zip ?_)))
  | ((with_reducible refine g_walk ?_); (first | (with_reducible refine wp_walk_tup ?_) | (with_reducible refine wp_walk_str ?_) | ((with_reducible refine g_walkL ?_); refine wp_walk_lst (by tm_at "s") ?_)))
  | ((with_reducible refine g_evP ?_); (first | (with_reducible refine wp_P0 ?_) | (with_reducible refine wp_P1 ?_)))
  | ((with_reducible refine g_evS ?_); (first | (with_reducible refine wp_S0 ?_) | (with_reducible refine wp_S1 ?_)))
  | ((with_reducible refine g_evJ ?_); (first | (with_reducible refine wp_J0 ?_) | (with_reducible refine wp_J1 ?_)))
  | ((with_reducible refine g_evO ?_); (first | (with_reducible refine wp_O0 ?_) | (with_reducible refine wp_O1 ?_)))
  | ((with_reducible refine g_slice ?_); (first | ((with_reducible refine wp_sliceS ?_ ?_); tm_at "l") | (with_reducible refine wp_sliceT ?_)))
  | (with_reducible refine ex_int ?_)
  | (with_reducible refine ex_str ?_)
  | (with_reducible refine ex_tup ?_)
  | (with_reducible refine wp_asB ?_)
  | (with_reducible refine wp_partI ?_)
  | ((with_reducible refine g_zipL ?_); refine wp_zipL (by tm_at "s") (by tm_at "s") ?_)
  | (with_reducible refine wp_zipT ?_)
  | ((with_reducible refine g_setIdxL ?_); refine wp_setIdxL (by tm_at "s") (by tm_at "s") (by tm_at "s") ?_))
local macro_rules | `(tactic| tm_at "ws") => `(tactic| repeat tm_at "w")
-- /WS
abbrev ct (wl n : Nat) : Ct := ⟨T, callF T wl n, wl, callF T.t0 wl n⟩
abbrev R (p : Int × Int) : D := .ins 3 [.int p.1, .int p.2]
abbrev P (p : Int × Int) : D := .tup [.int p.1, .int p.2]
/-! ### sizes -/
def Sz (b : Nat) (i : Int) : Prop := i.natAbs < 2 ^ b
theorem Sz.mono {a b : Nat} {i : Int} (h : Sz a i) (hb : a ≤ b) : Sz b i := Nat.lt_of_lt_of_le h (Nat.pow_le_pow_right (by decide) hb)
theorem Sz.le {b : Nat} {i j : Int} (h : Sz b i) (hj : j.natAbs ≤ i.natAbs) : Sz b j := Nat.lt_of_le_of_lt hj h
theorem Sz.neg {b : Nat} {i : Int} (h : Sz b i) : Sz b (-i) := h.le (by omega)
theorem Sz.mul {a b : Nat} {i j : Int} (h : Sz a i) (g : Sz b j) : Sz (a + b) (i * j) := by
  unfold Sz at *
  rw [Int.natAbs_mul, Nat.pow_add]
  exact Nat.mul_lt_mul'' h g
theorem Sz.add {a : Nat} {i j : Int} (h : Sz a i) (g : Sz a j) : Sz (a + 1) (i + j) := by
  unfold Sz at *
  rw [Nat.pow_succ]
  omega
theorem Sz.sub {a : Nat} {i j : Int} (h : Sz a i) (g : Sz a j) : Sz (a + 1) (i - j) := by
  unfold Sz at *
  rw [Nat.pow_succ]
  omega
theorem Sz.log {a : Nat} {i : Int} (h : Sz a i) : i.natAbs.log2 ≤ a := by
  by_cases h0 : i.natAbs = 0
  · rw [h0]
    simp
  · exact Nat.le_of_lt ((Nat.log2_lt h0).mpr h)
theorem mul_run {ct : Ct} {s : Store} {a b : Nat} {i j : Int} (h : Sz a i) (g : Sz b j) (hb : a + b < 1000000) : prim ct .mul [.int i, .int j] s = .ok (.int (i * j)) s := by
  have h1 := h.log
  have h2 := g.log
  show (need (mulOk i j) >>= fun _ => pure (D.int (i * j))) s = _
  have : mulOk i j = true := decide_eq_true (by omega)
  rw [this]
  rfl
theorem fdiv_run {ct : Ct} {s : Store} {a : Nat} {i j : Int} (h : j ≠ 0) (g : Sz a j) (ha : a < 9000) : prim ct .fdiv [.int i, .int j] s = .ok (.int (fdivI i j)) s := by
  have h1 := g.log
  show (need (divOk j) >>= fun _ => pure (D.int (fdivI i j))) s = _
  have : divOk j = true := by
    unfold divOk
    rw [decide_eq_true (show j.natAbs.log2 < 9000 by omega)]
    simp [h]
  rw [this]
  rfl
/-! ### the greatest common divisor -/
theorem wp_while {ct : Ct} {c : E} {b : List S} {σ : G.Env} {s s1 : Store} {r : Fl} {Q : Fl → Store → Prop} {X : Nat → D → Store → Prop} (h : whileL (fun σ => evT ct c σ) (fun σ => exs ct b σ) ct.w σ s = .ok r s1) (k : Q r s1) : wp (ex ct (.whileS c b) σ) Q X s := by
  refine wp_of (m' := whileL (fun σ => evT ct c σ) (fun σ => exs ct b σ) ct.w σ) ?_ (wp_eq h k)
  rfl
section
variable {test : G.Env → M Bool} {body : G.Env → M Fl} {s : Store}
theorem gcd_loop (ht : ∀ a b : Nat, test [some (.int a), some (.int b)] s = .ok (decide (b ≠ 0)) s) (hb : ∀ a b : Nat, b ≠ 0 → body [some (.int a), some (.int b)] s = .ok (.nx [some (.int b), some (.int ((a % b : Nat) : Int))]) s) :
    ∀ (k w a b : Nat), b ≤ a → a * b < 2 ^ k → k < w → whileL test body w [some (.int a), some (.int b)] s = .ok (.nx [some (.int (Nat.gcd a b)), some (.int 0)]) s := by
  have done : ∀ w a : Nat, whileL test body (w + 1) [some (.int a), some (.int ((0 : Nat) : Int))] s = .ok (.nx [some (.int (Nat.gcd a 0)), some (.int 0)]) s := fun w a => by
    show (match test _ s with | .stuck => _ | .exc c v s => _ | .ok false s => _ | .ok true s => _) = _
    rw [ht]
    simp
  have step : ∀ w a b : Nat, b ≠ 0 → whileL test body (w + 1) [some (.int a), some (.int b)] s = whileL test body w [some (.int b), some (.int ((a % b : Nat) : Int))] s := fun w a b h => by
    show (match test _ s with | .stuck => _ | .exc c v s => _ | .ok false s => _ | .ok true s => (match body _ s with | .ok (.nx σ) s => whileL test body w σ s | .ok (.ct σ) s => whileL test body w σ s | .ok (.bk σ) s => _ | .ok (.rt d) s => _ | .ok (.xc σ c v) s => _ | .exc c v s => _ | .stuck => _)) = _
    rw [ht, decide_eq_true h]
    simp only
    rw [hb a b h]
  intro k
  induction k with
  | zero =>
    intro w a b h1 h2 h3
    have : b = 0 := by
      rcases Nat.mul_eq_zero.mp (show a * b = 0 by simpa using h2) with h | h <;> omega
    subst this
    obtain ⟨w, rfl⟩ : ∃ v, w = v + 1 := ⟨w - 1, by omega⟩
    exact done w a
  | succ k ih =>
    intro w a b h1 h2 h3
    obtain ⟨w, rfl⟩ : ∃ v, w = v + 1 := ⟨w - 1, by omega⟩
    by_cases h : b = 0
    · subst h
      exact done w a
    · have lt : a % b < b := Nat.mod_lt _ (by omega)
      have half : a % b * 2 ≤ a := by
        have e := Nat.div_add_mod a b
        have : 1 ≤ a / b := (Nat.one_le_div_iff (by omega)).mpr h1
        have : b * 1 ≤ b * (a / b) := Nat.mul_le_mul_left _ this
        omega
      have small : b * (a % b) < 2 ^ k := by
        have h4 : b * (a % b * 2) ≤ b * a := Nat.mul_le_mul_left _ half
        rw [Nat.pow_succ, Nat.mul_comm a b] at h2
        rw [← Nat.mul_assoc] at h4
        omega
      rw [step w a b h, ih w b (a % b) (by omega) small (by omega), Nat.gcd_comm a b, Nat.gcd_rec b a, Nat.gcd_comm (a % b) b]
theorem gcd_while (ht : ∀ a b : Nat, test [some (.int a), some (.int b)] s = .ok (decide (b ≠ 0)) s) (hb : ∀ a b : Nat, b ≠ 0 → body [some (.int a), some (.int b)] s = .ok (.nx [some (.int b), some (.int ((a % b : Nat) : Int))]) s)
    {k w a b : Nat} (h : a * b < 2 ^ k) (hw : k + 1 < w) : whileL test body w [some (.int a), some (.int b)] s = .ok (.nx [some (.int (Nat.gcd a b)), some (.int 0)]) s := by
  by_cases hab : b ≤ a
  · exact gcd_loop ht hb k w a b hab h (by omega)
  · obtain ⟨v, rfl⟩ : ∃ v, w = v + 1 := ⟨w - 1, by omega⟩
    show (match test _ s with | .stuck => _ | .exc c v s => _ | .ok false s => _ | .ok true s => (match body _ s with | .ok (.nx σ) s => whileL test body v σ s | .ok (.ct σ) s => whileL test body v σ s | .ok (.bk σ) s => _ | .ok (.rt d) s => _ | .ok (.xc σ c v) s => _ | .exc c v s => _ | .stuck => _)) = _
    rw [ht, decide_eq_true (show b ≠ 0 by omega)]
    simp only
    rw [hb a b (by omega), Nat.mod_eq_of_lt (by omega)]
    simp only
    rw [gcd_loop ht hb k v b a (by omega) (by rw [Nat.mul_comm]; exact h) (by omega), Nat.gcd_comm]
end
theorem trunc_same {s : Store} {d : D} (h : D.lt s.length d = true) : trunc s d s = s := by
  have := trunc_drop (s := s) (l := []) h
  rwa [List.append_nil] at this
theorem abs_eq (i : Int) : (if i < 0 then -i else i) = ((i.natAbs : Nat) : Int) := by split <;> omega
section
variable {wl n : Nat} {s : Store}
theorem gcd2 {b : Nat} {i j : Int} (h1 : Sz b i) (h2 : Sz b j) (hw : 2 * b + 1 < wl) : callF T wl (n + 1) 3 [.int i, .int j] s = .ok (.int (Int.gcd i j)) s := by
  obtain ⟨d, s', e, rfl, rfl⟩ := wp_ok (m := callF T wl (n + 1) 3 [.int i, .int j]) (s := s) (Q := fun d s' => d = .int (Int.gcd i j) ∧ s' = s) (by
    refine wp_fn (args := [.int i, .int j]) (σ := [some (.int i), some (.int j)]) t3 rfl (by decide) rfl ?_
    tm_at "ws"
    rw [abs_eq, abs_eq]
    refine wp_while (gcd_while (s := s) (k := b + b) (fun x y => ?_) (fun x y h => ?_) ?_ ?_) ?_
    · obtain ⟨_, _, e, rfl, rfl⟩ := wp_ok (m := evT (ct wl n) f3t1 [some (.int x), some (.int y)]) (s := s) (Q := fun d s' => d = decide (y ≠ 0) ∧ s' = s) (by
        tm_at "ws"
        exact ⟨by rw [Bool.eq_iff_iff]; simp, rfl⟩)
      exact e
    · have hy : (0 : Int) < y := by omega
      obtain ⟨_, _, e, rfl, rfl⟩ := wp_ok (m := exs (ct wl n) f3b2 [some (.int x), some (.int y)]) (s := s) (Q := fun d s' => d = .nx [some (.int y), some (.int ((x % y : Nat) : Int))] ∧ s' = s) (by
        tm_at "ws"
        exact ⟨rfl, rfl⟩)
      exact e
    · rw [Nat.pow_add]
      exact Nat.mul_lt_mul'' h1 h2
    · show b + b + 1 < wl
      omega
    · tm_at "ws"
      exact ⟨rfl, trunc_same rfl⟩)
  exact e
theorem gcd33 {b : Nat} {i j : Int} (h1 : Sz b i) (h2 : Sz b j) (hw : 2 * b + 1 < wl) : callF T wl (n + 1) 34 [.int i, .int j] s = .ok (.int (Int.gcd i j)) s := by
  obtain ⟨d, s', e, rfl, rfl⟩ := wp_ok (m := callF T wl (n + 1) 34 [.int i, .int j]) (s := s) (Q := fun d s' => d = .int (Int.gcd i j) ∧ s' = s) (by
    refine wp_fn (args := [.int i, .int j]) (σ := [some (.int i), some (.int j)]) t34 rfl (by decide) rfl ?_
    tm_at "ws"
    rw [abs_eq, abs_eq]
    refine wp_while (gcd_while (s := s) (k := b + b) (fun x y => ?_) (fun x y h => ?_) ?_ ?_) ?_
    · obtain ⟨_, _, e, rfl, rfl⟩ := wp_ok (m := evT (ct wl n) f34t1 [some (.int x), some (.int y)]) (s := s) (Q := fun d s' => d = decide (y ≠ 0) ∧ s' = s) (by
        tm_at "ws"
        exact ⟨by rw [Bool.eq_iff_iff]; simp, rfl⟩)
      exact e
    · have hy : (0 : Int) < y := by omega
      obtain ⟨_, _, e, rfl, rfl⟩ := wp_ok (m := exs (ct wl n) f34b2 [some (.int x), some (.int y)]) (s := s) (Q := fun d s' => d = .nx [some (.int y), some (.int ((x % y : Nat) : Int))] ∧ s' = s) (by
        tm_at "ws"
        exact ⟨rfl, rfl⟩)
      exact e
    · rw [Nat.pow_add]
      exact Nat.mul_lt_mul'' h1 h2
    · show b + b + 1 < wl
      omega
    · tm_at "ws"
      exact ⟨rfl, trunc_same rfl⟩)
  exact e
theorem is_int {i : Int} : callF T wl (n + 1) 1 [.int i] s = .ok (.bl true) s := by
  obtain ⟨d, s', e, rfl, rfl⟩ := wp_ok (m := callF T wl (n + 1) 1 [.int i]) (s := s) (Q := fun d s' => d = .bl true ∧ s' = s) (by
    refine wp_fn (args := [.int i]) (σ := [some (.int i)]) t1 rfl (by decide) rfl ?_
    tm_at "ws"
    exact ⟨rfl, trunc_same rfl⟩)
  exact e
theorem by_sz {b : Nat} {i j : Int} (h2 : Sz b j) (hj : j ≠ 0) : Sz b (byI i j) := h2.le (by_le hj)
theorem fr34 {b : Nat} {i j : Int} (hj : j ≠ 0) (h1 : Sz b i) (h2 : Sz b j) (hw : 2 * b + 1 < wl) (hb : b < 9000) : callF T wl (n + 2) 35 [.int i, .int j] s = .ok (P (fr i j)) s := by
  obtain ⟨d, s', e, rfl, rfl⟩ := wp_ok (m := callF T wl (n + 2) 35 [.int i, .int j]) (s := s) (Q := fun d s' => d = P (fr i j) ∧ s' = s) (by
    refine wp_fn (args := [.int i, .int j]) (σ := [some (.int i), some (.int j), none]) t35 rfl (by decide) rfl ?_
    have g := gcd33 (wl := wl) (n := n) (s := s) h1 h2 hw
    have d1 : prim (ct wl (n + 1)) .fdiv [.int i, .int (byI i j)] s = .ok (.int (fr i j).1) s := fdiv_run (by_ne hj) (by_sz h2 hj) hb
    have d2 : prim (ct wl (n + 1)) .fdiv [.int j, .int (byI i j)] s = .ok (.int (fr i j).2) s := fdiv_run (by_ne hj) (by_sz h2 hj) hb
    have gs : Sz b (Int.gcd i j : Int) := by
      have := by_sz (i := i) h2 hj
      unfold byI at this
      split at this
      · have h := this.neg
        rwa [Int.neg_neg] at h
      · exact this
    by_cases h : j < 0
    · have hb : byI i j = (Int.gcd i j : Int) * -1 := by
        unfold byI
        rw [if_pos h]
        omega
      have m := mul_run (ct := ct wl (n + 1)) (s := s) gs (show Sz 1 (-1) from by unfold Sz; decide) (by omega)
      rw [hb] at d1 d2
      tm_at "ws"
      exact ⟨rfl, trunc_same rfl⟩
    · have hb : byI i j = (Int.gcd i j : Int) * 1 := by
        unfold byI
        rw [if_neg h]
        omega
      have m := mul_run (ct := ct wl (n + 1)) (s := s) gs (show Sz 1 1 from by unfold Sz; decide) (by omega)
      rw [hb] at d1 d2
      tm_at "ws"
      exact ⟨rfl, trunc_same rfl⟩)
  exact e
theorem made {b : Nat} {i j : Int} (hj : j ≠ 0) (h1 : Sz b i) (h2 : Sz b j) (hw : 2 * b + 1 < wl) (hb : b < 9000) : makeD (ct wl (n + 2)) 3 [.int i, .int j] s = .ok (R (fr i j)) s := by
  obtain ⟨d, s', e, rfl, rfl⟩ := wp_ok (m := makeD (ct wl (n + 2)) 3 [.int i, .int j]) (s := s) (Q := fun d s' => d = R (fr i j) ∧ s' = s) (by
    refine wp_mkV (f := 4) [none, none] rfl rfl rfl rfl rfl ?_
    refine wp_fn (args := [.obj s.length, .int i, .int j]) (σ := [some (.obj s.length), some (.int i), some (.int j), none]) t4 rfl (by decide) rfl ?_
    have g := gcd2 (wl := wl) (n := n) (s := s ++ [.sl 3 [none, none]]) h1 h2 hw
    have i1 := is_int (wl := wl) (n := n) (s := s ++ [.sl 3 [none, none]]) (i := i)
    have i2 := is_int (wl := wl) (n := n) (s := s ++ [.sl 3 [none, none]]) (i := j)
    have d1 : ∀ s, prim (ct wl (n + 1)) .fdiv [.int i, .int (byI i j)] s = .ok (.int (fr i j).1) s := fun s => fdiv_run (by_ne hj) (by_sz h2 hj) hb
    have d2 : ∀ s, prim (ct wl (n + 1)) .fdiv [.int j, .int (byI i j)] s = .ok (.int (fr i j).2) s := fun s => fdiv_run (by_ne hj) (by_sz h2 hj) hb
    have a1 : ((s ++ [O.sl 3 [none, none]]).set s.length (O.sl 3 ([none, none].set 0 (some (.int (fr i j).1)))))[s.length]? = some (O.sl 3 [some (.int (fr i j).1), none]) := by
      rw [set_len]
      exact at_len
    have fin : (fun d s1 => d = D.non ∧ ∃ fs l, s1[s.length]? = some (O.sl 3 fs) ∧ allSome fs = some l ∧ s1.take s.length = s ∧ D.ltL s.length l = true ∧ D.ins 3 l = R (fr i j) ∧ s = s) .non
        (G.trunc (s ++ [O.sl 3 [none, none]]) .non (((s ++ [O.sl 3 [none, none]]).set s.length (O.sl 3 ([none, none].set 0 (some (.int (fr i j).1))))).set s.length (O.sl 3 ([some (D.int (fr i j).1), none].set 1 (some (.int (fr i j).2)))))) := by
      have e : G.trunc (s ++ [O.sl 3 [none, none]]) .non (((s ++ [O.sl 3 [none, none]]).set s.length (O.sl 3 ([none, none].set 0 (some (.int (fr i j).1))))).set s.length (O.sl 3 ([some (D.int (fr i j).1), none].set 1 (some (.int (fr i j).2))))) = s ++ [.sl 3 [some (.int (fr i j).1), some (.int (fr i j).2)]] := by
        rw [set_len, set_len]
        unfold G.trunc
        rw [if_neg]
        · rfl
        · intro z
          have h1 := z.1
          rw [List.take_of_length_le (by simp)] at h1
          have := List.append_cancel_left h1
          simp at this
      exact ⟨rfl, [some (.int (fr i j).1), some (.int (fr i j).2)], [.int (fr i j).1, .int (fr i j).2], (congrArg (fun z : Store => z[s.length]?) e).trans at_len, rfl, (congrArg (fun z : Store => z.take s.length) e).trans (by simp), rfl, rfl, rfl⟩
    by_cases h : j < 0
    · have hb : byI i j = -(Int.gcd i j : Int) := if_pos h
      rw [hb] at d1 d2
      have e1 := d1 (s ++ [.sl 3 [none, none]])
      have e2 := d2 ((s ++ [O.sl 3 [none, none]]).set s.length (O.sl 3 ([none, none].set 0 (some (.int (fr i j).1)))))
      tm_at "ws"
      refine wp_setAttSl (c := 3) (fs := [none, none]) at_len rfl rfl (by decide) ?_
      tm_at "ws"
      refine wp_setAttSl (c := 3) (fs := [some (.int (fr i j).1), none]) a1 rfl rfl (Nat.lt_succ_self 1) ?_
      tm_at "ws"
      exact fin
    · have hb : byI i j = (Int.gcd i j : Int) := if_neg h
      rw [hb] at d1 d2
      have e1 := d1 (s ++ [.sl 3 [none, none]])
      have e2 := d2 ((s ++ [O.sl 3 [none, none]]).set s.length (O.sl 3 ([none, none].set 0 (some (.int (fr i j).1)))))
      tm_at "ws"
      refine wp_setAttSl (c := 3) (fs := [none, none]) at_len rfl rfl (by decide) ?_
      tm_at "ws"
      refine wp_setAttSl (c := 3) (fs := [some (.int (fr i j).1), none]) a1 rfl rfl (Nat.lt_succ_self 1) ?_
      tm_at "ws"
      exact fin)
  exact e
end
end K01
set_option Elab.async false
set_option linter.all false
set_option maxRecDepth 1000000
set_option maxHeartbeats 1000000
namespace K01
open G L2
open PySem (Str PyData)
open PySem
open TL (tl)
theorem wp_notB {ct : Ct} {a : E} {σ : G.Env} {s : Store} {Q : D → Store → Prop} {X : Nat → D → Store → Prop} (k : wp (ev ct a σ) (fun x s1 => wp (truth x) (fun t s2 => Q (.bl (!t)) s2) X s1) X s) : wp (ev ct (.not a) σ) Q X s := by
  refine wp_not (wp_mono k (fun x s1 h => wp_mono h (fun t s2 h => ?_) fun _ _ _ h => h) fun _ _ _ h => h)
  cases t <;> with_unfolding_all exact h
-- WS
local macro_rules | `(tactic| tm_at "s") => `(tactic| first | (with_reducible assumption) | (with_reducible rfl) | exact G.at_len | exact G.at_app (by with_reducible assumption) | exact G.at_app G.at_len | exact G.at_app (G.at_app (by with_reducible assumption)) | omega | (exact rfl) | decide)
local macro_rules | `(tactic| tm_at "o") => `(tactic| first | (with_reducible assumption) | exact G.strOk_sx _)
local macro_rules | `(tactic| tm_at "l") => `(tactic| first | (with_reducible assumption) | exact G.line_of (by omega) | decide | (exact G.line_of (Nat.le_of_ble_eq_true rfl)) | (refine G.line_of ?_; simp only [PySem.Str.length_append, List.length_append, List.length_map]; omega))
local macro_rules | `(tactic| tm_at "w") => `(tactic| first
  | ((with_reducible refine g_evs ?_); (first | (with_reducible refine wp_evs1 ?_) | (with_reducible refine wp_evs0 ?_)))
  | ((with_reducible refine g_ev ?_); (first | (with_reducible refine wp_con ?_) | ((with_reducible refine g_evvar ?_); refine wp_var rfl ?_) | (with_reducible refine wp_prim ?_) | (with_reducible refine wp_call ?_) | (with_reducible refine wp_att ?_) | (with_reducible refine wp_and ?_) | (with_reducible refine wp_or ?_) | (with_reducible refine wp_not ?_) | ((with_reducible refine g_ifx ?_); (first | (with_reducible refine wp_eq (by assumption) ?_) | (with_reducible refine wp_ifx ?_))) | ((with_reducible refine g_comp ?_); (first | (with_reducible refine wp_eq (by assumption) ?_))) | (with_reducible refine wp_chain ?_) | (with_reducible refine wp_bm ?_) | (with_reducible refine wp_make ?_) | (with_reducible refine wp_meth ?_) | (with_reducible refine wp_slc ?_) | (with_reducible refine wp_told ?_) | (with_reducible refine wp_lrange ?_) | (with_reducible refine wp_tups ?_) | (with_reducible refine wp_fstr ?_)))
  | ((with_reducible refine g_thn ?_); (first | (with_reducible refine thn_nx ?_) | (with_reducible refine thn_rt ?_) | (with_reducible refine thn_xc ?_) | (with_reducible refine thn_bk ?_) | (with_reducible refine thn_ct ?_)))
  | ((with_reducible refine g_exs ?_); (first | (with_reducible refine wp_exs1 ?_) | (with_reducible refine wp_exs0 ?_)))
  | ((with_reducible refine g_ex ?_); (first | (with_reducible refine wp_asg ?_) | (with_reducible refine wp_ret ?_) | (with_reducible refine wp_if ?_) | (with_reducible refine wp_expr ?_) | (with_reducible refine wp_for ?_) | (with_reducible refine wp_raise ?_) | (with_reducible refine wp_setAtt ?_) | (with_reducible refine wp_setIdx ?_) | (with_reducible refine wp_retN ?_) | (with_reducible refine wp_pass ?_) | (with_reducible refine wp_brk ?_) | (with_reducible refine wp_cont ?_)))
  | ((with_reducible refine g_evT ?_); (first | (with_reducible refine wpT_prim ?_) | (with_reducible refine wpT_and ?_) | (with_reducible refine wpT_or ?_) | (with_reducible refine wpT_not ?_) | ((with_reducible refine g_evTvar ?_); refine wpT_var rfl ?_) | (with_reducible refine wpT_call ?_) | (with_reducible refine wpT_att ?_) | (with_reducible refine wpT_con ?_) | (with_reducible refine wpT_meth ?_) | (with_reducible refine wpT_bm ?_) | (with_reducible refine wpT_chain ?_) | (with_reducible refine wpT_comp ?_)))
  | ((with_reducible refine g_asg ?_); (first | (with_reducible refine asg0 ?_) | (with_reducible refine asg1 ?_) | (with_reducible refine asg2 ?_) | (with_reducible refine asg3 ?_) | (with_reducible refine asg4 ?_) | (with_reducible refine asg5 ?_) | (with_reducible refine asg6 ?_) | (with_reducible refine asg7 ?_) | (with_reducible refine asg8 ?_) | (with_reducible refine asg9 ?_) | (with_reducible refine asg10 ?_) | (with_reducible refine asg11 ?_) | (with_reducible refine asg12 ?_) | (with_reducible refine asg13 ?_) | (with_reducible refine asg14 ?_) | (with_reducible refine asg15 ?_) | (with_reducible refine asgT2 ?_) | (with_reducible refine asgT3 ?_)))
  | ((with_reducible refine g_cs ?_); (first | ((with_reducible refine csT ?_ ?_); (first | (with_reducible assumption) | exact rfl)) | ((with_reducible refine csF ?_ ?_); (first | (with_reducible assumption) | exact rfl))))
  | ((with_reducible refine g_prim ?_); (first | ((with_reducible refine g_add ?_); (first | (with_reducible refine wpp_addI ?_) | ((with_reducible refine wpp_addS ?_ ?_); tm_at "l") | ((with_reducible refine wpp_addT ?_ ?_); tm_at "l") | ((with_reducible refine g_addL ?_); refine wpp_addL (by tm_at "s") (by tm_at "s") (by tm_at "l") ?_))) | ((with_reducible refine g_eq ?_); (first | ((with_reducible refine wpp_eqIT ?_ ?_); (first | omega | decide)) | ((with_reducible refine wpp_eqIF ?_ ?_); (first | omega | decide)) | (with_reducible refine wpp_eqI ?_) | (with_reducible refine wpp_eqB ?_) | ((with_reducible refine wpp_eqSS ?_ ?_); tm_at "o") | ((with_reducible refine wpp_eqS ?_ ?_ ?_); tm_at "o"; tm_at "o") | (with_reducible refine wp_eq (by assumption) ?_))) | ((with_reducible refine g_ne ?_); (first | ((with_reducible refine wpp_neIF ?_ ?_); (first | omega | decide)) | ((with_reducible refine wpp_neIT ?_ ?_); (first | omega | decide)) | (with_reducible refine wpp_neI ?_) | (with_reducible refine wpp_neBB ?_) | (with_reducible refine wpp_neB ?_) | ((with_reducible refine wpp_neSS ?_ ?_); tm_at "o") | ((with_reducible refine wpp_neS ?_ ?_ ?_); tm_at "o"; tm_at "o") | (with_reducible refine wp_eq (by assumption) ?_))) | ((with_reducible refine g_lt ?_); (first | ((with_reducible refine wpp_ltT ?_ ?_); (first | omega | decide)) | ((with_reducible refine wpp_ltF ?_ ?_); (first | omega | decide)) | (with_reducible refine wpp_ltI ?_) | (with_reducible refine wp_eq (by assumption) ?_))) | ((with_reducible refine g_le ?_); (first | ((with_reducible refine wpp_leT ?_ ?_); (first | omega | decide)) | ((with_reducible refine wpp_leF ?_ ?_); (first | omega | decide)) | (with_reducible refine wpp_leI ?_) | (with_reducible refine wp_eq (by assumption) ?_))) | ((with_reducible refine g_gt ?_); (first | ((with_reducible refine wpp_gtT ?_ ?_); (first | omega | decide)) | ((with_reducible refine wpp_gtF ?_ ?_); (first | omega | decide)) | (with_reducible refine wpp_gtI ?_) | (with_reducible refine wp_eq (by assumption) ?_))) | ((with_reducible refine g_ge ?_); (first | ((with_reducible refine wpp_geT ?_ ?_); (first | omega | decide)) | ((with_reducible refine wpp_geF ?_ ?_); (first | omega | decide)) | (with_reducible refine wpp_geI ?_) | (with_reducible refine wp_eq (by assumption) ?_))) | ((with_reducible refine g_isi ?_); (first | (with_reducible refine wp_eq (by assumption) ?_) | ((with_reducible refine wpp_isiT ?_ ?_); exact rfl) | ((with_reducible refine wpp_isiF ?_ ?_); exact rfl))) | ((with_reducible refine g_isN ?_); (first | (with_reducible refine wpp_isNT ?_) | ((with_reducible refine wpp_isNF ?_ ?_); exact nofun))) | ((with_reducible refine g_len ?_); (first | (with_reducible refine wpp_lenM ?_) | ((with_reducible refine g_lenL ?_); (with_reducible refine wpp_lenLM (by assumption) ?_)) | (with_reducible refine wpp_lenT ?_) | ((with_reducible refine g_lenL ?_); refine wpp_lenL (by tm_at "s") ?_) | ((with_reducible refine wpp_lenS ?_ ?_); tm_at "l") | (with_reducible refine wp_eq (by assumption) ?_))) | ((with_reducible refine g_idx ?_); (first | ((with_reducible refine g_idxL ?_); refine wpp_idxL (by tm_at "s") (by tm_at "s") ?_) | ((with_reducible refine g_idxT ?_); refine wpp_idxT (by tm_at "s") ?_) | (with_reducible refine wp_eq (by assumption) ?_))) | ((with_reducible refine g_tup ?_); (first | (with_reducible refine wpp_tup2 ?_) | (with_reducible refine wpp_tup1 ?_) | (with_reducible refine wpp_tup0 ?_) | (with_reducible refine wpp_tup3 ?_) | (with_reducible refine wpp_tup4 ?_) | (with_reducible refine wpp_tup5 ?_))) | ((with_reducible refine g_lst ?_); (first | ((with_reducible refine wpp_lst ?_ ?_); tm_at "l"))) | ((with_reducible refine g_sub ?_); (first | (with_reducible refine wpp_subI ?_) | (with_reducible refine wp_eq (by assumption) ?_))) | ((with_reducible refine g_neg ?_); (first | (with_reducible refine wpp_negI ?_) | (with_reducible refine wp_eq (by assumption) ?_))) | ((with_reducible refine g_abs ?_); (first | (with_reducible refine wpp_absI ?_))) | ((with_reducible refine g_mod ?_); (first | ((with_reducible refine wpp_modI ?_ ?_); tm_at "s"))) | ((with_reducible refine g_int1 ?_); (first | (with_reducible refine wpp_int1I ?_) | (with_reducible refine wpp_int1B ?_))) | ((with_reducible refine g_max2 ?_); (first | (with_reducible refine wpp_max2 ?_))) | ((with_reducible refine g_min2 ?_); (first | (with_reducible refine wpp_min2 ?_))) | ((with_reducible refine g_repr ?_); (first | (with_reducible refine wp_eq (by assumption) ?_) | ((with_reducible refine wpp_reprS ?_ ?_ ?_); tm_at "o"; omega))) | ((with_reducible refine g_tuple1 ?_); (first | (with_reducible refine wpp_tuple1T ?_) | ((with_reducible refine g_tuple1L ?_); refine wpp_tuple1L (by tm_at "s") ?_))) | ((with_reducible refine g_inn ?_); (first | (with_reducible refine wpp_innS ?_) | (with_reducible refine wp_eq (by assumption) ?_))) | ((with_reducible refine g_startswith ?_); (first | (with_reducible refine wpp_startswith ?_))) | ((with_reducible refine g_removeprefix ?_); (first | ((with_reducible refine wpp_removeprefix ?_ ?_); tm_at "l"))) | ((with_reducible refine g_append ?_); (first | ((with_reducible refine g_appendL ?_); refine wpp_appendL (by tm_at "s") (by tm_at "l") ?_))) | ((with_reducible refine g_extend ?_); (first | ((with_reducible refine g_extendL ?_); refine wpp_extendL (by tm_at "s") (by tm_at "s") (by tm_at "l") ?_))) | ((with_reducible refine g_fmt ?_); (first | ((with_reducible refine wpp_fmtS ?_ ?_); tm_at "l") | ((with_reducible refine wpp_fmtI ?_ ?_); tm_at "s"))) | ((with_reducible refine g_fmtR ?_); (first | ((with_reducible refine wpp_fmtRS ?_ ?_); tm_at "l"))) | ((with_reducible refine g_str1 ?_); (first | ((with_reducible refine wpp_strI ?_ ?_); tm_at "s"))) | (with_reducible refine wp_eq (by assumption) ?_)))
  | ((with_reducible refine g_call ?_); (first | (with_reducible refine wp_eq (by assumption) ?_)))
  | ((with_reducible refine g_truth ?_); (first | (with_reducible refine wp_truth_bl ?_) | (with_reducible refine wp_truth_int ?_) | (with_reducible refine wp_truth_non ?_) | (with_reducible refine wp_truth_tup ?_) | ((with_reducible refine wp_truth_str ?_ ?_); tm_at "l")))
  | ((with_reducible refine g_attD ?_); (first | ((with_reducible refine g_attIns ?_); refine wp_attIns rfl rfl rfl ?_) | ((with_reducible refine g_attX ?_); refine wp_attX rfl rfl ?_) | (with_reducible refine wp_eq (by assumption) ?_)))
  | ((with_reducible refine g_makeD ?_); (first | (with_reducible refine wp_eq (by assumption) ?_) | ((with_reducible refine g_mkX ?_); refine wp_mkX rfl rfl ?_)))
  | ((with_reducible refine g_beh ?_); (first | (with_reducible refine beh_rt ?_) | (with_reducible refine beh_nx ?_) | (with_reducible refine beh_xc ?_)))
  | ((with_reducible refine g_recv ?_); (first | (with_reducible refine wp_recvSj ?_) | (with_reducible refine wp_recvSs ?_) | (with_reducible refine wp_recvSt ?_) | (with_reducible refine wp_recvSp ?_) | ((with_reducible refine g_recvL ?_); refine wp_recvA (by tm_at "s") ?_) | ((with_reducible refine g_recvL ?_); refine wp_recvE (by tm_at "s") ?_) | ((with_reducible refine g_recvL ?_); refine wp_recvP (by tm_at "s") ?_)))
  | ((with_reducible refine g_evI ?_); (first | (with_reducible refine wp_seq ?_) | (with_reducible refine wp_range1 ?_) | (with_reducible refine wp_zip ?_)))
  | ((with_reducible refine g_walk ?_); (first | (with_reducible refine wp_walk_tup ?_) | (with_reducible refine wp_walk_str ?_) | ((with_reducible refine g_walkL ?_); refine wp_walk_lst (by tm_at "s") ?_)))
  | ((with_reducible refine g_evP ?_); (first | (with_reducible refine wp_P0 ?_) | (with_reducible refine wp_P1 ?_)))
  | ((with_reducible refine g_evS ?_); (first | (with_reducible refine wp_S0 ?_) | (with_reducible refine wp_S1 ?_)))
  | ((with_reducible refine g_evJ ?_); (first | (with_reducible refine wp_J0 ?_) | (with_reducible refine wp_J1 ?_)))
  | ((with_reducible refine g_evO ?_); (first | (with_reducible refine wp_O0 ?_) | (with_reducible refine wp_O1 ?_)))
  | ((with_reducible refine g_slice ?_); (first | ((with_reducible refine wp_sliceS ?_ ?_); tm_at "l") | (with_reducible refine wp_sliceT ?_)))
  | (with_reducible refine ex_int ?_)
  | (with_reducible refine ex_str ?_)
  | (with_reducible refine ex_tup ?_)
  | (with_reducible refine wp_asB ?_)
  | (with_reducible refine wp_partI ?_)
  | ((with_reducible refine g_zipL ?_); refine wp_zipL (by tm_at "s") (by tm_at "s") ?_)
  | (with_reducible refine wp_zipT ?_)
  | ((with_reducible refine g_setIdxL ?_); refine wp_setIdxL (by tm_at "s") (by tm_at "s") (by tm_at "s") ?_))
local macro_rules | `(tactic| tm_at "ws") => `(tactic| repeat tm_at "w")
-- /WS
local macro_rules | `(tactic| tm_at "w") => `(tactic| ((with_reducible refine g_ev ?_); with_reducible refine wp_notB ?_))
section
variable {wl n : Nat} {s : Store} {w x : Str} {v : D} {p q : Int × Int}
theorem int_strOk (i : Int) : PyData.strOk (PyData.shown (.int i)) = true := strOk_list.mpr fun c hc => by
  refine Nat.lt_of_not_le fun h => ?_
  have e : (PyData.shown (.int i)) = ((toString i : String) : Str) := by simp only [PyData.shown]
  rw [e] at hc
  exact PyProof.Rows.int_text_free' c ⟨by omega, .inr (by omega)⟩ i hc
theorem int_len {i : Int} (h : Sz 100 i) : (PyData.shown (.int i)).length ≤ 102 := by
  have e : (PyData.shown (.int i)) = ((toString i : String) : Str) := by simp only [PyData.shown]
  rw [e]
  show (Str.ofString (toString i)).length ≤ 102
  rw [ofString_length]
  have := int_text_length_le (a := i) (k := 101) (by decide) (by have := h.log; omega)
  omega
abbrev tS (i : Int) : Str := ((toString i : String) : Str)
theorem str_ok (i : Int) : PyData.strOk (tS i) = true := by
  have := int_strOk i
  have e : (PyData.shown (.int i)) = ((toString i : String) : Str) := by simp only [PyData.shown]
  rwa [e] at this
theorem str_len {i : Int} (h : Sz 100 i) : (tS i).length ≤ 102 := by
  have := int_len h
  have e : (PyData.shown (.int i)) = ((toString i : String) : Str) := by simp only [PyData.shown]
  rwa [e] at this
theorem sm_int {i : Int} (h : Sz 100 i) : Sm 0 102 (.int i) := ⟨decide_eq_true (by have := h.log; omega), Nat.le_refl _, int_len h, int_strOk i⟩
theorem pair_ok {x : Int × Int} (h1 : Sz 100 x.1) (h2 : Sz 100 x.2) : okP (.tuple [.int x.1, .int x.2]) = true :=
  (Sm.tup fun p hp => by
    simp only [List.mem_cons, List.not_mem_nil, or_false] at hp
    rcases hp with rfl | rfl
    · exact sm_int h1
    · exact sm_int h2).okP (by decide) (show 2 * (102 + 2) + 3 ≤ 1000000 by decide)
theorem empty_app (y : Str) : Str.empty ++ y = y := TL.ext_tl (by rw [TL.tl_append]; rfl)
theorem app_empty (y : Str) : y ++ sx "" = y := TL.ext_tl (by rw [TL.tl_append]; exact List.append_nil _)
theorem app_assoc (x y z : Str) : x ++ y ++ z = x ++ (y ++ z) := TL.ext_tl (by simp only [TL.tl_append, List.append_assoc])
def rtx (p : Int × Int) : Str := ((sx "Ratio(" ++ tS p.1) ++ (if p.2 = 1 then sx "" else sx ", " ++ tS p.2)) ++ sx ")"
theorem rtx_ok (p : Int × Int) : PyData.strOk (rtx p) = true := by
  unfold rtx
  split
  · exact strOk_app (strOk_app (strOk_app (strOk_sx _) (str_ok _)) (strOk_sx _)) (strOk_sx _)
  · exact strOk_app (strOk_app (strOk_app (strOk_sx _) (str_ok _)) (strOk_app (strOk_sx _) (str_ok _))) (strOk_sx _)
theorem rtx1 (h : p.2 = 1) : rtx p = (sx "Ratio(" ++ tS p.1) ++ sx ")" := by
  unfold rtx
  rw [if_pos h, app_empty]
theorem rtx2 (h : p.2 ≠ 1) : rtx p = ((((sx "Ratio(") ++ tS p.1) ++ sx ", ") ++ tS p.2) ++ sx ")" := by
  unfold rtx
  rw [if_neg h, app_assoc (sx "Ratio(" ++ tS p.1) (sx ", ")]
theorem len_R : (sx "Ratio(").length = 6 := by kernel_rfl
theorem len_C : (sx ", ").length = 2 := by kernel_rfl
theorem len_P : (sx ")").length = 1 := by kernel_rfl
theorem rtx_len (h1 : Sz 100 p.1) (h2 : Sz 100 p.2) : (rtx p).length ≤ 300 := by
  have b1 := str_len h1
  have b2 := str_len h2
  have := len_R
  have := len_C
  have := len_P
  by_cases h : p.2 = 1
  · rw [rtx1 h, PySem.Str.length_append, PySem.Str.length_append]
    omega
  · rw [rtx2 h, PySem.Str.length_append, PySem.Str.length_append, PySem.Str.length_append, PySem.Str.length_append]
    omega
theorem repr10 (h1 : Sz 100 p.1) (h2 : Sz 100 p.2) : callF T wl (n + 1) 10 [R p] s = .ok (.str (rtx p)) s := by
  obtain ⟨d, s', e, rfl, rfl⟩ := wp_ok (m := callF T wl (n + 1) 10 [R p]) (s := s) (Q := fun d s' => d = .str (rtx p) ∧ s' = s) (by
    refine wp_fn (args := [R p]) (σ := [some (R p)]) t10 rfl (by decide) rfl ?_
    have l1 : p.1.natAbs.log2 < 9000 := by have := h1.log; omega
    have l2 : p.2.natAbs.log2 < 9000 := by have := h2.log; omega
    have b1 : (Str.ofString (toString p.1)).length ≤ 102 := str_len h1
    have b2 : (Str.ofString (toString p.2)).length ≤ 102 := str_len h2
    have a1 := len_R
    have a2 := len_C
    have a3 := len_P
    by_cases h : p.2 = 1
    · rw [rtx1 h]
      tm_at "ws"
      rw [empty_app]
      refine ⟨line_of (by omega), ?_⟩
      tm_at "ws"
      refine ⟨line_of (by rw [PySem.Str.length_append]; omega), ?_⟩
      tm_at "ws"
      refine ⟨line_of (by rw [PySem.Str.length_append, PySem.Str.length_append]; omega), ?_⟩
      tm_at "ws"
      exact ⟨rfl, trunc_same rfl⟩
    · rw [rtx2 h]
      tm_at "ws"
      rw [empty_app]
      refine ⟨line_of (by omega), ?_⟩
      tm_at "ws"
      refine ⟨line_of (by rw [PySem.Str.length_append]; omega), ?_⟩
      tm_at "ws"
      refine ⟨line_of (by rw [PySem.Str.length_append, PySem.Str.length_append]; omega), ?_⟩
      tm_at "ws"
      refine ⟨line_of (by rw [PySem.Str.length_append, PySem.Str.length_append, PySem.Str.length_append]; omega), ?_⟩
      tm_at "ws"
      refine ⟨line_of (by rw [PySem.Str.length_append, PySem.Str.length_append, PySem.Str.length_append, PySem.Str.length_append]; omega), ?_⟩
      tm_at "ws"
      exact ⟨rfl, trunc_same rfl⟩)
  exact e
theorem prR {r : Str} (h : callF T wl n 10 [R p] s = .ok (.str r) s) : prim (ct wl n) .repr [R p] s = .ok (.str r) s := by
  with_unfolding_all show (callF T wl n 10 [R p] >>= fun y => _) s = _
  rw [bind_ok h]
  with_unfolding_all rfl
theorem att45 {a f : Nat} {i : Int} (hf : (a, f, i) = (4, 5, p.1) ∨ (a, f, i) = (5, 6, p.2)) : attD (ct wl (n + 1)) a (R p) s = .ok (.int i) s := by
  rcases hf with hf | hf
  · injection hf with h1 h2
    injection h2 with h2 h3
    subst h1 h2 h3
    obtain ⟨d, s', e, rfl, rfl⟩ := wp_ok (m := attD (ct wl (n + 1)) 4 (R p)) (s := s) (Q := fun d s' => d = .int p.1 ∧ s' = s) (by
      refine wp_attProp (f := 5) rfl rfl rfl ?_
      refine wp_fn (wl := wl) (n := n) (args := [R p]) (σ := [some (R p)]) t5 rfl (by decide) rfl ?_
      tm_at "ws"
      exact ⟨rfl, trunc_same rfl⟩)
    exact e
  · injection hf with h1 h2
    injection h2 with h2 h3
    subst h1 h2 h3
    obtain ⟨d, s', e, rfl, rfl⟩ := wp_ok (m := attD (ct wl (n + 1)) 5 (R p)) (s := s) (Q := fun d s' => d = .int p.2 ∧ s' = s) (by
      refine wp_attProp (f := 6) rfl rfl rfl ?_
      refine wp_fn (wl := wl) (n := n) (args := [R p]) (σ := [some (R p)]) t6 rfl (by decide) rfl ?_
      tm_at "ws"
      exact ⟨rfl, trunc_same rfl⟩)
    exact e
/-! ### == -/
theorem eqR {v : D} {b : Bool} (hv : hasTy (ct wl n) v s = .ok () s) (e : callF T wl n 11 [R p, v] s = .ok (.bl b) s) : eqD (ct wl n) (R p) v s = .ok b s := by
  show (hasTy (ct wl n) v >>= fun _ => callF T wl n 11 [R p, v] >>= asB) s = _
  rw [bind_ok hv, bind_ok e]
  rfl
theorem eq11 : callF T wl (n + 1) 11 [R p, R q] s = .ok (.bl (decide (p = q))) s := by
  obtain ⟨d, s', e, rfl, rfl⟩ := wp_ok (m := callF T wl (n + 1) 11 [R p, R q]) (s := s) (Q := fun d s' => d = .bl (decide (p = q)) ∧ s' = s) (by
    refine wp_fn (args := [R p, R q]) (σ := [some (R p), some (R q)]) t11 rfl (by decide) rfl ?_
    have e0 : decide (p = q) = (decide (p.1 = q.1) && decide (p.2 = q.2)) := by
      rw [Bool.eq_iff_iff]
      simp only [decide_eq_true_eq, Bool.and_eq_true]
      exact Prod.ext_iff
    by_cases h1 : p.1 = q.1
    · by_cases h2 : p.2 = q.2
      · rw [e0, decide_eq_true h1, decide_eq_true h2]
        tm_at "ws"
        exact ⟨rfl, trunc_same rfl⟩
      · rw [e0, decide_eq_true h1, decide_eq_false h2]
        tm_at "ws"
        exact ⟨rfl, trunc_same rfl⟩
    · rw [e0, decide_eq_false h1]
      tm_at "ws"
      exact ⟨rfl, trunc_same rfl⟩)
  exact e
theorem eq11n {v : D} (hi : ∀ n, prim (ct wl n) .isi [v, .cls 3] s = .ok (.bl false) s) : callF T wl (n + 1) 11 [R p, v] s = .ok (.bl false) s := by
  obtain ⟨d, s', e, rfl, rfl⟩ := wp_ok (m := callF T wl (n + 1) 11 [R p, v]) (s := s) (Q := fun d s' => d = .bl false ∧ s' = s) (by
    refine wp_fn (args := [R p, v]) (σ := [some (R p), some v]) t11 rfl (by decide) rfl ?_
    have i := hi n
    tm_at "ws"
    exact ⟨rfl, trunc_same rfl⟩)
  exact e
end
end K01
set_option Elab.async false
set_option linter.all false
set_option maxRecDepth 1000000
set_option maxHeartbeats 1000000
namespace K01
open G L2
open PySem (Str PyData)
open PySem
open TL (tl)
-- WS
local macro_rules | `(tactic| tm_at "s") => `(tactic| first | (with_reducible assumption) | (with_reducible rfl) | exact G.at_len | exact G.at_app (by with_reducible assumption) | exact G.at_app G.at_len | exact G.at_app (G.at_app (by with_reducible assumption)) | omega | (exact rfl) | decide)
local macro_rules | `(tactic| tm_at "o") => `(tactic| first | (with_reducible assumption) | exact G.strOk_sx _)
local macro_rules | `(tactic| tm_at "l") => `(tactic| first | (with_reducible assumption) | exact G.line_of (by omega) | decide | (exact G.line_of (Nat.le_of_ble_eq_true rfl)) | (refine G.line_of ?_; simp only [PySem.Str.length_append, List.length_append, List.length_map]; omega))
local macro_rules | `(tactic| tm_at "w") => `(tactic| first
  | ((with_reducible refine g_evs ?_); (first | (with_reducible refine wp_evs1 ?_) | (with_reducible refine wp_evs0 ?_)))
  | ((with_reducible refine g_ev ?_); (first | (with_reducible refine wp_con ?_) | ((with_reducible refine g_evvar ?_); refine wp_var rfl ?_) | (with_reducible refine wp_prim ?_) | (with_reducible refine wp_call ?_) | (with_reducible refine wp_att ?_) | (with_reducible refine wp_and ?_) | (with_reducible refine wp_or ?_) | (with_reducible refine wp_not ?_) | ((with_reducible refine g_ifx ?_); (first | (with_reducible refine wp_eq (by assumption) ?_) | (with_reducible refine wp_ifx ?_))) | ((with_reducible refine g_comp ?_); (first | (with_reducible refine wp_eq (by assumption) ?_))) | (with_reducible refine wp_chain ?_) | (with_reducible refine wp_bm ?_) | (with_reducible refine wp_make ?_) | (with_reducible refine wp_meth ?_) | (with_reducible refine wp_slc ?_) | (with_reducible refine wp_told ?_) | (with_reducible refine wp_lrange ?_) | (with_reducible refine wp_tups ?_) | (with_reducible refine wp_fstr ?_)))
  | ((with_reducible refine g_thn ?_); (first | (with_reducible refine thn_nx ?_) | (with_reducible refine thn_rt ?_) | (with_reducible refine thn_xc ?_) | (with_reducible refine thn_bk ?_) | (with_reducible refine thn_ct ?_)))
  | ((with_reducible refine g_exs ?_); (first | (with_reducible refine wp_exs1 ?_) | (with_reducible refine wp_exs0 ?_)))
  | ((with_reducible refine g_ex ?_); (first | (with_reducible refine wp_asg ?_) | (with_reducible refine wp_ret ?_) | (with_reducible refine wp_if ?_) | (with_reducible refine wp_expr ?_) | (with_reducible refine wp_for ?_) | (with_reducible refine wp_raise ?_) | (with_reducible refine wp_setAtt ?_) | (with_reducible refine wp_setIdx ?_) | (with_reducible refine wp_retN ?_) | (with_reducible refine wp_pass ?_) | (with_reducible refine wp_brk ?_) | (with_reducible refine wp_cont ?_)))
  | ((with_reducible refine g_evT ?_); (first | (with_reducible refine wpT_prim ?_) | (with_reducible refine wpT_and ?_) | (with_reducible refine wpT_or ?_) | (with_reducible refine wpT_not ?_) | ((with_reducible refine g_evTvar ?_); refine wpT_var rfl ?_) | (with_reducible refine wpT_call ?_) | (with_reducible refine wpT_att ?_) | (with_reducible refine wpT_con ?_) | (with_reducible refine wpT_meth ?_) | (with_reducible refine wpT_bm ?_) | (with_reducible refine wpT_chain ?_) | (with_reducible refine wpT_comp ?_)))
  | ((with_reducible refine g_asg ?_); (first | (with_reducible refine asg0 ?_) | (with_reducible refine asg1 ?_) | (with_reducible refine asg2 ?_) | (with_reducible refine asg3 ?_) | (with_reducible refine asg4 ?_) | (with_reducible refine asg5 ?_) | (with_reducible refine asg6 ?_) | (with_reducible refine asg7 ?_) | (with_reducible refine asg8 ?_) | (with_reducible refine asg9 ?_) | (with_reducible refine asg10 ?_) | (with_reducible refine asg11 ?_) | (with_reducible refine asg12 ?_) | (with_reducible refine asg13 ?_) | (with_reducible refine asg14 ?_) | (with_reducible refine asg15 ?_) | (with_reducible refine asgT2 ?_) | (with_reducible refine asgT3 ?_)))
  | ((with_reducible refine g_cs ?_); (first | ((with_reducible refine csT ?_ ?_); (first | (with_reducible assumption) | exact rfl)) | ((with_reducible refine csF ?_ ?_); (first | (with_reducible assumption) | exact rfl))))
  | ((with_reducible refine g_prim ?_); (first | ((with_reducible refine g_add ?_); (first | (with_reducible refine wpp_addI ?_) | ((with_reducible refine wpp_addS ?_ ?_); tm_at "l") | ((with_reducible refine wpp_addT ?_ ?_); tm_at "l") | ((with_reducible refine g_addL ?_); refine wpp_addL (by tm_at "s") (by tm_at "s") (by tm_at "l") ?_))) | ((with_reducible refine g_eq ?_); (first | ((with_reducible refine wpp_eqIT ?_ ?_); (first | omega | decide)) | ((with_reducible refine wpp_eqIF ?_ ?_); (first | omega | decide)) | (with_reducible refine wpp_eqI ?_) | (with_reducible refine wpp_eqB ?_) | ((with_reducible refine wpp_eqSS ?_ ?_); tm_at "o") | ((with_reducible refine wpp_eqS ?_ ?_ ?_); tm_at "o"; tm_at "o") | (with_reducible refine wp_eq (by assumption) ?_))) | ((with_reducible refine g_ne ?_); (first | ((with_reducible refine wpp_neIF ?_ ?_); (first | omega | decide)) | ((with_reducible refine wpp_neIT ?_ ?_); (first | omega | decide)) | (with_reducible refine wpp_neI ?_) | (with_reducible refine wpp_neBB ?_) | (with_reducible refine wpp_neB ?_) | ((with_reducible refine wpp_neSS ?_ ?_); tm_at "o") | ((with_reducible refine wpp_neS ?_ ?_ ?_); tm_at "o"; tm_at "o") | (with_reducible refine wp_eq (by assumption) ?_))) | ((with_reducible refine g_lt ?_); (first | ((with_reducible refine wpp_ltT ?_ ?_); (first | omega | decide)) | ((with_reducible refine wpp_ltF ?_ ?_); (first | omega | decide)) | (with_reducible refine wpp_ltI ?_) | (with_reducible refine wp_eq (by assumption) ?_))) | ((with_reducible refine g_le ?_); (first | ((with_reducible refine wpp_leT ?_ ?_); (first | omega | decide)) | ((with_reducible refine wpp_leF ?_ ?_); (first | omega | decide)) | (with_reducible refine wpp_leI ?_) | (with_reducible refine wp_eq (by assumption) ?_))) | ((with_reducible refine g_gt ?_); (first | ((with_reducible refine wpp_gtT ?_ ?_); (first | omega | decide)) | ((with_reducible refine wpp_gtF ?_ ?_); (first | omega | decide)) | (with_reducible refine wpp_gtI ?_) | (with_reducible refine wp_eq (by assumption) ?_))) | ((with_reducible refine g_ge ?_); (first | ((with_reducible refine wpp_geT ?_ ?_); (first | omega | decide)) | ((with_reducible refine wpp_geF ?_ ?_); (first | omega | decide)) | (with_reducible refine wpp_geI ?_) | (with_reducible refine wp_eq (by assumption) ?_))) | ((with_reducible refine g_isi ?_); (first | (with_reducible refine wp_eq (by assumption) ?_) | ((with_reducible refine wpp_isiT ?_ ?_); exact rfl) | ((with_reducible refine wpp_isiF ?_ ?_); exact rfl))) | ((with_reducible refine g_isN ?_); (first | (with_reducible refine wpp_isNT ?_) | ((with_reducible refine wpp_isNF ?_ ?_); exact nofun))) | ((with_reducible refine g_len ?_); (first | (with_reducible refine wpp_lenM ?_) | ((with_reducible refine g_lenL ?_); (with_reducible refine wpp_lenLM (by assumption) ?_)) | (with_reducible refine wpp_lenT ?_) | ((with_reducible refine g_lenL ?_); refine wpp_lenL (by tm_at "s") ?_) | ((with_reducible refine wpp_lenS ?_ ?_); tm_at "l") | (with_reducible refine wp_eq (by assumption) ?_))) | ((with_reducible refine g_idx ?_); (first | ((with_reducible refine g_idxL ?_); refine wpp_idxL (by tm_at "s") (by tm_at "s") ?_) | ((with_reducible refine g_idxT ?_); refine wpp_idxT (by tm_at "s") ?_) | (with_reducible refine wp_eq (by assumption) ?_))) | ((with_reducible refine g_tup ?_); (first | (with_reducible refine wpp_tup2 ?_) | (with_reducible refine wpp_tup1 ?_) | (with_reducible refine wpp_tup0 ?_) | (with_reducible refine wpp_tup3 ?_) | (with_reducible refine wpp_tup4 ?_) | (with_reducible refine wpp_tup5 ?_))) | ((with_reducible refine g_lst ?_); (first | ((with_reducible refine wpp_lst ?_ ?_); tm_at "l"))) | ((with_reducible refine g_sub ?_); (first | (with_reducible refine wpp_subI ?_) | (with_reducible refine wp_eq (by assumption) ?_))) | ((with_reducible refine g_neg ?_); (first | (with_reducible refine wpp_negI ?_) | (with_reducible refine wp_eq (by assumption) ?_))) | ((with_reducible refine g_abs ?_); (first | (with_reducible refine wpp_absI ?_))) | ((with_reducible refine g_mod ?_); (first | ((with_reducible refine wpp_modI ?_ ?_); tm_at "s"))) | ((with_reducible refine g_int1 ?_); (first | (with_reducible refine wpp_int1I ?_) | (with_reducible refine wpp_int1B ?_))) | ((with_reducible refine g_max2 ?_); (first | (with_reducible refine wpp_max2 ?_))) | ((with_reducible refine g_min2 ?_); (first | (with_reducible refine wpp_min2 ?_))) | ((with_reducible refine g_repr ?_); (first | (with_reducible refine wp_eq (by assumption) ?_) | ((with_reducible refine wpp_reprS ?_ ?_ ?_); tm_at "o"; omega))) | ((with_reducible refine g_tuple1 ?_); (first | (with_reducible refine wpp_tuple1T ?_) | ((with_reducible refine g_tuple1L ?_); refine wpp_tuple1L (by tm_at "s") ?_))) | ((with_reducible refine g_inn ?_); (first | (with_reducible refine wpp_innS ?_) | (with_reducible refine wp_eq (by assumption) ?_))) | ((with_reducible refine g_startswith ?_); (first | (with_reducible refine wpp_startswith ?_))) | ((with_reducible refine g_removeprefix ?_); (first | ((with_reducible refine wpp_removeprefix ?_ ?_); tm_at "l"))) | ((with_reducible refine g_append ?_); (first | ((with_reducible refine g_appendL ?_); refine wpp_appendL (by tm_at "s") (by tm_at "l") ?_))) | ((with_reducible refine g_extend ?_); (first | ((with_reducible refine g_extendL ?_); refine wpp_extendL (by tm_at "s") (by tm_at "s") (by tm_at "l") ?_))) | ((with_reducible refine g_fmt ?_); (first | ((with_reducible refine wpp_fmtS ?_ ?_); tm_at "l") | ((with_reducible refine wpp_fmtI ?_ ?_); tm_at "s"))) | ((with_reducible refine g_fmtR ?_); (first | ((with_reducible refine wpp_fmtRS ?_ ?_); tm_at "l"))) | ((with_reducible refine g_str1 ?_); (first | ((with_reducible refine wpp_strI ?_ ?_); tm_at "s"))) | (with_reducible refine wp_eq (by assumption) ?_)))
  | ((with_reducible refine g_call ?_); (first | (with_reducible refine wp_eq (by assumption) ?_)))
  | ((with_reducible refine g_truth ?_); (first | (with_reducible refine wp_truth_bl ?_) | (with_reducible refine wp_truth_int ?_) | (with_reducible refine wp_truth_non ?_) | (with_reducible refine wp_truth_tup ?_) | ((with_reducible refine wp_truth_str ?_ ?_); tm_at "l")))
  | ((with_reducible refine g_attD ?_); (first | ((with_reducible refine g_attIns ?_); refine wp_attIns rfl rfl rfl ?_) | ((with_reducible refine g_attX ?_); refine wp_attX rfl rfl ?_) | (with_reducible refine wp_eq (by assumption) ?_)))
  | ((with_reducible refine g_makeD ?_); (first | (with_reducible refine wp_eq (by assumption) ?_) | ((with_reducible refine g_mkX ?_); refine wp_mkX rfl rfl ?_)))
  | ((with_reducible refine g_beh ?_); (first | (with_reducible refine beh_rt ?_) | (with_reducible refine beh_nx ?_) | (with_reducible refine beh_xc ?_)))
  | ((with_reducible refine g_recv ?_); (first | (with_reducible refine wp_recvSj ?_) | (with_reducible refine wp_recvSs ?_) | (with_reducible refine wp_recvSt ?_) | (with_reducible refine wp_recvSp ?_) | ((with_reducible refine g_recvL ?_); refine wp_recvA (by tm_at "s") ?_) | ((with_reducible refine g_recvL ?_); refine wp_recvE (by tm_at "s") ?_) | ((with_reducible refine g_recvL ?_); refine wp_recvP (by tm_at "s") ?_)))
  | ((with_reducible refine g_evI ?_); (first | (with_reducible refine wp_seq ?_) | (with_reducible refine wp_range1 ?_) | (with_reducible refine wp_zip ?_)))
  | ((with_reducible refine g_walk ?_); (first | (with_reducible refine wp_walk_tup ?_) | (with_reducible refine wp_walk_str ?_) | ((with_reducible refine g_walkL ?_); refine wp_walk_lst (by tm_at "s") ?_)))
  | ((with_reducible refine g_evP ?_); (first | (with_reducible refine wp_P0 ?_) | (with_reducible refine wp_P1 ?_)))
  | ((with_reducible refine g_evS ?_); (first | (with_reducible refine wp_S0 ?_) | (with_reducible refine wp_S1 ?_)))
  | ((with_reducible refine g_evJ ?_); (first | (with_reducible refine wp_J0 ?_) | (with_reducible refine wp_J1 ?_)))
  | ((with_reducible refine g_evO ?_); (first | (with_reducible refine wp_O0 ?_) | (with_reducible refine wp_O1 ?_)))
  | ((with_reducible refine g_slice ?_); (first | ((with_reducible refine wp_sliceS ?_ ?_); tm_at "l") | (with_reducible refine wp_sliceT ?_)))
  | (with_reducible refine ex_int ?_)
  | (with_reducible refine ex_str ?_)
  | (with_reducible refine ex_tup ?_)
  | (with_reducible refine wp_asB ?_)
  | (with_reducible refine wp_partI ?_)
  | ((with_reducible refine g_zipL ?_); refine wp_zipL (by tm_at "s") (by tm_at "s") ?_)
  | (with_reducible refine wp_zipT ?_)
  | ((with_reducible refine g_setIdxL ?_); refine wp_setIdxL (by tm_at "s") (by tm_at "s") (by tm_at "s") ?_))
local macro_rules | `(tactic| tm_at "ws") => `(tactic| repeat tm_at "w")
-- /WS
local macro_rules | `(tactic| tm_at "w") => `(tactic| ((with_reducible refine g_ev ?_); with_reducible refine wp_notB ?_))
local macro_rules | `(tactic| tm_at "w") => `(tactic| ((with_reducible refine g_ev ?_); with_reducible refine wp_eq (by with_reducible assumption) ?_))
local macro_rules | `(tactic| tm_at "w") => `(tactic| ((with_reducible refine g_evT ?_); with_reducible refine wp_eq (by with_reducible assumption) ?_))
section
variable {wl n k : Nat} {s : Store} {w x : Str} {v : D} {p q : Int × Int}
/-! ### a ratio that is made -/
theorem fr_sz {b : Nat} {i j : Int} (hj : j ≠ 0) (h1 : Sz b i) (h2 : Sz b j) : Sz b (fr i j).1 ∧ Sz b (fr i j).2 := ⟨h1.le (fr_le i hj).1, h2.le (fr_le i hj).2⟩
theorem prim_eq' {ct : Ct} {a b : D} {t : Bool} (h : eqD ct a b s = .ok t s) : prim ct .eq [a, b] s = .ok (.bl t) s := prim_eq h
theorem made37 {i j : Int} (hj : j ≠ 0) (h1 : Sz 90 i) (h2 : Sz 90 j) (hw : 13000 < wl) : callF T wl (n + 3) 37 [.int i, .int j] s = .ok (.bl true) s := by
  obtain ⟨d, s', e, rfl, rfl⟩ := wp_ok (m := callF T wl (n + 3) 37 [.int i, .int j]) (s := s) (Q := fun d s' => d = .bl true ∧ s' = s) (by
    refine wp_fn (args := [.int i, .int j]) (σ := [some (.int i), some (.int j), none, none, none]) t37 rfl (by decide) rfl ?_
    obtain ⟨z1, z2⟩ := fr_sz hj h1 h2
    have rd := fr_rd i hj
    have m1 := made (wl := wl) (n := n) (s := s) hj h1 h2 (by omega) (by decide)
    have m2 := fr34 (wl := wl) (n := n) (s := s) hj h1 h2 (by omega) (by decide)
    generalize fr i j = p at *
    have w1 : Sz 100 p.1 := z1.mono (by decide)
    have w2 : Sz 100 p.2 := z2.mono (by decide)
    have ok := pair_ok w1 w2
    have a4 : attD (ct wl (n + 2)) 4 (R p) s = .ok (.int p.1) s := att45 (.inl rfl)
    have a5 : attD (ct wl (n + 2)) 5 (R p) s = .ok (.int p.2) s := att45 (.inr rfl)
    have r0 : prim (ct wl (n + 2)) .repr [.tup [.int p.1, .int p.2]] s = .ok (.str (PyData.shown (.tuple [.int p.1, .int p.2]))) s := repr_of rfl rfl ok
    have so := okP_str ok
    have rR : prim (ct wl (n + 2)) .repr [R p] s = .ok (.str (rtx p)) s := prR (repr10 w1 w2)
    have ro := rtx_ok p
    have f1 : fr p.1 p.2 = p := fr_self rd
    have m3 := made (wl := wl) (n := n) (s := s) (i := p.1) (j := p.2) (by have := rd.pos; omega) z1 z2 (by omega) (by decide)
    rw [f1] at m3
    have f2 : fr (p.1 + p.2) p.2 = (p.1 + p.2, p.2) := fr_self (p := (p.1 + p.2, p.2)) ⟨rd.pos, by
      show Int.gcd (p.1 + p.2) p.2 = 1
      have := rd.cop
      rwa [Int.gcd_add_right_left_of_dvd] <;> simp⟩
    have m4 := made (wl := wl) (n := n) (s := s) (i := p.1 + p.2) (j := p.2) (b := 92) (by have := rd.pos; omega) ((z1.add z2).mono (by decide)) (z2.mono (by decide)) (by omega) (by decide)
    rw [f2] at m4
    have q1 : prim (ct wl (n + 2)) .eq [R p, R p] s = .ok (.bl true) s := prim_eq' (eqR rfl (by have := eq11 (wl := wl) (n := n + 1) (s := s) (p := p) (q := p); rwa [decide_eq_true rfl] at this))
    have q2 : prim (ct wl (n + 2)) .eq [R p, P p] s = .ok (.bl false) s := prim_eq' (eqR rfl (eq11n fun _ => rfl))
    have q3 : prim (ct wl (n + 2)) .eq [R p, .int p.1] s = .ok (.bl false) s := prim_eq' (eqR rfl (eq11n fun _ => rfl))
    have q4 : prim (ct wl (n + 2)) .ne [R p, R (p.1 + p.2, p.2)] s = .ok (.bl true) s := by
      rw [prim_ne (eqR rfl (by
        have := eq11 (wl := wl) (n := n + 1) (s := s) (p := p) (q := (p.1 + p.2, p.2))
        rwa [decide_eq_false (fun z => by have h := congrArg Prod.fst z; have := rd.pos; simp at h; omega)] at this))]
      rfl
    have q5 : prim (ct wl (n + 2)) .eq [R p, .str (rtx p)] s = .ok (.bl false) s := prim_eq' (eqR rfl (eq11n fun _ => rfl))
    have b1 : (Str.ofString (toString p.1)).length ≤ 102 := str_len w1
    have b2 : (Str.ofString (toString p.2)).length ≤ 102 := str_len w2
    have l1 : p.1.natAbs.log2 < 9000 := by have := w1.log; omega
    have l2 : p.2.natAbs.log2 < 9000 := by have := w2.log; omega
    have c1 := len_R
    have c2 := len_C
    have c3 := len_P
    have cE : (sx "").length = 0 := by kernel_rfl
    by_cases h : p.2 = 1
    · have hb : (p.2 == 1) = true := by simpa using h
      have et : ((sx "Ratio(" ++ Str.ofString (toString p.1)) ++ sx "") ++ sx ")" = rtx p := by unfold rtx; rw [if_pos h]
      tm_at "ws"
      rw [et]
      tm_at "ws"
      exact ⟨rfl, trunc_same rfl⟩
    · have hb : (p.2 == 1) = false := by simpa using h
      have et : ((sx "Ratio(" ++ Str.ofString (toString p.1)) ++ (sx ", " ++ Str.ofString (toString p.2))) ++ sx ")" = rtx p := by unfold rtx; rw [if_neg h]
      tm_at "ws"
      rw [et]
      tm_at "ws"
      exact ⟨rfl, trunc_same rfl⟩)
  exact e
/-! ### values of other kinds -/
def imms : List D := [.non, .bl true, .bl false, .str (sx "1"), .tup [.int 1], .str (sx "1/2"), .tup []]
def KV (k : Nat) (s : Store) (v : D) : Prop := v ∈ imms ∨ (∃ m o, v = .obj m ∧ m ≠ k ∧ s[m]? = some o ∧ (o = .lst [.int 1] ∨ o = .dic [])) ∨ v = R (1, 1)
theorem kv_keeps : Keeps k (KV k) := fun s s' N d h av => by
  rcases h with h | ⟨m, o, rfl, nk, hm, ho⟩ | h
  · exact .inl h
  · exact .inr (.inl ⟨m, o, rfl, nk, av.keep m o nk hm, ho⟩)
  · exact .inr (.inr h)
structure Dat (s : Store) (v : D) : Prop where
  lt : D.lt s.length v = true
  ty : ∃ u, tyOf s v = some u ∧ (u == "int") = false
  rp : ∃ p, toP s 39 v = some p ∧ Sm 3 50 p
theorem sm_one : Sm 0 3 (.int 1) := Sm.nat (n := 1) (by decide)
theorem kv_dat (h : KV k s v) : Dat s v ∨ v = R (1, 1) := by
  rcases h with h | ⟨m, o, rfl, nk, hm, ho⟩ | h
  · refine .inl ?_
    simp only [imms, List.mem_cons, List.not_mem_nil, or_false] at h
    rcases h with rfl | rfl | rfl | rfl | rfl | rfl | rfl
    · exact ⟨rfl, ⟨_, rfl, by decide⟩, _, rfl, Sm.non.mono (by decide) (by decide)⟩
    · exact ⟨rfl, ⟨_, rfl, by decide⟩, _, rfl, ⟨rfl, by decide, by decide +kernel, by kernel_rfl⟩⟩
    · exact ⟨rfl, ⟨_, rfl, by decide⟩, _, rfl, ⟨rfl, by decide, by decide +kernel, by kernel_rfl⟩⟩
    · exact ⟨rfl, ⟨_, rfl, by decide⟩, _, rfl, (Sm.str (strOk_sx _)).mono (by decide) (by decide +kernel)⟩
    · exact ⟨rfl, ⟨_, rfl, by decide⟩, _, toP_tup (ps := [.int 1]) rfl, (Sm.tup (d := 0) (b := 3) fun p hp => by rw [List.mem_singleton] at hp; rw [hp]; exact sm_one).mono (by decide) (by decide)⟩
    · exact ⟨rfl, ⟨_, rfl, by decide⟩, _, rfl, (Sm.str (strOk_sx _)).mono (by decide) (by decide +kernel)⟩
    · exact ⟨rfl, ⟨_, rfl, by decide⟩, _, toP_tup (ps := []) rfl, (Sm.tup (d := 0) (b := 3) (ps := []) fun p hp => absurd hp (by simp)).mono (by decide) (by decide)⟩
  · refine .inl ?_
    have hl : D.lt s.length (.obj m) = true := Nat.blt_eq.mpr (List.getElem?_eq_some_iff.mp hm).1
    rcases ho with rfl | rfl
    · refine ⟨hl, ⟨"list", by show (match s[m]? with | some (.lst _) => some "list" | some (.dic _) => some "dict" | _ => none) = _; rw [hm], by decide⟩, .list [.int 1], ?_, ⟨by kernel_rfl, by decide +kernel, by decide +kernel, by kernel_rfl⟩⟩
      unfold toP
      simp only [hm]
      rfl
    · refine ⟨hl, ⟨"dict", by show (match s[m]? with | some (.lst _) => some "list" | some (.dic _) => some "dict" | _ => none) = _; rw [hm], by decide⟩, .dict [], ?_, ⟨by kernel_rfl, by decide +kernel, by decide +kernel, by kernel_rfl⟩⟩
      unfold toP
      simp only [hm]
      rfl
  · exact .inr h
theorem no_int (h : KV k s v) : callF T wl (n + 1) 1 [v] s = .ok (.bl false) s := by
  rcases kv_dat h with h | rfl
  · obtain ⟨u, hu, hn⟩ := h.ty
    have i1 := isi_ty (ct := ct wl n) (t := "int") hu (by decide)
    have i2 := isi_ty (ct := ct wl n) (t := "bool") hu (by decide)
    obtain ⟨d, s', e, rfl, rfl⟩ := wp_ok (m := callF T wl (n + 1) 1 [v]) (s := s) (Q := fun d s' => d = .bl false ∧ s' = s) (by
      refine wp_fn (args := [v]) (σ := [some v]) t1 rfl (by decide) rfl ?_
      rw [hn] at i1
      cases hb : (u == "bool") with
      | true =>
        rw [hb] at i1 i2
        tm_at "ws"
        exact ⟨rfl, trunc_same rfl⟩
      | false =>
        rw [hb] at i1 i2
        tm_at "ws"
        exact ⟨rfl, trunc_same rfl⟩)
    exact e
  · obtain ⟨d, s', e, rfl, rfl⟩ := wp_ok (m := callF T wl (n + 1) 1 [R (1, 1)]) (s := s) (Q := fun d s' => d = .bl false ∧ s' = s) (by
      refine wp_fn (args := [R (1, 1)]) (σ := [some (R (1, 1))]) t1 rfl (by decide) rfl ?_
      have i1 : prim (ct wl n) .isi [R (1, 1), .ty "int"] s = .ok (.bl false) s := rfl
      tm_at "ws"
      exact ⟨rfl, trunc_same rfl⟩)
    exact e
end
end K01
set_option Elab.async false
set_option linter.all false
set_option maxRecDepth 1000000
set_option maxHeartbeats 1000000
namespace K01
open G L2
open PySem (Str PyData)
open PySem
open TL (tl)
-- WS
local macro_rules | `(tactic| tm_at "s") => `(tactic| first | (with_reducible assumption) | (with_reducible rfl) | exact G.at_len | exact G.at_app (by with_reducible assumption) | exact G.at_app G.at_len | exact G.at_app (G.at_app (by with_reducible assumption)) | omega | (exact rfl) | decide)
local macro_rules | `(tactic| tm_at "o") => `(tactic| first | (with_reducible assumption) | exact G.strOk_sx _)
local macro_rules | `(tactic| tm_at "l") => `(tactic| first | (with_reducible assumption) | exact G.line_of (by omega) | decide | (exact G.line_of (Nat.le_of_ble_eq_true rfl)) | (refine G.line_of ?_; simp only [PySem.Str.length_append, List.length_append, List.length_map]; omega))
local macro_rules | `(tactic| tm_at "w") => `(tactic| first
  | ((with_reducible refine g_evs ?_); (first | (with_reducible refine wp_evs1 ?_) | (with_reducible refine wp_evs0 ?_)))
  | ((with_reducible refine g_ev ?_); (first | (with_reducible refine wp_con ?_) | ((with_reducible refine g_evvar ?_); refine wp_var rfl ?_) | (with_reducible refine wp_prim ?_) | (with_reducible refine wp_call ?_) | (with_reducible refine wp_att ?_) | (with_reducible refine wp_and ?_) | (with_reducible refine wp_or ?_) | (with_reducible refine wp_not ?_) | ((with_reducible refine g_ifx ?_); (first | (with_reducible refine wp_eq (by assumption) ?_) | (with_reducible refine wp_ifx ?_))) | ((with_reducible refine g_comp ?_); (first | (with_reducible refine wp_eq (by assumption) ?_))) | (with_reducible refine wp_chain ?_) | (with_reducible refine wp_bm ?_) | (with_reducible refine wp_make ?_) | (with_reducible refine wp_meth ?_) | (with_reducible refine wp_slc ?_) | (with_reducible refine wp_told ?_) | (with_reducible refine wp_lrange ?_) | (with_reducible refine wp_tups ?_) | (with_reducible refine wp_fstr ?_)))
  | ((with_reducible refine g_thn ?_); (first | (with_reducible refine thn_nx ?_) | (with_reducible refine thn_rt ?_) | (with_reducible refine thn_xc ?_) | (with_reducible refine thn_bk ?_) | (with_reducible refine thn_ct ?_)))
  | ((with_reducible refine g_exs ?_); (first | (with_reducible refine wp_exs1 ?_) | (with_reducible refine wp_exs0 ?_)))
  | ((with_reducible refine g_ex ?_); (first | (with_reducible refine wp_asg ?_) | (with_reducible refine wp_ret ?_) | (with_reducible refine wp_if ?_) | (with_reducible refine wp_expr ?_) | (with_reducible refine wp_for ?_) | (with_reducible refine wp_raise ?_) | (with_reducible refine wp_setAtt ?_) | (with_reducible refine wp_setIdx ?_) | (with_reducible refine wp_retN ?_) | (with_reducible refine wp_pass ?_) | (with_reducible refine wp_brk ?_) | (with_reducible refine wp_cont ?_)))
  | ((with_reducible refine g_evT ?_); (first | (with_reducible refine wpT_prim ?_) | (with_reducible refine wpT_and ?_) | (with_reducible refine wpT_or ?_) | (with_reducible refine wpT_not ?_) | ((with_reducible refine g_evTvar ?_); refine wpT_var rfl ?_) | (with_reducible refine wpT_call ?_) | (with_reducible refine wpT_att ?_) | (with_reducible refine wpT_con ?_) | (with_reducible refine wpT_meth ?_) | (with_reducible refine wpT_bm ?_) | (with_reducible refine wpT_chain ?_) | (with_reducible refine wpT_comp ?_)))
  | ((with_reducible refine g_asg ?_); (first | (with_reducible refine asg0 ?_) | (with_reducible refine asg1 ?_) | (with_reducible refine asg2 ?_) | (with_reducible refine asg3 ?_) | (with_reducible refine asg4 ?_) | (with_reducible refine asg5 ?_) | (with_reducible refine asg6 ?_) | (with_reducible refine asg7 ?_) | (with_reducible refine asg8 ?_) | (with_reducible refine asg9 ?_) | (with_reducible refine asg10 ?_) | (with_reducible refine asg11 ?_) | (with_reducible refine asg12 ?_) | (with_reducible refine asg13 ?_) | (with_reducible refine asg14 ?_) | (with_reducible refine asg15 ?_) | (with_reducible refine asgT2 ?_) | (with_reducible refine asgT3 ?_)))
  | ((with_reducible refine g_cs ?_); (first | ((with_reducible refine csT ?_ ?_); (first | (with_reducible assumption) | exact rfl)) | ((with_reducible refine csF ?_ ?_); (first | (with_reducible assumption) | exact rfl))))
  | ((with_reducible refine g_prim ?_); (first | ((with_reducible refine g_add ?_); (first | (with_reducible refine wpp_addI ?_) | ((with_reducible refine wpp_addS ?_ ?_); tm_at "l") | ((with_reducible refine wpp_addT ?_ ?_); tm_at "l") | ((with_reducible refine g_addL ?_); refine wpp_addL (by tm_at "s") (by tm_at "s") (by tm_at "l") ?_))) | ((with_reducible refine g_eq ?_); (first | ((with_reducible refine wpp_eqIT ?_ ?_); (first | omega | decide)) | ((with_reducible refine wpp_eqIF ?_ ?_); (first | omega | decide)) | (with_reducible refine wpp_eqI ?_) | (with_reducible refine wpp_eqB ?_) | ((with_reducible refine wpp_eqSS ?_ ?_); tm_at "o") | ((with_reducible refine wpp_eqS ?_ ?_ ?_); tm_at "o"; tm_at "o") | (with_reducible refine wp_eq (by assumption) ?_))) | ((with_reducible refine g_ne ?_); (first | ((with_reducible refine wpp_neIF ?_ ?_); (first | omega | decide)) | ((with_reducible refine wpp_neIT ?_ ?_); (first | omega | decide)) | (with_reducible refine wpp_neI ?_) | (with_reducible refine wpp_neBB ?_) | (with_reducible refine wpp_neB ?_) | ((with_reducible refine wpp_neSS ?_ ?_); tm_at "o") | ((with_reducible refine wpp_neS ?_ ?_ ?_); tm_at "o"; tm_at "o") | (with_reducible refine wp_eq (by assumption) ?_))) | ((with_reducible refine g_lt ?_); (first | ((with_reducible refine wpp_ltT ?_ ?_); (first | omega | decide)) | ((with_reducible refine wpp_ltF ?_ ?_); (first | omega | decide)) | (with_reducible refine wpp_ltI ?_) | (with_reducible refine wp_eq (by assumption) ?_))) | ((with_reducible refine g_le ?_); (first | ((with_reducible refine wpp_leT ?_ ?_); (first | omega | decide)) | ((with_reducible refine wpp_leF ?_ ?_); (first | omega | decide)) | (with_reducible refine wpp_leI ?_) | (with_reducible refine wp_eq (by assumption) ?_))) | ((with_reducible refine g_gt ?_); (first | ((with_reducible refine wpp_gtT ?_ ?_); (first | omega | decide)) | ((with_reducible refine wpp_gtF ?_ ?_); (first | omega | decide)) | (with_reducible refine wpp_gtI ?_) | (with_reducible refine wp_eq (by assumption) ?_))) | ((with_reducible refine g_ge ?_); (first | ((with_reducible refine wpp_geT ?_ ?_); (first | omega | decide)) | ((with_reducible refine wpp_geF ?_ ?_); (first | omega | decide)) | (with_reducible refine wpp_geI ?_) | (with_reducible refine wp_eq (by assumption) ?_))) | ((with_reducible refine g_isi ?_); (first | (with_reducible refine wp_eq (by assumption) ?_) | ((with_reducible refine wpp_isiT ?_ ?_); exact rfl) | ((with_reducible refine wpp_isiF ?_ ?_); exact rfl))) | ((with_reducible refine g_isN ?_); (first | (with_reducible refine wpp_isNT ?_) | ((with_reducible refine wpp_isNF ?_ ?_); exact nofun))) | ((with_reducible refine g_len ?_); (first | (with_reducible refine wpp_lenM ?_) | ((with_reducible refine g_lenL ?_); (with_reducible refine wpp_lenLM (by assumption) ?_)) | (with_reducible refine wpp_lenT ?_) | ((with_reducible refine g_lenL ?_); refine wpp_lenL (by tm_at "s") ?_) | ((with_reducible refine wpp_lenS ?_ ?_); tm_at "l") | (with_reducible refine wp_eq (by assumption) ?_))) | ((with_reducible refine g_idx ?_); (first | ((with_reducible refine g_idxL ?_); refine wpp_idxL (by tm_at "s") (by tm_at "s") ?_) | ((with_reducible refine g_idxT ?_); refine wpp_idxT (by tm_at "s") ?_) | (with_reducible refine wp_eq (by assumption) ?_))) | ((with_reducible refine g_tup ?_); (first | (with_reducible refine wpp_tup2 ?_) | (with_reducible refine wpp_tup1 ?_) | (with_reducible refine wpp_tup0 ?_) | (with_reducible refine wpp_tup3 ?_) | (with_reducible refine wpp_tup4 ?_) | (with_reducible refine wpp_tup5 ?_))) | ((with_reducible refine g_lst ?_); (first | ((with_reducible refine wpp_lst ?_ ?_); tm_at "l"))) | ((with_reducible refine g_sub ?_); (first | (with_reducible refine wpp_subI ?_) | (with_reducible refine wp_eq (by assumption) ?_))) | ((with_reducible refine g_neg ?_); (first | (with_reducible refine wpp_negI ?_) | (with_reducible refine wp_eq (by assumption) ?_))) | ((with_reducible refine g_abs ?_); (first | (with_reducible refine wpp_absI ?_))) | ((with_reducible refine g_mod ?_); (first | ((with_reducible refine wpp_modI ?_ ?_); tm_at "s"))) | ((with_reducible refine g_int1 ?_); (first | (with_reducible refine wpp_int1I ?_) | (with_reducible refine wpp_int1B ?_))) | ((with_reducible refine g_max2 ?_); (first | (with_reducible refine wpp_max2 ?_))) | ((with_reducible refine g_min2 ?_); (first | (with_reducible refine wpp_min2 ?_))) | ((with_reducible refine g_repr ?_); (first | (with_reducible refine wp_eq (by assumption) ?_) | ((with_reducible refine wpp_reprS ?_ ?_ ?_); tm_at "o"; omega))) | ((with_reducible refine g_tuple1 ?_); (first | (with_reducible refine wpp_tuple1T ?_) | ((with_reducible refine g_tuple1L ?_); refine wpp_tuple1L (by tm_at "s") ?_))) | ((with_reducible refine g_inn ?_); (first | (with_reducible refine wpp_innS ?_) | (with_reducible refine wp_eq (by assumption) ?_))) | ((with_reducible refine g_startswith ?_); (first | (with_reducible refine wpp_startswith ?_))) | ((with_reducible refine g_removeprefix ?_); (first | ((with_reducible refine wpp_removeprefix ?_ ?_); tm_at "l"))) | ((with_reducible refine g_append ?_); (first | ((with_reducible refine g_appendL ?_); refine wpp_appendL (by tm_at "s") (by tm_at "l") ?_))) | ((with_reducible refine g_extend ?_); (first | ((with_reducible refine g_extendL ?_); refine wpp_extendL (by tm_at "s") (by tm_at "s") (by tm_at "l") ?_))) | ((with_reducible refine g_fmt ?_); (first | ((with_reducible refine wpp_fmtS ?_ ?_); tm_at "l") | ((with_reducible refine wpp_fmtI ?_ ?_); tm_at "s"))) | ((with_reducible refine g_fmtR ?_); (first | ((with_reducible refine wpp_fmtRS ?_ ?_); tm_at "l"))) | ((with_reducible refine g_str1 ?_); (first | ((with_reducible refine wpp_strI ?_ ?_); tm_at "s"))) | (with_reducible refine wp_eq (by assumption) ?_)))
  | ((with_reducible refine g_call ?_); (first | (with_reducible refine wp_eq (by assumption) ?_)))
  | ((with_reducible refine g_truth ?_); (first | (with_reducible refine wp_truth_bl ?_) | (with_reducible refine wp_truth_int ?_) | (with_reducible refine wp_truth_non ?_) | (with_reducible refine wp_truth_tup ?_) | ((with_reducible refine wp_truth_str ?_ ?_); tm_at "l")))
  | ((with_reducible refine g_attD ?_); (first | ((with_reducible refine g_attIns ?_); refine wp_attIns rfl rfl rfl ?_) | ((with_reducible refine g_attX ?_); refine wp_attX rfl rfl ?_) | (with_reducible refine wp_eq (by assumption) ?_)))
  | ((with_reducible refine g_makeD ?_); (first | (with_reducible refine wp_eq (by assumption) ?_) | ((with_reducible refine g_mkX ?_); refine wp_mkX rfl rfl ?_)))
  | ((with_reducible refine g_beh ?_); (first | (with_reducible refine beh_rt ?_) | (with_reducible refine beh_nx ?_) | (with_reducible refine beh_xc ?_)))
  | ((with_reducible refine g_recv ?_); (first | (with_reducible refine wp_recvSj ?_) | (with_reducible refine wp_recvSs ?_) | (with_reducible refine wp_recvSt ?_) | (with_reducible refine wp_recvSp ?_) | ((with_reducible refine g_recvL ?_); refine wp_recvA (by tm_at "s") ?_) | ((with_reducible refine g_recvL ?_); refine wp_recvE (by tm_at "s") ?_) | ((with_reducible refine g_recvL ?_); refine wp_recvP (by tm_at "s") ?_)))
  | ((with_reducible refine g_evI ?_); (first | (with_reducible refine wp_seq ?_) | (with_reducible refine wp_range1 ?_) | (with_reducible refine wp_zip ?_)))
  | ((with_reducible refine g_walk ?_); (first | (with_reducible refine wp_walk_tup ?_) | (with_reducible refine wp_walk_str ?_) | ((with_reducible refine g_walkL ?_); refine wp_walk_lst (by tm_at "s") ?_)))
  | ((with_reducible refine g_evP ?_); (first | (with_reducible refine wp_P0 ?_) | (with_reducible refine wp_P1 ?_)))
  | ((with_reducible refine g_evS ?_); (first | (with_reducible refine wp_S0 ?_) | (with_reducible refine wp_S1 ?_)))
  | ((with_reducible refine g_evJ ?_); (first | (with_reducible refine wp_J0 ?_) | (with_reducible refine wp_J1 ?_)))
  | ((with_reducible refine g_evO ?_); (first | (with_reducible refine wp_O0 ?_) | (with_reducible refine wp_O1 ?_)))
  | ((with_reducible refine g_slice ?_); (first | ((with_reducible refine wp_sliceS ?_ ?_); tm_at "l") | (with_reducible refine wp_sliceT ?_)))
  | (with_reducible refine ex_int ?_)
  | (with_reducible refine ex_str ?_)
  | (with_reducible refine ex_tup ?_)
  | (with_reducible refine wp_asB ?_)
  | (with_reducible refine wp_partI ?_)
  | ((with_reducible refine g_zipL ?_); refine wp_zipL (by tm_at "s") (by tm_at "s") ?_)
  | (with_reducible refine wp_zipT ?_)
  | ((with_reducible refine g_setIdxL ?_); refine wp_setIdxL (by tm_at "s") (by tm_at "s") (by tm_at "s") ?_))
local macro_rules | `(tactic| tm_at "ws") => `(tactic| repeat tm_at "w")
-- /WS
local macro_rules | `(tactic| tm_at "w") => `(tactic| ((with_reducible refine g_ev ?_); with_reducible refine wp_notB ?_))
local macro_rules | `(tactic| tm_at "w") => `(tactic| ((with_reducible refine g_ev ?_); with_reducible refine wp_eq (by with_reducible assumption) ?_))
local macro_rules | `(tactic| tm_at "w") => `(tactic| ((with_reducible refine g_evT ?_); with_reducible refine wp_eq (by with_reducible assumption) ?_))
section
variable {wl n k : Nat} {s : Store} {w z : Str} {v x y : D} {p q : Int × Int} {i j : Int}
theorem kv_app {l : Store} (h : KV k s v) : KV k (s ++ l) v := by
  rcases h with h | ⟨m, o, rfl, nk, hm, ho⟩ | h
  · exact .inl h
  · exact .inr (.inl ⟨m, o, rfl, nk, by rw [List.getElem?_append_left (List.getElem?_eq_some_iff.mp hm).1]; exact hm, ho⟩)
  · exact .inr (.inr h)
theorem kv_lt (h : KV k s v) : D.lt s.length v = true := by
  rcases kv_dat h with h | rfl
  · exact h.lt
  · rfl
theorem lt2 (h1 : D.lt s.length x = true) (h2 : D.lt s.length y = true) : D.lt s.length (.tup [x, y]) = true := by
  show (D.lt s.length x && (D.lt s.length y && true)) = true
  rw [h1, h2]
  rfl
@[reducible] def f4c : E := .or (.not (.call 1 [(.var 1)])) (.or (.not (.call 1 [(.var 2)])) (.prim .eq [(.var 2), (.con (.int (0)))]))
theorem raise4 (hc : evT (ct wl (n + 1)) f4c [some (.obj s.length), some x, some y, none] (s ++ [O.sl 3 [none, none]]) = .ok true (s ++ [O.sl 3 [none, none]])) (lx : D.lt s.length x = true) (ly : D.lt s.length y = true) : makeD (ct wl (n + 2)) 3 [x, y] s = .exc 1 (.tup [x, y]) s := by
  have := wp_inv (m := makeD (ct wl (n + 2)) 3 [x, y]) (s := s) (Q := fun _ _ => False) (X := fun c w s' => c = 1 ∧ w = .tup [x, y] ∧ s' = s) (by
    refine wp_mkV (f := 4) [none, none] rfl rfl rfl rfl rfl ?_
    refine wp_fn (args := [.obj s.length, x, y]) (σ := [some (.obj s.length), some x, some y, none]) t4 rfl (by decide) rfl ?_
    tm_at "ws"
    have l2 := lt2 lx ly
    refine ⟨rfl, rfl, ?_⟩
    have l3 : D.lt (s ++ [O.sl 3 [none, none]]).length (.tup [x, y]) = true := lt_mono (by simp) _ l2
    rw [trunc_same l3]
    exact trunc_drop l2)
  rcases this with ⟨_, _, _, z⟩ | ⟨c, w, s', e, rfl, rfl, rfl⟩
  · exact z.elim
  · exact e
theorem c4a {σ0 : Option D} (h : KV k s x) : evT (ct wl (n + 1)) f4c [σ0, some x, some y, none] s = .ok true s := by
  obtain ⟨d, s', e, rfl, rfl⟩ := wp_ok (m := evT (ct wl (n + 1)) f4c [σ0, some x, some y, none]) (s := s) (Q := fun d s' => d = true ∧ s' = s) (by
    have e1 := no_int (wl := wl) (n := n) h
    tm_at "ws"
    exact ⟨rfl, rfl⟩)
  exact e
theorem c4b {σ0 : Option D} (h : KV k s y) : evT (ct wl (n + 1)) f4c [σ0, some (.int i), some y, none] s = .ok true s := by
  obtain ⟨d, s', e, rfl, rfl⟩ := wp_ok (m := evT (ct wl (n + 1)) f4c [σ0, some (.int i), some y, none]) (s := s) (Q := fun d s' => d = true ∧ s' = s) (by
    have e0 := is_int (wl := wl) (n := n) (s := s) (i := i)
    have e1 := no_int (wl := wl) (n := n) h
    tm_at "ws"
    exact ⟨rfl, rfl⟩)
  exact e
theorem c4c {σ0 : Option D} : evT (ct wl (n + 1)) f4c [σ0, some (.int i), some (.int 0), none] s = .ok true s := by
  obtain ⟨d, s', e, rfl, rfl⟩ := wp_ok (m := evT (ct wl (n + 1)) f4c [σ0, some (.int i), some (.int 0), none]) (s := s) (Q := fun d s' => d = true ∧ s' = s) (by
    have e0 := is_int (wl := wl) (n := n) (s := s) (i := i)
    have e1 := is_int (wl := wl) (n := n) (s := s) (i := 0)
    tm_at "ws"
    exact ⟨rfl, rfl⟩)
  exact e
/-! ### reprs of pairs -/
theorem t10' : T.t0.fn 10 = some f10 := t10
theorem repr11 : ∃ r, PyData.strOk r = true ∧ r.length ≤ 100 ∧ callF T.t0 wl (n + 1) 10 [R (1, 1)] s = .ok (.str r) s := by
  obtain ⟨d, s', e, ⟨r, ro, rl, rfl⟩, rfl⟩ := wp_ok (m := callF T.t0 wl (n + 1) 10 [R (1, 1)]) (s := s) (Q := fun d s' => (∃ r, PyData.strOk r = true ∧ r.length ≤ 100 ∧ d = .str r) ∧ s' = s) (by
    refine wp_fn (args := [R (1, 1)]) (σ := [some (R (1, 1))]) t10' rfl (by decide) rfl ?_
    have b : (1 : Int).natAbs.log2 < 9000 := by decide
    tm_at "ws"
    refine ⟨by decide, ?_⟩
    tm_at "ws"
    refine ⟨by decide, ?_⟩
    tm_at "ws"
    refine ⟨by decide, ?_⟩
    tm_at "ws"
    exact ⟨⟨_, by kernel_rfl, by decide +kernel, rfl⟩, trunc_same rfl⟩)
  exact ⟨r, ro, rl, e⟩
theorem reprI_R {r : Str} (h : callF T.t0 wl n 10 [R p] s = .ok (.str r) s) : reprI (ct wl n) (R p) s = .ok r s := by
  with_unfolding_all show (callF T.t0 wl n 10 [R p] >>= fun y => _) s = _
  rw [bind_ok h]
  with_unfolding_all rfl
theorem reprI_int (h : Sz 100 i) : reprI (ct wl n) (.int i) s = .ok (tS i) s := by
  show (need (decide (i.natAbs.log2 < 9000)) >>= fun _ => (pure (tS i) : M Str)) s = _
  rw [decide_eq_true (by have := h.log; omega)]
  rfl
theorem reprIs_cons {ct : Ct} {m : Nat} {d : D} {ds : List D} {x : Str} {r : List Str} (hm : m ≤ 100000) (h : reprI ct d s = .ok x s) (h2 : reprIs ct (m + (x.length + 2)) ds s = .ok r s) : reprIs ct m (d :: ds) s = .ok (x :: r) s := by
  show (need (Nat.blt m line) >>= fun _ => reprI ct d >>= fun x => reprIs ct (m + (x.length + 2)) ds >>= fun r => (pure (x :: r) : M (List Str))) s = _
  rw [show Nat.blt m line = true from Nat.blt_eq.mpr (Nat.lt_of_le_of_lt hm (by decide)), bind_ok (m := need true) (a := ()) (s' := s) rfl, bind_ok h, bind_ok h2]
  rfl
theorem reprT2 {a b : Str} {ct : Ct} (hct : ct.T.rp = true) (hp : toP s deep (.tup [x, y]) = none) (hx : reprI ct x s = .ok a s) (hy : reprI ct y s = .ok b s) (la : a.length ≤ 200) (lb : b.length ≤ 200) (oa : PyData.strOk a = true) (ob : PyData.strOk b = true) :
    ∃ r, PyData.strOk r = true ∧ prim ct .repr [.tup [x, y]] s = .ok (.str r) s := by
  refine ⟨PySem.tupleText [a, b], ?_, ?_⟩
  · unfold tupleText
    refine strOk_app (strOk_app (by kernel_rfl) (strOk_join2 fun y hy => ?_)) ?_
    · simp only [List.mem_cons, List.not_mem_nil, or_false] at hy
      rcases hy with rfl | rfl
      · exact oa
      · exact ob
    · split <;> kernel_rfl
  · have hl : (PySem.tupleText [a, b]).length ≤ line := by
      have l1 := tupleText_len_le [a, b]
      simp only [List.map_cons, List.map_nil, List.sum_cons, List.sum_nil, List.length_cons, List.length_nil] at l1
      exact line_of (by omega)
    have e1 : reprIs ct 0 [x, y] s = .ok [a, b] s := reprIs_cons (by decide) hx (reprIs_cons (by omega) hy rfl)
    have e2 : reprT ct [x, y] s = .ok (.str (PySem.tupleText [a, b])) s := by
      show (reprIs ct 0 [x, y] >>= fun ts => need (Nat.ble (PySem.tupleText ts).length line) >>= fun _ => (pure (.str (PySem.tupleText ts)) : M D)) s = _
      rw [bind_ok e1]
      show (need (Nat.ble (PySem.tupleText [a, b]).length line) >>= fun _ => (pure (.str (PySem.tupleText [a, b])) : M D)) s = _
      rw [Nat.ble_eq_true_of_le hl]
      rfl
    have e3 : reprN ct (.tup [x, y]) s = .ok (.str (PySem.tupleText [a, b])) s := by
      unfold reprN
      rw [hct]
      simp only [hp]
      exact e2
    show (methOf ct (.tup [x, y]) mRepr >>= _) s = _
    rw [bind_ok (m := methOf ct (.tup [x, y]) mRepr) (a := none) (s' := s) rfl]
    exact e3
theorem toP_R : toP s 39 (R p) = none := rfl
theorem rp_dat {a b : PyData} (ha : toP s 39 x = some a) (hb : toP s 39 y = some b) (sa : Sm 3 200 a) (sb : Sm 3 200 b) : ∃ r, PyData.strOk r = true ∧ prim (ct wl n) .repr [.tup [x, y]] s = .ok (.str r) s := by
  have sm := Sm.tup (d := 3) (b := 200) (ps := [a, b]) fun p hp => by
    simp only [List.mem_cons, List.not_mem_nil, or_false] at hp
    rcases hp with rfl | rfl
    · exact sa
    · exact sb
  have ok : okP (.tuple [a, b]) = true := sm.okP (by decide) (show 2 * (200 + 2) + 3 ≤ 1000000 by decide)
  refine ⟨_, okP_str ok, repr_of rfl (toP_tup (n := 39) ?_) ok⟩
  simp only [List.map_cons, List.map_nil, ha, hb]
  rfl
theorem sm_i (h : Sz 100 i) : Sm 3 200 (.int i) := (sm_int h).mono (by decide) (by decide)
theorem rp_ii (h1 : Sz 100 i) (h2 : Sz 100 j) : ∃ r, PyData.strOk r = true ∧ prim (ct wl n) .repr [.tup [.int i, .int j]] s = .ok (.str r) s := rp_dat rfl rfl (sm_i h1) (sm_i h2)
theorem rp_vi (h : KV k s v) (h1 : Sz 100 i) : ∃ r, PyData.strOk r = true ∧ prim (ct wl (n + 1)) .repr [.tup [v, .int i]] s = .ok (.str r) s := by
  rcases kv_dat h with h | rfl
  · obtain ⟨p, hp, sp⟩ := h.rp
    exact rp_dat hp rfl (sp.mono (by decide) (by decide)) (sm_i h1)
  · obtain ⟨r, ro, rl, e⟩ := repr11 (wl := wl) (n := n) (s := s)
    have := str_len h1
    exact reprT2 rfl rfl (reprI_R e) (reprI_int h1) (by omega) (by omega) ro (str_ok i)
theorem rp_iv (h : KV k s v) (h1 : Sz 100 i) : ∃ r, PyData.strOk r = true ∧ prim (ct wl (n + 1)) .repr [.tup [.int i, v]] s = .ok (.str r) s := by
  rcases kv_dat h with h | rfl
  · obtain ⟨p, hp, sp⟩ := h.rp
    exact rp_dat rfl hp (sm_i h1) (sp.mono (by decide) (by decide))
  · obtain ⟨r, ro, rl, e⟩ := repr11 (wl := wl) (n := n) (s := s)
    have := str_len h1
    exact reprT2 rfl rfl (reprI_int h1) (reprI_R e) (by omega) (by omega) (str_ok i) ro
/-! ### what is refused -/
@[reducible] def rE : E := .and (.prim .isi [(.var 2), (.con (.cls 1))]) (.prim .eq [(.prim .repr [(.att 1 (.var 2))]), (.prim .repr [(.var 1)])])
theorem rE_ok (rp : ∃ r, PyData.strOk r = true ∧ prim (ct wl n) .repr [.tup [x, y]] s = .ok (.str r) s) : ev (ct wl n) rE [none, some (.tup [x, y]), some (.exc 1 (.tup [x, y]))] s = .ok (.bl true) s := by
  obtain ⟨r, ro, e⟩ := rp
  obtain ⟨d, s', e, rfl, rfl⟩ := wp_ok (m := ev (ct wl n) rE [none, some (.tup [x, y]), some (.exc 1 (.tup [x, y]))]) (s := s) (Q := fun d s' => d = .bl true ∧ s' = s) (by
    have i1 : prim (ct wl n) .isi [.exc 1 (.tup [x, y]), .cls 1] s = .ok (.bl true) s := rfl
    have a1 : attD (ct wl n) 1 (.exc 1 (.tup [x, y])) s = .ok (.tup [x, y]) s := rfl
    tm_at "ws"
    exact ⟨rfl, rfl⟩)
  exact e
theorem refd_ok {a b : E} {σ : G.Env} (hb : ev (ct wl n) b σ s = .exc 1 (.tup [x, y]) s) (ha : ev (ct wl n) a σ s = .ok (.tup [x, y]) s) (rp : ∃ r, PyData.strOk r = true ∧ prim (ct wl n) .repr [.tup [x, y]] s = .ok (.str r) s) : ev (ct wl n) (.refd 0 b a rE) σ s = .ok (.bl true) s := by
  have e : ev (ct wl n) (.refd 0 b a rE) σ = refdD (ct wl n) 0 (ev (ct wl n) b σ) (ev (ct wl n) a σ) (fun x d => ev (ct wl n) rE [none, some x, some d]) := by simp only [ev]
  rw [e]
  unfold refdD
  rw [ha]
  simp only
  rw [hb]
  simp only
  rw [show isE (ct wl n).T 1 0 = some true from rfl]
  simp only
  unfold noExc
  rw [rE_ok rp]
end
end K01
set_option Elab.async false
set_option linter.all false
set_option maxRecDepth 1000000
set_option maxHeartbeats 1000000
namespace K01
open G L2
open PySem (Str PyData)
open PySem
open TL (tl)
-- WS
local macro_rules | `(tactic| tm_at "s") => `(tactic| first | (with_reducible assumption) | (with_reducible rfl) | exact G.at_len | exact G.at_app (by with_reducible assumption) | exact G.at_app G.at_len | exact G.at_app (G.at_app (by with_reducible assumption)) | omega | (exact rfl) | decide)
local macro_rules | `(tactic| tm_at "o") => `(tactic| first | (with_reducible assumption) | exact G.strOk_sx _)
local macro_rules | `(tactic| tm_at "l") => `(tactic| first | (with_reducible assumption) | exact G.line_of (by omega) | decide | (exact G.line_of (Nat.le_of_ble_eq_true rfl)) | (refine G.line_of ?_; simp only [PySem.Str.length_append, List.length_append, List.length_map]; omega))
local macro_rules | `(tactic| tm_at "w") => `(tactic| first
  | ((with_reducible refine g_evs ?_); (first | (with_reducible refine wp_evs1 ?_) | (with_reducible refine wp_evs0 ?_)))
  | ((with_reducible refine g_ev ?_); (first | (with_reducible refine wp_con ?_) | ((with_reducible refine g_evvar ?_); refine wp_var rfl ?_) | (with_reducible refine wp_prim ?_) | (with_reducible refine wp_call ?_) | (with_reducible refine wp_att ?_) | (with_reducible refine wp_and ?_) | (with_reducible refine wp_or ?_) | (with_reducible refine wp_not ?_) | ((with_reducible refine g_ifx ?_); (first | (with_reducible refine wp_eq (by assumption) ?_) | (with_reducible refine wp_ifx ?_))) | ((with_reducible refine g_comp ?_); (first | (with_reducible refine wp_eq (by assumption) ?_))) | (with_reducible refine wp_chain ?_) | (with_reducible refine wp_bm ?_) | (with_reducible refine wp_make ?_) | (with_reducible refine wp_meth ?_) | (with_reducible refine wp_slc ?_) | (with_reducible refine wp_told ?_) | (with_reducible refine wp_lrange ?_) | (with_reducible refine wp_tups ?_) | (with_reducible refine wp_fstr ?_)))
  | ((with_reducible refine g_thn ?_); (first | (with_reducible refine thn_nx ?_) | (with_reducible refine thn_rt ?_) | (with_reducible refine thn_xc ?_) | (with_reducible refine thn_bk ?_) | (with_reducible refine thn_ct ?_)))
  | ((with_reducible refine g_exs ?_); (first | (with_reducible refine wp_exs1 ?_) | (with_reducible refine wp_exs0 ?_)))
  | ((with_reducible refine g_ex ?_); (first | (with_reducible refine wp_asg ?_) | (with_reducible refine wp_ret ?_) | (with_reducible refine wp_if ?_) | (with_reducible refine wp_expr ?_) | (with_reducible refine wp_for ?_) | (with_reducible refine wp_raise ?_) | (with_reducible refine wp_setAtt ?_) | (with_reducible refine wp_setIdx ?_) | (with_reducible refine wp_retN ?_) | (with_reducible refine wp_pass ?_) | (with_reducible refine wp_brk ?_) | (with_reducible refine wp_cont ?_)))
  | ((with_reducible refine g_evT ?_); (first | (with_reducible refine wpT_prim ?_) | (with_reducible refine wpT_and ?_) | (with_reducible refine wpT_or ?_) | (with_reducible refine wpT_not ?_) | ((with_reducible refine g_evTvar ?_); refine wpT_var rfl ?_) | (with_reducible refine wpT_call ?_) | (with_reducible refine wpT_att ?_) | (with_reducible refine wpT_con ?_) | (with_reducible refine wpT_meth ?_) | (with_reducible refine wpT_bm ?_) | (with_reducible refine wpT_chain ?_) | (with_reducible refine wpT_comp ?_)))
  | ((with_reducible refine g_asg ?_); (first | (with_reducible refine asg0 ?_) | (with_reducible refine asg1 ?_) | (with_reducible refine asg2 ?_) | (with_reducible refine asg3 ?_) | (with_reducible refine asg4 ?_) | (with_reducible refine asg5 ?_) | (with_reducible refine asg6 ?_) | (with_reducible refine asg7 ?_) | (with_reducible refine asg8 ?_) | (with_reducible refine asg9 ?_) | (with_reducible refine asg10 ?_) | (with_reducible refine asg11 ?_) | (with_reducible refine asg12 ?_) | (with_reducible refine asg13 ?_) | (with_reducible refine asg14 ?_) | (with_reducible refine asg15 ?_) | (with_reducible refine asgT2 ?_) | (with_reducible refine asgT3 ?_)))
  | ((with_reducible refine g_cs ?_); (first | ((with_reducible refine csT ?_ ?_); (first | (with_reducible assumption) | exact rfl)) | ((with_reducible refine csF ?_ ?_); (first | (with_reducible assumption) | exact rfl))))
  | ((with_reducible refine g_prim ?_); (first | ((with_reducible refine g_add ?_); (first | (with_reducible refine wpp_addI ?_) | ((with_reducible refine wpp_addS ?_ ?_); tm_at "l") | ((with_reducible refine wpp_addT ?_ ?_); tm_at "l") | ((with_reducible refine g_addL ?_); refine wpp_addL (by tm_at "s") (by tm_at "s") (by tm_at "l") ?_))) | ((with_reducible refine g_eq ?_); (first | ((with_reducible refine wpp_eqIT ?_ ?_); (first | omega | decide)) | ((with_reducible refine wpp_eqIF ?_ ?_); (first | omega | decide)) | (with_reducible refine wpp_eqI ?_) | (with_reducible refine wpp_eqB ?_) | ((with_reducible refine wpp_eqSS ?_ ?_); tm_at "o") | ((with_reducible refine wpp_eqS ?_ ?_ ?_); tm_at "o"; tm_at "o") | (with_reducible refine wp_eq (by assumption) ?_))) | ((with_reducible refine g_ne ?_); (first | ((with_reducible refine wpp_neIF ?_ ?_); (first | omega | decide)) | ((with_reducible refine wpp_neIT ?_ ?_); (first | omega | decide)) | (with_reducible refine wpp_neI ?_) | (with_reducible refine wpp_neBB ?_) | (with_reducible refine wpp_neB ?_) | ((with_reducible refine wpp_neSS ?_ ?_); tm_at "o") | ((with_reducible refine wpp_neS ?_ ?_ ?_); tm_at "o"; tm_at "o") | (with_reducible refine wp_eq (by assumption) ?_))) | ((with_reducible refine g_lt ?_); (first | ((with_reducible refine wpp_ltT ?_ ?_); (first | omega | decide)) | ((with_reducible refine wpp_ltF ?_ ?_); (first | omega | decide)) | (with_reducible refine wpp_ltI ?_) | (with_reducible refine wp_eq (by assumption) ?_))) | ((with_reducible refine g_le ?_); (first | ((with_reducible refine wpp_leT ?_ ?_); (first | omega | decide)) | ((with_reducible refine wpp_leF ?_ ?_); (first | omega | decide)) | (with_reducible refine wpp_leI ?_) | (with_reducible refine wp_eq (by assumption) ?_))) | ((with_reducible refine g_gt ?_); (first | ((with_reducible refine wpp_gtT ?_ ?_); (first | omega | decide)) | ((with_reducible refine wpp_gtF ?_ ?_); (first | omega | decide)) | (with_reducible refine wpp_gtI ?_) | (with_reducible refine wp_eq (by assumption) ?_))) | ((with_reducible refine g_ge ?_); (first | ((with_reducible refine wpp_geT ?_ ?_); (first | omega | decide)) | ((with_reducible refine wpp_geF ?_ ?_); (first | omega | decide)) | (with_reducible refine wpp_geI ?_) | (with_reducible refine wp_eq (by assumption) ?_))) | ((with_reducible refine g_isi ?_); (first | (with_reducible refine wp_eq (by assumption) ?_) | ((with_reducible refine wpp_isiT ?_ ?_); exact rfl) | ((with_reducible refine wpp_isiF ?_ ?_); exact rfl))) | ((with_reducible refine g_isN ?_); (first | (with_reducible refine wpp_isNT ?_) | ((with_reducible refine wpp_isNF ?_ ?_); exact nofun))) | ((with_reducible refine g_len ?_); (first | (with_reducible refine wpp_lenM ?_) | ((with_reducible refine g_lenL ?_); (with_reducible refine wpp_lenLM (by assumption) ?_)) | (with_reducible refine wpp_lenT ?_) | ((with_reducible refine g_lenL ?_); refine wpp_lenL (by tm_at "s") ?_) | ((with_reducible refine wpp_lenS ?_ ?_); tm_at "l") | (with_reducible refine wp_eq (by assumption) ?_))) | ((with_reducible refine g_idx ?_); (first | ((with_reducible refine g_idxL ?_); refine wpp_idxL (by tm_at "s") (by tm_at "s") ?_) | ((with_reducible refine g_idxT ?_); refine wpp_idxT (by tm_at "s") ?_) | (with_reducible refine wp_eq (by assumption) ?_))) | ((with_reducible refine g_tup ?_); (first | (with_reducible refine wpp_tup2 ?_) | (with_reducible refine wpp_tup1 ?_) | (with_reducible refine wpp_tup0 ?_) | (with_reducible refine wpp_tup3 ?_) | (with_reducible refine wpp_tup4 ?_) | (with_reducible refine wpp_tup5 ?_))) | ((with_reducible refine g_lst ?_); (first | ((with_reducible refine wpp_lst ?_ ?_); tm_at "l"))) | ((with_reducible refine g_sub ?_); (first | (with_reducible refine wpp_subI ?_) | (with_reducible refine wp_eq (by assumption) ?_))) | ((with_reducible refine g_neg ?_); (first | (with_reducible refine wpp_negI ?_) | (with_reducible refine wp_eq (by assumption) ?_))) | ((with_reducible refine g_abs ?_); (first | (with_reducible refine wpp_absI ?_))) | ((with_reducible refine g_mod ?_); (first | ((with_reducible refine wpp_modI ?_ ?_); tm_at "s"))) | ((with_reducible refine g_int1 ?_); (first | (with_reducible refine wpp_int1I ?_) | (with_reducible refine wpp_int1B ?_))) | ((with_reducible refine g_max2 ?_); (first | (with_reducible refine wpp_max2 ?_))) | ((with_reducible refine g_min2 ?_); (first | (with_reducible refine wpp_min2 ?_))) | ((with_reducible refine g_repr ?_); (first | (with_reducible refine wp_eq (by assumption) ?_) | ((with_reducible refine wpp_reprS ?_ ?_ ?_); tm_at "o"; omega))) | ((with_reducible refine g_tuple1 ?_); (first | (with_reducible refine wpp_tuple1T ?_) | ((with_reducible refine g_tuple1L ?_); refine wpp_tuple1L (by tm_at "s") ?_))) | ((with_reducible refine g_inn ?_); (first | (with_reducible refine wpp_innS ?_) | (with_reducible refine wp_eq (by assumption) ?_))) | ((with_reducible refine g_startswith ?_); (first | (with_reducible refine wpp_startswith ?_))) | ((with_reducible refine g_removeprefix ?_); (first | ((with_reducible refine wpp_removeprefix ?_ ?_); tm_at "l"))) | ((with_reducible refine g_append ?_); (first | ((with_reducible refine g_appendL ?_); refine wpp_appendL (by tm_at "s") (by tm_at "l") ?_))) | ((with_reducible refine g_extend ?_); (first | ((with_reducible refine g_extendL ?_); refine wpp_extendL (by tm_at "s") (by tm_at "s") (by tm_at "l") ?_))) | ((with_reducible refine g_fmt ?_); (first | ((with_reducible refine wpp_fmtS ?_ ?_); tm_at "l") | ((with_reducible refine wpp_fmtI ?_ ?_); tm_at "s"))) | ((with_reducible refine g_fmtR ?_); (first | ((with_reducible refine wpp_fmtRS ?_ ?_); tm_at "l"))) | ((with_reducible refine g_str1 ?_); (first | ((with_reducible refine wpp_strI ?_ ?_); tm_at "s"))) | (with_reducible refine wp_eq (by assumption) ?_)))
  | ((with_reducible refine g_call ?_); (first | (with_reducible refine wp_eq (by assumption) ?_)))
  | ((with_reducible refine g_truth ?_); (first | (with_reducible refine wp_truth_bl ?_) | (with_reducible refine wp_truth_int ?_) | (with_reducible refine wp_truth_non ?_) | (with_reducible refine wp_truth_tup ?_) | ((with_reducible refine wp_truth_str ?_ ?_); tm_at "l")))
  | ((with_reducible refine g_attD ?_); (first | ((with_reducible refine g_attIns ?_); refine wp_attIns rfl rfl rfl ?_) | ((with_reducible refine g_attX ?_); refine wp_attX rfl rfl ?_) | (with_reducible refine wp_eq (by assumption) ?_)))
  | ((with_reducible refine g_makeD ?_); (first | (with_reducible refine wp_eq (by assumption) ?_) | ((with_reducible refine g_mkX ?_); refine wp_mkX rfl rfl ?_)))
  | ((with_reducible refine g_beh ?_); (first | (with_reducible refine beh_rt ?_) | (with_reducible refine beh_nx ?_) | (with_reducible refine beh_xc ?_)))
  | ((with_reducible refine g_recv ?_); (first | (with_reducible refine wp_recvSj ?_) | (with_reducible refine wp_recvSs ?_) | (with_reducible refine wp_recvSt ?_) | (with_reducible refine wp_recvSp ?_) | ((with_reducible refine g_recvL ?_); refine wp_recvA (by tm_at "s") ?_) | ((with_reducible refine g_recvL ?_); refine wp_recvE (by tm_at "s") ?_) | ((with_reducible refine g_recvL ?_); refine wp_recvP (by tm_at "s") ?_)))
  | ((with_reducible refine g_evI ?_); (first | (with_reducible refine wp_seq ?_) | (with_reducible refine wp_range1 ?_) | (with_reducible refine wp_zip ?_)))
  | ((with_reducible refine g_walk ?_); (first | (with_reducible refine wp_walk_tup ?_) | (with_reducible refine wp_walk_str ?_) | ((with_reducible refine g_walkL ?_); refine wp_walk_lst (by tm_at "s") ?_)))
  | ((with_reducible refine g_evP ?_); (first | (with_reducible refine wp_P0 ?_) | (with_reducible refine wp_P1 ?_)))
  | ((with_reducible refine g_evS ?_); (first | (with_reducible refine wp_S0 ?_) | (with_reducible refine wp_S1 ?_)))
  | ((with_reducible refine g_evJ ?_); (first | (with_reducible refine wp_J0 ?_) | (with_reducible refine wp_J1 ?_)))
  | ((with_reducible refine g_evO ?_); (first | (with_reducible refine wp_O0 ?_) | (with_reducible refine wp_O1 ?_)))
  | ((with_reducible refine g_slice ?_); (first | ((with_reducible refine wp_sliceS ?_ ?_); tm_at "l") | (with_reducible refine wp_sliceT ?_)))
  | (with_reducible refine ex_int ?_)
  | (with_reducible refine ex_str ?_)
  | (with_reducible refine ex_tup ?_)
  | (with_reducible refine wp_asB ?_)
  | (with_reducible refine wp_partI ?_)
  | ((with_reducible refine g_zipL ?_); refine wp_zipL (by tm_at "s") (by tm_at "s") ?_)
  | (with_reducible refine wp_zipT ?_)
  | ((with_reducible refine g_setIdxL ?_); refine wp_setIdxL (by tm_at "s") (by tm_at "s") (by tm_at "s") ?_))
local macro_rules | `(tactic| tm_at "ws") => `(tactic| repeat tm_at "w")
-- /WS
local macro_rules | `(tactic| tm_at "w") => `(tactic| ((with_reducible refine g_ev ?_); with_reducible refine wp_notB ?_))
local macro_rules | `(tactic| tm_at "w") => `(tactic| ((with_reducible refine g_ev ?_); with_reducible refine wp_eq (by with_reducible assumption) ?_))
local macro_rules | `(tactic| tm_at "w") => `(tactic| ((with_reducible refine g_evT ?_); with_reducible refine wp_eq (by with_reducible assumption) ?_))
section
variable {wl n k N : Nat} {s : Store} {v x y : D} {i j : Int}
theorem take : TakeOk T wl (n + 1) 30 := fun k N s u hp hN h0 h1 => take_ok (c1 := 100595) (c2 := 38) (c3 := 10065) (c4 := 92) t30 (by decide) (by decide) (by decide) (by decide) hp hN ⟨h0, h1⟩
theorem of_ : OfOk T wl (n + 2) 31 := ofOk t31 take
def IV (b : Nat) (_ : Store) (d : D) : Prop := ∃ i : Int, d = .int i ∧ Sz b i
def SV (_ : Store) (d : D) : Prop := ∃ i : Int, d = .int i ∧ 0 < i ∧ i < 100000000
theorem iv_keeps {b : Nat} : Keeps k (IV b) := fun _ _ _ _ h _ => h
theorem sv_keeps : Keeps k SV := fun _ _ _ _ h _ => h
@[reducible] def szE : List E := [(.con (.int (1))), (.con (.int (2))), (.con (.int (3))), (.con (.int (6))), (.con (.int (10))), (.con (.int (12))), (.con (.int (35))), (.con (.int (360))), (.con (.int (999983))), (.prim .pow [(.con (.int (10))), (.con (.int (6)))]), (.prim .sub [(.prim .pow [(.con (.int (10))), (.con (.int (8)))]), (.con (.int (1)))])]
theorem sz_els {σ : G.Env} : ∀ e ∈ szE, ElOk (ct wl n) k σ SV e := by
  have p8 : ∀ s, ev (ct wl n) (.prim .pow [(.con (.int (10))), (.con (.int (8)))]) σ s = .ok (.int 100000000) s := fun s => ev_q2 ev_c ev_c (by kernel_rfl)
  unfold szE
  simp only [List.forall_mem_cons]
  exact ⟨el_imm (fun _ => ev_c) fun _ => ⟨_, rfl, by decide, by decide⟩, el_imm (fun _ => ev_c) fun _ => ⟨_, rfl, by decide, by decide⟩, el_imm (fun _ => ev_c) fun _ => ⟨_, rfl, by decide, by decide⟩, el_imm (fun _ => ev_c) fun _ => ⟨_, rfl, by decide, by decide⟩, el_imm (fun _ => ev_c) fun _ => ⟨_, rfl, by decide, by decide⟩, el_imm (fun _ => ev_c) fun _ => ⟨_, rfl, by decide, by decide⟩, el_imm (fun _ => ev_c) fun _ => ⟨_, rfl, by decide, by decide⟩, el_imm (fun _ => ev_c) fun _ => ⟨_, rfl, by decide, by decide⟩, el_imm (fun _ => ev_c) fun _ => ⟨_, rfl, by decide, by decide⟩,
    el_imm (v := .int 1000000) (fun _ => ev_q2 ev_c ev_c (by kernel_rfl)) fun _ => ⟨_, rfl, by decide, by decide⟩, el_imm (v := .int 99999999) (fun _ => ev_q2 (p8 _) ev_c (by kernel_rfl)) fun _ => ⟨_, rfl, by decide, by decide⟩, fun _ h => nomatch h⟩
@[reducible] def tmE : List E := [(.con (.int (1))), (.con (.int (1))), (.con (.int (2))), (.con (.int (3)))]
def TV (_ : Store) (d : D) : Prop := ∃ i : Int, d = .int i ∧ Sz 2 i
theorem tv_keeps : Keeps k TV := fun _ _ _ _ h _ => h
theorem tm_els {σ : G.Env} : ∀ e ∈ tmE, ElOk (ct wl n) k σ TV e := by
  unfold tmE
  simp only [List.forall_mem_cons]
  exact ⟨el_imm (fun _ => ev_c) fun _ => ⟨_, rfl, by unfold Sz; decide⟩, el_imm (fun _ => ev_c) fun _ => ⟨_, rfl, by unfold Sz; decide⟩, el_imm (fun _ => ev_c) fun _ => ⟨_, rfl, by unfold Sz; decide⟩, el_imm (fun _ => ev_c) fun _ => ⟨_, rfl, by unfold Sz; decide⟩, fun _ h => nomatch h⟩
/-! ### a list whose items draw -/
def ElD (ct : Ct) (k : Nat) (σ : G.Env) (P : Store → D → Prop) (e : E) : Prop := ∀ (s : Store) (N : Nat), Pot k N s → N ≤ 900000 → ∃ d s', ev ct e σ s = .ok d s' ∧ P s' d ∧ Adv k (N + 1) s s'
theorem ElD.of {ct : Ct} {σ : G.Env} {P : Store → D → Prop} {e : E} (h : ElOk ct k σ P e) : ElD ct k σ P e := fun s N hp _ => by
  obtain ⟨d, s', a, b, c⟩ := h s N hp
  exact ⟨d, s', a, b, c.mono (Nat.le_succ N)⟩
theorem elsD {ct : Ct} {σ : G.Env} {P : Store → D → Prop} (hP : Keeps k P) : ∀ {es : List E}, (∀ e ∈ es, ElD ct k σ P e) → ∀ (s : Store) (N : Nat), Pot k N s → N + es.length ≤ 900000 → ∃ xs s', evs ct es σ s = .ok xs s' ∧ (∀ x ∈ xs, P s' x) ∧ xs.length = es.length ∧ Adv k (N + es.length) s s'
  | [], _, s, N, hp, _ => ⟨[], s, evs_nil, (fun _ h => nomatch h), rfl, .refl hp⟩
  | e :: es, h, s, N, hp, hN => by
    rw [List.length_cons] at hN
    obtain ⟨d, s1, e1, p1, a1⟩ := h e (by simp) s N hp (by omega)
    obtain ⟨xs, s2, e2, p2, l2, a2⟩ := elsD (es := es) hP (fun e he => h e (List.mem_cons_of_mem _ he)) s1 (N + 1) a1.pot (by omega)
    refine ⟨d :: xs, s2, evs_cons e1 e2, fun x hx => ?_, by rw [List.length_cons, List.length_cons, l2], ?_⟩
    · rcases List.mem_cons.mp hx with rfl | hx
      · exact hP _ _ _ _ p1 a2
      · exact p2 x hx
    · rw [List.length_cons, show N + (es.length + 1) = N + 1 + es.length by omega]
      exact a1.trans a2
theorem pickD {o : Nat} {P : Store → D → Prop} {σ : G.Env} (of_ : OfOk T wl n o) (hP : Keeps k P) {es : List E} (h0 : σ[0]? = some (some (.obj k))) (h : ∀ e ∈ es, ElD (ct wl n) k σ P e) (hl : 0 < es.length ∧ es.length < 1000) (hp : Pot k N s) (hN : N ≤ 800000) :
    ∃ x s', ev (ct wl n) (.call o [(.var 0), (.prim .lst es)]) σ s = .ok x s' ∧ P s' x ∧ Adv k (N + es.length + 1) s s' := by
  obtain ⟨xs, s1, e1, p1, l1, a1⟩ := elsD hP h s N hp (by omega)
  have a2 : Adv k (N + es.length) s1 (s1 ++ [.lst xs]) := .app a1.pot _
  have e : ev (ct wl n) (.prim .lst es) σ s = .ok (.obj s1.length) (s1 ++ [.lst xs]) := ev_pn e1 ((congrFun (prim_lst xs) s1).trans (newL_run (Nat.ble_eq_true_of_le (line_of (by rw [l1]; omega)))))
  obtain ⟨x, s', hx, e2, av⟩ := of_ k (N + es.length) (s1 ++ [.lst xs]) s1.length xs a2.pot (by omega) (by omega) (by omega) at_len (by have := hp.lt; have := a1.len; omega)
  refine ⟨x, s', ?_, hP _ _ _ _ (hP _ _ _ _ (p1 x hx) a2) av, (a1.trans a2).trans av⟩
  rw [ev_cl (evs_cons (ev_v h0) (evs_cons e evs_nil))]
  exact e2
/-! ### a drawn number -/
@[reducible] def ixE : E := (.ifx (.prim .lt [(.var 1), (.prim .pow [(.con (.int (10))), (.con (.int (7)))])]) (.prim .mul [(.var 1), (.call 31 [(.var 0), (.prim .lst tmE)])]) (.var 1))
@[reducible] def nuE : List E := [(.var 1), (.prim .neg [(.var 1)]), (.con (.int (0))), ixE, (.con (.int (1))), (.prim .neg [(.con (.int (1)))])]
theorem sz30 {i : Int} (h0 : 0 < i) (h1 : i < 100000000) : Sz 30 i := by
  unfold Sz
  exact Nat.lt_trans (show i.natAbs < 100000000 by omega) (by decide)
theorem sz27 {i : Int} (h0 : 0 < i) (h1 : i < 100000000) : Sz 27 i := by
  unfold Sz
  exact Nat.lt_trans (show i.natAbs < 100000000 by omega) (by decide)
theorem ix_el {i : Int} (h0 : 0 < i) (h1 : i < 100000000) : ElD (ct wl (n + 2)) k [some (.obj k), some (.int i)] (IV 30) ixE := fun s N hp hN => by
  obtain ⟨x, s', e, ⟨t, rfl, ht⟩, a⟩ := pick_ (σ := [some (.obj k), some (.int i)]) (of_ (wl := wl) (n := n)) tv_keeps rfl (tm_els (wl := wl) (n := n + 2)) (by decide) hp (by omega)
  have pw : ∀ s, prim (ct wl (n + 2)) .pow [.int 10, .int 7] s = .ok (.int 10000000) s := fun s => by kernel_rfl
  have p1 := pw s
  by_cases h : i < 10000000
  · have m := mul_run (ct := ct wl (n + 2)) (s := s') (sz27 h0 h1) ht (by decide)
    obtain ⟨d, s2, e9, rfl, rfl⟩ := wp_ok (m := ev (ct wl (n + 2)) ixE [some (.obj k), some (.int i)]) (s := s) (Q := fun d s2 => d = .int (i * t) ∧ s2 = s') (by
      tm_at "ws"
      exact ⟨rfl, rfl⟩)
    exact ⟨_, _, e9, ⟨_, rfl, ((sz27 h0 h1).mul ht).mono (by decide)⟩, a⟩
  · obtain ⟨d, s2, e9, rfl, rfl⟩ := wp_ok (m := ev (ct wl (n + 2)) ixE [some (.obj k), some (.int i)]) (s := s) (Q := fun d s2 => d = .int i ∧ s2 = s) (by
      tm_at "ws"
      exact ⟨rfl, rfl⟩)
    exact ⟨_, _, e9, ⟨_, rfl, sz30 h0 h1⟩, (Adv.refl hp).mono (Nat.le_succ N)⟩
theorem nu_els {i : Int} (h0 : 0 < i) (h1 : i < 100000000) : ∀ e ∈ nuE, ElD (ct wl (n + 2)) k [some (.obj k), some (.int i)] (IV 30) e := by
  have z := sz30 h0 h1
  unfold nuE
  simp only [List.forall_mem_cons]
  exact ⟨.of (el_imm (v := .int i) (fun _ => ev_v rfl) fun _ => ⟨_, rfl, z⟩), .of (el_imm (v := .int (-i)) (fun _ => ev_q1 (ev_v rfl) rfl) fun _ => ⟨_, rfl, z.neg⟩), .of (el_imm (fun _ => ev_c) fun _ => ⟨_, rfl, by unfold Sz; decide⟩), ix_el h0 h1, .of (el_imm (fun _ => ev_c) fun _ => ⟨_, rfl, by unfold Sz; decide⟩), .of (el_imm (v := .int (-1)) (fun _ => ev_q1 ev_c rfl) fun _ => ⟨_, rfl, by unfold Sz; decide⟩), fun _ h => nomatch h⟩
theorem number (hp : Pot k N s) (hN : N ≤ 100000) : ∃ (i : Int) (s' : Store), callF T wl (n + 3) 36 [.obj k] s = .ok (.int i) s' ∧ Sz 30 i ∧ Adv k (N + 8) s s' := by
  have key : wp (callF T wl (n + 3) 36 [.obj k]) (fun d s' => ∃ i, d = .int i ∧ Sz 30 i ∧ Adv k (N + 8) s s') noX s := by
    have lk := hp.lt
    refine wp_fn (args := [.obj k]) (σ := [some (.obj k), none]) t36 rfl (by decide) rfl ?_
    obtain ⟨x, s1, e1, ⟨i, rfl, h0, h1⟩, a1⟩ := pick_ (σ := [some (.obj k), none]) (of_ (wl := wl) (n := n)) sv_keeps rfl (sz_els (wl := wl) (n := n + 2)) (by decide) hp (by omega)
    obtain ⟨y, s2, e2, ⟨j, rfl, hj⟩, a2⟩ := pickD (σ := [some (.obj k), some (.int i)]) (of_ (wl := wl) (n := n)) iv_keeps rfl (nu_els (wl := wl) (n := n) h0 h1) (by decide) a1.pot (by omega)
    tm_at "ws"
    exact ⟨hj, (a1.trans a2).trunc lk _⟩
  obtain ⟨d, s', e, i, rfl, h, a⟩ := wp_ok key
  exact ⟨i, s', e, h, a⟩
end
end K01
set_option Elab.async false
set_option linter.all false
set_option maxRecDepth 1000000
set_option maxHeartbeats 1000000
namespace K01
open G L2
open PySem (Str PyData)
open PySem
open TL (tl)
-- WS
local macro_rules | `(tactic| tm_at "s") => `(tactic| first | (with_reducible assumption) | (with_reducible rfl) | exact G.at_len | exact G.at_app (by with_reducible assumption) | exact G.at_app G.at_len | exact G.at_app (G.at_app (by with_reducible assumption)) | omega | (exact rfl) | decide)
local macro_rules | `(tactic| tm_at "o") => `(tactic| first | (with_reducible assumption) | exact G.strOk_sx _)
local macro_rules | `(tactic| tm_at "l") => `(tactic| first | (with_reducible assumption) | exact G.line_of (by omega) | decide | (exact G.line_of (Nat.le_of_ble_eq_true rfl)) | (refine G.line_of ?_; simp only [PySem.Str.length_append, List.length_append, List.length_map]; omega))
local macro_rules | `(tactic| tm_at "w") => `(tactic| first
  | ((with_reducible refine g_evs ?_); (first | (with_reducible refine wp_evs1 ?_) | (with_reducible refine wp_evs0 ?_)))
  | ((with_reducible refine g_ev ?_); (first | (with_reducible refine wp_con ?_) | ((with_reducible refine g_evvar ?_); refine wp_var rfl ?_) | (with_reducible refine wp_prim ?_) | (with_reducible refine wp_call ?_) | (with_reducible refine wp_att ?_) | (with_reducible refine wp_and ?_) | (with_reducible refine wp_or ?_) | (with_reducible refine wp_not ?_) | ((with_reducible refine g_ifx ?_); (first | (with_reducible refine wp_eq (by assumption) ?_) | (with_reducible refine wp_ifx ?_))) | ((with_reducible refine g_comp ?_); (first | (with_reducible refine wp_eq (by assumption) ?_))) | (with_reducible refine wp_chain ?_) | (with_reducible refine wp_bm ?_) | (with_reducible refine wp_make ?_) | (with_reducible refine wp_meth ?_) | (with_reducible refine wp_slc ?_) | (with_reducible refine wp_told ?_) | (with_reducible refine wp_lrange ?_) | (with_reducible refine wp_tups ?_) | (with_reducible refine wp_fstr ?_)))
  | ((with_reducible refine g_thn ?_); (first | (with_reducible refine thn_nx ?_) | (with_reducible refine thn_rt ?_) | (with_reducible refine thn_xc ?_) | (with_reducible refine thn_bk ?_) | (with_reducible refine thn_ct ?_)))
  | ((with_reducible refine g_exs ?_); (first | (with_reducible refine wp_exs1 ?_) | (with_reducible refine wp_exs0 ?_)))
  | ((with_reducible refine g_ex ?_); (first | (with_reducible refine wp_asg ?_) | (with_reducible refine wp_ret ?_) | (with_reducible refine wp_if ?_) | (with_reducible refine wp_expr ?_) | (with_reducible refine wp_for ?_) | (with_reducible refine wp_raise ?_) | (with_reducible refine wp_setAtt ?_) | (with_reducible refine wp_setIdx ?_) | (with_reducible refine wp_retN ?_) | (with_reducible refine wp_pass ?_) | (with_reducible refine wp_brk ?_) | (with_reducible refine wp_cont ?_)))
  | ((with_reducible refine g_evT ?_); (first | (with_reducible refine wpT_prim ?_) | (with_reducible refine wpT_and ?_) | (with_reducible refine wpT_or ?_) | (with_reducible refine wpT_not ?_) | ((with_reducible refine g_evTvar ?_); refine wpT_var rfl ?_) | (with_reducible refine wpT_call ?_) | (with_reducible refine wpT_att ?_) | (with_reducible refine wpT_con ?_) | (with_reducible refine wpT_meth ?_) | (with_reducible refine wpT_bm ?_) | (with_reducible refine wpT_chain ?_) | (with_reducible refine wpT_comp ?_)))
  | ((with_reducible refine g_asg ?_); (first | (with_reducible refine asg0 ?_) | (with_reducible refine asg1 ?_) | (with_reducible refine asg2 ?_) | (with_reducible refine asg3 ?_) | (with_reducible refine asg4 ?_) | (with_reducible refine asg5 ?_) | (with_reducible refine asg6 ?_) | (with_reducible refine asg7 ?_) | (with_reducible refine asg8 ?_) | (with_reducible refine asg9 ?_) | (with_reducible refine asg10 ?_) | (with_reducible refine asg11 ?_) | (with_reducible refine asg12 ?_) | (with_reducible refine asg13 ?_) | (with_reducible refine asg14 ?_) | (with_reducible refine asg15 ?_) | (with_reducible refine asgT2 ?_) | (with_reducible refine asgT3 ?_)))
  | ((with_reducible refine g_cs ?_); (first | ((with_reducible refine csT ?_ ?_); (first | (with_reducible assumption) | exact rfl)) | ((with_reducible refine csF ?_ ?_); (first | (with_reducible assumption) | exact rfl))))
  | ((with_reducible refine g_prim ?_); (first | ((with_reducible refine g_add ?_); (first | (with_reducible refine wpp_addI ?_) | ((with_reducible refine wpp_addS ?_ ?_); tm_at "l") | ((with_reducible refine wpp_addT ?_ ?_); tm_at "l") | ((with_reducible refine g_addL ?_); refine wpp_addL (by tm_at "s") (by tm_at "s") (by tm_at "l") ?_))) | ((with_reducible refine g_eq ?_); (first | ((with_reducible refine wpp_eqIT ?_ ?_); (first | omega | decide)) | ((with_reducible refine wpp_eqIF ?_ ?_); (first | omega | decide)) | (with_reducible refine wpp_eqI ?_) | (with_reducible refine wpp_eqB ?_) | ((with_reducible refine wpp_eqSS ?_ ?_); tm_at "o") | ((with_reducible refine wpp_eqS ?_ ?_ ?_); tm_at "o"; tm_at "o") | (with_reducible refine wp_eq (by assumption) ?_))) | ((with_reducible refine g_ne ?_); (first | ((with_reducible refine wpp_neIF ?_ ?_); (first | omega | decide)) | ((with_reducible refine wpp_neIT ?_ ?_); (first | omega | decide)) | (with_reducible refine wpp_neI ?_) | (with_reducible refine wpp_neBB ?_) | (with_reducible refine wpp_neB ?_) | ((with_reducible refine wpp_neSS ?_ ?_); tm_at "o") | ((with_reducible refine wpp_neS ?_ ?_ ?_); tm_at "o"; tm_at "o") | (with_reducible refine wp_eq (by assumption) ?_))) | ((with_reducible refine g_lt ?_); (first | ((with_reducible refine wpp_ltT ?_ ?_); (first | omega | decide)) | ((with_reducible refine wpp_ltF ?_ ?_); (first | omega | decide)) | (with_reducible refine wpp_ltI ?_) | (with_reducible refine wp_eq (by assumption) ?_))) | ((with_reducible refine g_le ?_); (first | ((with_reducible refine wpp_leT ?_ ?_); (first | omega | decide)) | ((with_reducible refine wpp_leF ?_ ?_); (first | omega | decide)) | (with_reducible refine wpp_leI ?_) | (with_reducible refine wp_eq (by assumption) ?_))) | ((with_reducible refine g_gt ?_); (first | ((with_reducible refine wpp_gtT ?_ ?_); (first | omega | decide)) | ((with_reducible refine wpp_gtF ?_ ?_); (first | omega | decide)) | (with_reducible refine wpp_gtI ?_) | (with_reducible refine wp_eq (by assumption) ?_))) | ((with_reducible refine g_ge ?_); (first | ((with_reducible refine wpp_geT ?_ ?_); (first | omega | decide)) | ((with_reducible refine wpp_geF ?_ ?_); (first | omega | decide)) | (with_reducible refine wpp_geI ?_) | (with_reducible refine wp_eq (by assumption) ?_))) | ((with_reducible refine g_isi ?_); (first | (with_reducible refine wp_eq (by assumption) ?_) | ((with_reducible refine wpp_isiT ?_ ?_); exact rfl) | ((with_reducible refine wpp_isiF ?_ ?_); exact rfl))) | ((with_reducible refine g_isN ?_); (first | (with_reducible refine wpp_isNT ?_) | ((with_reducible refine wpp_isNF ?_ ?_); exact nofun))) | ((with_reducible refine g_len ?_); (first | (with_reducible refine wpp_lenM ?_) | ((with_reducible refine g_lenL ?_); (with_reducible refine wpp_lenLM (by assumption) ?_)) | (with_reducible refine wpp_lenT ?_) | ((with_reducible refine g_lenL ?_); refine wpp_lenL (by tm_at "s") ?_) | ((with_reducible refine wpp_lenS ?_ ?_); tm_at "l") | (with_reducible refine wp_eq (by assumption) ?_))) | ((with_reducible refine g_idx ?_); (first | ((with_reducible refine g_idxL ?_); refine wpp_idxL (by tm_at "s") (by tm_at "s") ?_) | ((with_reducible refine g_idxT ?_); refine wpp_idxT (by tm_at "s") ?_) | (with_reducible refine wp_eq (by assumption) ?_))) | ((with_reducible refine g_tup ?_); (first | (with_reducible refine wpp_tup2 ?_) | (with_reducible refine wpp_tup1 ?_) | (with_reducible refine wpp_tup0 ?_) | (with_reducible refine wpp_tup3 ?_) | (with_reducible refine wpp_tup4 ?_) | (with_reducible refine wpp_tup5 ?_))) | ((with_reducible refine g_lst ?_); (first | ((with_reducible refine wpp_lst ?_ ?_); tm_at "l"))) | ((with_reducible refine g_sub ?_); (first | (with_reducible refine wpp_subI ?_) | (with_reducible refine wp_eq (by assumption) ?_))) | ((with_reducible refine g_neg ?_); (first | (with_reducible refine wpp_negI ?_) | (with_reducible refine wp_eq (by assumption) ?_))) | ((with_reducible refine g_abs ?_); (first | (with_reducible refine wpp_absI ?_))) | ((with_reducible refine g_mod ?_); (first | ((with_reducible refine wpp_modI ?_ ?_); tm_at "s"))) | ((with_reducible refine g_int1 ?_); (first | (with_reducible refine wpp_int1I ?_) | (with_reducible refine wpp_int1B ?_))) | ((with_reducible refine g_max2 ?_); (first | (with_reducible refine wpp_max2 ?_))) | ((with_reducible refine g_min2 ?_); (first | (with_reducible refine wpp_min2 ?_))) | ((with_reducible refine g_repr ?_); (first | (with_reducible refine wp_eq (by assumption) ?_) | ((with_reducible refine wpp_reprS ?_ ?_ ?_); tm_at "o"; omega))) | ((with_reducible refine g_tuple1 ?_); (first | (with_reducible refine wpp_tuple1T ?_) | ((with_reducible refine g_tuple1L ?_); refine wpp_tuple1L (by tm_at "s") ?_))) | ((with_reducible refine g_inn ?_); (first | (with_reducible refine wpp_innS ?_) | (with_reducible refine wp_eq (by assumption) ?_))) | ((with_reducible refine g_startswith ?_); (first | (with_reducible refine wpp_startswith ?_))) | ((with_reducible refine g_removeprefix ?_); (first | ((with_reducible refine wpp_removeprefix ?_ ?_); tm_at "l"))) | ((with_reducible refine g_append ?_); (first | ((with_reducible refine g_appendL ?_); refine wpp_appendL (by tm_at "s") (by tm_at "l") ?_))) | ((with_reducible refine g_extend ?_); (first | ((with_reducible refine g_extendL ?_); refine wpp_extendL (by tm_at "s") (by tm_at "s") (by tm_at "l") ?_))) | ((with_reducible refine g_fmt ?_); (first | ((with_reducible refine wpp_fmtS ?_ ?_); tm_at "l") | ((with_reducible refine wpp_fmtI ?_ ?_); tm_at "s"))) | ((with_reducible refine g_fmtR ?_); (first | ((with_reducible refine wpp_fmtRS ?_ ?_); tm_at "l"))) | ((with_reducible refine g_str1 ?_); (first | ((with_reducible refine wpp_strI ?_ ?_); tm_at "s"))) | (with_reducible refine wp_eq (by assumption) ?_)))
  | ((with_reducible refine g_call ?_); (first | (with_reducible refine wp_eq (by assumption) ?_)))
  | ((with_reducible refine g_truth ?_); (first | (with_reducible refine wp_truth_bl ?_) | (with_reducible refine wp_truth_int ?_) | (with_reducible refine wp_truth_non ?_) | (with_reducible refine wp_truth_tup ?_) | ((with_reducible refine wp_truth_str ?_ ?_); tm_at "l")))
  | ((with_reducible refine g_attD ?_); (first | ((with_reducible refine g_attIns ?_); refine wp_attIns rfl rfl rfl ?_) | ((with_reducible refine g_attX ?_); refine wp_attX rfl rfl ?_) | (with_reducible refine wp_eq (by assumption) ?_)))
  | ((with_reducible refine g_makeD ?_); (first | (with_reducible refine wp_eq (by assumption) ?_) | ((with_reducible refine g_mkX ?_); refine wp_mkX rfl rfl ?_)))
  | ((with_reducible refine g_beh ?_); (first | (with_reducible refine beh_rt ?_) | (with_reducible refine beh_nx ?_) | (with_reducible refine beh_xc ?_)))
  | ((with_reducible refine g_recv ?_); (first | (with_reducible refine wp_recvSj ?_) | (with_reducible refine wp_recvSs ?_) | (with_reducible refine wp_recvSt ?_) | (with_reducible refine wp_recvSp ?_) | ((with_reducible refine g_recvL ?_); refine wp_recvA (by tm_at "s") ?_) | ((with_reducible refine g_recvL ?_); refine wp_recvE (by tm_at "s") ?_) | ((with_reducible refine g_recvL ?_); refine wp_recvP (by tm_at "s") ?_)))
  | ((with_reducible refine g_evI ?_); (first | (with_reducible refine wp_seq ?_) | (with_reducible refine wp_range1 ?_) | (with_reducible refine wp_zip ?_)))
  | ((with_reducible refine g_walk ?_); (first | (with_reducible refine wp_walk_tup ?_) | (with_reducible refine wp_walk_str ?_) | ((with_reducible refine g_walkL ?_); refine wp_walk_lst (by tm_at "s") ?_)))
  | ((with_reducible refine g_evP ?_); (first | (with_reducible refine wp_P0 ?_) | (with_reducible refine wp_P1 ?_)))
  | ((with_reducible refine g_evS ?_); (first | (with_reducible refine wp_S0 ?_) | (with_reducible refine wp_S1 ?_)))
  | ((with_reducible refine g_evJ ?_); (first | (with_reducible refine wp_J0 ?_) | (with_reducible refine wp_J1 ?_)))
  | ((with_reducible refine g_evO ?_); (first | (with_reducible refine wp_O0 ?_) | (with_reducible refine wp_O1 ?_)))
  | ((with_reducible refine g_slice ?_); (first | ((with_reducible refine wp_sliceS ?_ ?_); tm_at "l") | (with_reducible refine wp_sliceT ?_)))
  | (with_reducible refine ex_int ?_)
  | (with_reducible refine ex_str ?_)
  | (with_reducible refine ex_tup ?_)
  | (with_reducible refine wp_asB ?_)
  | (with_reducible refine wp_partI ?_)
  | ((with_reducible refine g_zipL ?_); refine wp_zipL (by tm_at "s") (by tm_at "s") ?_)
  | (with_reducible refine wp_zipT ?_)
  | ((with_reducible refine g_setIdxL ?_); refine wp_setIdxL (by tm_at "s") (by tm_at "s") (by tm_at "s") ?_))
local macro_rules | `(tactic| tm_at "ws") => `(tactic| repeat tm_at "w")
-- /WS
local macro_rules | `(tactic| tm_at "w") => `(tactic| ((with_reducible refine g_ev ?_); with_reducible refine wp_notB ?_))
local macro_rules | `(tactic| tm_at "w") => `(tactic| ((with_reducible refine g_ev ?_); with_reducible refine wp_eq (by with_reducible assumption) ?_))
local macro_rules | `(tactic| tm_at "w") => `(tactic| ((with_reducible refine g_evT ?_); with_reducible refine wp_eq (by with_reducible assumption) ?_))
section
variable {wl n k N : Nat} {s : Store} {v x y : D} {i j : Int} {v1 v2 v3 v4 : Option D}
theorem refdT_ok {a b : E} {σ : G.Env} (hb : ev (ct wl n) b σ s = .exc 1 (.tup [x, y]) s) (ha : ev (ct wl n) a σ s = .ok (.tup [x, y]) s) (rp : ∃ r, PyData.strOk r = true ∧ prim (ct wl n) .repr [.tup [x, y]] s = .ok (.str r) s) : evT (ct wl n) (.refd 0 b a rE) σ s = .ok true s := by
  have h := refd_ok hb ha rp
  have e1 : ev (ct wl n) (.refd 0 b a rE) σ = refdD (ct wl n) 0 (ev (ct wl n) b σ) (ev (ct wl n) a σ) (fun x d => ev (ct wl n) rE [none, some x, some d]) := by simp only [ev]
  have e2 : evT (ct wl n) (.refd 0 b a rE) σ = (refdD (ct wl n) 0 (ev (ct wl n) b σ) (ev (ct wl n) a σ) (fun x d => ev (ct wl n) rE [none, some x, some d]) >>= fun d => truth d) := by simp only [evT]
  rw [e1] at h
  rw [e2, bind_ok h]
  rfl
/-! ### a drawn value of another kind -/
@[reducible] def odE : List E := [(.con .non), (.con (.bl true)), (.con (.bl false)), (.con (.str (sx "1"))), (.prim .tup [(.con (.int (1)))]), (.prim .lst [(.con (.int (1)))]), (.prim .dic0 []), (.make 3 [(.con (.int (1))), (.con (.int (1)))]), (.con (.str (sx "1/2"))), (.prim .tup [])]
theorem fr11 : fr 1 1 = (1, 1) := fr_self (p := (1, 1)) ⟨(by decide : (0 : Int) < 1), by decide⟩
theorem sz_one : Sz 90 1 := by unfold Sz; exact Nat.one_lt_two_pow (by decide)
theorem mkE {m : Nat} {a b : E} {σ : G.Env} {r : G.R D} (ha : ev (ct wl m) a σ s = .ok x s) (hb : ev (ct wl m) b σ s = .ok y s) (h : makeD (ct wl m) 3 [x, y] s = r) : ev (ct wl m) (.make 3 [a, b]) σ s = r := by
  show (evs (ct wl m) [a, b] σ >>= makeD (ct wl m) 3) s = _
  rw [bind_ok (evs_cons ha (evs_cons hb evs_nil))]
  exact h
theorem od_els {σ : G.Env} (hw : 13000 < wl) : ∀ e ∈ odE, ElOk (ct wl (n + 2)) k σ (KV k) e := by
  have im : ∀ {e : E} {v : D}, (∀ s, ev (ct wl (n + 2)) e σ s = .ok v s) → v ∈ imms → ElOk (ct wl (n + 2)) k σ (KV k) e := fun h a => el_imm h fun _ => .inl a
  unfold odE
  simp only [List.forall_mem_cons]
  refine ⟨im (fun _ => ev_c) (by simp [imms]), im (fun _ => ev_c) (by simp [imms]), im (fun _ => ev_c) (by simp [imms]), im (fun _ => ev_c) (by simp [imms]), im (v := .tup [.int 1]) (fun _ => ev_pn (evs_cons ev_c evs_nil) rfl) (by simp [imms]), ?_, ?_, ?_, im (fun _ => ev_c) (by simp [imms]), im (v := .tup []) (fun _ => ev_pn evs_nil rfl) (by simp [imms]), fun _ h => nomatch h⟩
  · intro s N hp
    exact ⟨.obj s.length, s ++ [.lst [.int 1]], ev_pn (evs_cons ev_c evs_nil) ((congrFun (prim_lst _) s).trans (newL_run (by decide))), .inr (.inl ⟨_, _, rfl, by have := hp.lt; omega, at_len, .inl rfl⟩), .app hp _⟩
  · intro s N hp
    exact ⟨.obj s.length, s ++ [.dic []], ev_pn evs_nil rfl, .inr (.inl ⟨_, _, rfl, by have := hp.lt; omega, at_len, .inr rfl⟩), .app hp _⟩
  · intro s N hp
    have mk := made (wl := wl) (n := n) (s := s) (b := 90) (i := 1) (j := 1) (by decide) sz_one sz_one (by omega) (by decide)
    rw [fr11] at mk
    exact ⟨R (1, 1), s, mkE ev_c ev_c mk, .inr (.inr rfl), .refl hp⟩
theorem turn (hp : Pot k N s) (hN : N ≤ 90000) (hw : 13000 < wl) : wp (exs (ct wl (n + 5)) f39b1 [some (.obj k), v1, v2, v3, v4]) (fun f s' => ∃ w2 w3 w4, f = .nx [some (.obj k), v1, w2, w3, w4] ∧ Adv k (N + 17) s s') noX s := by
  obtain ⟨i, s1, e1, zi, a1⟩ := number (wl := wl) (n := n + 2) hp (by omega)
  obtain ⟨j, s2, e2, zj, a2⟩ := number (wl := wl) (n := n + 2) a1.pot (by omega)
  have hi : Sz 90 i := zi.mono (by decide)
  have hj : Sz 90 j := zj.mono (by decide)
  have wi : Sz 100 i := zi.mono (by decide)
  have fi1 : fr i 1 = (i, 1) := fr_self (p := (i, 1)) ⟨(by decide : (0 : Int) < 1), Int.gcd_one_right i⟩
  have mi := made (wl := wl) (n := n + 3) (s := s2) (i := i) (j := 1) (b := 90) (by decide) hi sz_one (by omega) (by decide)
  rw [fi1] at mi
  have rR : prim (ct wl (n + 5)) .repr [R (i, 1)] s2 = .ok (.str (rtx (i, 1))) s2 := prR (repr10 (p := (i, 1)) wi (sz_one.mono (by decide)))
  have ro := rtx_ok (i, 1)
  have et : (sx "Ratio(" ++ Str.ofString (toString i)) ++ sx ")" = rtx (i, 1) := (rtx1 (p := (i, 1)) rfl).symm
  obtain ⟨v, s3, e3, hv, a3⟩ := pick_ (σ := [some (.obj k), v1, some (.int i), some (.int j), v4]) (of_ (wl := wl) (n := n + 3)) kv_keeps rfl (od_els (wl := wl) (n := n + 3) hw) (by decide) a2.pot (by omega)
  have lv := kv_lt hv
  have li : D.lt s3.length (.int i) = true := rfl
  have l1 : i.natAbs.log2 < 9000 := by have := wi.log; omega
  have b1 : (Str.ofString (toString i)).length ≤ 102 := str_len wi
  have c1 := len_R
  have c3 := len_P
  have o1 : evT (ct wl (n + 5)) (.refd 0 (.make 3 [(.var 4), (.var 2)]) (.prim .tup [(.var 4), (.var 2)]) rE) [some (.obj k), v1, some (.int i), some (.int j), some v] s3 = .ok true s3 :=
    refdT_ok (x := v) (y := .int i) (mkE (ev_v rfl) (ev_v rfl) (raise4 (n := n + 3) (c4a (n := n + 3) (kv_app hv)) lv li)) (ev_pn (evs_cons (ev_v rfl) (evs_cons (ev_v rfl) evs_nil)) rfl) (rp_vi hv wi)
  have o2 : evT (ct wl (n + 5)) (.refd 0 (.make 3 [(.var 2), (.var 4)]) (.prim .tup [(.var 2), (.var 4)]) rE) [some (.obj k), v1, some (.int i), some (.int j), some v] s3 = .ok true s3 :=
    refdT_ok (x := .int i) (y := v) (mkE (ev_v rfl) (ev_v rfl) (raise4 (n := n + 3) (c4b (n := n + 3) (kv_app hv)) li lv)) (ev_pn (evs_cons (ev_v rfl) (evs_cons (ev_v rfl) evs_nil)) rfl) (rp_iv hv wi)
  have o3 : evT (ct wl (n + 5)) (.refd 0 (.make 3 [(.var 4), (.con (.int (1)))]) (.prim .tup [(.var 4), (.con (.int (1)))]) rE) [some (.obj k), v1, some (.int i), some (.int j), some v] s3 = .ok true s3 :=
    refdT_ok (x := v) (y := .int 1) (mkE (ev_v rfl) ev_c (raise4 (n := n + 3) (c4a (n := n + 3) (kv_app hv)) lv rfl)) (ev_pn (evs_cons (ev_v rfl) (evs_cons ev_c evs_nil)) rfl) (rp_vi hv (sz_one.mono (by decide)))
  have av : Adv k (N + 17) s s3 := ((a1.trans a2).trans a3).mono (by omega)
  by_cases h0 : j = 0
  · subst h0
    have o0 : evT (ct wl (n + 5)) (.refd 0 (.make 3 [(.var 2), (.var 3)]) (.prim .tup [(.var 2), (.con (.int (0)))]) rE) [some (.obj k), v1, some (.int i), some (.int 0), v4] s2 = .ok true s2 :=
      refdT_ok (x := .int i) (y := .int 0) (mkE (ev_v rfl) (ev_v rfl) (raise4 (n := n + 3) (c4c (n := n + 3)) rfl rfl)) (ev_pn (evs_cons (ev_v rfl) (evs_cons ev_c evs_nil)) rfl) (rp_ii wi (hj.mono (by decide)))
    tm_at "ws"
    rw [et]
    tm_at "ws"
    exact ⟨_, _, _, rfl, av⟩
  · have e5 := made37 (wl := wl) (n := n + 2) (s := s2) h0 hi hj hw
    tm_at "ws"
    rw [et]
    tm_at "ws"
    exact ⟨_, _, _, rfl, av⟩
theorem right_ (hp : Pot k 0 s) (hw : 13000 < wl) : ∃ (N : Nat) (s' : Store), callF T wl (n + 6) 39 [.obj k] s = .ok (.bl true) s' ∧ Adv k N s s' := by
  have key : wp (callF T wl (n + 6) 39 [.obj k]) (fun d s' => d = .bl true ∧ ∃ N, Adv k N s s') noX s := by
    have lk := hp.lt
    refine wp_fn (args := [.obj k]) (σ := [some (.obj k), none, none, none, none]) t39 rfl (by decide) rfl ?_
    tm_at "ws"
    refine ⟨by decide, ?_⟩
    refine wp_forL (fun rem σ s' => ∃ v1 v2 v3 v4, σ = [some (.obj k), v1, v2, v3, v4] ∧ rem.length ≤ 12 ∧ Adv k (17 * (12 - rem.length)) s s') ?_ ?_ _ _ _ ?_
    · rintro x xs σ s' ⟨v1, v2, v3, v4, rfl, hl, g⟩
      rw [List.length_cons] at hl g
      refine ⟨noG, asg1 ?_⟩
      refine wp_mono (turn (wl := wl) (n := n) (v1 := some x) g.pot (by omega) hw) (fun f s2 h => ?_) fun _ _ _ h => h
      obtain ⟨w2, w3, w4, rfl, g2⟩ := h
      refine ⟨_, _, _, _, rfl, by omega, ?_⟩
      rw [show 17 * (12 - (xs.length + 1)) + 17 = 17 * (12 - xs.length) by omega] at g2
      exact g.trans g2
    · rintro σ s' ⟨v1, v2, v3, v4, rfl, hl, g⟩
      refine ⟨noG, ?_⟩
      tm_at "ws"
      exact ⟨rfl, _, g.trunc lk _⟩
    · exact ⟨_, _, _, _, rfl, by decide, by rw [show (intsD 0 (Int.toNat 12), ([] : Gd)).fst.length = 12 from rfl]; exact .refl hp⟩
  obtain ⟨d, s', e, rfl, N, h⟩ := wp_ok key
  exact ⟨N, s', e, h⟩
end
theorem good : ∀ ns : List Int, ns.length ≤ 63 → (∀ z ∈ ns, PySem.Builtin.Int.intBits z ≤ 1048576) → G.Good T 20000 12 lawId ns := fun ns hn hz =>
  good_law (c := 32) (p := 29) (r := 39) (w := 6) (by decide) t40
    (fun s => cells_ok t32 ns s hn (by decide))
    (fun p s hp => pot_ok t29 (by decide) (by decide) (by decide) (by decide) (by decide) ns p s hp)
    (fun k s hp => right_ (n := 5) hp (by decide))
end K01
set_option Elab.async false
set_option linter.all false
set_option maxRecDepth 1000000
set_option maxHeartbeats 4000000
open PySem PySem.W PyProof.Rows
theorem PySem.Challenge.cw_loosemirrors_k01_ratios_made_holds : PySem.Challenge.rw_loosemirrors_k01_ratios_made.Holds := by
  w_on; o_law; k_head; (case hw => w_witness2)
  k_fill
  refine G.walk_E (l := PySem.Challenge.rw_loosemirrors_k01_ratios_made) (n := 63) (lv := 12) (wl := 20000) (fl := K01.lawId) (defs := K01.defs) (clss := K01.clss) (body := K01.body) (con := K01.con) (met := K01.met) (att := K01.att) (td := K01.td) (x := "script") rfl rfl (by kernel_rfl) (by kernel_rfl) (by kernel_rfl) rfl rfl rfl rfl rfl (by kernel_rfl) rfl (by decide) rfl ⟨rfl, by decide, by decide⟩ (by decide +kernel) (by decide +kernel) (fun w h Y => by first | exact PySem.W.kIn_of Y | exact PySem.W.km_in_of Y) ?F K01.good
  case F =>
    intro w h KX
    refine' G.facts_mk (x0 := "MirrorError") ?aD ?aI ?lk ?lkc ?cell ?code ?isB ?bind ?arg ?hvs ?hfile ?htop ?clsD ?sup ?thr ?s1 ?s2 ?s3 ?s4 ?s5 ?s6 ?s7 ?s8 ?h1 ?h2 ?h3 ?h4 ?h5 ?h6 ?h7 ?h8 ?h9 ?hL ?hT ?hD
    (case aD => k_is); (case aI => k_is); (case lk => k_is); (case lkc => k_is); (case cell => k_is); (case code => k_is); (case isB => rfl); (case bind => exact fun _ _ => rfl); (case arg => rfl); (case hvs => rfl); (case hfile => rfl); (case htop => rfl); (case clsD => kernel_rfl)
    (case sup => k_is); (case thr => k_is); (case s1 => rfl); (case s2 => rfl); (case s3 => rfl); (case s4 => rfl); (case s5 => rfl); (case s6 => rfl); (case s7 => rfl); (case s8 => rfl)
    (case h1 => kernel_rfl)
    (case h2 => kernel_rfl)
    (case h3 => kernel_rfl)
    (case h4 => kernel_rfl)
    (case h5 => kernel_rfl)
    (case h6 => kernel_rfl)
    (case h7 => kernel_rfl)
    (case h8 => kernel_rfl)
    (case h9 => kernel_rfl)
    (case hL => kernel_rfl)
    (case hT => kernel_rfl)
    case hD =>
      refine List.forall_mem_cons.mpr ⟨by refine' G.fnAt_top K01.st0 "_wall" "_wall" rfl rfl rfl rfl K01.bd0 ?a ?l ?c ?d; (case a => k_is); (case l => k_is); (case c => k_is); (case d => exact G.dfl0), ?_⟩
      refine List.forall_mem_cons.mpr ⟨by refine' G.fnAt_top K01.st1 "is_integer" "is_integer" rfl rfl rfl rfl K01.bd1 ?a ?l ?c ?d; (case a => k_is); (case l => k_is); (case c => k_is); (case d => exact G.dfl0), ?_⟩
      refine List.forall_mem_cons.mpr ⟨by refine' G.fnAt_top K01.st2 "is_whole" "is_whole" rfl rfl rfl rfl K01.bd2 ?a ?l ?c ?d; (case a => k_is); (case l => k_is); (case c => k_is); (case d => exact G.dfl0), ?_⟩
      refine List.forall_mem_cons.mpr ⟨by refine' G.fnAt_top K01.st3 "common" "common" rfl rfl rfl rfl K01.bd3 ?a ?l ?c ?d; (case a => k_is); (case l => k_is); (case c => k_is); (case d => exact G.dfl0), ?_⟩
      refine List.forall_mem_cons.mpr ⟨by refine' G.fnAt_meth K01.st4 "__init__" "Ratio.__init__" "Ratio" rfl rfl rfl rfl rfl K01.bd4 ?a ?a2 ?l ?c ?d; (case a => k_is); (case a2 => k_is); (case l => k_is); (case c => k_is); (case d => refine' G.dfl1 ?l2 ?e2; (case l2 => k_is); (case e2 => rfl)), ?_⟩
      refine List.forall_mem_cons.mpr ⟨by refine' G.fnAt_prop K01.st5 "number" "Ratio.number" "Ratio" rfl rfl rfl rfl rfl K01.bd5 ?a ?a2 ?a3 ?l ?c ?d; (case a => k_is); (case a2 => k_is); (case a3 => k_is); (case l => k_is); (case c => k_is); (case d => exact G.dfl0), ?_⟩
      refine List.forall_mem_cons.mpr ⟨by refine' G.fnAt_prop K01.st6 "under" "Ratio.under" "Ratio" rfl rfl rfl rfl rfl K01.bd6 ?a ?a2 ?a3 ?l ?c ?d; (case a => k_is); (case a2 => k_is); (case a3 => k_is); (case l => k_is); (case c => k_is); (case d => exact G.dfl0), ?_⟩
      refine List.forall_mem_cons.mpr ⟨by refine' G.fnAt_prop K01.st7 "text" "Ratio.text" "Ratio" rfl rfl rfl rfl rfl K01.bd7 ?a ?a2 ?a3 ?l ?c ?d; (case a => k_is); (case a2 => k_is); (case a3 => k_is); (case l => k_is); (case c => k_is); (case d => exact G.dfl0), ?_⟩
      refine List.forall_mem_cons.mpr ⟨by refine' G.fnAt_stat K01.st8 "of" "Ratio.of" "Ratio" rfl rfl rfl rfl rfl K01.bd8 ?a ?a2 ?a3 ?l ?c ?d; (case a => k_is); (case a2 => k_is); (case a3 => k_is); (case l => k_is); (case c => k_is); (case d => exact G.dfl0), ?_⟩
      refine List.forall_mem_cons.mpr ⟨by refine' G.fnAt_meth K01.st9 "divided" "Ratio.divided" "Ratio" rfl rfl rfl rfl rfl K01.bd9 ?a ?a2 ?l ?c ?d; (case a => k_is); (case a2 => k_is); (case l => k_is); (case c => k_is); (case d => exact G.dfl0), ?_⟩
      refine List.forall_mem_cons.mpr ⟨by refine' G.fnAt_meth K01.st10 "__repr__" "Ratio.__repr__" "Ratio" rfl rfl rfl rfl rfl K01.bd10 ?a ?a2 ?l ?c ?d; (case a => k_is); (case a2 => k_is); (case l => k_is); (case c => k_is); (case d => exact G.dfl0), ?_⟩
      refine List.forall_mem_cons.mpr ⟨by refine' G.fnAt_meth K01.st11 "__eq__" "Ratio.__eq__" "Ratio" rfl rfl rfl rfl rfl K01.bd11 ?a ?a2 ?l ?c ?d; (case a => k_is); (case a2 => k_is); (case l => k_is); (case c => k_is); (case d => exact G.dfl0), ?_⟩
      refine List.forall_mem_cons.mpr ⟨by refine' G.fnAt_meth K01.st12 "__lt__" "Ratio.__lt__" "Ratio" rfl rfl rfl rfl rfl K01.bd12 ?a ?a2 ?l ?c ?d; (case a => k_is); (case a2 => k_is); (case l => k_is); (case c => k_is); (case d => exact G.dfl0), ?_⟩
      refine List.forall_mem_cons.mpr ⟨by refine' G.fnAt_meth K01.st13 "__le__" "Ratio.__le__" "Ratio" rfl rfl rfl rfl rfl K01.bd13 ?a ?a2 ?l ?c ?d; (case a => k_is); (case a2 => k_is); (case l => k_is); (case c => k_is); (case d => exact G.dfl0), ?_⟩
      refine List.forall_mem_cons.mpr ⟨by refine' G.fnAt_meth K01.st14 "__gt__" "Ratio.__gt__" "Ratio" rfl rfl rfl rfl rfl K01.bd14 ?a ?a2 ?l ?c ?d; (case a => k_is); (case a2 => k_is); (case l => k_is); (case c => k_is); (case d => exact G.dfl0), ?_⟩
      refine List.forall_mem_cons.mpr ⟨by refine' G.fnAt_meth K01.st15 "__ge__" "Ratio.__ge__" "Ratio" rfl rfl rfl rfl rfl K01.bd15 ?a ?a2 ?l ?c ?d; (case a => k_is); (case a2 => k_is); (case l => k_is); (case c => k_is); (case d => exact G.dfl0), ?_⟩
      refine List.forall_mem_cons.mpr ⟨by refine' G.fnAt_meth K01.st16 "__neg__" "Ratio.__neg__" "Ratio" rfl rfl rfl rfl rfl K01.bd16 ?a ?a2 ?l ?c ?d; (case a => k_is); (case a2 => k_is); (case l => k_is); (case c => k_is); (case d => exact G.dfl0), ?_⟩
      refine List.forall_mem_cons.mpr ⟨by refine' G.fnAt_meth K01.st17 "__add__" "Ratio.__add__" "Ratio" rfl rfl rfl rfl rfl K01.bd17 ?a ?a2 ?l ?c ?d; (case a => k_is); (case a2 => k_is); (case l => k_is); (case c => k_is); (case d => exact G.dfl0), ?_⟩
      refine List.forall_mem_cons.mpr ⟨by refine' G.fnAt_meth K01.st18 "__radd__" "Ratio.__radd__" "Ratio" rfl rfl rfl rfl rfl K01.bd18 ?a ?a2 ?l ?c ?d; (case a => k_is); (case a2 => k_is); (case l => k_is); (case c => k_is); (case d => exact G.dfl0), ?_⟩
      refine List.forall_mem_cons.mpr ⟨by refine' G.fnAt_meth K01.st19 "__sub__" "Ratio.__sub__" "Ratio" rfl rfl rfl rfl rfl K01.bd19 ?a ?a2 ?l ?c ?d; (case a => k_is); (case a2 => k_is); (case l => k_is); (case c => k_is); (case d => exact G.dfl0), ?_⟩
      refine List.forall_mem_cons.mpr ⟨by refine' G.fnAt_meth K01.st20 "__rsub__" "Ratio.__rsub__" "Ratio" rfl rfl rfl rfl rfl K01.bd20 ?a ?a2 ?l ?c ?d; (case a => k_is); (case a2 => k_is); (case l => k_is); (case c => k_is); (case d => exact G.dfl0), ?_⟩
      refine List.forall_mem_cons.mpr ⟨by refine' G.fnAt_meth K01.st21 "__mul__" "Ratio.__mul__" "Ratio" rfl rfl rfl rfl rfl K01.bd21 ?a ?a2 ?l ?c ?d; (case a => k_is); (case a2 => k_is); (case l => k_is); (case c => k_is); (case d => exact G.dfl0), ?_⟩
      refine List.forall_mem_cons.mpr ⟨by refine' G.fnAt_meth K01.st22 "__rmul__" "Ratio.__rmul__" "Ratio" rfl rfl rfl rfl rfl K01.bd22 ?a ?a2 ?l ?c ?d; (case a => k_is); (case a2 => k_is); (case l => k_is); (case c => k_is); (case d => exact G.dfl0), ?_⟩
      refine List.forall_mem_cons.mpr ⟨by refine' G.fnAt_top K01.st23 "is_number" "is_number" rfl rfl rfl rfl K01.bd23 ?a ?l ?c ?d; (case a => k_is); (case l => k_is); (case c => k_is); (case d => exact G.dfl0), ?_⟩
      refine List.forall_mem_cons.mpr ⟨by refine' G.fnAt_top K01.st24 "as_ratio" "as_ratio" rfl rfl rfl rfl K01.bd24 ?a ?l ?c ?d; (case a => k_is); (case l => k_is); (case c => k_is); (case d => exact G.dfl0), ?_⟩
      refine List.forall_mem_cons.mpr ⟨by refine' G.fnAt_top K01.st25 "gap" "gap" rfl rfl rfl rfl K01.bd25 ?a ?l ?c ?d; (case a => k_is); (case l => k_is); (case c => k_is); (case d => exact G.dfl0), ?_⟩
      refine List.forall_mem_cons.mpr ⟨by refine' G.fnAt_top K01.st26 "joined" "joined" rfl rfl rfl rfl K01.bd26 ?a ?l ?c ?d; (case a => k_is); (case l => k_is); (case c => k_is); (case d => exact G.dfl0), ?_⟩
      refine List.forall_mem_cons.mpr ⟨by refine' G.fnAt_top K01.st27 "multiplied" "multiplied" rfl rfl rfl rfl K01.bd27 ?a ?l ?c ?d; (case a => k_is); (case l => k_is); (case c => k_is); (case d => exact G.dfl0), ?_⟩
      refine List.forall_mem_cons.mpr ⟨by refine' G.fnAt_top K01.st28 "ratio_in" "ratio_in" rfl rfl rfl rfl K01.bd28 ?a ?l ?c ?d; (case a => k_is); (case l => k_is); (case c => k_is); (case d => exact G.dfl0), ?_⟩
      refine List.forall_mem_cons.mpr ⟨by refine' G.fnAt_top K01.st29 "_law_pot" "_law_pot" rfl rfl rfl rfl K01.bd29 ?a ?l ?c ?d; (case a => k_is); (case l => k_is); (case c => k_is); (case d => exact G.dfl0), ?_⟩
      refine List.forall_mem_cons.mpr ⟨by refine' G.fnAt_top K01.st30 "_law_take" "_law_take" rfl rfl rfl rfl K01.bd30 ?a ?l ?c ?d; (case a => k_is); (case l => k_is); (case c => k_is); (case d => exact G.dfl0), ?_⟩
      refine List.forall_mem_cons.mpr ⟨by refine' G.fnAt_top K01.st31 "_law_of" "_law_of" rfl rfl rfl rfl K01.bd31 ?a ?l ?c ?d; (case a => k_is); (case l => k_is); (case c => k_is); (case d => exact G.dfl0), ?_⟩
      refine List.forall_mem_cons.mpr ⟨by refine' G.fnAt_top K01.st32 "_law_cells" "_law_cells" rfl rfl rfl rfl K01.bd32 ?a ?l ?c ?d; (case a => k_is); (case l => k_is); (case c => k_is); (case d => exact G.dfl0), ?_⟩
      refine List.forall_mem_cons.mpr ⟨by refine' G.fnAt_top K01.st33 "_law_told" "_law_told" rfl rfl rfl rfl K01.bd33 ?a ?l ?c ?d; (case a => k_is); (case l => k_is); (case c => k_is); (case d => exact G.dfl0), ?_⟩
      refine List.forall_mem_cons.mpr ⟨by refine' G.fnAt_top K01.st34 "_law_gcd" "_law_gcd" rfl rfl rfl rfl K01.bd34 ?a ?l ?c ?d; (case a => k_is); (case l => k_is); (case c => k_is); (case d => exact G.dfl0), ?_⟩
      refine List.forall_mem_cons.mpr ⟨by refine' G.fnAt_top K01.st35 "_law_fr" "_law_fr" rfl rfl rfl rfl K01.bd35 ?a ?l ?c ?d; (case a => k_is); (case l => k_is); (case c => k_is); (case d => refine' G.dfl1 ?l2 ?e2; (case l2 => k_is); (case e2 => rfl)), ?_⟩
      refine List.forall_mem_cons.mpr ⟨by refine' G.fnAt_top K01.st36 "_law_number" "_law_number" rfl rfl rfl rfl K01.bd36 ?a ?l ?c ?d; (case a => k_is); (case l => k_is); (case c => k_is); (case d => exact G.dfl0), ?_⟩
      refine List.forall_mem_cons.mpr ⟨by refine' G.fnAt_top K01.st37 "_law_is_made" "_law_is_made" rfl rfl rfl rfl K01.bd37 ?a ?l ?c ?d; (case a => k_is); (case l => k_is); (case c => k_is); (case d => exact G.dfl0), ?_⟩
      refine List.forall_mem_cons.mpr ⟨by refine' G.fnAt_top K01.st38 "_law_is_refused" "_law_is_refused" rfl rfl rfl rfl K01.bd38 ?a ?l ?c ?d; (case a => k_is); (case l => k_is); (case c => k_is); (case d => exact G.dfl0), ?_⟩
      refine List.forall_mem_cons.mpr ⟨by refine' G.fnAt_top K01.st39 "_law_right" "_law_right" rfl rfl rfl rfl K01.bd39 ?a ?l ?c ?d; (case a => k_is); (case l => k_is); (case c => k_is); (case d => exact G.dfl0), ?_⟩
      refine List.forall_mem_cons.mpr ⟨by refine' G.fnAt_top K01.st40 "law" "law" rfl rfl rfl rfl K01.bd40 ?a ?l ?c ?d; (case a => k_is); (case l => k_is); (case c => k_is); (case d => exact G.dfl0), ?_⟩
      exact fun _ h => nomatch h
