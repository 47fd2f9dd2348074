import PyProof.Rows.All
import Wide.All
import OpenK.AllK
import Wide.FinOn
import HandS.ForMost
import HandS.Exc
import HandS.CallSlots
import HandS.Wide
import HandS.TupAny
import HandS.TupMul
import HandS.Deep
import HandS.ExcOwn
import HandS.IsInst
import HandS.Conv
import HandS.SortInts
import HandS.RaiseMore
import HandS.Rev
import HandS.Style
import HandS.More
import HandS.Text
import HandS.Codes
import HandS.Iter
import HandS.Zip
import HandS.Comp
import KE.KFromBytes
import KE.KExcSuper
import HandS.Base
import HandS.Call
import HandS.ExcSuper
import HandS.ForSpec
import HandS.TryMany
import HandS.Ends
import HandS.Words
import PySem.Challenge.RW_warnedbanks_k10_whole_fractions
set_option Elab.async false
set_option linter.all false
set_option maxRecDepth 100000 -- deep
set_option maxHeartbeats 0 -- no line
/-! Dn: plain data, a small tree form of the programs, and what they evaluate to. No Python machine in sight. -/
namespace Dn

inductive D where
  | non | bl (b : Bool) | int (i : Int) | str (s : List Nat) | fn (f : Nat)
  | tup (xs : List D) | lst (xs : List D) | dic (ks vs : List D)
  | scr (xs : List D)
  | ins (c : Nat) (ids : List Nat) (vs : List D)
  | ref (l : Nat)
  deriving Inhabited, Repr

inductive LO where
  | lst (xs : List D) | dic (ks vs : List D) | ins (c : Nat) (ids : List Nat) (vs : List D)
  deriving Inhabited, Repr

abbrev Sto := List LO
abbrev Env := List (Option D)

structure Xn where
  c : Nat
  fs : List D
  deriving Inhabited, Repr

inductive R (α : Type) where
  | bad | ok (a : α) (S : Sto) | exc (x : Xn) (S : Sto)
  deriving Inhabited, Repr

def R.bind {α β : Type} (r : R α) (f : α → Sto → R β) : R β :=
  match r with
  | .bad => .bad
  | .ok a S => f a S
  | .exc x S => .exc x S
@[simp] theorem R.bind_ok {α β : Type} (a : α) (S : Sto) (f : α → Sto → R β) : (R.ok a S).bind f = f a S := rfl
@[simp] theorem R.bind_bad {α β : Type} (f : α → Sto → R β) : (R.bad : R α).bind f = .bad := rfl
@[simp] theorem R.bind_exc {α β : Type} (x : Xn) (S : Sto) (f : α → Sto → R β) : (R.exc x S : R α).bind f = .exc x S := rfl

/-- an option, as a result -/
def R.of {α : Type} (o : Option α) (S : Sto) : R α := match o with | some a => .ok a S | none => .bad
@[simp] theorem R.of_some {α : Type} (a : α) (S : Sto) : R.of (some a) S = .ok a S := rfl
@[simp] theorem R.of_none {α : Type} (S : Sto) : (R.of none S : R α) = .bad := rfl

/-- the end of a statement; xc: an exception is in the air, the names as they stand -/
inductive Fl where
  | nx (ρ : Env) | rt (d : D) | bk (ρ : Env) | ct (ρ : Env) | xc (x : Xn) (ρ : Env)
  deriving Inhabited, Repr

/-- an expression within a statement -/
def R.stm {α : Type} (r : R α) (ρ : Env) (f : α → Sto → R Fl) : R Fl :=
  match r with
  | .bad => .bad
  | .ok a S => f a S
  | .exc x S => .ok (.xc x ρ) S
@[simp] theorem R.stm_ok {α : Type} (a : α) (S : Sto) (ρ : Env) (f : α → Sto → R Fl) : (R.ok a S).stm ρ f = f a S := rfl
@[simp] theorem R.stm_bad {α : Type} (ρ : Env) (f : α → Sto → R Fl) : (R.bad : R α).stm ρ f = .bad := rfl
@[simp] theorem R.stm_exc {α : Type} (x : Xn) (S : Sto) (ρ : Env) (f : α → Sto → R Fl) : (R.exc x S : R α).stm ρ f = .ok (.xc x ρ) S := rfl

/-! ### the tree form -/
inductive Bo where | add | sub | mul | fdiv | mod | pow
  deriving DecidableEq, Repr
inductive Co where | eq | ne | lt | le | gt | ge | inn | notin | isn | notn
  deriving DecidableEq, Repr
inductive Ty where | int | bool | str | list | tuple | dict | cls (c : Nat)
  deriving DecidableEq, Repr
/-- built-in functions -/
inductive Bi where
  | len | int | tuple | list | abs | max1 | min1 | max2 | min2 | sum | all | any | sorted | sset | str | lset | dict | range1 | range2 | repr | sum2 | range3
  deriving DecidableEq, Repr
/-- methods of built-in types -/
inductive Bm where
  | append | extend | insert | pop | index | count | join | split | get1 | get2
  deriving DecidableEq, Repr
/-- targets of a for or an assignment -/
inductive T where
  | var (i : Nat) | tup (ts : List T)
  deriving Inhabited, Repr

mutual
inductive E where
  | var (i : Nat)
  | cst (d : D)
  | glob (g : Nat)
  | tup (es : List E)
  | lst (cell : Bool) (es : List E)
  | dic (cell : Bool) (ks vs : List E)
  | bin (o : Bo) (a b : E)
  | neg (a : E)
  | cmp (o : Co) (a b : E)
  | cmpo (o : Co) (a b : E)
  | chain (o p : Co) (a b c : E)
  | and (es : List E)
  | or (es : List E)
  | not (a : E)
  | ite (t : Te) (a b : E)
  | idx (a i : E)
  | slc (cell : Bool) (a : E) (lo hi : Option E)
  | rev (a : E)
  | fld (f : Nat) (a : E)
  | call (f : Nat) (args : List E)
  | calv (i : Nat) (args : List E)
  | meth (m : Nat) (o : E) (args : List E)
  | mk (c : Nat) (args : List E)
  | bi (cell : Bool) (b : Bi) (args : List E)
  | bm (m : Bm) (o : E) (args : List E)
  | isi (a : E) (ts : List Ty)
  | comp (cell : Bool) (own : List Nat) (t : T) (it : E) (cond : Option Te) (elt : E)
  | enum (a : E)
  | zip (a b : E)
  | items (a : E)
  | values (a : E)
  | val (a : E)
  | exf (i f : Nat)
  | fstr (es : List E)
  | repne (a b : E)
/-- a test -/
inductive Te where
  | val (a : E)
  | and (ts : List Te)
  | or (ts : List Te)
  | not (t : Te)
end
instance : Inhabited E := ⟨.tup []⟩
instance : Inhabited Te := ⟨.and []⟩
mutual
inductive St where
  | asg (t : T) (e : E)
  | setI (o i e : E)
  | setF (o : E) (f : Nat) (e : E)
  | aug (i : Nat) (o : Bo) (e : E)
  | augI (a i : E) (o : Bo) (e : E)
  | augF (a : E) (f : Nat) (o : Bo) (e : E)
  | exp (e : E)
  | ite (t : Te) (a b : List St)
  | whl (t : Te) (b : List St)
  | for (t : T) (it : E) (b : List St)
  | ret (e : E)
  | retN
  | rais (c : Nat) (args : List E)
  | tri (b : List St) (hs : List Hd)
  | pass | brk | cnt
inductive Hd where
  | mk (c : Nat) (x : Option Nat) (b : List St)
end
instance : Inhabited St := ⟨.pass⟩

structure FD where
  np : Nat
  nv : Nat
  body : List St
  deriving Inhabited
structure CD where
  init : Nat
  meths : List (Nat × Nat)
  fields : List Nat := []
  cell : Bool := false
  eq : Option Nat := none
  len : Option Nat := none
  deriving Inhabited
/-- an exception class: its field names, the exception classes that it is under, itself too -/
structure XD where
  ids : List Nat
  sup : List Nat
  deriving Inhabited
structure Prog where
  fns : List FD
  cls : List CD
  xcs : List XD
  globs : List D
  deriving Inhabited
structure Cx where
  P : Prog
  call : Nat → List D → Sto → R D
  w : Nat
  cur : Option Xn

/-! ### operations on data -/
abbrev line : Nat := 16777216

/-- the items of a list or a tuple -/
def seqOf (S : Sto) : D → Option (List D)
  | .lst xs => some xs
  | .scr xs => some xs
  | .tup xs => some xs
  | .ref l => match S[l]? with
    | some (.lst xs) => some xs
    | _ => none
  | _ => none
/-- the pairs of a dict -/
def dicOf (S : Sto) : D → Option (List D × List D)
  | .dic ks vs => some (ks, vs)
  | .ref l => match S[l]? with
    | some (.dic ks vs) => some (ks, vs)
    | _ => none
  | _ => none
/-- the items of a list, not of a tuple -/
def lstOf (S : Sto) : D → Option (List D)
  | .lst xs => some xs
  | .ref l => match S[l]? with
    | some (.lst xs) => some xs
    | _ => none
  | _ => none

mutual
/-- == of plain data -/
def eqB (a b : D) : Bool :=
  match a with
  | .non => match b with
    | .non => true
    | _ => false
  | .bl x => match b with
    | .bl y => x == y
    | .int j => decide ((if x then 1 else 0) = j)
    | _ => false
  | .int i => match b with
    | .bl y => decide (i = (if y then 1 else 0))
    | .int j => decide (i = j)
    | _ => false
  | .str x => match b with
    | .str y => decide (x = y)
    | _ => false
  | .tup xs => match b with
    | .tup ys => eqBs xs ys
    | _ => false
  | .lst xs => match b with
    | .lst ys => eqBs xs ys
    | _ => false
  | _ => false
def eqBs (xs ys : List D) : Bool :=
  match xs with
  | [] => match ys with
    | [] => true
    | _ => false
  | x :: xs => match ys with
    | y :: ys => eqB x y && eqBs xs ys
    | [] => false
end
mutual
/-- none, boolsD, intsD, texts, tuples and lists of such, n deep at most -/
def pd (n : Nat) : D → Bool
  | .non => true
  | .bl _ => true
  | .int _ => true
  | .str _ => true
  | .tup xs => match n with
    | 0 => false
    | n + 1 => pds n xs
  | .lst xs => match n with
    | 0 => false
    | n + 1 => pds n xs
  | _ => false
def pds (n : Nat) : List D → Bool
  | [] => true
  | x :: xs => pd n x && pds n xs
end
/-- == of plain data that are not deep -/
def eqd (a b : D) : Option Bool := if pd 60 a && pd 60 b then some (eqB a b) else none
/-- a list cell read as a value, one level -/
def rdOf (S : Sto) : D → D
  | .ref l => match S[l]? with
    | some (.lst xs) => .lst xs
    | some (.dic ks vs) => .dic ks vs
    | some (.ins c ids vs) => .ins c ids vs
    | none => .ref l
  | d => d

mutual
/-- < of plain data of one kind: intsD, texts, tuples of such -/
def ltv (a b : D) : Option Bool :=
  match a with
  | .int i => match b with
    | .int j => some (decide (i < j))
    | _ => none
  | .str x => match b with
    | .str y => some (decide (x < y))
    | _ => none
  | .tup xs => match b with
    | .tup ys => ltvs xs ys
    | _ => none
  | _ => none
def ltvs (xs ys : List D) : Option Bool :=
  match xs with
  | [] => match ys with
    | [] => some false
    | _ :: _ => some true
  | x :: xs => match ys with
    | [] => some false
    | y :: ys => (eqd x y).bind fun c => if c then ltvs xs ys else ltv x y
end

/-- x in xs -/
def inv (x : D) (xs : List D) : Option Bool := if pd 60 x && pds 60 xs then some (xs.any fun y => eqB y x) else none
/-- the first place of x -/
def idxv (x : D) : List D → Option Nat
  | [] => none
  | y :: ys => (eqd y x).bind fun b => if b then some 0 else (idxv x ys).map (· + 1)
def cntv (x : D) : List D → Option Nat
  | [] => some 0
  | y :: ys => (eqd y x).bind fun b => (cntv x ys).map fun n => if b then n + 1 else n
/-- the place of a key -/
def keyv (x : D) : List D → Option (Option Nat)
  | [] => some none
  | y :: ys => (eqd y x).bind fun b => if b then some (some 0) else (keyv x ys).map fun o => o.map (· + 1)

def ixN (n : Nat) (i : Int) : Option Nat := if 0 ≤ i then (if i < n then some i.toNat else none) else if -(n : Int) ≤ i then some (i + n).toNat else none
def atI {α : Type} (xs : List α) (i : Int) : Option α := (ixN xs.length i).bind fun j => xs[j]?
/-- a slice's end: n the length, d what stands where it is left out -/
def sIx (n d : Nat) : Option Int → Nat
  | none => d
  | some v => if v < 0 then (v + n).toNat else min v.toNat n
def cut {α : Type} (xs : List α) (lo hi : Option Int) : List α := (xs.drop (sIx xs.length 0 lo)).take (sIx xs.length xs.length hi - sIx xs.length 0 lo)

/-- i ≤ n, a test that stops early where i is not known -/
def leI (i : Int) (n : Nat) : Bool := match i with
  | .ofNat m => Nat.ble m n
  | .negSucc _ => true
/-- -n ≤ i -/
def geI (n : Nat) (i : Int) : Bool := match i with
  | .ofNat _ => true
  | .negSucc m => Nat.ble (m + 1) n
theorem leI_eq (i : Int) (n : Nat) : leI i n = decide (i ≤ (n : Int)) := by
  cases i with
  | ofNat m =>
    show Nat.ble m n = _
    rw [Bool.eq_iff_iff, Nat.ble_eq, decide_eq_true_eq]
    show m ≤ n ↔ ((m : Int) ≤ n)
    omega
  | negSucc m =>
    show true = _
    symm
    rw [decide_eq_true_eq]
    omega
theorem geI_eq (i : Int) (n : Nat) : geI n i = decide (-(n : Int) ≤ i) := by
  cases i with
  | ofNat m =>
    show true = _
    symm
    rw [decide_eq_true_eq]
    show -(n : Int) ≤ (m : Int)
    omega
  | negSucc m =>
    show Nat.ble (m + 1) n = _
    rw [Bool.eq_iff_iff, Nat.ble_eq, decide_eq_true_eq]
    omega
theorem of_leI {i : Int} {n : Nat} (h : leI i n = true) : i ≤ (n : Int) := by rw [leI_eq] at h; exact of_decide_eq_true h
theorem of_geI {i : Int} {n : Nat} (h : geI n i = true) : -(n : Int) ≤ i := by rw [geI_eq] at h; exact of_decide_eq_true h
theorem leI_of {i : Int} {n : Nat} (h : i ≤ (n : Int)) : leI i n = true := by rw [leI_eq]; exact decide_eq_true h
theorem geI_of {i : Int} {n : Nat} (h : -(n : Int) ≤ i) : geI n i = true := by rw [geI_eq]; exact decide_eq_true h
def mulOk (i j : Int) : Bool := (geI 18446744073709551615 i && leI i 18446744073709551615) || (geI 18446744073709551615 j && leI j 18446744073709551615) || decide (i.natAbs.log2 + j.natAbs.log2 < 1000000)
theorem mulOk_eq (i j : Int) : mulOk i j = (decide (-18446744073709551616 < i ∧ i < 18446744073709551616) || decide (-18446744073709551616 < j ∧ j < 18446744073709551616) || decide (i.natAbs.log2 + j.natAbs.log2 < 1000000)) := by
  have one : ∀ i : Int, (geI 18446744073709551615 i && leI i 18446744073709551615) = decide (-18446744073709551616 < i ∧ i < 18446744073709551616) := fun i => by
    rw [geI_eq, leI_eq, Bool.eq_iff_iff, Bool.and_eq_true, decide_eq_true_eq, decide_eq_true_eq, decide_eq_true_eq]
    omega
  unfold mulOk
  rw [one, one]
def divOk (j : Int) : Bool := decide (0 < j) && (leI j 1073741823 || decide (j.natAbs.log2 < 9000))
theorem divOk_eq (j : Int) : divOk j = (decide (0 < j) && (decide (j < 1073741824) || decide (j.natAbs.log2 < 9000))) := by
  have one : leI j 1073741823 = decide (j < 1073741824) := by
    rw [leI_eq, Bool.eq_iff_iff, decide_eq_true_eq, decide_eq_true_eq]
    omega
  unfold divOk
  rw [one]

def bAdd (S : Sto) (x y : D) : Option D :=
  match x, y with
  | .int i, .int j => some (.int (i + j))
  | .str a, .str b => if a.length + b.length ≤ line then some (.str (a ++ b)) else none
  | .tup a, .tup b => if a.length + b.length ≤ line then some (.tup (a ++ b)) else none
  | a, b => match lstOf S a, lstOf S b with
    | some xs, some ys => if xs.length + ys.length ≤ line then some (.lst (xs ++ ys)) else none
    | _, _ => none
def bSub (x y : D) : Option D :=
  match x, y with
  | .int i, .int j => some (.int (i - j))
  | _, _ => none
def bMul (S : Sto) (x y : D) : Option D :=
  match x, y with
  | .int i, .int j => if mulOk i j then some (.int (i * j)) else none
  | .tup a, .int k => if a ≠ [] ∧ a.length ≤ 1000 ∧ 2 ≤ k ∧ k ≤ 1000 then some (.tup (List.replicate k.toNat a).flatten) else none
  | a, .int k => match lstOf S a with
    | some xs => if xs.length * k.toNat ≤ line ∧ k < 9223372036854775808 ∧ -9223372036854775808 ≤ k then some (.lst (List.replicate k.toNat xs).flatten) else none
    | none => none
  | _, _ => none
def bDiv (x y : D) : Option D :=
  match x, y with
  | .int i, .int j => if divOk j then some (.int (i / j)) else none
  | _, _ => none
def bMod (x y : D) : Option D :=
  match x, y with
  | .int i, .int j => if 0 < j then some (.int (i % j)) else none
  | _, _ => none
def bPow (x y : D) : Option D :=
  match x, y with
  | .int i, .int j => if 0 ≤ j ∧ j ≤ 1000000 ∧ i.natAbs < 18446744073709551616 then some (.int (i ^ j.toNat)) else none
  | _, _ => none
def binop (S : Sto) (o : Bo) (x y : D) : Option D :=
  match o with
  | .add => bAdd S x y
  | .sub => bSub x y
  | .mul => bMul S x y
  | .fdiv => bDiv x y
  | .mod => bMod x y
  | .pow => bPow x y

def intsD : List D → Option (List Int)
  | [] => some []
  | .int i :: r => (intsD r).map (i :: ·)
  | _ => none
def boolsD : List D → Option (List Bool)
  | [] => some []
  | .bl i :: r => (boolsD r).map (i :: ·)
  | _ => none
def strsD : List D → Option (List (List Nat))
  | [] => some []
  | .str i :: r => (strsD r).map (i :: ·)
  | _ => none

def lexI : List Int → List Int → Bool
  | [], [] => false
  | [], _ :: _ => true
  | _ :: _, [] => false
  | x :: xs, y :: ys => if x = y then lexI xs ys else decide (x < y)
def cLt (x y : D) : Option Bool :=
  match x, y with
  | .int i, .int j => some (decide (i < j))
  | .str i, .str j => some (decide (i < j))
  | .tup xs, .tup ys => match intsD xs, intsD ys with
    | some ms, some ns => some (lexI ms ns)
    | _, _ => none
  | _, _ => none
def cGt (x y : D) : Option Bool :=
  match x with
  | .tup _ => none
  | _ => cLt y x
def cLe (x y : D) : Option Bool :=
  match x, y with
  | .int i, .int j => some (decide (i ≤ j))
  | .str i, .str j => some (decide (i ≤ j))
  | _, _ => none
def cIn (S : Sto) (x y : D) : Option Bool :=
  match y with
  | .str s => match x with
    | .str [c] => some (decide (c ∈ s))
    | _ => none
  | y => (seqOf S y).bind fun xs => inv (rdOf S x) xs
def cNon (x : D) : Bool :=
  match x with
  | .non => true
  | _ => false
/-- a comparison's answer; == and != of instances are not here -/
def cmpop (S : Sto) (o : Co) (x y : D) : Option Bool :=
  match o with
  | .eq => eqd (rdOf S x) (rdOf S y)
  | .ne => (eqd (rdOf S x) (rdOf S y)).map (!·)
  | .lt => cLt x y
  | .gt => cGt x y
  | .le => cLe x y
  | .ge => cLe y x
  | .inn => cIn S x y
  | .notin => (cIn S x y).map (!·)
  | .isn => if cNon y then some (cNon x) else none
  | .notn => if cNon y then some (!cNon x) else none

/-- the truth of a value -/
def truth (S : Sto) : D → Option Bool
  | .bl b => some b
  | .non => some false
  | .int i => some (i != 0)
  | .str s => if s.length ≤ line then some (!s.isEmpty) else none
  | .tup xs => some (!xs.isEmpty)
  | .lst xs => some (!xs.isEmpty)
  | .ref l => match S[l]? with
    | some (.lst xs) => some (!xs.isEmpty)
    | _ => none
  | _ => none

/-- the kind of a value: none, or a type -/
inductive Kd where
  | non | ty (t : Ty)
  deriving DecidableEq
def kdOf (P : Prog) (S : Sto) (d : D) : Option Kd :=
  match d with
  | .non => some .non
  | .bl _ => some (.ty .bool)
  | .int _ => some (.ty .int)
  | .str _ => some (.ty .str)
  | .tup _ => some (.ty .tuple)
  | .lst _ => some (.ty .list)
  | .scr _ => some (.ty .list)
  | .dic _ _ => some (.ty .dict)
  | .ins c _ _ => if c < P.cls.length then some (.ty (.cls c)) else none
  | .ref l => match S[l]? with
    | some (.lst _) => some (.ty .list)
    | some (.dic _ _) => some (.ty .dict)
    | some (.ins c _ _) => if c < P.cls.length then some (.ty (.cls c)) else none
    | none => none
  | .fn _ => none
def subK (k : Kd) (t : Ty) : Bool :=
  match k with
  | .non => false
  | .ty .bool => decide (t = .bool) || decide (t = .int)
  | .ty a => decide (a = t)
def isTys (P : Prog) (S : Sto) (d : D) (ts : List Ty) : Option Bool := (kdOf P S d).map fun k => ts.any (subK k)

/-- the greatest by <: the first of equals -/
def bestv (lt : D → D → Option Bool) : D → List D → Option D
  | b, [] => some b
  | b, x :: xs => (lt b x).bind fun c => bestv lt (if c then x else b) xs
/-- put in behind all that are not greater -/
def insv (x : D) : List D → Option (List D)
  | [] => some [x]
  | y :: ys => (ltv x y).bind fun c => if c then some (x :: y :: ys) else (insv x ys).map (y :: ·)
def sortv : List D → Option (List D)
  | [] => some []
  | x :: xs => (sortv xs).bind (insv x)
/-- each once -/
def onlyv : List D → Option (List D)
  | [] => some []
  | x :: xs => (onlyv xs).bind fun r => (inv x r).map fun b => if b then r else x :: r

def intStr (i : Int) : List Nat := (toString i).toList.map Char.toNat

mutual
/-- no cell from n on -/
def lt (n : Nat) : D → Bool
  | .tup xs => lts n xs
  | .lst xs => lts n xs
  | .scr xs => lts n xs
  | .dic ks vs => lts n ks && lts n vs
  | .ins _ _ vs => lts n vs
  | .ref l => decide (l < n)
  | _ => true
def lts (n : Nat) : List D → Bool
  | [] => true
  | x :: xs => lt n x && lts n xs
end
def LO.lt (n : Nat) : LO → Bool
  | .lst xs => lts n xs
  | .dic ks vs => lts n ks && lts n vs
  | .ins _ _ vs => lts n vs

/-- a new cell's list as a value -/
def frz1 (S : Sto) (n : Nat) (d : D) : Option D :=
  if lt n d then some d else match d with
  | .ref l => match S[l]? with
    | some (.lst xs) => if lts n xs then some (.lst xs) else none
    | some (.dic ks vs) => if lts n ks && lts n vs then some (.dic ks vs) else none
    | _ => none
  | _ => none
def frz1s (S : Sto) (n : Nat) : List D → Option (List D)
  | [] => some []
  | x :: xs => (frz1 S n x).bind fun y => (frz1s S n xs).map (y :: ·)
def frz2 (S : Sto) (n : Nat) (d : D) : Option D :=
  if lt n d then some d else match d with
  | .ref l => match S[l]? with
    | some (.lst xs) => (frz1s S n xs).map .lst
    | some (.dic ks vs) => if lts n ks then (frz1s S n vs).map (.dic ks) else none
    | _ => none
  | .tup xs => (frz1s S n xs).map .tup
  | _ => none

/-- a call's end: n the cells ahead of it -/
def fin (n : Nat) (d : D) (S : Sto) : R D :=
  if (S.take n).all (LO.lt n) then
    match frz2 S n d with
    | some e => .ok e (S.take n)
    | none => .ok d S
  else .ok d S
def finX (n : Nat) (x : Xn) (S : Sto) : R D :=
  if (S.take n).all (LO.lt n) && lts n x.fs then .exc x (S.take n) else .exc x S

def setL (S : Sto) (l : Nat) (xs : List D) : Sto := S.set l (.lst xs)

/-- putF of ids -/
def putId (f : Nat) (v : D) : List Nat → List D → List Nat × List D
  | i :: is, x :: xs => if i = f then (i :: is, v :: xs) else let r := putId f v is xs; (i :: r.1, x :: r.2)
  | _, _ => ([f], [v])
def getId (f : Nat) : List Nat → List D → Option D
  | i :: is, x :: xs => if i = f then some x else getId f is xs
  | _, _ => none

/-- a list that a built-in makes: a value, or a cell of its own -/
def mkL (cell : Bool) (xs : List D) (S : Sto) : R D := if cell then .ok (.ref S.length) (S ++ [.lst xs]) else .ok (.lst xs) S
def mkD (cell : Bool) (ks vs : List D) (S : Sto) : R D := if cell then .ok (.ref S.length) (S ++ [.dic ks vs]) else .ok (.dic ks vs) S

/-- x[l:h] -/
def opSl (cell : Bool) (x : D) (l h : Option Int) (S : Sto) : R D :=
  match x with
  | .str s => if s.length ≤ line then .ok (.str (cut s l h)) S else .bad
  | .tup xs => .ok (.tup (cut xs l h)) S
  | x => match lstOf S x with
    | some xs => mkL cell (cut xs l h) S
    | none => .bad
/-- d[k] = v, the pairs -/
def putK (k v : D) (ks vs : List D) : Option (List D × List D) :=
  (keyv k ks).map fun o => match o with
    | some j => (ks, vs.set j v)
    | none => (ks ++ [k], vs ++ [v])
def pairsD : List D → Option (List D × List D)
  | [] => some ([], [])
  | .tup [k, v] :: r => (pairsD r).map fun p => (k :: p.1, v :: p.2)
  | _ => none
def mergeD : List D → List D → List D × List D → Option (List D × List D)
  | k :: ks, v :: vs, p => (putK k v p.1 p.2).bind (mergeD ks vs)
  | _, _, p => some p

def digits (s : List Nat) : Bool := !s.isEmpty && s.all fun c => decide (48 ≤ c) && decide (c ≤ 57)
def numOf (s : List Nat) : Int := s.foldl (fun (a : Int) (c : Nat) => a * 10 + ((c : Int) - 48)) 0

def joinS (sep : List Nat) : List (List Nat) → List Nat
  | [] => []
  | [x] => x
  | x :: xs => x ++ sep ++ joinS sep xs
/-- text.split(one sign) -/
def splitS (c : Nat) : List Nat → List (List Nat)
  | [] => [[]]
  | x :: xs => if x = c then [] :: splitS c xs else match splitS c xs with
    | [] => [[x]]
    | w :: ws => (x :: w) :: ws

def rangeD (lo hi : Int) : List D := (List.range (hi - lo).toNat).map fun k => .int (lo + (k : Nat))
def rangeD3 (lo hi st : Int) : List D := (List.range (((hi - lo) + st - 1) / st).toNat).map fun k => .int (lo + (k : Nat) * st)
def rgOk (i : Int) : Bool := geI 4611686018427387904 i && leI i 4611686018427387903
theorem rgOk_eq (i : Int) : rgOk i = decide (-4611686018427387904 ≤ i ∧ i < 4611686018427387904) := by
  unfold rgOk
  rw [geI_eq, leI_eq, Bool.eq_iff_iff, Bool.and_eq_true, decide_eq_true_eq, decide_eq_true_eq, decide_eq_true_eq]
  omega

def fLen (S : Sto) (d : D) : Option Int :=
  match d with
  | .str s => if s.length ≤ line then some s.length else none
  | .dic ks _ => some ks.length
  | .ref l => match S[l]? with
    | some (.lst xs) => some xs.length
    | some (.dic ks _) => some ks.length
    | _ => none
  | d => (seqOf S d).map fun xs => (xs.length : Int)
def fInt (d : D) : Option Int :=
  match d with
  | .int i => some i
  | .bl b => some (if b then 1 else 0)
  | _ => none
def allInt : List D → Bool
  | [] => true
  | .int _ :: r => allInt r
  | _ => false
def maxI : Int → List Int → Int
  | b, [] => b
  | b, x :: xs => maxI (if b < x then x else b) xs
def minI : Int → List Int → Int
  | b, [] => b
  | b, x :: xs => minI (if x < b then x else b) xs
/-- a sequence, not a tuple -/
def lsqOf (S : Sto) (d : D) : Option (List D) :=
  match d with
  | .tup _ => none
  | d => seqOf S d
def fMax (S : Sto) (d : D) : Option D :=
  match (lsqOf S d).bind intsD with
  | some (n :: ns) => some (.int (maxI n ns))
  | _ => none
def fMin (S : Sto) (d : D) : Option D :=
  match (lsqOf S d).bind intsD with
  | some (n :: ns) => some (.int (minI n ns))
  | _ => none
def f2 (f : Int → Int → Int) (ds : List D) : Option D :=
  match ds with
  | [.int i, .int j] => some (.int (f i j))
  | _ => none
def max2 (i j : Int) : Int := if i < j then j else i
def min2 (i j : Int) : Int := if j < i then j else i
def f1 (f : D → Option D) (ds : List D) : Option D :=
  match ds with
  | [d] => f d
  | _ => none
def l1 (cell : Bool) (f : D → Option (List D)) (ds : List D) (S : Sto) : R D :=
  match ds with
  | [d] => match f d with
    | some xs => mkL cell xs S
    | none => .bad
  | _ => .bad
def fStr (d : D) : Option D :=
  match d with
  | .int i => if i.natAbs.log2 < 1900 then some (.str (intStr i)) else none
  | .str s => some (.str s)
  | _ => none
/-- in order -/
def insI (x : Int) : List Int → List Int
  | [] => [x]
  | y :: ys => if x ≤ y then x :: y :: ys else y :: insI x ys
def sortI : List Int → List Int
  | [] => []
  | x :: xs => insI x (sortI xs)
def fSorted (S : Sto) (d : D) : Option (List D) := ((lsqOf S d).bind intsD).map fun ns => (sortI ns).map .int
/-- what a range walks -/
def rng (b : Bi) (ds : List D) : Option (List D) :=
  match b with
  | .range1 => match ds with
    | [.int n] => if rgOk n && leI n 16777216 then some (rangeD 0 n) else none
    | _ => none
  | .range2 => match ds with
    | [.int a, .int n] => if rgOk a && rgOk n && leI (n - a) 16777216 then some (rangeD a n) else none
    | _ => none
  | .range3 => match ds with
    | [.int a, .int n, .int st] => if rgOk a && rgOk n && decide (0 < st) && leI st 999999 && leI (n - a) 16777216 then some (rangeD3 a n st) else none
    | _ => none
  | _ => none
def bi (cx : Cx) (cell : Bool) (b : Bi) (ds : List D) (S : Sto) : R D :=
  match b with
  | .len => R.of (f1 (fun d => (fLen S d).map .int) ds) S
  | .int => R.of (f1 (fun d => (fInt d).map .int) ds) S
  | .tuple => R.of (f1 (fun d => (seqOf S d).map .tup) ds) S
  | .list => l1 cell (seqOf S) ds S
  | .abs => R.of (f1 (fun d => match d with | .int i => some (.int (if i < 0 then -i else i)) | _ => none) ds) S
  | .max1 => R.of (f1 (fMax S) ds) S
  | .min1 => R.of (f1 (fMin S) ds) S
  | .max2 => R.of (f2 max2 ds) S
  | .min2 => R.of (f2 min2 ds) S
  | .sum => R.of (f1 (fun d => ((lsqOf S d).bind intsD).map fun ns => .int ns.sum) ds) S
  | .all => R.of (f1 (fun d => ((lsqOf S d).bind boolsD).map fun bs => .bl (bs.all id)) ds) S
  | .any => R.of (f1 (fun d => ((lsqOf S d).bind boolsD).map fun bs => .bl (bs.any id)) ds) S
  | .sorted => l1 cell (fSorted S) ds S
  | .str => R.of (f1 fStr ds) S
  | .range1 => match rng .range1 ds with
    | some xs => mkL cell xs S
    | none => .bad
  | .range2 => match rng .range2 ds with
    | some xs => mkL cell xs S
    | none => .bad
  | .range3 => match rng .range3 ds with
    | some xs => mkL cell xs S
    | none => .bad
  | _ => .bad

/-- a list that may be changed: its cell, its items -/
def refL (S : Sto) (o : D) : Option (Nat × List D) :=
  match o with
  | .ref l => match S[l]? with
    | some (.lst xs) => some (l, xs)
    | _ => none
  | _ => none
def bAppend (o : D) (args : List D) (S : Sto) : R D :=
  match refL S o with
  | some p => match args with
    | [x] => if p.2.length < line then .ok .non (setL S p.1 (p.2 ++ [x])) else .bad
    | _ => .bad
  | none => .bad
def bExtend (o : D) (args : List D) (S : Sto) : R D :=
  match refL S o with
  | some p => match args with
    | [y] => match refL S y with
      | some q => if p.2.length + q.2.length ≤ line then .ok .non (setL S p.1 (p.2 ++ q.2)) else .bad
      | none => match y with
        | .lst ys => if p.2.length + ys.length ≤ line then .ok .non (setL S p.1 (p.2 ++ ys)) else .bad
        | _ => .bad
    | _ => .bad
  | none => .bad
def bInsert (o : D) (args : List D) (S : Sto) : R D :=
  match refL S o with
  | some p => match args with
    | [.int i, x] => if p.2.length < line ∧ 0 ≤ i ∧ i < 9223372036854775808 then .ok .non (setL S p.1 (p.2.take i.toNat ++ [x] ++ p.2.drop i.toNat)) else .bad
    | _ => .bad
  | none => .bad
def bPop (o : D) (args : List D) (S : Sto) : R D :=
  match refL S o with
  | some p => match args with
    | [] => match p.2[p.2.length - 1]? with
      | some y => .ok y (setL S p.1 p.2.dropLast)
      | none => .bad
    | _ => .bad
  | none => .bad
def bm (m : Bm) (o : D) (args : List D) (S : Sto) : R D :=
  match m with
  | .append => bAppend o args S
  | .extend => bExtend o args S
  | .insert => bInsert o args S
  | .pop => bPop o args S
  | _ => .bad

/-- o[i] -/
def getI (S : Sto) (o i : D) : Option D :=
  match o, i with
  | .str s, .int i => if s.length ≤ line then (atI s i).map fun c => .str [c] else none
  | .dic ks vs, k => none
  | .ref l, k => match S[l]? with
    | some (.dic ks vs) => none
    | some (.lst xs) => match k with
      | .int i => atI xs i
      | _ => none
    | _ => none
  | o, .int i => (seqOf S o).bind fun xs => atI xs i
  | _, _ => none
def setI (S : Sto) (o i v : D) : Option Sto :=
  match o with
  | .ref l => match S[l]? with
    | some (.lst xs) => match i with
      | .int i => (ixN xs.length i).map fun j => setL S l (xs.set j v)
      | _ => none
    | _ => none
  | _ => none
def hasF (P : Prog) (c f : Nat) : Bool :=
  match P.cls[c]? with
  | some cd => cd.fields.contains f
  | none => false
def getF (P : Prog) (S : Sto) (o : D) (f : Nat) : Option D :=
  match o with
  | .ins c ids vs => if hasF P c f then getId f ids vs else none
  | .ref l => match S[l]? with
    | some (.ins c ids vs) => if hasF P c f then getId f ids vs else none
    | _ => none
  | _ => none
def setF (P : Prog) (S : Sto) (o : D) (f : Nat) (v : D) : Option Sto :=
  match o with
  | .ref l => match S[l]? with
    | some (.ins c ids vs) => if hasF P c f && decide (ids.length < 1000) then some (S.set l (.ins c (putId f v ids vs).1 (putId f v ids vs).2)) else none
    | _ => none
  | _ => none
def clsOf (S : Sto) (o : D) : Option Nat :=
  match o with
  | .ins c _ _ => some c
  | .ref l => match S[l]? with
    | some (.ins c _ _) => some c
    | _ => none
  | _ => none
def methOf (P : Prog) (S : Sto) (o : D) (m : Nat) : Option Nat := (clsOf S o).bind fun c => (P.cls[c]?).bind fun cd => cd.meths.lookup m
/-- no field has the method's name -/
def freeOf (S : Sto) (o : D) (m : Nat) : Bool :=
  match o with
  | .ins _ ids _ => !ids.contains m
  | .ref l => match S[l]? with
    | some (.ins _ ids _) => !ids.contains m
    | _ => false
  | _ => false
/-- C(..) -/
def mkC (cx : Cx) (c : Nat) (args : List D) (S : Sto) : R D :=
  match cx.P.cls[c]? with
  | none => .bad
  | some cd => match cx.call cd.init (.ref S.length :: args) (S ++ [.ins c [] []]) with
    | .bad => .bad
    | .exc x S' => finX S.length x S'
    | .ok r S' => match r with
      | .non => if cd.cell then .ok (.ref S.length) S' else match S'[S.length]? with
        | some (.ins c' ids vs) => if lts S.length vs && (S'.take S.length).all (LO.lt S.length) then .ok (.ins c' ids vs) (S'.take S.length) else .bad
        | _ => .bad
      | _ => .bad
/-- the slots of a comprehension's own names forgotten -/
def wipe (ρ : Env) : List Nat → Env
  | [] => ρ
  | v :: vs => (wipe ρ vs).set v none

mutual
def tgt (t : T) (d : D) (ρ : Env) : Option Env :=
  match t with
  | .var i => some (ρ.set i (some d))
  | .tup ts => match d with
    | .tup ds => tgts ts ds ρ
    | _ => none
def tgts (ts : List T) (ds : List D) (ρ : Env) : Option Env :=
  match ts with
  | [] => match ds with
    | [] => some ρ
    | _ => none
  | t :: ts => match ds with
    | d :: ds => (tgt t d ρ).bind fun ρ => tgts ts ds ρ
    | [] => none
end

/-- what a loop walks: values, or a cell with so many items (en: each with its place) -/
inductive Src where
  | vals (xs : List D) | cell (en : Bool) (l n : Nat)
/-- the item of a cell's turn -/
def itm (en : Bool) (i : Nat) (x : D) : D := if en then .tup [.int i, x] else x
def enumD (k : Nat) : List D → List D
  | [] => []
  | x :: xs => .tup [.int k, x] :: enumD (k + 1) xs
def zipD : List D → List D → List D
  | x :: xs, y :: ys => .tup [x, y] :: zipD xs ys
  | _, _ => []
def consO (o : Option D) (ys : List D) : List D := match o with
  | some y => y :: ys
  | none => ys
/-- a comprehension over values: f gives the element, or none where the test fails -/
def colV (f : D → Sto → R (Option D)) : List D → Sto → R (List D)
  | [], S => .ok [] S
  | x :: xs, S => (f x S).bind fun o S => (colV f xs S).bind fun ys S => .ok (consO o ys) S
/-- over a cell: item n - k is read at its turn; the list must be as long at the end -/
def colC (f : D → Sto → R (Option D)) (en : Bool) (l n : Nat) : Nat → Sto → R (List D)
  | 0, S => match S[l]? with
    | some (.lst xs) => if xs.length = n then .ok [] S else .bad
    | _ => .bad
  | k + 1, S => match S[l]? with
    | some (.lst xs) => match xs[n - (k + 1)]? with
      | some x => (f (itm en (n - (k + 1)) x) S).bind fun o S => (colC f en l n k S).bind fun ys S => .ok (consO o ys) S
      | none => .bad
    | _ => .bad
def col (f : D → Sto → R (Option D)) (s : Src) (S : Sto) : R (List D) :=
  match s with
  | .vals xs => colV f xs S
  | .cell en l n => colC f en l n n S

def forV (f : D → Env → Sto → R Fl) : List D → Env → Sto → R Fl
  | [], ρ, S => .ok (.nx ρ) S
  | x :: xs, ρ, S => (f x ρ S).bind fun r S => match r with
    | .nx ρ => forV f xs ρ S
    | .ct ρ => forV f xs ρ S
    | .bk ρ => .ok (.nx ρ) S
    | .rt d => .ok (.rt d) S
    | .xc x ρ => .ok (.xc x ρ) S
def forC (f : D → Env → Sto → R Fl) (en : Bool) (l n : Nat) : Nat → Env → Sto → R Fl
  | 0, ρ, S => match S[l]? with
    | some (.lst xs) => if xs.length = n then .ok (.nx ρ) S else .bad
    | _ => .bad
  | k + 1, ρ, S => match S[l]? with
    | some (.lst xs) => match xs[n - (k + 1)]? with
      | some x => (f (itm en (n - (k + 1)) x) ρ S).bind fun r S => match r with
        | .nx ρ => forC f en l n k ρ S
        | .ct ρ => forC f en l n k ρ S
        | .bk ρ => .ok (.nx ρ) S
        | .rt d => .ok (.rt d) S
        | .xc x ρ => .ok (.xc x ρ) S
      | none => .bad
    | _ => .bad
def forS (f : D → Env → Sto → R Fl) (s : Src) (ρ : Env) (S : Sto) : R Fl :=
  match s with
  | .vals xs => forV f xs ρ S
  | .cell en l n => forC f en l n n ρ S
def whl (t : Env → Sto → R Bool) (b : Env → Sto → R Fl) : Nat → Env → Sto → R Fl
  | 0, _, _ => .bad
  | n + 1, ρ, S => (t ρ S).stm ρ fun c S => if c then (b ρ S).bind fun r S => match r with
    | .nx ρ => whl t b n ρ S
    | .ct ρ => whl t b n ρ S
    | .bk ρ => .ok (.nx ρ) S
    | .rt d => .ok (.rt d) S
    | .xc x ρ => .ok (.xc x ρ) S
    else .ok (.nx ρ) S

/-- what stands to be walked, of a value -/
def srcOf (S : Sto) : D → Option Src
  | .lst xs => some (.vals xs)
  | .scr xs => some (.vals xs)
  | .tup xs => some (.vals xs)
  | .str s => if s.length ≤ line then some (.vals (s.map fun c => .str [c])) else none
  | .ref l => match S[l]? with
    | some (.lst xs) => some (.cell false l xs.length)
    | _ => none
  | _ => none

/-- enumerate of a list; zip of two lists, of two tuples -/
def enumOf (S : Sto) (x : D) : Option Src :=
  match x with
  | .tup _ => none
  | .str _ => none
  | x => (srcOf S x).map fun s => match s with
    | .vals xs => .vals (enumD 0 xs)
    | .cell _ l n => .cell true l n
def zipOf (S : Sto) (x y : D) : Option Src :=
  match x, y with
  | .tup xs, .tup ys => some (.vals (zipD xs ys))
  | .tup _, _ => none
  | _, .tup _ => none
  | .ref _, _ => none
  | _, .ref _ => none
  | x, y => (seqOf S x).bind fun xs => (seqOf S y).map fun ys => .vals (zipD xs ys)
/-- the clause's name holds no value of ours -/
def unO (n : Option Nat) (ρ : Env) : Env := match n with
  | some i => ρ.set i none
  | none => ρ

/-- == and != of instances go by the class's own def -/
def cmpx (cx : Cx) (o : Co) (x y : D) (S : Sto) : R Bool :=
  match clsOf S x with
  | some c => match (cx.P.cls[c]?).bind (·.eq) with
    | some f => match o with
      | .eq => (cx.call f [x, y] S).bind fun r S => match r with
        | .bl b => .ok b S
        | _ => .bad
      | .ne => (cx.call f [x, y] S).bind fun r S => match r with
        | .bl b => .ok (!b) S
        | _ => .bad
      | .isn => R.of (cmpop S o x y) S
      | .notn => R.of (cmpop S o x y) S
      | _ => .bad
    | none => match o with
      | .isn => R.of (cmpop S o x y) S
      | .notn => R.of (cmpop S o x y) S
      | _ => .bad
  | none => R.of (cmpop S o x y) S
/-- an exception out of a comprehension is not served -/
def R.nox {α : Type} : R α → R α
  | .ok a S => .ok a S
  | _ => .bad
@[simp] theorem R.nox_ok {α : Type} (a : α) (S : Sto) : (R.ok a S).nox = .ok a S := rfl
def fstrs : List D → Option (List Nat)
  | [] => some []
  | .str s :: r => (fstrs r).map (s ++ ·)
  | .int i :: r => if i.natAbs.log2 < 1900 then (fstrs r).map (intStr i ++ ·) else none
  | _ => none
mutual
/-- the very same plain data -/
def same : D → D → Bool
  | .non, .non => true
  | .bl a, .bl b => a == b
  | .int a, .int b => a == b
  | .str a, .str b => a == b
  | .tup a, .tup b => sames a b
  | .lst a, .lst b => sames a b
  | _, _ => false
def sames : List D → List D → Bool
  | [], [] => true
  | a :: as, b :: bs => same a b && sames as bs
  | _, _ => false
end
mutual
/-- what repr is known to show -/
def shw : D → Bool
  | .int i => decide (i.natAbs.log2 < 1920)
  | .tup xs => shws xs
  | .lst xs => shws xs
  | _ => true
def shws : List D → Bool
  | [] => true
  | x :: xs => shw x && shws xs
end
mutual
def blk : D → Nat
  | .str s => s.length
  | .tup xs => blks xs
  | .lst xs => blks xs
  | _ => 0
def blks : List D → Nat
  | [] => 0
  | x :: xs => blk x + 1 + blks xs
end
def reprOk (d : D) : Bool := pd 60 d && shw d && decide (blk d ≤ 8000)
/-- the truth of a value that comes -/
def tru (r : R D) : R Bool := r.bind fun x S => R.of (truth S x) S

/-! ### evaluation -/
mutual
def ev (cx : Cx) : E → Env → Sto → R D
  | .var i, ρ, S => match ρ[i]? with
    | some (some d) => .ok d S
    | _ => .bad
  | .cst d, _, S => .ok d S
  | .glob g, _, S => R.of cx.P.globs[g]? S
  | .tup es, ρ, S => (evs cx es ρ S).bind fun ds S => .ok (.tup ds) S
  | .lst cell es, ρ, S => (evs cx es ρ S).bind fun ds S => mkL cell ds S
  | .dic cell ks vs, ρ, S => (evs cx ks ρ S).bind fun ks S => (evs cx vs ρ S).bind fun vs S => match mergeD ks vs ([], []) with
    | some p => mkD cell p.1 p.2 S
    | none => .bad
  | .bin o a b, ρ, S => (ev cx a ρ S).bind fun x S => (ev cx b ρ S).bind fun y S => R.of (binop S o x y) S
  | .neg a, ρ, S => (ev cx a ρ S).bind fun x S => match x with
    | .int i => .ok (.int (-i)) S
    | _ => .bad
  | .cmp o a b, ρ, S => (ev cx a ρ S).bind fun x S => (ev cx b ρ S).bind fun y S => (R.of (cmpop S o x y) S).bind fun c S => .ok (.bl c) S
  | .cmpo o a b, ρ, S => (ev cx a ρ S).bind fun x S => (ev cx b ρ S).bind fun y S => (cmpx cx o x y S).bind fun c S => .ok (.bl c) S
  | .chain o p a b c, ρ, S => (ev cx a ρ S).bind fun x S => (ev cx b ρ S).bind fun y S => (R.of (cmpop S o x y) S).bind fun t S =>
      if t then (ev cx c ρ S).bind fun z S => (R.of (cmpop S p y z) S).bind fun t S => .ok (.bl t) S else .ok (.bl false) S
  | .and es, ρ, S => evAnd cx es ρ S
  | .or es, ρ, S => evOr cx es ρ S
  | .not a, ρ, S => (ev cx a ρ S).bind fun x S => match x with
    | .bl b => .ok (.bl (!b)) S
    | _ => .bad
  | .ite t a b, ρ, S => (evt cx t ρ S).bind fun c S => if c then ev cx a ρ S else ev cx b ρ S
  | .idx a i, ρ, S => (ev cx a ρ S).bind fun x S => (ev cx i ρ S).bind fun y S => R.of (getI S x y) S
  | .slc cell a lo hi, ρ, S => (ev cx a ρ S).bind fun x S => (evo cx lo ρ S).bind fun l S => (evo cx hi ρ S).bind fun h S => opSl cell x l h S
  | .rev a, ρ, S => (ev cx a ρ S).bind fun x S => match x with
    | .tup xs => .ok (.tup xs.reverse) S
    | x => match lstOf S x with
      | some xs => .ok (.lst xs.reverse) S
      | none => .bad
  | .fld f a, ρ, S => (ev cx a ρ S).bind fun x S => R.of (getF cx.P S x f) S
  | .call f args, ρ, S => (evs cx args ρ S).bind fun ds S => cx.call f ds S
  | .calv i args, ρ, S => (evs cx args ρ S).bind fun ds S => match ρ[i]? with
    | some (some (.fn f)) => cx.call f ds S
    | _ => .bad
  | .meth m o args, ρ, S => (ev cx o ρ S).bind fun x S => match methOf cx.P S x m with
    | some f => if freeOf S x m then (evs cx args ρ S).bind fun ds S => cx.call f (x :: ds) S else .bad
    | none => .bad
  | .mk c args, ρ, S => (evs cx args ρ S).bind fun ds S => mkC cx c ds S
  | .bi cell b args, ρ, S => (evs cx args ρ S).bind fun ds S => bi cx cell b ds S
  | .bm m o args, ρ, S => (ev cx o ρ S).bind fun x S => if (refL S x).isSome then (evs cx args ρ S).bind fun ds S => bm m x ds S else .bad
  | .isi a ts, ρ, S => (ev cx a ρ S).bind fun x S => (R.of (isTys cx.P S x ts) S).bind fun b S => .ok (.bl b) S
  | .comp cell own t it cond elt, ρ, S => (src cx it ρ S).bind fun s S =>
      (col (fun x S => match tgt t x (wipe ρ own) with
        | none => .bad
        | some ρ' => (evc cx cond ρ' S).bind fun c S => if c then (ev cx elt ρ' S).bind fun y S => .ok (some y) S else .ok none S) s S).nox.bind fun ys S => mkL cell ys S
  | .enum _, _, _ => .bad
  | .zip _ _, _, _ => .bad
  | .items _, _, _ => .bad
  | .values a, ρ, S => (ev cx a ρ S).bind fun x S => match dicOf S x with
    | some (_, vs) => .ok (.lst vs) S
    | none => .bad
  | .val _, _, _ => .bad
  | .exf i f, ρ, S => match ρ[i]? with
    | some none => match cx.cur with
      | some x => match cx.P.xcs[x.c]? with
        | some xd => R.of (getId f xd.ids x.fs) S
        | none => .bad
      | none => .bad
    | _ => .bad
  | .fstr es, ρ, S => (evs cx es ρ S).bind fun ds S => match fstrs ds with
    | some s => if s.length ≤ line then .ok (.str s) S else .bad
    | none => .bad
  | .repne a b, ρ, S => (ev cx a ρ S).bind fun x S1 => if reprOk (rdOf S1 x) then (ev cx b ρ S1).bind fun y S => if same (rdOf S1 x) (rdOf S y) then .ok (.bl false) S else .bad else .bad
def evs (cx : Cx) : List E → Env → Sto → R (List D)
  | [], _, S => .ok [] S
  | e :: es, ρ, S => (ev cx e ρ S).bind fun d S => (evs cx es ρ S).bind fun ds S => .ok (d :: ds) S
def evAnd (cx : Cx) : List E → Env → Sto → R D
  | [], _, _ => .bad
  | e :: es, ρ, S => match es with
    | [] => ev cx e ρ S
    | _ :: _ => (ev cx e ρ S).bind fun x S => match x with
      | .bl b => if b then evAnd cx es ρ S else .ok (.bl false) S
      | _ => .bad
def evOr (cx : Cx) : List E → Env → Sto → R D
  | [], _, _ => .bad
  | e :: es, ρ, S => match es with
    | [] => ev cx e ρ S
    | _ :: _ => (ev cx e ρ S).bind fun x S => match x with
      | .bl b => if b then .ok (.bl true) S else evOr cx es ρ S
      | _ => .bad
def evo (cx : Cx) : Option E → Env → Sto → R (Option Int)
  | none, _, S => .ok none S
  | some e, ρ, S => (ev cx e ρ S).bind fun x S => match x with
    | .int i => .ok (some i) S
    | _ => .bad
def evc (cx : Cx) : Option Te → Env → Sto → R Bool
  | none, _, S => .ok true S
  | some e, ρ, S => evt cx e ρ S
def evt (cx : Cx) : Te → Env → Sto → R Bool
  | .val e, ρ, S => tru (ev cx e ρ S)
  | .and ts, ρ, S => evtAnd cx ts ρ S
  | .or ts, ρ, S => evtOr cx ts ρ S
  | .not t, ρ, S => (evt cx t ρ S).bind fun b S => .ok (!b) S
def evtAnd (cx : Cx) : List Te → Env → Sto → R Bool
  | [], _, _ => .bad
  | e :: es, ρ, S => match es with
    | [] => evt cx e ρ S
    | _ :: _ => (evt cx e ρ S).bind fun b S => if b then evtAnd cx es ρ S else .ok false S
def evtOr (cx : Cx) : List Te → Env → Sto → R Bool
  | [], _, _ => .bad
  | e :: es, ρ, S => match es with
    | [] => evt cx e ρ S
    | _ :: _ => (evt cx e ρ S).bind fun b S => if b then .ok true S else evtOr cx es ρ S
def src (cx : Cx) : E → Env → Sto → R Src
  | .enum a, ρ, S => (ev cx a ρ S).bind fun x S => R.of (enumOf S x) S
  | .zip a b, ρ, S => (ev cx a ρ S).bind fun x S => (ev cx b ρ S).bind fun y S => R.of (zipOf S x y) S
  | .bi _ b args, ρ, S => (evs cx args ρ S).bind fun ds S => R.of ((rng b ds).map .vals) S
  | .val a, ρ, S => (ev cx a ρ S).bind fun x S => R.of (srcOf S x) S
  | _, _, _ => .bad
end

/-- op= on a name: intsD and texts -/
def augop (S : Sto) (o : Bo) (x y : D) : Option D :=
  match x with
  | .int _ => binop S o x y
  | .str _ => binop S o x y
  | .tup _ => binop S o x y
  | _ => none

mutual
def st : St → Cx → Env → Sto → R Fl
  | .asg t e, cx, ρ, S => (ev cx e ρ S).stm ρ fun d S => match tgt t d ρ with
    | some ρ' => .ok (.nx ρ') S
    | none => .bad
  | .setI o i e, cx, ρ, S => (ev cx e ρ S).stm ρ fun v S => (ev cx o ρ S).stm ρ fun x S => (ev cx i ρ S).stm ρ fun y S => match setI S x y v with
    | some S' => .ok (.nx ρ) S'
    | none => .bad
  | .setF o f e, cx, ρ, S => (ev cx e ρ S).stm ρ fun v S => (ev cx o ρ S).stm ρ fun x S => match setF cx.P S x f v with
    | some S' => .ok (.nx ρ) S'
    | none => .bad
  | .aug i o e, cx, ρ, S => match ρ[i]? with
    | some (some x) => (ev cx e ρ S).stm ρ fun y S => match augop S o x y with
      | some z => .ok (.nx (ρ.set i (some z))) S
      | none => .bad
    | _ => .bad
  | .augI a i o e, cx, ρ, S => (ev cx a ρ S).stm ρ fun x S => (ev cx i ρ S).stm ρ fun y S => match getI S x y with
    | some u => (ev cx e ρ S).stm ρ fun z S => match augop S o u z with
      | some w => match setI S x y w with
        | some S' => .ok (.nx ρ) S'
        | none => .bad
      | none => .bad
    | none => .bad
  | .augF a f o e, cx, ρ, S => (ev cx a ρ S).stm ρ fun x S => match getF cx.P S x f with
    | some u => (ev cx e ρ S).stm ρ fun z S => match augop S o u z with
      | some w => match setF cx.P S x f w with
        | some S' => .ok (.nx ρ) S'
        | none => .bad
      | none => .bad
    | none => .bad
  | .exp e, cx, ρ, S => (ev cx e ρ S).stm ρ fun _ S => .ok (.nx ρ) S
  | .ite t a b, cx, ρ, S => (evt cx t ρ S).stm ρ fun c S => if c then sts a cx ρ S else sts b cx ρ S
  | .whl t b, cx, ρ, S => whl (fun ρ S => evt cx t ρ S) (fun ρ S => sts b cx ρ S) cx.w ρ S
  | .for t it b, cx, ρ, S => (src cx it ρ S).stm ρ fun s S => forS (fun x ρ S => match tgt t x ρ with
    | none => .bad
    | some ρ => sts b cx ρ S) s ρ S
  | .ret e, cx, ρ, S => (ev cx e ρ S).stm ρ fun d S => .ok (.rt d) S
  | .retN, _, _, S => .ok (.rt .non) S
  | .rais c args, cx, ρ, S => (evs cx args ρ S).stm ρ fun ds S => match cx.P.xcs[c]? with
    | some xd => if ds.length = xd.ids.length then .ok (.xc ⟨c, ds⟩ ρ) S else .bad
    | none => .bad
  | .tri b hs, cx, ρ, S => (sts b cx ρ S).bind fun r S => match r with
    | .xc x ρ' => han hs cx x ρ' S
    | r => .ok r S
  | .pass, _, ρ, S => .ok (.nx ρ) S
  | .brk, _, ρ, S => .ok (.bk ρ) S
  | .cnt, _, ρ, S => .ok (.ct ρ) S
def sts : List St → Cx → Env → Sto → R Fl
  | [], _, ρ, S => .ok (.nx ρ) S
  | s :: ss, cx, ρ, S => (st s cx ρ S).bind fun r S => match r with
    | .nx ρ => sts ss cx ρ S
    | r => .ok r S
def han : List Hd → Cx → Xn → Env → Sto → R Fl
  | [], _, x, ρ, S => .ok (.xc x ρ) S
  | .mk c n b :: hs, cx, x, ρ, S => match cx.P.xcs[x.c]? with
    | none => .bad
    | some xd => if xd.sup.contains c then
        (sts b { cx with cur := some x } (unO n ρ) S).bind fun r S => match r with
        | .nx ρ => .ok (.nx (unO n ρ)) S
        | .bk ρ => .ok (.bk (unO n ρ)) S
        | .ct ρ => .ok (.ct (unO n ρ)) S
        | .rt d => .ok (.rt d) S
        | .xc _ _ => .bad
      else han hs cx x ρ S
end

/-- a def's body at its arguments -/
def runF (P : Prog) (call : Nat → List D → Sto → R D) (w : Nat) (f : FD) (args : List D) (S : Sto) : R D :=
  match sts f.body ⟨P, call, w, none⟩ (args.map some ++ List.replicate (f.nv - args.length) none) S with
  | .ok r S' => match r with
    | .rt d => fin S.length d S'
    | .nx _ => fin S.length .non S'
    | .xc x _ => finX S.length x S'
    | _ => .bad
  | _ => .bad
/-- a call of the f-th def, n levels deep at most -/
def callF (P : Prog) (w : Nat) : Nat → Nat → List D → Sto → R D
  | 0, _, _, _ => .bad
  | n + 1, f, args, S => match P.fns[f]? with
    | none => .bad
    | some fd => if args.length = fd.np then runF P (callF P w n) w fd args S else .bad
end Dn
/-! Dn: how the plain data stand in the layer's heap. -/
namespace Dn
open PySem L2 -- names

/-- where the program's own things stand -/
structure Tb where
  K : PySem.W.Frag
  fa : Nat → Addr
  ca : Nat → Addr
  xa : Nat → Addr
  nm : Nat → Str
  /-- the fields of the exception classes -/
  ids : Nat → List Nat
  /-- lists that are being made: no value lies there -/
  xi : List Addr
abbrev Tb.hide (t : Tb) (p : Addr) : Tb := { t with xi := p :: t.xi }

/-- a list, a tuple at a that no one changes any more -/
def FzL (t : Tb) (μ : List Addr) (H : Hp) (a : Addr) (vs : List V) : Prop := (a ∉ μ ∧ a ∉ t.xi ∧ vs.length ≤ sizeLine) ∧ H a = some (.lst vs)
def FzS (t : Tb) (μ : List Addr) (H : Hp) (a : Addr) (vs : List V) : Prop := ((a ∉ μ ∧ a ∉ t.xi ∧ vs.length ≤ sizeLine) ∧ Rd H a (.lst vs)) ∨ SqL t.K (fun _ => none) a vs
def FzT (t : Tb) (μ : List Addr) (H : Hp) (a : Addr) (vs : List V) : Prop := ((a ∉ μ ∧ a ∉ t.xi ∧ vs.length ≤ sizeLine) ∧ Rd H a (.tup vs)) ∨ SqT t.K (fun _ => none) a vs
def keyD : D → Option Key
  | .int i => some (.inl i)
  | .str s => some (.inr ⟨s.toArray⟩)
  | _ => none
def KeysD : List D → List Key → Prop
  | [], ks => ks = []
  | d :: ds, ks => ∃ k kr, ks = k :: kr ∧ keyD d = some k ∧ KeysD ds kr
def fsOf (t : Tb) (ids : List Nat) (vs : List V) : List (Str × V) := (ids.map t.nm).zip vs

mutual
def RD (t : Tb) (μ : List Addr) (H : Hp) (d : D) (v : V) : Prop :=
  match d with
  | .non => v = .non
  | .bl b => v = .bl b
  | .int i => v = .int i
  | .str s => v = .str ⟨s.toArray⟩ ∧ (∀ c ∈ s, c < 1114112)
  | .fn f => v = .ref (t.fa f)
  | .scr ds => ∃ a vs, v = .ref a ∧ FzS t μ H a vs ∧ RDs t μ H ds vs
  | .tup ds => ∃ a vs, v = .ref a ∧ FzT t μ H a vs ∧ RDs t μ H ds vs
  | .lst ds => ∃ a vs, v = .ref a ∧ FzL t μ H a vs ∧ RDs t μ H ds vs
  | .dic ks ds => ∃ a kvs, v = .ref a ∧ (a ∉ μ ∧ a ∉ t.xi) ∧ Rd H a (.dK kvs) ∧ KeysD ks (kvs.map (·.1)) ∧ RDs t μ H ds (kvs.map (·.2))
  | .ins c ids ds => ∃ a dx vs, v = .ref a ∧ (a ∉ μ ∧ a ∉ t.xi) ∧ H a = some (.ins (t.ca c) dx (fsOf t ids vs)) ∧ ids.length = ds.length ∧ RDs t μ H ds vs
  | .ref l => ∃ a, μ[l]? = some a ∧ v = .ref a
def RDs (t : Tb) (μ : List Addr) (H : Hp) (ds : List D) (vs : List V) : Prop :=
  match ds with
  | [] => vs = []
  | d :: ds => ∃ v vr, vs = v :: vr ∧ RD t μ H d v ∧ RDs t μ H ds vr
end

/-- a cell -/
def RO (t : Tb) (μ : List Addr) (H : Hp) (o : LO) (a : Addr) : Prop :=
  match o with
  | .lst ds => ∃ vs, H a = some (.lst vs) ∧ RDs t μ H ds vs
  | .dic ks ds => ∃ kvs, H a = some (.dK kvs) ∧ KeysD ks (kvs.map (·.1)) ∧ RDs t μ H ds (kvs.map (·.2))
  | .ins c ids ds => ∃ dx vs, H a = some (.ins (t.ca c) dx (fsOf t ids vs)) ∧ ids.length = ds.length ∧ RDs t μ H ds vs
def okLen (o : LO) : Prop :=
  match o with
  | .lst ds => ds.length ≤ sizeLine
  | _ => True
structure RS (t : Tb) (μ : List Addr) (S : Sto) (H : Hp) : Prop where
  len : μ.length = S.length
  nd : μ.Nodup
  get : ∀ (l : Nat) (o : LO) (a : Addr), S[l]? = some o → μ[l]? = some a → RO t μ H o a
  hid : ∀ a, a ∈ t.xi → ∃ o, H a = some o
  dis : ∀ a, a ∈ μ → a ∉ t.xi
  lens : ∀ o, o ∈ S → okLen o
/-- what may have come behind: cells may be new and may have changed, all else stands -/
structure Ext (μ : List Addr) (H : Hp) (μ' : List Addr) (H' : Hp) : Prop where
  pre : μ <+: μ'
  keep : ∀ a o, H a = some o → a ∉ μ → H' a = some o
  new : ∀ a, a ∈ μ' → a ∈ μ ∨ H a = none

section
variable {t : Tb} {μ μ' μ1 : List Addr} {H H' H1 : Hp} {S : Sto}
theorem Ext.refl : Ext μ H μ H := ⟨List.prefix_refl _, fun _ _ h _ => h, fun _ h => .inl h⟩
theorem Ext.trans (e : Ext μ H μ1 H1) (f : Ext μ1 H1 μ' H') : Ext μ H μ' H' where
  pre := e.pre.trans f.pre
  keep := fun a o h n => f.keep a o (e.keep a o h n) fun hm => (e.new a hm).elim n fun z => by rw [z] at h; cases h
  new := fun a hm => by
    rcases f.new a hm with h | h
    · exact e.new a h
    · by_cases hm' : a ∈ μ
      · exact .inl hm'
      · cases q : H a with
        | none => exact .inr rfl
        | some o => rw [e.keep a o q hm'] at h; cases h
theorem Ext.notin (e : Ext μ H μ' H') {a : Addr} {o : HO} (h : H a = some o) (n : a ∉ μ) : a ∉ μ' := fun hm => (e.new a hm).elim n fun z => by rw [z] at h; cases h
theorem Ext.rd (e : Ext μ H μ' H') {a : Addr} {u : HO} (n : a ∉ μ) (h : Rd H a u) : Rd H' a u ∧ a ∉ μ' := by
  rcases h with h | ⟨o, h⟩
  · exact ⟨.inl (e.keep a _ h n), e.notin h n⟩
  · exact ⟨.inr ⟨o, e.keep a _ h n⟩, e.notin h n⟩
/-- a cell that stands keeps its address -/
theorem Ext.at (e : Ext μ H μ' H') {l : Nat} {a : Addr} (h : μ[l]? = some a) : μ'[l]? = some a := by
  obtain ⟨r, rfl⟩ := e.pre
  rw [List.getElem?_append_left (List.getElem?_eq_some_iff.mp h).1]
  exact h
theorem FzL.ext (e : Ext μ H μ' H') {a : Addr} {vs : List V} (h : FzL t μ H a vs) : FzL t μ' H' a vs := ⟨⟨e.notin h.2 h.1.1, h.1.2⟩, e.keep a _ h.2 h.1.1⟩
theorem FzS.ext (e : Ext μ H μ' H') {a : Addr} {vs : List V} (h : FzS t μ H a vs) : FzS t μ' H' a vs := by
  rcases h with ⟨n, h⟩ | h
  · exact .inl ⟨⟨(e.rd n.1 h).2, n.2⟩, (e.rd n.1 h).1⟩
  · exact .inr h
theorem FzT.ext (e : Ext μ H μ' H') {a : Addr} {vs : List V} (h : FzT t μ H a vs) : FzT t μ' H' a vs := by
  rcases h with ⟨n, h⟩ | h
  · exact .inl ⟨⟨(e.rd n.1 h).2, n.2⟩, (e.rd n.1 h).1⟩
  · exact .inr h
theorem FzS.len {a : Addr} {vs : List V} (h : FzS t μ H a vs) : vs.length ≤ sizeLine := by
  rcases h with ⟨n, _⟩ | h
  · exact n.2.2
  · rcases h with h | ⟨o, its, n, _, _, _, _, hz, r⟩
    · rcases h with h | ⟨_, h⟩ <;> cases h
    · rw [r.length, Array.length_toList]; exact hz
theorem FzT.len {a : Addr} {vs : List V} (h : FzT t μ H a vs) : vs.length ≤ sizeLine := by
  rcases h with ⟨n, _⟩ | h
  · exact n.2.2
  · rcases h with h | ⟨o, its, n, _, _, _, hz, r⟩
    · rcases h with h | ⟨_, h⟩ <;> cases h
    · rw [r.length, Array.length_toList]; exact hz
theorem FzS.seq {a : Addr} {vs : List V} (h : FzS t μ H a vs) : SqL t.K H a vs := by
  rcases h with ⟨_, h⟩ | h
  · exact .inl h
  · rcases h with h | h
    · rcases h with h | ⟨_, h⟩ <;> cases h
    · exact .inr h
theorem FzT.seq {a : Addr} {vs : List V} (h : FzT t μ H a vs) : SqT t.K H a vs := by
  rcases h with ⟨_, h⟩ | h
  · exact .inl h
  · rcases h with h | h
    · rcases h with h | ⟨_, h⟩ <;> cases h
    · exact .inr h
/-- p hidden: behind its making -/
theorem FzL.hide {p : Addr} (hp : H p = none) {a : Addr} {vs : List V} (h : FzL t μ H a vs) : FzL (t.hide p) μ H a vs :=
  ⟨⟨h.1.1, fun z => (List.mem_cons.mp z).elim (fun z => by have := h.2; rw [z, hp] at this; cases this) h.1.2.1, h.1.2.2⟩, h.2⟩
theorem Rd.some {a : Addr} {u : HO} (h : Rd H a u) : H a ≠ none := fun z => by
  rcases h with h | ⟨_, h⟩ <;> rw [z] at h <;> cases h
theorem FzS.hide {p : Addr} (hp : H p = none) {a : Addr} {vs : List V} (h : FzS t μ H a vs) : FzS (t.hide p) μ H a vs := by
  rcases h with ⟨n, h⟩ | h
  · exact .inl ⟨⟨n.1, fun z => (List.mem_cons.mp z).elim (fun z => Rd.some h (by rw [z, hp])) n.2.1, n.2.2⟩, h⟩
  · exact .inr h
theorem FzT.hide {p : Addr} (hp : H p = none) {a : Addr} {vs : List V} (h : FzT t μ H a vs) : FzT (t.hide p) μ H a vs := by
  rcases h with ⟨n, h⟩ | h
  · exact .inl ⟨⟨n.1, fun z => (List.mem_cons.mp z).elim (fun z => Rd.some h (by rw [z, hp])) n.2.1, n.2.2⟩, h⟩
  · exact .inr h
theorem FzL.show {p : Addr} {a : Addr} {vs : List V} (h : FzL (t.hide p) μ H a vs) : FzL t μ H a vs := ⟨⟨h.1.1, fun z => h.1.2.1 (List.mem_cons_of_mem _ z), h.1.2.2⟩, h.2⟩
theorem FzS.show {p : Addr} {a : Addr} {vs : List V} (h : FzS (t.hide p) μ H a vs) : FzS t μ H a vs := by
  rcases h with ⟨n, h⟩ | h
  · exact .inl ⟨⟨n.1, fun z => n.2.1 (List.mem_cons_of_mem _ z), n.2.2⟩, h⟩
  · exact .inr h
theorem FzT.show {p : Addr} {a : Addr} {vs : List V} (h : FzT (t.hide p) μ H a vs) : FzT t μ H a vs := by
  rcases h with ⟨n, h⟩ | h
  · exact .inl ⟨⟨n.1, fun z => n.2.1 (List.mem_cons_of_mem _ z), n.2.2⟩, h⟩
  · exact .inr h
mutual
theorem RD.ext (e : Ext μ H μ' H') : ∀ (d : D) {v : V}, RD t μ H d v → RD t μ' H' d v
  | .non, _, h => h
  | .bl _, _, h => h
  | .int _, _, h => h
  | .str _, _, h => h
  | .fn _, _, h => h
  | .tup ds, _, h => by
    obtain ⟨a, vs, rfl, f, r⟩ := h
    exact ⟨a, vs, rfl, f.ext e, RDs.ext e ds r⟩
  | .lst ds, _, h => by
    obtain ⟨a, vs, rfl, f, r⟩ := h
    exact ⟨a, vs, rfl, f.ext e, RDs.ext e ds r⟩
  | .scr ds, _, h => by
    obtain ⟨a, vs, rfl, f, r⟩ := h
    exact ⟨a, vs, rfl, f.ext e, RDs.ext e ds r⟩
  | .dic ks ds, _, h => by
    obtain ⟨a, kvs, rfl, n, f, k, r⟩ := h
    exact ⟨a, kvs, rfl, ⟨(e.rd n.1 f).2, n.2⟩, (e.rd n.1 f).1, k, RDs.ext e ds r⟩
  | .ins c ids ds, _, h => by
    obtain ⟨a, dx, vs, rfl, n, f, k, r⟩ := h
    exact ⟨a, dx, vs, rfl, ⟨e.notin f n.1, n.2⟩, e.keep a _ f n.1, k, RDs.ext e ds r⟩
  | .ref l, _, h => by
    obtain ⟨a, h, rfl⟩ := h
    exact ⟨a, e.at h, rfl⟩
theorem RDs.ext (e : Ext μ H μ' H') : ∀ (ds : List D) {vs : List V}, RDs t μ H ds vs → RDs t μ' H' ds vs
  | [], _, h => h
  | d :: ds, _, h => by
    obtain ⟨v, vr, rfl, h1, h2⟩ := h
    exact ⟨v, vr, rfl, RD.ext e d h1, RDs.ext e ds h2⟩
end
mutual
theorem RD.hide {p : Addr} (hp : H p = none) : ∀ (d : D) {v : V}, RD t μ H d v → RD (t.hide p) μ H d v
  | .non, _, h => h
  | .bl _, _, h => h
  | .int _, _, h => h
  | .str _, _, h => h
  | .fn _, _, h => h
  | .tup ds, _, h => by
    obtain ⟨a, vs, rfl, f, r⟩ := h
    exact ⟨a, vs, rfl, f.hide hp, RDs.hide hp ds r⟩
  | .lst ds, _, h => by
    obtain ⟨a, vs, rfl, f, r⟩ := h
    exact ⟨a, vs, rfl, f.hide hp, RDs.hide hp ds r⟩
  | .scr ds, _, h => by
    obtain ⟨a, vs, rfl, f, r⟩ := h
    exact ⟨a, vs, rfl, f.hide hp, RDs.hide hp ds r⟩
  | .dic ks ds, _, h => by
    obtain ⟨a, kvs, rfl, n, f, k, r⟩ := h
    exact ⟨a, kvs, rfl, ⟨n.1, fun z => (List.mem_cons.mp z).elim (fun z => Rd.some f (by rw [z, hp])) n.2⟩, f, k, RDs.hide hp ds r⟩
  | .ins c ids ds, _, h => by
    obtain ⟨a, dx, vs, rfl, n, f, k, r⟩ := h
    exact ⟨a, dx, vs, rfl, ⟨n.1, fun z => (List.mem_cons.mp z).elim (fun z => by rw [z, hp] at f; cases f) n.2⟩, f, k, RDs.hide hp ds r⟩
  | .ref l, _, h => h
theorem RDs.hide {p : Addr} (hp : H p = none) : ∀ (ds : List D) {vs : List V}, RDs t μ H ds vs → RDs (t.hide p) μ H ds vs
  | [], _, h => h
  | d :: ds, _, h => by
    obtain ⟨v, vr, rfl, h1, h2⟩ := h
    exact ⟨v, vr, rfl, RD.hide hp d h1, RDs.hide hp ds h2⟩
end
mutual
theorem RD.show {p : Addr} : ∀ (d : D) {v : V}, RD (t.hide p) μ H d v → RD t μ H d v
  | .non, _, h => h
  | .bl _, _, h => h
  | .int _, _, h => h
  | .str _, _, h => h
  | .fn _, _, h => h
  | .tup ds, _, h => by
    obtain ⟨a, vs, rfl, f, r⟩ := h
    exact ⟨a, vs, rfl, f.show, RDs.show ds r⟩
  | .lst ds, _, h => by
    obtain ⟨a, vs, rfl, f, r⟩ := h
    exact ⟨a, vs, rfl, f.show, RDs.show ds r⟩
  | .scr ds, _, h => by
    obtain ⟨a, vs, rfl, f, r⟩ := h
    exact ⟨a, vs, rfl, f.show, RDs.show ds r⟩
  | .dic ks ds, _, h => by
    obtain ⟨a, kvs, rfl, n, f, k, r⟩ := h
    exact ⟨a, kvs, rfl, ⟨n.1, fun z => n.2 (List.mem_cons_of_mem _ z)⟩, f, k, RDs.show ds r⟩
  | .ins c ids ds, _, h => by
    obtain ⟨a, dx, vs, rfl, n, f, k, r⟩ := h
    exact ⟨a, dx, vs, rfl, ⟨n.1, fun z => n.2 (List.mem_cons_of_mem _ z)⟩, f, k, RDs.show ds r⟩
  | .ref l, _, h => h
theorem RDs.show {p : Addr} : ∀ (ds : List D) {vs : List V}, RDs (t.hide p) μ H ds vs → RDs t μ H ds vs
  | [], _, h => h
  | d :: ds, _, h => by
    obtain ⟨v, vr, rfl, h1, h2⟩ := h
    exact ⟨v, vr, rfl, RD.show d h1, RDs.show ds h2⟩
end
theorem RO.hide {p : Addr} (hp : H p = none) {o : LO} {a : Addr} (h : RO t μ H o a) : RO (t.hide p) μ H o a := by
  cases o with
  | lst ds => obtain ⟨vs, h, r⟩ := h; exact ⟨vs, h, RDs.hide hp ds r⟩
  | dic ks ds => obtain ⟨kvs, h, q, r⟩ := h; exact ⟨kvs, h, q, RDs.hide hp ds r⟩
  | ins c ids ds => obtain ⟨dx, vs, h, q, r⟩ := h; exact ⟨dx, vs, h, q, RDs.hide hp ds r⟩
theorem RO.show {p : Addr} {o : LO} {a : Addr} (h : RO (t.hide p) μ H o a) : RO t μ H o a := by
  cases o with
  | lst ds => obtain ⟨vs, h, r⟩ := h; exact ⟨vs, h, RDs.show ds r⟩
  | dic ks ds => obtain ⟨kvs, h, q, r⟩ := h; exact ⟨kvs, h, q, RDs.show ds r⟩
  | ins c ids ds => obtain ⟨dx, vs, h, q, r⟩ := h; exact ⟨dx, vs, h, q, RDs.show ds r⟩
theorem RS.show {p : Addr} (s : RS (t.hide p) μ S H) : RS t μ S H := ⟨s.len, s.nd, fun l o a e1 e2 => (s.get l o a e1 e2).show, fun a h => s.hid a (List.mem_cons_of_mem _ h), fun a h z => s.dis a h (List.mem_cons_of_mem _ z), s.lens⟩
theorem RDs.length : ∀ {ds : List D} {vs : List V}, RDs t μ H ds vs → ds.length = vs.length
  | [], _, h => by cases h; rfl
  | d :: ds, _, h => by
    obtain ⟨v, vr, rfl, _, h2⟩ := h
    rw [List.length_cons, List.length_cons, RDs.length h2]
theorem RDs.get : ∀ {ds : List D} {vs : List V} {i : Nat} {d : D}, RDs t μ H ds vs → ds[i]? = some d → ∃ v, vs[i]? = some v ∧ RD t μ H d v
  | [], _, _, _, _, e => by simp at e
  | d :: ds, _, 0, x, h, e => by
    obtain ⟨v, vr, rfl, h1, h2⟩ := h
    simp at e; subst e
    exact ⟨v, rfl, h1⟩
  | d :: ds, _, i + 1, x, h, e => by
    obtain ⟨v, vr, rfl, h1, h2⟩ := h
    obtain ⟨v', h3, h4⟩ := RDs.get (i := i) h2 (by simpa using e)
    exact ⟨v', by simpa using h3, h4⟩
theorem RDs.append : ∀ {ds es : List D} {vs us : List V}, RDs t μ H ds vs → RDs t μ H es us → RDs t μ H (ds ++ es) (vs ++ us)
  | [], _, _, _, h, k => by cases h; exact k
  | d :: ds, _, _, _, h, k => by
    obtain ⟨v, vr, rfl, h1, h2⟩ := h
    exact ⟨v, _, rfl, h1, RDs.append h2 k⟩
theorem RDs.take : ∀ {ds : List D} {vs : List V} (n : Nat), RDs t μ H ds vs → RDs t μ H (ds.take n) (vs.take n)
  | _, _, 0, _ => rfl
  | [], _, _ + 1, h => by cases h; rfl
  | d :: ds, _, n + 1, h => by
    obtain ⟨v, vr, rfl, h1, h2⟩ := h
    exact ⟨v, _, rfl, h1, RDs.take n h2⟩
theorem RDs.drop : ∀ {ds : List D} {vs : List V} (n : Nat), RDs t μ H ds vs → RDs t μ H (ds.drop n) (vs.drop n)
  | _, _, 0, h => h
  | [], _, _ + 1, h => by cases h; rfl
  | d :: ds, _, n + 1, h => by
    obtain ⟨v, vr, rfl, h1, h2⟩ := h
    exact RDs.drop n h2
theorem RDs.set : ∀ {ds : List D} {vs : List V} (i : Nat) {d : D} {v : V}, RDs t μ H ds vs → RD t μ H d v → RDs t μ H (ds.set i d) (vs.set i v)
  | [], _, _, _, _, h, _ => by cases h; rfl
  | d :: ds, _, 0, _, _, h, k => by
    obtain ⟨v, vr, rfl, h1, h2⟩ := h
    exact ⟨_, _, rfl, k, h2⟩
  | d :: ds, _, n + 1, _, _, h, k => by
    obtain ⟨v, vr, rfl, h1, h2⟩ := h
    exact ⟨_, _, rfl, h1, RDs.set n h2 k⟩
theorem RDs.reverse : ∀ {ds : List D} {vs : List V}, RDs t μ H ds vs → RDs t μ H ds.reverse vs.reverse
  | [], _, h => by cases h; rfl
  | d :: ds, _, h => by
    obtain ⟨v, vr, rfl, h1, h2⟩ := h
    rw [List.reverse_cons, List.reverse_cons]
    exact RDs.append (RDs.reverse h2) ⟨v, [], rfl, h1, rfl⟩
/-- cells apart: one that is changed leaves the others -/
theorem RS.inj (s : RS t μ S H) {l k : Nat} {a : Addr} (h : μ[l]? = some a) (h' : μ[k]? = some a) : l = k := by
  obtain ⟨h1, e1⟩ := List.getElem?_eq_some_iff.mp h
  obtain ⟨h2, e2⟩ := List.getElem?_eq_some_iff.mp h'
  exact (List.getElem_inj s.nd).mp (e1.trans e2.symm)
theorem RS.there (s : RS t μ S H) {a : Addr} (h : a ∈ μ) : ∃ o, H a = some o := by
  obtain ⟨l, hl, e⟩ := List.getElem_of_mem h
  have e1 : μ[l]? = some a := by rw [List.getElem?_eq_getElem hl, e]
  have hl' : l < S.length := by rw [← s.len]; exact hl
  have g := s.get l S[l] a (List.getElem?_eq_getElem hl') e1
  cases q : S[l] with
  | lst ds => rw [q] at g; obtain ⟨vs, h, _⟩ := g; exact ⟨_, h⟩
  | dic ks ds => rw [q] at g; obtain ⟨kvs, h, _⟩ := g; exact ⟨_, h⟩
  | ins c ids ds => rw [q] at g; obtain ⟨dx, vs, h, _⟩ := g; exact ⟨_, h⟩
theorem RS.addr (s : RS t μ S H) {l : Nat} {o : LO} (h : S[l]? = some o) : ∃ a, μ[l]? = some a ∧ RO t μ H o a := by
  have hl : l < μ.length := by rw [s.len]; exact (List.getElem?_eq_some_iff.mp h).1
  exact ⟨μ[l], List.getElem?_eq_getElem hl, s.get l o _ h (List.getElem?_eq_getElem hl)⟩
theorem RO.ext (e : Ext μ H μ' H') {o : LO} {a : Addr} (h : RO t μ H o a) (k : ∀ u, H a = some u → H' a = some u) : RO t μ' H' o a := by
  cases o with
  | lst ds =>
    obtain ⟨vs, h, r⟩ := h
    exact ⟨vs, k _ h, RDs.ext e ds r⟩
  | dic ks ds =>
    obtain ⟨kvs, h, q, r⟩ := h
    exact ⟨kvs, k _ h, q, RDs.ext e ds r⟩
  | ins c ids ds =>
    obtain ⟨dx, vs, h, q, r⟩ := h
    exact ⟨dx, vs, k _ h, q, RDs.ext e ds r⟩
/-- an object that is new, no cell -/
theorem Ext.fresh {p : Addr} {o : HO} (h : H p = none) : Ext μ H μ (upd H p o) :=
  ⟨List.prefix_refl _, fun a u e _ => by rw [upd_ne (ne_of_none e h)]; exact e, fun _ h => .inl h⟩
theorem hid_upd {xi : List Addr} {p : Addr} {o : HO} (h : ∀ a, a ∈ xi → ∃ o, H a = some o) : ∀ a, a ∈ xi → ∃ u, upd H p o a = some u := fun a ha => by
  by_cases e : a = p
  · exact ⟨o, by rw [e, upd_same]⟩
  · rw [upd_ne e]; exact h a ha
theorem RS.fresh (s : RS t μ S H) {p : Addr} {o : HO} (h : H p = none) : RS t μ S (upd H p o) :=
  ⟨s.len, s.nd, fun l u a e1 e2 => (s.get l u a e1 e2).ext (Ext.fresh h) fun u e => by rw [upd_ne (ne_of_none e h)]; exact e, hid_upd s.hid, s.dis, s.lens⟩
theorem RS.nohid (s : RS t μ S H) {p : Addr} (h : H p = none) : p ∉ t.xi := fun m => by
  obtain ⟨o, e⟩ := s.hid p m
  rw [h] at e; cases e
theorem RS.nofresh (s : RS t μ S H) {p : Addr} (h : H p = none) : p ∉ μ := fun m => by
  obtain ⟨o, e⟩ := s.there m
  rw [h] at e; cases e
theorem RS.hide (s : RS t μ S H) {p : Addr} {o : HO} (hp : H p = none) : RS (t.hide p) μ S (upd H p o) := by
  have z := s.fresh (o := o) hp
  refine ⟨z.len, z.nd, fun l u a e1 e2 => ?_, fun a ha => ?_, fun a ha hx => ?_, s.lens⟩
  · exact ((s.get l u a e1 e2).hide hp).ext (Ext.fresh hp) fun u e => by rw [upd_ne (ne_of_none e hp)]; exact e
  · rcases List.mem_cons.mp ha with e | ha
    · exact ⟨o, by rw [e, upd_same]⟩
    · exact z.hid a ha
  · rcases List.mem_cons.mp hx with e | hx
    · exact s.nofresh hp (by rw [← e]; exact ha)
    · exact s.dis a ha hx
theorem RD.newTup (s : RS t μ S H) {p : Addr} (h : H p = none) {ds : List D} {vs : List V} (r : RDs t μ H ds vs) (hl : ds.length ≤ sizeLine) : RD t μ (upd H p (.tup vs)) (.tup ds) (.ref p) :=
  ⟨p, vs, rfl, .inl ⟨⟨s.nofresh h, s.nohid h, by rw [← r.length]; exact hl⟩, .inl upd_same⟩, RDs.ext (Ext.fresh h) ds r⟩
theorem RD.newLst (s : RS t μ S H) {p : Addr} (h : H p = none) {ds : List D} {vs : List V} (r : RDs t μ H ds vs) (hl : ds.length ≤ sizeLine) : RD t μ (upd H p (.lst vs)) (.lst ds) (.ref p) :=
  ⟨p, vs, rfl, ⟨⟨s.nofresh h, s.nohid h, by rw [← r.length]; exact hl⟩, upd_same⟩, RDs.ext (Ext.fresh h) ds r⟩
theorem lstOf_rd (s : RS t μ S H) {d : D} {v : V} {xs : List D} (e : lstOf S d = some xs) (r : RD t μ H d v) : ∃ a vs, v = .ref a ∧ H a = some (.lst vs) ∧ RDs t μ H xs vs := by
  cases d with
  | lst ys =>
    cases e
    obtain ⟨a, vs, rfl, f, r⟩ := r
    exact ⟨a, vs, rfl, f.2, r⟩
  | ref l =>
    obtain ⟨a, h, rfl⟩ := r
    simp only [lstOf] at e
    split at e
    · rename_i ys q
      cases e
      obtain ⟨vs, h1, h2⟩ := s.get l _ a q h
      exact ⟨a, vs, rfl, h1, h2⟩
    · cases e
  | _ => cases e
theorem seqOf_rd (s : RS t μ S H) {d : D} {v : V} {xs : List D} (e : seqOf S d = some xs) (r : RD t μ H d v) : ∃ a vs, v = .ref a ∧ (SqL t.K H a vs ∨ SqT t.K H a vs) ∧ RDs t μ H xs vs := by
  cases d with
  | lst ys =>
    cases e
    obtain ⟨a, vs, rfl, f, r⟩ := r
    exact ⟨a, vs, rfl, .inl (SqL.of f.2), r⟩
  | scr ys =>
    cases e
    obtain ⟨a, vs, rfl, f, r⟩ := r
    exact ⟨a, vs, rfl, .inl f.seq, r⟩
  | tup ys =>
    cases e
    obtain ⟨a, vs, rfl, f, r⟩ := r
    exact ⟨a, vs, rfl, .inr f.seq, r⟩
  | ref l =>
    obtain ⟨a, h, rfl⟩ := r
    simp only [seqOf] at e
    split at e
    · rename_i ys q
      cases e
      obtain ⟨vs, h1, h2⟩ := s.get l _ a q h
      exact ⟨a, vs, rfl, .inl (SqL.of h1), h2⟩
    · cases e
  | _ => cases e
theorem seq_len (s : RS t μ S H) {d : D} {v : V} {xs : List D} (e : seqOf S d = some xs) (r : RD t μ H d v) : xs.length ≤ sizeLine := by
  cases d with
  | lst ys => cases e; obtain ⟨a, vs, rfl, f, r⟩ := r; rw [r.length]; exact f.1.2.2
  | scr ys => cases e; obtain ⟨a, vs, rfl, f, r⟩ := r; rw [r.length]; exact f.len
  | tup ys => cases e; obtain ⟨a, vs, rfl, f, r⟩ := r; rw [r.length]; exact f.len
  | ref l =>
    simp only [seqOf] at e
    split at e
    · rename_i ys q
      cases e
      exact s.lens _ (List.mem_of_getElem? q)
    · cases e
  | _ => cases e
theorem lst_len (s : RS t μ S H) {d : D} {v : V} {xs : List D} (e : lstOf S d = some xs) (r : RD t μ H d v) : xs.length ≤ sizeLine := by
  cases d with
  | lst ys => cases e; obtain ⟨a, vs, rfl, f, r⟩ := r; rw [r.length]; exact f.1.2.2
  | ref l =>
    simp only [lstOf] at e
    split at e
    · rename_i ys q
      cases e
      exact s.lens _ (List.mem_of_getElem? q)
    · cases e
  | _ => cases e
/-- a new cell -/
theorem Ext.cell {p : Addr} {o : HO} (h : H p = none) : Ext μ H (μ ++ [p]) (upd H p o) :=
  ⟨List.prefix_append _ _, fun a u e _ => by rw [upd_ne (ne_of_none e h)]; exact e, fun a m => by
    rcases List.mem_append.mp m with m | m
    · exact .inl m
    · rw [List.mem_singleton.mp m]; exact .inr h⟩
theorem RS.cell (s : RS t μ S H) {p : Addr} {u : HO} {o : LO} (h : H p = none) (r : RO t (μ ++ [p]) (upd H p u) o p) (ho : okLen o) : RS t (μ ++ [p]) (S ++ [o]) (upd H p u) where
  hid := hid_upd s.hid
  dis := fun a ha => (List.mem_append.mp ha).elim (s.dis a) fun z => by rw [List.mem_singleton.mp z]; exact s.nohid h
  lens := fun u hu => (List.mem_append.mp hu).elim (s.lens u) fun z => by rw [List.mem_singleton.mp z]; exact ho
  len := by rw [List.length_append, List.length_append, s.len]; rfl
  nd := List.nodup_append.mpr ⟨s.nd, by simp, fun a ha b hb e => s.nofresh h (by rw [List.mem_singleton.mp hb] at e; rw [← e]; exact ha)⟩
  get := fun l q a e1 e2 => by
    by_cases hl : l < S.length
    · rw [List.getElem?_append_left hl] at e1
      rw [List.getElem?_append_left (by rw [s.len]; exact hl)] at e2
      exact (s.get l q a e1 e2).ext (Ext.cell h) fun u e => by rw [upd_ne (ne_of_none e h)]; exact e
    · have hl' : l = S.length := by
        have := (List.getElem?_eq_some_iff.mp e1).1
        rw [List.length_append, List.length_singleton] at this; omega
      subst hl'
      rw [List.getElem?_append_right (Nat.le_refl _), Nat.sub_self] at e1
      rw [← s.len, List.getElem?_append_right (Nat.le_refl _), Nat.sub_self] at e2
      cases e1; cases e2
      exact r
/-- a cell is changed -/
theorem Ext.chg {l : Nat} {a : Addr} {o : HO} (h : μ[l]? = some a) : Ext μ H μ (upd H a o) :=
  ⟨List.prefix_refl _, fun b u e n => by rw [upd_ne (fun z => n (by rw [z]; exact List.mem_of_getElem? h))]; exact e, fun _ h => .inl h⟩
theorem RS.chg (s : RS t μ S H) {l : Nat} {a : Addr} {u : HO} {o : LO} (h : μ[l]? = some a) (r : RO t μ (upd H a u) o a) (ho : okLen o) : RS t μ (S.set l o) (upd H a u) where
  hid := hid_upd s.hid
  dis := s.dis
  lens := fun u hu => (List.mem_or_eq_of_mem_set hu).elim (s.lens u) fun z => by rw [z]; exact ho
  len := by rw [List.length_set]; exact s.len
  nd := s.nd
  get := fun k q b e1 e2 => by
    by_cases hk : l = k
    · subst hk
      rw [h] at e2; cases e2
      rw [List.getElem?_set_self (by rw [← s.len]; exact (List.getElem?_eq_some_iff.mp h).1)] at e1
      cases e1
      exact r
    · rw [List.getElem?_set_ne hk] at e1
      refine (s.get k q b e1 e2).ext (Ext.chg h) fun u e => ?_
      rw [upd_ne (fun z => hk (s.inj h (by rw [z] at e2; exact e2)))]
      exact e
end
end Dn
/-! Dn: a reading that keeps what the evaluation says. -/
namespace Dn
open PySem L2 -- names

/-- an exception that flies: its class, its dict -/
def RX (t : Tb) (μ : List Addr) (H : Hp) (x : Xn) (cls : Value) (dd : Option Addr) : Prop :=
  cls = .ref (t.xa x.c) ∧ (t.ids x.c).length = x.fs.length ∧ ((x.fs = [] ∧ dd = none) ∨ ∃ d vs, dd = some d ∧ (d ∉ μ ∧ d ∉ t.xi) ∧ H d = some (.xd (fsOf t (t.ids x.c) vs)) ∧ RDs t μ H x.fs vs)
/-- what is wished of an exception that leaves; the exception that is in hand -/
structure Cu where
  x : Xn
  cls : Value
  dd : Option Addr
  /-- the slot of its name, its address -/
  i : Nat
  a : Addr
structure Wi where
  w : WX
  cu : Option Cu := none
/-- the names' values -/
structure RE (t : Tb) (cu : Option Cu) (μ : List Addr) (H : Hp) (ρ : Env) (σ : L2.St) : Prop where
  cur : ∀ c, cu = some c → RX t μ H c.x c.cls c.dd ∧ (ρ[c.i]? = some none → σ[c.i]? = some (some (.ref c.a)))
  len : ρ.length = σ.length
  get : ∀ (i : Nat) (d : D), ρ[i]? = some (some d) → ∃ v, σ[i]? = some (some v) ∧ RD t μ H d v

/-- behind an evaluation -/
def Aft (t : Tb) {α : Type} (μ : List Addr) (H : Hp) (r : R α) (k : α → Sto → List Addr → Hp → Prop) (kx : Xn → Sto → List Addr → Hp → Prop) : Prop :=
  match r with
  | .bad => False
  | .ok a S => ∀ μ' H', Ext μ H μ' H' → RS t μ' S H' → k a S μ' H'
  | .exc x S => ∀ μ' H', Ext μ H μ' H' → RS t μ' S H' → kx x S μ' H'

section
variable {t : Tb} {μ μ' μ1 : List Addr} {H H' H1 : Hp} {S : Sto} {α β : Type} {ρ : Env} {σ : L2.St}
theorem RX.ext (e : Ext μ H μ' H') {x : Xn} {cls : Value} {dd : Option Addr} (r : RX t μ H x cls dd) : RX t μ' H' x cls dd := by
  obtain ⟨h, hl, r⟩ := r
  rcases r with r | ⟨d, vs, h1, h2, h3, h4⟩
  · exact ⟨h, hl, .inl r⟩
  · exact ⟨h, hl, .inr ⟨d, vs, h1, ⟨e.notin h3 h2.1, h2.2⟩, e.keep d _ h3 h2.1, RDs.ext e _ h4⟩⟩
theorem RE.ext {cu : Option Cu} (e : Ext μ H μ' H') (r : RE t cu μ H ρ σ) : RE t cu μ' H' ρ σ := ⟨fun c h => ⟨(r.cur c h).1.ext e, (r.cur c h).2⟩, r.len, fun i d h => let ⟨v, h1, h2⟩ := r.get i d h; ⟨v, h1, h2.ext e⟩⟩
theorem Aft.imp {r : R α} {k k' : α → Sto → List Addr → Hp → Prop} {kx kx' : Xn → Sto → List Addr → Hp → Prop} (h : Aft t μ H r k kx)
    (hk : ∀ a S' μ' H', Ext μ H μ' H' → RS t μ' S' H' → k a S' μ' H' → k' a S' μ' H')
    (hx : ∀ x S' μ' H', Ext μ H μ' H' → RS t μ' S' H' → kx x S' μ' H' → kx' x S' μ' H') : Aft t μ H r k' kx' := by
  cases r with
  | bad => exact h
  | ok a S => exact fun μ' H' e s => hk a S μ' H' e s (h μ' H' e s)
  | exc x S => exact fun μ' H' e s => hx x S μ' H' e s (h μ' H' e s)
theorem Aft.bind {r : R α} {f : α → Sto → R β} {k : β → Sto → List Addr → Hp → Prop} {kx : Xn → Sto → List Addr → Hp → Prop} (h : Aft t μ H (r.bind f) k kx) :
    Aft t μ H r (fun a S' μ' H' => Aft t μ' H' (f a S') (fun b S2 μ2 H2 => Ext μ H μ2 H2 → k b S2 μ2 H2) (fun x S2 μ2 H2 => Ext μ H μ2 H2 → kx x S2 μ2 H2)) kx := by
  cases r with
  | bad => exact h
  | ok a S =>
    intro μ1 H1 e1 s1
    show Aft t μ1 H1 (f a S) _ _
    have h' : Aft t μ H (f a S) k kx := h
    cases q : f a S with
    | bad => rw [q] at h'; exact h'
    | ok b S2 => rw [q] at h'; exact fun μ2 H2 e2 s2 _ => h' μ2 H2 (e1.trans e2) s2
    | exc x S2 => rw [q] at h'; exact fun μ2 H2 e2 s2 _ => h' μ2 H2 (e1.trans e2) s2
  | exc x S => exact h
/-- in front: what stands may have grown -/
theorem Aft.ext (e : Ext μ H μ1 H1) {r : R α} {k : α → Sto → List Addr → Hp → Prop} {kx : Xn → Sto → List Addr → Hp → Prop} (h : Aft t μ H r k kx) : Aft t μ1 H1 r k kx := by
  cases r with
  | bad => exact h
  | ok a S => exact fun μ' H' e' s => h μ' H' (e.trans e') s
  | exc x S => exact fun μ' H' e' s => h μ' H' (e.trans e') s
/-- nothing has changed -/
theorem Aft.now (s : RS t μ S H) {a : α} {k : α → Sto → List Addr → Hp → Prop} {kx : Xn → Sto → List Addr → Hp → Prop} (h : Aft t μ H (.ok a S) k kx) : k a S μ H := h μ H Ext.refl s
theorem Aft.of {o : Option α} {k : α → Sto → List Addr → Hp → Prop} {kx : Xn → Sto → List Addr → Hp → Prop} (h : Aft t μ H (R.of o S) k kx) : ∃ a, o = some a ∧ Aft t μ H (.ok a S) k kx := by
  cases o with
  | none => exact False.elim h
  | some a => exact ⟨a, rfl, h⟩
end

/-- what a reading keeps: f's answer stands for the value -/
def tE (t : Tb) (W : Wi) (f : Env → Sto → R D) : TE := fun σ H Q => ∃ μ ρ S, RE t W.cu μ H ρ σ ∧ RS t μ S H ∧
  Aft t μ H (f ρ S) (fun d _ μ' H' => ∀ v, RD t μ' H' d v → Q v H') (fun x _ μ' H' => ∀ cls dd, RX t μ' H' x cls dd → W.w cls dd σ H')
def tT (t : Tb) (W : Wi) (f : Env → Sto → R Bool) : TT := fun σ H Q => ∃ μ ρ S, RE t W.cu μ H ρ σ ∧ RS t μ S H ∧
  Aft t μ H (f ρ S) (fun b _ _ H' => Q b H') (fun x _ μ' H' => ∀ cls dd, RX t μ' H' x cls dd → W.w cls dd σ H')
def tA (t : Tb) (W : Wi) (f : Env → Sto → R (List D)) : TA := fun σ H Q => ∃ μ ρ S, RE t W.cu μ H ρ σ ∧ RS t μ S H ∧
  Aft t μ H (f ρ S) (fun ds _ μ' H' => ∀ vs, RDs t μ' H' ds vs → Q vs H') (fun x _ μ' H' => ∀ cls dd, RX t μ' H' x cls dd → W.w cls dd σ H')
/-- a statement's end -/
def endS (t : Tb) (W : Wi) (D : Ends) (fl : Fl) (μ : List Addr) (H : Hp) : Prop :=
  match fl with
  | .nx ρ => ∀ σ, RE t W.cu μ H ρ σ → D.nx σ H
  | .rt d => ∀ v, RD t μ H d v → D.rt v H
  | .bk ρ => ∀ σ, RE t W.cu μ H ρ σ → D.bk σ H
  | .ct ρ => ∀ σ, RE t W.cu μ H ρ σ → D.ct σ H
  | .xc x ρ => ∀ σ cls dd, RE t W.cu μ H ρ σ → RX t μ H x cls dd → W.w cls dd σ H
def tS (t : Tb) (W : Wi) (f : Env → Sto → R Fl) : TS := fun D σ H => ∃ μ ρ S, RE t W.cu μ H ρ σ ∧ RS t μ S H ∧
  Aft t μ H (f ρ S) (fun fl _ μ' H' => endS t W D fl μ' H') (fun _ _ _ _ => False)

theorem PE.weak {X : L2.Cx} {e : Expr} {t t' : TE} (h : PE X e t) (w : ∀ σ H Q, t' σ H Q → t σ H Q) : PE X e t' := ⟨fun pins s σ H Q I q => h.run pins s σ H Q I (w σ H Q q)⟩
theorem PT.weak {X : L2.Cx} {e : Expr} {t t' : TT} (h : PT X e t) (w : ∀ σ H Q, t' σ H Q → t σ H Q) : PT X e t' := ⟨fun pins s σ H Q I q => h.run pins s σ H Q I (w σ H Q q)⟩
theorem PW.weak {X : L2.Cx} {e : Expr} {t t' : TT} (h : PW X e t) (w : ∀ σ H Q, t' σ H Q → t σ H Q) : PW X e t' := ⟨fun wh pins s σ H Q I q => h.run wh pins s σ H Q I (w σ H Q q)⟩
theorem PA.weak {X : L2.Cx} {e : List Expr} {t t' : TA} (h : PA X e t) (w : ∀ σ H Q, t' σ H Q → t σ H Q) : PA X e t' := ⟨fun p pins s σ H Q I q => h.run p pins s σ H Q I (w σ H Q q)⟩
theorem PS.weak {X : L2.Cx} {e : Stmt} {t t' : TS} (h : PS X e t) (w : ∀ D σ H, t' D σ H → t D σ H) : PS X e t' := ⟨fun pins s σ H D I q => h.run pins s σ H D I (w D σ H q)⟩
theorem PSs.weak {X : L2.Cx} {e : List Stmt} {t t' : TS} (h : PSs X e t) (w : ∀ D σ H, t' D σ H → t D σ H) : PSs X e t' := ⟨fun pins s σ H D I q => h.run pins s σ H D I (w D σ H q)⟩

section
variable {t : Tb} {W : Wi} {X : L2.Cx} {a b : Expr} {pos : Pos} {fa fb : Env → Sto → R D}
/-- two values in a row, then an operation by values -/
theorem bin_ok {op : D → D → Sto → R D} {r : R2} (hr : ∀ (σ : L2.St) (μ : List Addr) (H : Hp) (S : Sto) (x y : D) (v u : V) (Q : VK), RS t μ S H → RD t μ H x v → RD t μ H y u →
      Aft t μ H (op x y S) (fun d _ μ' H' => ∀ w, RD t μ' H' d w → Q w H') (fun x _ μ' H' => ∀ cls dd, RX t μ' H' x cls dd → W.w cls dd σ H') → r v u H Q)
    (σ : L2.St) (H : Hp) (Q : VK) (h : tE t W (fun ρ S => (fa ρ S).bind fun x S => (fb ρ S).bind fun y S => op x y S) σ H Q) : tOp r (tE t W fa) (tE t W fb) σ H Q := by
  obtain ⟨μ, ρ, S, re, rs, h⟩ := h
  refine ⟨μ, ρ, S, re, rs, h.bind.imp (fun x S1 μ1 H1 e1 s1 k v rv => ?_) fun _ _ _ _ _ _ z => z⟩
  refine ⟨μ1, ρ, S1, re.ext e1, s1, k.bind.imp (fun y S2 μ2 H2 e2 s2 k2 u ru => ?_) fun _ _ _ _ e2 _ z => z (e1.trans e2)⟩
  exact hr σ μ2 H2 S2 x y v u Q s2 (rv.ext e2) ru (k2.imp (fun d S3 μ3 H3 e3 s3 z => z (e2.trans e3) (e1.trans (e2.trans e3))) fun x S3 μ3 H3 e3 s3 z => z (e2.trans e3) (e1.trans (e2.trans e3)))
theorem un_ok {op : D → Sto → R D} {r : V → Hp → VK → Prop} (hr : ∀ (σ : L2.St) (μ : List Addr) (H : Hp) (S : Sto) (x : D) (v : V) (Q : VK), RS t μ S H → RD t μ H x v →
      Aft t μ H (op x S) (fun d _ μ' H' => ∀ w, RD t μ' H' d w → Q w H') (fun x _ μ' H' => ∀ cls dd, RX t μ' H' x cls dd → W.w cls dd σ H') → r v H Q)
    (σ : L2.St) (H : Hp) (Q : VK) (h : tE t W (fun ρ S => (fa ρ S).bind fun x S => op x S) σ H Q) : tUn r (tE t W fa) σ H Q := by
  obtain ⟨μ, ρ, S, re, rs, h⟩ := h
  refine ⟨μ, ρ, S, re, rs, h.bind.imp (fun x S1 μ1 H1 e1 s1 k v rv => ?_) fun _ _ _ _ _ _ z => z⟩
  exact hr σ μ1 H1 S1 x v Q s1 rv (k.imp (fun d S3 μ3 H3 e3 s3 z => z (e1.trans e3)) fun x S3 μ3 H3 e3 s3 z => z (e1.trans e3))

/-! ### names, constants -/
theorem d_var {i : Nat} {x : Str} (hN : X.N[i]? = some x) (hv : Vis X.env.scope x) (hd : (x == ("__debug__" : Str)) = false) (hcd : (x == ("__classdict__" : Str)) = false) :
    PE X (.Name x pos) (tE t W fun ρ S => match ρ[i]? with | some (some d) => .ok d S | _ => .bad) := by
  refine PE.weak (pe_var hN hv hd hcd) fun σ H Q h => ?_
  obtain ⟨μ, ρ, S, re, rs, h⟩ := h
  dsimp only at h
  split at h
  · rename_i d e
    obtain ⟨v, h1, h2⟩ := re.get i d e
    exact ⟨v, h1, h.now rs v h2⟩
  · exact False.elim h
theorem d_const {e : Expr} {d : D} {v : V} (h : PE X e (tC v)) (r : ∀ μ H, RD t μ H d v) : PE X e (tE t W fun _ S => .ok d S) := by
  refine PE.weak h fun σ H Q h => ?_
  obtain ⟨μ, ρ, S, re, rs, h⟩ := h
  exact h.now rs v (r μ H)
/-! ### a tuple, a list displayed; arguments -/
theorem d_nil : PA X [] (tA t W fun _ S => .ok [] S) := by
  refine PA.weak pa_nil fun σ H Q h => ?_
  obtain ⟨μ, ρ, S, re, rs, h⟩ := h
  exact h.now rs [] rfl
theorem d_cons {es : List Expr} {fs : Env → Sto → R (List D)} (ha : PE X a (tE t W fa)) (hr : PA X es (tA t W fs)) (hs : starEach (a :: es) X.env = (false, eval a X.env) :: starEach es X.env) :
    PA X (a :: es) (tA t W fun ρ S => (fa ρ S).bind fun d S => (fs ρ S).bind fun ds S => .ok (d :: ds) S) := by
  refine PA.weak (pa_cons ha hr hs) fun σ H Q h => ?_
  obtain ⟨μ, ρ, S, re, rs, h⟩ := h
  refine ⟨μ, ρ, S, re, rs, h.bind.imp (fun x S1 μ1 H1 e1 s1 k v rv => ?_) fun _ _ _ _ _ _ z => z⟩
  refine ⟨μ1, ρ, S1, re.ext e1, s1, k.bind.imp (fun y S2 μ2 H2 e2 s2 k2 u ru => ?_) fun _ _ _ _ e2 _ z => z (e1.trans e2)⟩
  exact (k2.now s2) (e2.trans Ext.refl) (e1.trans e2) _ ⟨v, u, rfl, rv.ext e2, ru⟩
end
end Dn
/-! Dn: operators by values. -/
namespace Dn
open PySem L2 -- names

/-- a two-place operation that changes nothing and whose answer is op's -/
def rP (t : Tb) (op : Sto → D → D → Option D) : R2 := fun v u H Q => ∃ μ S x y d, RS t μ S H ∧ RD t μ H x v ∧ RD t μ H y u ∧ op S x y = some d ∧
  ∀ μ' H' w, Ext μ H μ' H' → RS t μ' S H' → RD t μ' H' d w → Q w H'
theorem OpR.weak {X : L2.Cx} {f : Value → Value → Sem Value} {r r' : R2} (h : OpR X f r) (w : ∀ v u H Q, r' v u H Q → r v u H Q) : OpR X f r' :=
  fun pins s σ H x y v u Q I rx ry q => h pins s σ H x y v u Q I rx ry (w x y H Q q)
/-- by cases on the operands, at each state -/
theorem OpR.by {X : L2.Cx} {f : Value → Value → Sem Value} {r' : R2} (h : ∀ v u H Q, r' v u H Q → ∃ r, OpR X f r ∧ r v u H Q) : OpR X f r' :=
  fun pins s σ H x y v u Q I rx ry q => let ⟨r, h1, h2⟩ := h x y H Q q; h1 pins s σ H x y v u Q I rx ry h2

section
variable {t : Tb} {W : Wi} {X : L2.Cx} {a b : Expr} {pos : Pos} {fa fb : Env → Sto → R D}
theorem rP_of {op : Sto → D → D → Option D} (σ : L2.St) (μ : List Addr) (H : Hp) (S : Sto) (x y : D) (v u : V) (Q : VK) (rs : RS t μ S H) (rx : RD t μ H x v) (ry : RD t μ H y u)
    (h : Aft t μ H (R.of (op S x y) S) (fun d _ μ' H' => ∀ w, RD t μ' H' d w → Q w H') (fun x _ μ' H' => ∀ cls dd, RX t μ' H' x cls dd → W.w cls dd σ H')) : rP t op v u H Q := by
  obtain ⟨d, e, h⟩ := h.of
  exact ⟨μ, S, x, y, d, rs, rx, ry, e, fun μ' H' w e s r => h μ' H' e s w r⟩
theorem d_bin {op : Operator} {f : Sto → D → D → Option D} (ho : OpR X (binaryOp op) (rP t f)) (ha : PE X a (tE t W fa)) (hb : PE X b (tE t W fb)) :
    PE X (.BinOp a op b pos) (tE t W fun ρ S => (fa ρ S).bind fun x S => (fb ρ S).bind fun y S => R.of (f S x y) S) :=
  PE.weak (pe_op ho ha hb) (bin_ok (op := fun x y S => R.of (f S x y) S) rP_of)
theorem str_app (a b : List Nat) : ((⟨a.toArray⟩ : Str) ++ (⟨b.toArray⟩ : Str)) = (⟨(a ++ b).toArray⟩ : Str) := by
  show (⟨a.toArray ++ b.toArray⟩ : Str) = _
  simp
theorem str_len (a : List Nat) : (⟨a.toArray⟩ : Str).length = a.length := by
  show a.toArray.size = _
  simp
theorem line_eq : sizeLine = line := sizeLine_eq
theorem rep_rd {μ : List Addr} {H : Hp} {ds : List D} {vs : List V} (r : RDs t μ H ds vs) : ∀ k : Nat, RDs t μ H (List.replicate k ds).flatten (List.replicate k vs).flatten
  | 0 => rfl
  | k + 1 => by
    rw [List.replicate_succ, List.replicate_succ, List.flatten_cons, List.flatten_cons]
    exact r.append (rep_rd r k)
theorem rep_len {α : Type} (ds : List α) : ∀ k : Nat, (List.replicate k ds).flatten.length = k * ds.length
  | 0 => by simp
  | k + 1 => by rw [List.replicate_succ, List.flatten_cons, List.length_append, rep_len ds k, Nat.succ_mul, Nat.add_comm]
theorem rep_le {n : Nat} {k : Int} (h1 : n ≤ 1000) (h2 : k ≤ 1000) : k.toNat * n ≤ line := by
  have h3 : k.toNat ≤ 1000 := by omega
  have := Nat.mul_le_mul h3 h1
  show _ ≤ 16777216
  omega
theorem o_add (hK : X.K = t.K) : OpR X (binaryOp .Add) (rP t fun S => binop S .add) := OpR.by fun v u H Q ⟨μ, S, x, y, d, rs, rx, ry, e, k⟩ => by
  have lists : ∀ {x y : D} {xs ys : List D}, RD t μ H x v → RD t μ H y u → lstOf S x = some xs → lstOf S y = some ys → (if xs.length + ys.length ≤ line then some (D.lst (xs ++ ys)) else none) = some d →
      ∃ r, OpR X (binaryOp .Add) r ∧ r v u H Q := fun {x y xs ys} rx ry e1 e2 e => by
    split at e
    · rename_i hl
      cases e
      obtain ⟨a, vs, rfl, h1, r1⟩ := lstOf_rd rs e1 rx
      obtain ⟨b, us, rfl, h2, r2⟩ := lstOf_rd rs e2 ry
      refine ⟨_, op_cat, a, b, vs, us, rfl, rfl, h1, h2, by rw [← r1.length, ← r2.length, line_eq]; exact hl, fun p hp => ?_⟩
      exact k μ _ _ (Ext.fresh hp) (rs.fresh hp) (RD.newLst rs hp (r1.append r2) (by rw [List.length_append, line_eq]; exact hl))
    · cases e
  replace e := (show bAdd S x y = some d from e)
  unfold bAdd at e
  split at e
  · rename_i i j
    cases e; cases rx; cases ry
    exact ⟨_, op_add, i, j, rfl, rfl, k μ H _ Ext.refl rs rfl⟩
  · rename_i i j
    split at e
    · rename_i hl
      cases e
      obtain ⟨rfl, o1⟩ := rx
      obtain ⟨rfl, o2⟩ := ry
      refine ⟨_, op_add_str, _, _, rfl, rfl, by rw [str_len, str_len, line_eq]; exact hl, ?_⟩
      rw [str_app]
      exact k μ H _ Ext.refl rs ⟨rfl, fun c hc => (List.mem_append.mp hc).elim (o1 c) (o2 c)⟩
    · cases e
  · rename_i i j
    split at e
    · rename_i hl
      cases e
      obtain ⟨a, vs, rfl, f1, r1⟩ := rx
      obtain ⟨b, us, rfl, f2, r2⟩ := ry
      refine ⟨_, op_catA, a, b, vs, us, rfl, rfl, by rw [hK]; exact f1.seq, by rw [hK]; exact f2.seq, by rw [← r1.length, ← r2.length, line_eq]; exact hl, fun z => ?_, fun z z2 => ?_, fun z z2 p hp => ?_⟩
      · subst z
        have : i = [] := List.length_eq_zero_iff.mp r1.length
        subst this
        exact k μ H _ Ext.refl rs ⟨b, us, rfl, f2, r2⟩
      · subst z2
        have : j = [] := List.length_eq_zero_iff.mp r2.length
        subst this
        rw [List.append_nil] at k
        exact k μ H _ Ext.refl rs ⟨a, vs, rfl, f1, r1⟩
      · exact k μ _ _ (Ext.fresh hp) (rs.fresh hp) (RD.newTup rs hp (r1.append r2) (by rw [List.length_append, line_eq]; exact hl))
    · cases e
  · split at e
    · rename_i e1 e2
      exact lists rx ry e1 e2 e
    · cases e
  all_goals first | contradiction | cases e
theorem o_sub : OpR X (binaryOp .Sub) (rP t fun S => binop S .sub) := OpR.by fun v u H Q ⟨μ, S, x, y, d, rs, rx, ry, e, k⟩ => by
  replace e := (show bSub x y = some d from e)
  unfold bSub at e
  split at e
  all_goals first | contradiction | cases e
  cases rx; cases ry
  exact ⟨_, op_sub, _, _, rfl, rfl, k μ H _ Ext.refl rs rfl⟩
theorem o_mod : OpR X (binaryOp .Mod) (rP t fun S => binop S .mod) := OpR.by fun v u H Q ⟨μ, S, x, y, d, rs, rx, ry, e, k⟩ => by
  replace e := (show bMod x y = some d from e)
  unfold bMod at e
  split at e
  all_goals try first | contradiction | (cases e; done)
  split at e
  · rename_i h
    cases e; cases rx; cases ry
    exact ⟨_, op_mod, _, _, rfl, rfl, h, k μ H _ Ext.refl rs rfl⟩
  · cases e
theorem o_fdiv : OpR X (binaryOp .FloorDiv) (rP t fun S => binop S .fdiv) := OpR.by fun v u H Q ⟨μ, S, x, y, d, rs, rx, ry, e, k⟩ => by
  replace e := (show bDiv x y = some d from e)
  unfold bDiv at e
  split at e
  all_goals try first | contradiction | (cases e; done)
  split at e
  · rename_i h
    cases e; cases rx; cases ry
    rw [divOk_eq] at h
    rw [Bool.and_eq_true, Bool.or_eq_true] at h
    obtain ⟨h1, h2 | h2⟩ := h
    · exact ⟨_, op_fdiv, _, _, rfl, rfl, ⟨of_decide_eq_true h1, of_decide_eq_true h2⟩, k μ H _ Ext.refl rs rfl⟩
    · exact ⟨_, op_fdivW, _, _, rfl, rfl, ⟨of_decide_eq_true h1, of_decide_eq_true h2⟩, k μ H _ Ext.refl rs rfl⟩
  · cases e
theorem o_pow : OpR X (binaryOp .Pow) (rP t fun S => binop S .pow) := OpR.by fun v u H Q ⟨μ, S, x, y, d, rs, rx, ry, e, k⟩ => by
  replace e := (show bPow x y = some d from e)
  unfold bPow at e
  split at e
  all_goals try first | contradiction | (cases e; done)
  split at e
  · rename_i h
    cases e; cases rx; cases ry
    exact ⟨_, op_pow, _, _, rfl, rfl, ⟨h.1, h.2.1, h.2.2⟩, k μ H _ Ext.refl rs rfl⟩
  · cases e
theorem o_mul (hK : X.K = t.K) : OpR X (binaryOp .Mult) (rP t fun S => binop S .mul) := OpR.by fun v u H Q ⟨μ, S, x, y, d, rs, rx, ry, e, k⟩ => by
  replace e := (show bMul S x y = some d from e)
  unfold bMul at e
  split at e
  · split at e
    · rename_i h
      cases e; cases rx; cases ry
      rw [mulOk_eq] at h
      rw [Bool.or_eq_true, Bool.or_eq_true] at h
      rcases h with (h | h) | h
      · exact ⟨_, op_mul, _, _, rfl, rfl, .inl (of_decide_eq_true h), k μ H _ Ext.refl rs rfl⟩
      · exact ⟨_, op_mul, _, _, rfl, rfl, .inr (of_decide_eq_true h), k μ H _ Ext.refl rs rfl⟩
      · have hw := of_decide_eq_true h
        exact ⟨_, op_mulW, _, _, rfl, rfl, hw, k μ H _ Ext.refl rs rfl⟩
    · cases e
  · split at e
    · rename_i h
      cases e; cases ry
      obtain ⟨a, vs, rfl, f1, r1⟩ := rx
      refine ⟨_, op_repT, a, _, vs, rfl, rfl, by rw [hK]; exact f1.seq, fun z => h.1 ?_, h.2.2.1, h.2.2.2, by rw [← r1.length]; exact h.2.1, fun p hp => ?_⟩
      · subst z
        exact List.length_eq_zero_iff.mp r1.length
      · exact k μ _ _ (Ext.fresh hp) (rs.fresh hp) (RD.newTup rs hp (rep_rd r1 _) (by rw [rep_len, line_eq]; exact rep_le h.2.1 h.2.2.2))
    · cases e
  · split at e
    · rename_i e1
      split at e
      · rename_i h
        cases e; cases ry
        obtain ⟨a, vs, rfl, h1, r1⟩ := lstOf_rd rs e1 rx
        refine ⟨_, op_rep, a, _, vs, rfl, rfl, h1, by omega, by omega, by rw [← r1.length, line_eq]; exact h.1, fun p hp => ?_⟩
        exact k μ _ _ (Ext.fresh hp) (rs.fresh hp) (RD.newLst rs hp (rep_rd r1 _) (by rw [rep_len, line_eq, Nat.mul_comm]; exact h.1))
      · cases e
    · cases e
  all_goals first | contradiction | cases e
/-! ### comparisons -/
mutual
def toPD : D → PyData
  | .bl b => .bool b
  | .int i => .int i
  | .str s => .str ⟨s.toArray⟩
  | .tup xs => .tuple (toPDs xs)
  | .lst xs => .list (toPDs xs)
  | _ => .none
def toPDs : List D → List PyData
  | [] => []
  | x :: xs => toPD x :: toPDs xs
end
mutual
theorem toPD_dep : ∀ (n : Nat) (d : D), pd n d = true → (toPD d).depth ≤ n
  | _, .non, _ => by simp [toPD, PyData.depth]
  | _, .bl _, _ => by simp [toPD, PyData.depth]
  | _, .int _, _ => by simp [toPD, PyData.depth]
  | _, .str _, _ => by simp [toPD, PyData.depth]
  | 0, .tup xs, h => by simp [pd] at h
  | 0, .lst xs, h => by simp [pd] at h
  | n + 1, .tup xs, h => by
    have := toPDs_dep n xs (by simpa [pd] using h)
    simp only [toPD, PyData.depth]; omega
  | n + 1, .lst xs, h => by
    have := toPDs_dep n xs (by simpa [pd] using h)
    simp only [toPD, PyData.depth]; omega
  | _, .dic _ _, h => by simp [pd] at h
  | _, .ins _ _ _, h => by simp [pd] at h
  | _, .ref _, h => by simp [pd] at h
  | _, .fn _, h => by simp [pd] at h
  | _, .scr _, h => by simp [pd] at h
theorem toPDs_dep : ∀ (n : Nat) (ds : List D), pds n ds = true → PyData.depthAll (toPDs ds) ≤ n
  | _, [], _ => by simp [toPDs, PyData.depthAll]
  | n, d :: ds, h => by
    have h' : pd n d = true ∧ pds n ds = true := by simpa [pds] using h
    have h1 := toPD_dep n d h'.1
    have h2 := toPDs_dep n ds h'.2
    simp only [toPDs, PyData.depthAll]
    omega
end
mutual
theorem eqB_pd : ∀ (n m : Nat) (a b : D), pd n a = true → pd m b = true → PyData.eqv (toPD a) (toPD b) = eqB a b
  | n, m, .tup xs, b, ha, hb => by
    cases n with
    | zero => simp [pd] at ha
    | succ n =>
      cases b with
      | tup ys =>
        cases m with
        | zero => simp [pd] at hb
        | succ m =>
          rw [toPD, toPD, PyData.eqv, eqB]
          exact eqBs_pd n m xs ys (by simpa [pd] using ha) (by simpa [pd] using hb)
      | _ => simp [toPD, PyData.eqv, eqB, pd] at hb ⊢
  | n, m, .lst xs, b, ha, hb => by
    cases n with
    | zero => simp [pd] at ha
    | succ n =>
      cases b with
      | lst ys =>
        cases m with
        | zero => simp [pd] at hb
        | succ m =>
          rw [toPD, toPD, PyData.eqv, eqB]
          exact eqBs_pd n m xs ys (by simpa [pd] using ha) (by simpa [pd] using hb)
      | _ => simp [toPD, PyData.eqv, eqB, pd] at hb ⊢
  | n, m, .non, b, ha, hb => by cases b <;> simp [toPD, PyData.eqv, eqB, pd] at hb ⊢
  | n, m, .bl x, b, ha, hb => by cases b <;> simp [toPD, PyData.eqv, eqB, pd, Bool.beq_eq_decide_eq] at hb ⊢
  | n, m, .int x, b, ha, hb => by cases b <;> simp [toPD, PyData.eqv, eqB, pd, Bool.beq_eq_decide_eq] at hb ⊢
  | n, m, .str x, b, ha, hb => by cases b <;> simp [toPD, PyData.eqv, eqB, pd, Bool.beq_eq_decide_eq] at hb ⊢
  | _, _, .dic _ _, _, h, _ => by simp [pd] at h
  | _, _, .ins _ _ _, _, h, _ => by simp [pd] at h
  | _, _, .ref _, _, h, _ => by simp [pd] at h
  | _, _, .fn _, _, h, _ => by simp [pd] at h
  | _, _, .scr _, _, h, _ => by simp [pd] at h
theorem eqBs_pd : ∀ (n m : Nat) (as bs : List D), pds n as = true → pds m bs = true → PyData.eqvAll (toPDs as) (toPDs bs) = eqBs as bs
  | _, _, [], [], _, _ => by simp [toPDs, PyData.eqvAll, eqBs]
  | _, _, [], b :: bs, _, _ => by simp [toPDs, PyData.eqvAll, eqBs]
  | _, _, a :: as, [], _, _ => by simp [toPDs, PyData.eqvAll, eqBs]
  | n, m, a :: as, b :: bs, ha, hb => by
    have ha' : pd n a = true ∧ pds n as = true := by simpa [pds] using ha
    have hb' : pd m b = true ∧ pds m bs = true := by simpa [pds] using hb
    rw [toPDs, toPDs, PyData.eqvAll, eqBs, eqB_pd n m a b ha'.1 hb'.1, eqBs_pd n m as bs ha'.2 hb'.2]
end
mutual
theorem dp_of {μ : List Addr} {H : Hp} (n : Nat) : ∀ (d : D) (v : V), pd n d = true → RD t μ H d v → Dp t.K H v (toPD d) ∧ (toPD d).canLay0 = true
  | .non, _, _, r => by cases r; exact ⟨.non, rfl⟩
  | .bl b, _, _, r => by cases r; exact ⟨.bl b, rfl⟩
  | .int i, _, _, r => by cases r; exact ⟨.int i, rfl⟩
  | .str s, _, _, r => by
    obtain ⟨rfl, o⟩ := r
    refine ⟨.str _, ?_⟩
    show PyData.strOk _ = true
    unfold PyData.strOk
    simp only [List.all_toArray, List.all_eq_true, decide_eq_true_eq]
    exact o
  | .tup xs, _, h, r => by
    obtain ⟨a, vs, rfl, f, r⟩ := r
    cases n with
    | zero => simp [pd] at h
    | succ n =>
      obtain ⟨h1, h2⟩ := dps_of n xs vs (by simpa [pd] using h) r
      rw [toPD]
      exact ⟨.tup f.seq h1, by simpa [PyData.canLay0] using h2⟩
  | .lst xs, _, h, r => by
    obtain ⟨a, vs, rfl, f, r⟩ := r
    cases n with
    | zero => simp [pd] at h
    | succ n =>
      obtain ⟨h1, h2⟩ := dps_of n xs vs (by simpa [pd] using h) r
      rw [toPD]
      exact ⟨.lst (SqL.of f.2) h1, by simpa [PyData.canLay0] using h2⟩
  | .dic _ _, _, h, _ => by simp [pd] at h
  | .ins _ _ _, _, h, _ => by simp [pd] at h
  | .ref _, _, h, _ => by simp [pd] at h
  | .fn _, _, h, _ => by simp [pd] at h
  | .scr _, _, h, _ => by simp [pd] at h
theorem dps_of {μ : List Addr} {H : Hp} (n : Nat) : ∀ (ds : List D) (vs : List V), pds n ds = true → RDs t μ H ds vs → DpAll t.K H vs (toPDs ds) ∧ PyData.canLayAll0 (toPDs ds) = true
  | [], _, _, r => by cases r; exact ⟨.nil, rfl⟩
  | d :: ds, _, h, r => by
    obtain ⟨v, vr, rfl, r1, r2⟩ := r
    have h' : pd n d = true ∧ pds n ds = true := by simpa [pds] using h
    obtain ⟨a1, b1⟩ := dp_of n d v h'.1 r1
    obtain ⟨a2, b2⟩ := dps_of n ds vr h'.2 r2
    rw [toPDs]
    exact ⟨.cons a1 a2, by simp [PyData.canLayAll0, b1, b2]⟩
end
/-- a value, or a cell read as one -/
theorem dp_rd {μ : List Addr} {H : Hp} {S : Sto} (rs : RS t μ S H) {n : Nat} {d : D} {v : V} (h : pd n (rdOf S d) = true) (r : RD t μ H d v) : Dp t.K H v (toPD (rdOf S d)) ∧ (toPD (rdOf S d)).canLay0 = true := by
  cases d with
  | ref l =>
    obtain ⟨a, hl, rfl⟩ := r
    simp only [rdOf] at h ⊢
    split
    · rename_i xs q
      rw [q] at h
      obtain ⟨vs, h1, h2⟩ := rs.get l _ a q hl
      cases n with
      | zero => simp [pd] at h
      | succ n =>
        obtain ⟨h3, h4⟩ := dps_of n xs vs (by simpa [pd] using h) h2
        rw [toPD]
        exact ⟨.lst (SqL.of h1) h3, by simpa [PyData.canLay0] using h4⟩
    all_goals
      rename_i q
      rw [q] at h
      simp [pd] at h
  | _ => exact dp_of n _ v h r
theorem shaped_of {d : D} (h : pd 60 d = true) (c : (toPD d).canLay0 = true) : SeqAt.shaped (toPD d) = true := by
  unfold SeqAt.shaped
  have := toPD_dep 60 d h
  rw [c, Bool.true_and]
  exact decide_eq_true (by omega)
/-- a comparison whose answer is op's -/
def rB (t : Tb) (op : Sto → D → D → Option Bool) : R2 := fun v u H Q => ∃ μ S x y c, RS t μ S H ∧ RD t μ H x v ∧ RD t μ H y u ∧ op S x y = some c ∧ Q (.bl c) H
theorem o_eq (hK : X.K = t.K) (hu : X.A.units + 65 < cLine) : OpR X (compareOp .Eq) (rB t fun S => cmpop S .eq) := OpR.by fun v u H Q ⟨μ, S, x, y, c, rs, rx, ry, e, k⟩ => by
  replace e : eqd (rdOf S x) (rdOf S y) = some c := e
  unfold eqd at e
  split at e
  · rename_i h
    rw [Bool.and_eq_true] at h
    cases e
    obtain ⟨d1, c1⟩ := dp_rd rs h.1 rx
    obtain ⟨d2, c2⟩ := dp_rd rs h.2 ry
    refine ⟨_, op_eqD (by omega), _, _, by rw [hK]; exact d1, by rw [hK]; exact d2, shaped_of h.1 c1, shaped_of h.2 c2, ?_⟩
    rw [eqB_pd 60 60 _ _ h.1 h.2]
    exact k
  · cases e
theorem o_ne (hK : X.K = t.K) (hu : X.A.units + 65 < cLine) : OpR X (compareOp .NotEq) (rB t fun S => cmpop S .ne) := OpR.by fun v u H Q ⟨μ, S, x, y, c, rs, rx, ry, e, k⟩ => by
  replace e : (eqd (rdOf S x) (rdOf S y)).map (!·) = some c := e
  unfold eqd at e
  split at e
  · rename_i h
    rw [Bool.and_eq_true] at h
    cases e
    obtain ⟨d1, c1⟩ := dp_rd rs h.1 rx
    obtain ⟨d2, c2⟩ := dp_rd rs h.2 ry
    refine ⟨_, op_neD (by omega), _, _, by rw [hK]; exact d1, by rw [hK]; exact d2, shaped_of h.1 c1, shaped_of h.2 c2, ?_⟩
    rw [eqB_pd 60 60 _ _ h.1 h.2]
    exact k
  · cases e
theorem str_list (a : List Nat) : ((⟨a.toArray⟩ : Str).cps.toList) = a := by simp
theorem intsD_rd {μ : List Addr} {H : Hp} : ∀ {ds : List D} {vs : List V} {ns : List Int}, intsD ds = some ns → RDs t μ H ds vs → vs = ns.map V.int
  | [], _, _, e, r => by cases e; cases r; rfl
  | d :: ds, _, ns, e, r => by
    obtain ⟨v, vr, rfl, r1, r2⟩ := r
    unfold intsD at e
    split at e
    · rename_i q; cases q
    · rename_i q
      injection q with q1 q2
      subst q1 q2
      cases q : intsD ds with
      | none => rw [q] at e; cases e
      | some ms =>
        rw [q] at e
        cases e
        cases r1
        rw [intsD_rd q r2]
        rfl
    · cases e
theorem lexI_eq : ∀ a b : List Int, HT.lexLt a b = lexI a b
  | [], [] => rfl
  | [], _ :: _ => rfl
  | _ :: _, [] => rfl
  | x :: xs, y :: ys => by rw [HT.lexLt_cons, lexI, lexI_eq xs ys]
theorem o_lt (hK : X.K = t.K) (hu : X.A.units + 65 < cLine) : OpR X (compareOp .Lt) (rB t fun S => cmpop S .lt) := OpR.by fun v u H Q ⟨μ, S, x, y, c, rs, rx, ry, e, k⟩ => by
  replace e : cLt x y = some c := e
  unfold cLt at e
  split at e
  · cases e; cases rx; cases ry
    exact ⟨_, op_lt, _, _, rfl, rfl, k⟩
  · cases e
    obtain ⟨rfl, _⟩ := rx
    obtain ⟨rfl, _⟩ := ry
    refine ⟨_, op_lt_str, _, _, rfl, rfl, ?_⟩
    rw [str_list, str_list]
    exact k
  · split at e
    · rename_i q1 q2
      cases e
      obtain ⟨a, vs, rfl, f1, r1⟩ := rx
      obtain ⟨b, us, rfl, f2, r2⟩ := ry
      have g1 := f1.seq
      have g2 := f2.seq
      rw [intsD_rd q1 r1] at g1
      rw [intsD_rd q2 r2] at g2
      refine ⟨_, op_ltT (by omega), a, b, _, _, rfl, rfl, by rw [hK]; exact g1, by rw [hK]; exact g2, ?_⟩
      rw [lexI_eq]
      exact k
    · cases e
  · cases e
theorem o_gt : OpR X (compareOp .Gt) (rB t fun S => cmpop S .gt) := OpR.by fun v u H Q ⟨μ, S, x, y, c, rs, rx, ry, e, k⟩ => by
  replace e : cGt x y = some c := e
  unfold cGt at e
  split at e
  · cases e
  · rename_i hn
    replace e : cLt y x = some c := e
    unfold cLt at e
    split at e
    · cases e; cases rx; cases ry
      exact ⟨_, op_gt, _, _, rfl, rfl, k⟩
    · cases e
      obtain ⟨rfl, _⟩ := rx
      obtain ⟨rfl, _⟩ := ry
      refine ⟨_, op_gt_str, _, _, rfl, rfl, ?_⟩
      rw [str_list, str_list]
      exact k
    · exact absurd rfl (hn _)
    · cases e
theorem nlt_le (a b : List Nat) : (!decide (b < a)) = decide (a ≤ b) := by
  by_cases h : b < a
  · rw [decide_eq_true h, decide_eq_false (List.not_le.mpr h)]; rfl
  · rw [decide_eq_false h, decide_eq_true (List.not_lt.mp h)]; rfl
theorem o_le : OpR X (compareOp .LtE) (rB t fun S x y => cmpop S .le x y) := OpR.by fun v u H Q ⟨μ, S, x, y, c, rs, rx, ry, e, k⟩ => by
  replace e : cLe x y = some c := e
  unfold cLe at e
  split at e
  · cases e; cases rx; cases ry
    exact ⟨_, op_le, _, _, rfl, rfl, k⟩
  · cases e
    obtain ⟨rfl, _⟩ := rx
    obtain ⟨rfl, _⟩ := ry
    refine ⟨_, op_le_str, _, _, rfl, rfl, ?_⟩
    rw [str_list, str_list]
    rw [nlt_le]
    exact k
  · cases e
theorem o_ge : OpR X (compareOp .GtE) (rB t fun S x y => cmpop S .ge x y) := OpR.by fun v u H Q ⟨μ, S, x, y, c, rs, rx, ry, e, k⟩ => by
  replace e : cLe y x = some c := e
  unfold cLe at e
  split at e
  · cases e; cases rx; cases ry
    exact ⟨_, op_ge, _, _, rfl, rfl, k⟩
  · cases e
    obtain ⟨rfl, _⟩ := rx
    obtain ⟨rfl, _⟩ := ry
    refine ⟨_, op_ge_str, _, _, rfl, rfl, ?_⟩
    rw [str_list, str_list]
    rw [nlt_le]
    exact k
  · cases e
/-! ### in -/
def rInX (K : PySem.W.Frag) (neg : Bool) : R2 := fun x y H Q => ∃ d ds, Dp K H x d ∧ (Dp K H y (.list ds) ∨ Dp K H y (.tuple ds)) ∧ SeqAt.shaped d = true ∧ PyData.canLayAll0 ds = true ∧
  Q (.bl (if neg then !(ds.any fun z => PyData.eqv z d) else ds.any fun z => PyData.eqv z d)) H
theorem op_inX (hu : X.A.units + 65 < cLine) : OpR X (compareOp .In) (rInX X.K false) := by
  intro pins s σ H x y v u Q I rx ry h
  obtain ⟨d, ds, hd, he, sd, se, q⟩ := h
  obtain ⟨as, r1⟩ := Dp.reads I d x v hd rx
  have room : X.A.units + 1 + min (PyData.depthAll ds) d.depth < cLine := by have := SeqAt.depth_of_shaped sd; omega
  rcases he with he | he
  · obtain ⟨bs, r2⟩ := Dp.reads I _ y u he ry
    exact SeqAt.in_list_reads r2 r1 se (SeqAt.canLay_of_shaped sd) room ⟨.bl _, H, I, rfl, q⟩
  · obtain ⟨bs, r2⟩ := Dp.reads I _ y u he ry
    exact SeqAt.in_tuple_reads r2 r1 se (SeqAt.canLay_of_shaped sd) room ⟨.bl _, H, I, rfl, q⟩
theorem op_notinX (hu : X.A.units + 65 < cLine) : OpR X (compareOp .NotIn) (rInX X.K true) := by
  intro pins s σ H x y v u Q I rx ry h
  obtain ⟨d, ds, hd, he, sd, se, q⟩ := h
  obtain ⟨as, r1⟩ := Dp.reads I d x v hd rx
  have room : X.A.units + 1 + min (PyData.depthAll ds) d.depth < cLine := by have := SeqAt.depth_of_shaped sd; omega
  rcases he with he | he
  · obtain ⟨bs, r2⟩ := Dp.reads I _ y u he ry
    exact SeqAt.notIn_list_reads r2 r1 se (SeqAt.canLay_of_shaped sd) room ⟨.bl _, H, I, rfl, q⟩
  · obtain ⟨bs, r2⟩ := Dp.reads I _ y u he ry
    exact SeqAt.notIn_tuple_reads r2 r1 se (SeqAt.canLay_of_shaped sd) room ⟨.bl _, H, I, rfl, q⟩
theorem any_pd (d : D) (hd : pd 60 d = true) : ∀ ds : List D, pds 60 ds = true → ((toPDs ds).any fun z => PyData.eqv z (toPD d)) = ds.any fun y => eqB y d
  | [], _ => rfl
  | x :: xs, h => by
    have h' : pd 60 x = true ∧ pds 60 xs = true := by simpa [pds] using h
    rw [toPDs, List.any_cons, List.any_cons, eqB_pd 60 60 x d h'.1 hd, any_pd d hd xs h'.2]
theorem in_rd (hK : X.K = t.K) {μ : List Addr} {H : Hp} {S : Sto} (rs : RS t μ S H) {x y : D} {v u : V} {c : Bool} (rx : RD t μ H x v) (ry : RD t μ H y u) (e : ((seqOf S y).bind fun xs => inv (rdOf S x) xs) = some c) {Q : VK} {neg : Bool}
    (k : Q (.bl (if neg then !c else c)) H) : rInX X.K neg v u H Q := by
  cases q : seqOf S y with
  | none => rw [q] at e; cases e
  | some xs =>
    rw [q] at e
    replace e : inv (rdOf S x) xs = some c := e
    unfold inv at e
    split at e
    · rename_i h
      rw [Bool.and_eq_true] at h
      cases e
      obtain ⟨d1, c1⟩ := dp_rd rs h.1 rx
      obtain ⟨a, vs, rfl, hs, r⟩ := seqOf_rd rs q ry
      obtain ⟨d2, c2⟩ := dps_of 60 xs vs h.2 r
      refine ⟨toPD (rdOf S x), toPDs xs, by rw [hK]; exact d1, ?_, shaped_of h.1 c1, c2, by rw [any_pd _ h.1 xs h.2]; exact k⟩
      rw [hK]
      exact hs.imp (fun z => .lst z d2) fun z => .tup z d2
    · cases e
theorem o_in (hK : X.K = t.K) (hu : X.A.units + 65 < cLine) : OpR X (compareOp .In) (rB t fun S => cmpop S .inn) := OpR.by fun v u H Q ⟨μ, S, x, y, c, rs, rx, ry, e, k⟩ => by
  replace e : cIn S x y = some c := e
  unfold cIn at e
  split at e
  · split at e
    · cases e
      obtain ⟨rfl, _⟩ := rx
      obtain ⟨rfl, _⟩ := ry
      exact ⟨_, op_in_sign, _, _, rfl, rfl, by rw [str_list]; exact k⟩
    · cases e
  · exact ⟨_, op_inX hu, in_rd hK rs rx ry e k⟩
theorem o_notin (hK : X.K = t.K) (hu : X.A.units + 65 < cLine) : OpR X (compareOp .NotIn) (rB t fun S => cmpop S .notin) := OpR.by fun v u H Q ⟨μ, S, x, y, c, rs, rx, ry, e, k⟩ => by
  replace e : (cIn S x y).map (!·) = some c := e
  cases q : cIn S x y with
  | none => rw [q] at e; cases e
  | some c' =>
    rw [q] at e
    cases e
    unfold cIn at q
    split at q
    · split at q
      · cases q
        obtain ⟨rfl, _⟩ := rx
        obtain ⟨rfl, _⟩ := ry
        exact ⟨_, op_notIn_sign, _, _, rfl, rfl, by rw [str_list]; exact k⟩
      · cases q
    · exact ⟨_, op_notinX hu, in_rd hK rs rx ry q k⟩
/-! ### is None -/
theorem non_rd {μ : List Addr} {H : Hp} {d : D} {v : V} (r : RD t μ H d v) : decide (v = .non) = cNon d := by
  cases d with
  | non => cases r; rfl
  | bl b => cases r; rfl
  | int i => cases r; rfl
  | str s => obtain ⟨rfl, _⟩ := r; rfl
  | fn f => cases r; rfl
  | tup ds => obtain ⟨a, vs, rfl, _⟩ := r; rfl
  | lst ds => obtain ⟨a, vs, rfl, _⟩ := r; rfl
  | scr ds => obtain ⟨a, vs, rfl, _⟩ := r; rfl
  | dic ks ds => obtain ⟨a, vs, rfl, _⟩ := r; rfl
  | ins c i ds => obtain ⟨a, dx, vs, rfl, _⟩ := r; rfl
  | ref l => obtain ⟨a, _, rfl⟩ := r; rfl
theorem o_is : OpR X (compareOp .Is) (rB t fun S => cmpop S .isn) := OpR.by fun v u H Q ⟨μ, S, x, y, c, rs, rx, ry, e, k⟩ => by
  replace e : (if cNon y then some (cNon x) else none) = some c := e
  split at e
  · rename_i h
    cases e
    refine ⟨_, op_isN, ?_, by rw [non_rd rx]; exact k⟩
    rw [← non_rd ry] at h
    exact of_decide_eq_true h
  · cases e
theorem o_isnot : OpR X (compareOp .IsNot) (rB t fun S => cmpop S .notn) := OpR.by fun v u H Q ⟨μ, S, x, y, c, rs, rx, ry, e, k⟩ => by
  replace e : (if cNon y then some (!cNon x) else none) = some c := e
  split at e
  · rename_i h
    cases e
    refine ⟨_, op_notN, ?_, by rw [non_rd rx]; exact k⟩
    rw [← non_rd ry] at h
    exact of_decide_eq_true h
  · cases e
end
end Dn
/-! Dn: built-in functions by values. -/
namespace Dn
open PySem L2 -- names

def rC (t : Tb) (op : List D → Sto → R D) : List V → Hp → VK → Prop := fun vs H Q => ∃ μ S ds, RS t μ S H ∧ RDs t μ H ds vs ∧
  Aft t μ H (op ds S) (fun d _ μ' H' => ∀ w, RD t μ' H' d w → Q w H') (fun _ _ _ _ => False)
theorem CallR.by {X : L2.Cx} {f : Value} {r' : List V → Hp → VK → Prop} (h : ∀ vs H Q, r' vs H Q → ∃ r, CallR X f r ∧ r vs H Q) : CallR X f r' :=
  fun pins s σ H xs us Q I rx q => let ⟨r, h1, h2⟩ := h xs H Q q; h1 pins s σ H xs us Q I rx h2
section
variable {t : Tb} {W : Wi} {X : L2.Cx} {μ : List Addr} {H : Hp} {S : Sto}
theorem RDs.one {d : D} {vs : List V} (r : RDs t μ H [d] vs) : ∃ v, vs = [v] ∧ RD t μ H d v := by
  obtain ⟨v, vr, rfl, h1, h2⟩ := r
  cases h2
  exact ⟨v, rfl, h1⟩
theorem RDs.two {d e : D} {vs : List V} (r : RDs t μ H [d, e] vs) : ∃ v u, vs = [v, u] ∧ RD t μ H d v ∧ RD t μ H e u := by
  obtain ⟨v, vr, rfl, h1, h2⟩ := r
  obtain ⟨u, rfl, h3⟩ := RDs.one h2
  exact ⟨v, u, rfl, h1, h3⟩
theorem mkL_ok (rs : RS t μ S H) {p : Addr} (hp : H p = none) {ds : List D} {vs : List V} (r : RDs t μ H ds vs) {cell : Bool} {Q : VK} {kx : Xn → Sto → List Addr → Hp → Prop}
    (h : Aft t μ H (mkL cell ds S) (fun d _ μ' H' => ∀ w, RD t μ' H' d w → Q w H') kx) (hl : ds.length ≤ sizeLine) : Q (.ref p) (upd H p (.lst vs)) := by
  cases cell with
  | false => exact h μ _ (Ext.fresh hp) (rs.fresh hp) _ (RD.newLst rs hp r hl)
  | true =>
    have e := Ext.cell (μ := μ) (o := .lst vs) hp
    refine h (μ ++ [p]) _ e (rs.cell hp ⟨vs, upd_same, RDs.ext e ds r⟩ hl) _ ⟨p, ?_, rfl⟩
    rw [← rs.len, List.getElem?_append_right (Nat.le_refl _), Nat.sub_self]
    rfl
theorem boolsD_rd : ∀ {ds : List D} {vs : List V} {ns : List Bool}, boolsD ds = some ns → RDs t μ H ds vs → vs = ns.map V.bl
  | [], _, _, e, r => by cases e; cases r; rfl
  | d :: ds, _, ns, e, r => by
    obtain ⟨v, vr, rfl, r1, r2⟩ := r
    unfold boolsD at e
    split at e
    · rename_i q; cases q
    · rename_i q
      injection q with q1 q2
      subst q1 q2
      cases q : boolsD ds with
      | none => rw [q] at e; cases e
      | some ms =>
        rw [q] at e
        cases e
        cases r1
        rw [boolsD_rd q r2]
        rfl
    · cases e
theorem rd_ints : ∀ ns : List Int, RDs t μ H (ns.map D.int) (ns.map V.int)
  | [] => rfl
  | n :: ns => ⟨_, _, rfl, rfl, rd_ints ns⟩
/-- a pure answer -/
theorem ofc {op : List D → Option D} {ds : List D} {Q : VK} (rs : RS t μ S H) (h : Aft t μ H (R.of (op ds) S) (fun d _ μ' H' => ∀ w, RD t μ' H' d w → Q w H') (fun _ _ _ _ => False)) :
    ∃ d, op ds = some d ∧ ∀ μ' H' w, Ext μ H μ' H' → RS t μ' S H' → RD t μ' H' d w → Q w H' := by
  obtain ⟨d, e, h⟩ := h.of
  exact ⟨d, e, fun μ' H' w e s r => h μ' H' e s w r⟩
theorem f1_of {f : D → Option D} {ds : List D} {d : D} (e : f1 f ds = some d) : ∃ x, ds = [x] ∧ f x = some d := by
  unfold f1 at e
  split at e
  · exact ⟨_, rfl, e⟩
  · cases e
theorem map_of {α β : Type} {o : Option α} {f : α → β} {b : β} (e : o.map f = some b) : ∃ a, o = some a ∧ f a = b := by
  cases o with
  | none => cases e
  | some a => cases e; exact ⟨a, rfl, rfl⟩
theorem bind_of {α β : Type} {o : Option α} {f : α → Option β} {b : β} (e : o.bind f = some b) : ∃ a, o = some a ∧ f a = some b := by
  cases o with
  | none => cases e
  | some a => exact ⟨a, rfl, e⟩
theorem keys_len : ∀ {ds : List D} {ks : List Key}, KeysD ds ks → ds.length = ks.length
  | [], _, h => by cases h; rfl
  | d :: ds, _, h => by
    obtain ⟨k, kr, rfl, _, h2⟩ := h
    rw [List.length_cons, List.length_cons, keys_len h2]
theorem call_lenR : CallR X (.builtin "len") (fun xs H Q => ∃ a kvs, xs = [V.ref a] ∧ Rd H a (.dK kvs) ∧ Q (.int kvs.length) H) := fun pins s σ H xs us Q I r ⟨a, kvs, hx, ha, q⟩ => by
  subst hx
  obtain ⟨u, rfl, ru⟩ := vals1 r
  cases ru
  exact d_len I ha fun tk s2 J => ⟨.int kvs.length, H, J, ⟨tk, rfl⟩, q⟩
theorem c_len (hK : X.K = t.K) (cx : Dn.Cx) (cell : Bool) : CallR X (.builtin "len") (rC t (bi cx cell .len)) := CallR.by fun vs H Q ⟨μ, S, ds, rs, r, h⟩ => by
  obtain ⟨d, e1, k⟩ := ofc rs h
  obtain ⟨x, rfl, e2⟩ := f1_of e1
  obtain ⟨n, e, e4⟩ := map_of e2
  subst e4
  clear e1 e2 h
  obtain ⟨v, rfl, rx⟩ := r.one
  have go : ∀ {xs : List D}, seqOf S x = some xs → n = xs.length → ∃ r, CallR X (.builtin "len") r ∧ r [v] H Q := fun {xs} q hn => by
    obtain ⟨a, us, rfl, hs, r⟩ := seqOf_rd rs q rx
    refine ⟨_, call_len_seq, a, us, rfl, by rw [hK]; exact hs, ?_⟩
    rw [← r.length]
    exact k μ H _ Ext.refl rs (by rw [hn]; rfl)
  unfold fLen at e
  split at e
  · split at e
    · rename_i h
      cases e
      obtain ⟨rfl, _⟩ := rx
      refine ⟨_, call_len_str, _, rfl, by rw [str_len, line_eq]; exact h, ?_⟩
      rw [str_len]
      exact k μ H _ Ext.refl rs rfl
    · cases e
  · cases e
    obtain ⟨a, kvs, rfl, n, f, q, r⟩ := rx
    refine ⟨_, call_lenR, a, kvs, rfl, f, ?_⟩
    rw [← List.length_map (f := (·.1)) (as := kvs), ← keys_len q]
    exact k μ H _ Ext.refl rs rfl
  · split at e
    · rename_i q
      cases e
      exact go (by simp only [seqOf, q]) rfl
    · rename_i q
      cases e
      obtain ⟨a, hl, rfl⟩ := rx
      obtain ⟨kvs, h1, h2, h3⟩ := rs.get _ _ a q hl
      refine ⟨_, call_lenR, a, kvs, rfl, .inl h1, ?_⟩
      rw [← List.length_map (f := (·.1)) (as := kvs), ← keys_len h2]
      exact k μ H _ Ext.refl rs rfl
    · cases e
  · obtain ⟨xs, q, e5⟩ := map_of e
    exact go q e5.symm
theorem c_int (cx : Dn.Cx) (cell : Bool) : CallR X (.type "int") (rC t (bi cx cell .int)) := CallR.by fun vs H Q ⟨μ, S, ds, rs, r, h⟩ => by
  obtain ⟨d, e1, k⟩ := ofc (op := f1 fun d => (fInt d).map .int) rs h
  obtain ⟨x, rfl, e2⟩ := f1_of e1
  obtain ⟨n, e, e4⟩ := map_of e2
  subst e4
  obtain ⟨v, rfl, rx⟩ := r.one
  unfold fInt at e
  split at e
  · cases e; cases rx
    exact ⟨_, call_int1, .inl ⟨_, rfl, k μ H _ Ext.refl rs rfl⟩⟩
  · cases e; cases rx
    exact ⟨_, call_int1, .inr ⟨_, rfl, k μ H _ Ext.refl rs rfl⟩⟩
  · cases e
theorem c_tuple (hK : X.K = t.K) (cx : Dn.Cx) (cell : Bool) : CallR X (.type "tuple") (rC t (bi cx cell .tuple)) := CallR.by fun vs H Q ⟨μ, S, ds, rs, r, h⟩ => by
  obtain ⟨d, e1, k⟩ := ofc rs h
  obtain ⟨x, rfl, e2⟩ := f1_of e1
  obtain ⟨xs, e, e4⟩ := map_of e2
  subst e4
  obtain ⟨v, rfl, rx⟩ := r.one
  have hln := seq_len rs e rx
  have lists : ∀ {a us}, v = .ref a → SqL t.K H a us → RDs t μ H xs us → ∃ r, CallR X (.type "tuple") r ∧ r [v] H Q := fun {a us} hv hs r' => by
    subst hv
    exact ⟨_, call_tuple_of, a, us, rfl, .inl ⟨by rw [hK]; exact hs, fun p hp => k μ _ _ (Ext.fresh hp) (rs.fresh hp) (RD.newTup rs hp r' hln)⟩⟩
  cases x with
  | lst ys =>
    cases e
    obtain ⟨a, vs, rfl, f, r⟩ := rx
    exact lists rfl (SqL.of f.2) r
  | scr ys =>
    cases e
    obtain ⟨a, vs, rfl, f, r⟩ := rx
    exact lists rfl f.seq r
  | tup ys =>
    cases e
    obtain ⟨a, vs, rfl, f, r⟩ := rx
    exact ⟨_, call_tuple_of, a, vs, rfl, .inr ⟨by rw [hK]; exact f.seq, k μ _ _ Ext.refl rs ⟨a, vs, rfl, f, r⟩⟩⟩
  | ref l =>
    obtain ⟨a, h, rfl⟩ := rx
    simp only [seqOf] at e
    split at e
    · rename_i ys q
      cases e
      obtain ⟨vs, h1, h2⟩ := rs.get l _ a q h
      exact lists rfl (SqL.of h1) h2
    · cases e
  | _ => cases e
theorem l1_of {cell : Bool} {f : D → Option (List D)} {ds : List D} {k : D → Sto → List Addr → Hp → Prop} {kx : Xn → Sto → List Addr → Hp → Prop} (h : Aft t μ H (l1 cell f ds S) k kx) : ∃ x xs, ds = [x] ∧ f x = some xs ∧ Aft t μ H (mkL cell xs S) k kx := by
  unfold l1 at h
  split at h
  · split at h
    · rename_i q
      exact ⟨_, _, rfl, q, h⟩
    · exact h.elim
  · exact h.elim
theorem c_list (hK : X.K = t.K) (cx : Dn.Cx) (cell : Bool) : CallR X (.type "list") (rC t (bi cx cell .list)) := CallR.by fun vs H Q ⟨μ, S, ds, rs, r, h⟩ => by
  obtain ⟨x, xs, rfl, e, h⟩ := l1_of h
  obtain ⟨v, rfl, rx⟩ := r.one
  obtain ⟨a, us, rfl, hs, r⟩ := seqOf_rd rs e rx
  exact ⟨_, call_list_of, a, us, rfl, by rw [hK]; exact hs, fun p hp => mkL_ok rs hp r h (seq_len rs e rx)⟩
theorem c_abs (cx : Dn.Cx) (cell : Bool) : CallR X (.builtin "abs") (rC t (bi cx cell .abs)) := CallR.by fun vs H Q ⟨μ, S, ds, rs, r, h⟩ => by
  obtain ⟨d, e1, k⟩ := ofc rs h
  obtain ⟨x, rfl, e⟩ := f1_of e1
  obtain ⟨v, rfl, rx⟩ := r.one
  split at e
  · cases e; cases rx
    exact ⟨_, call_abs, _, rfl, k μ H _ Ext.refl rs rfl⟩
  · cases e
theorem f2_of {f : Int → Int → Int} {ds : List D} {d : D} (e : f2 f ds = some d) : ∃ i j, ds = [.int i, .int j] ∧ d = .int (f i j) := by
  unfold f2 at e
  split at e
  · cases e; exact ⟨_, _, rfl, rfl⟩
  · cases e
theorem c_max2 (hc : X.calm = true) (cx : Dn.Cx) (cell : Bool) : CallR X (.builtin "max") (rC t (bi cx cell .max2)) := CallR.by fun vs H Q ⟨μ, S, ds, rs, r, h⟩ => by
  obtain ⟨d, e1, k⟩ := ofc rs h
  obtain ⟨i, j, rfl, rfl⟩ := f2_of e1
  obtain ⟨v, u, rfl, rx, ry⟩ := r.two
  cases rx; cases ry
  exact ⟨_, call_max2 hc, i, j, rfl, k μ H _ Ext.refl rs rfl⟩
theorem c_min2 (hc : X.calm = true) (cx : Dn.Cx) (cell : Bool) : CallR X (.builtin "min") (rC t (bi cx cell .min2)) := CallR.by fun vs H Q ⟨μ, S, ds, rs, r, h⟩ => by
  obtain ⟨d, e1, k⟩ := ofc rs h
  obtain ⟨i, j, rfl, rfl⟩ := f2_of e1
  obtain ⟨v, u, rfl, rx, ry⟩ := r.two
  cases rx; cases ry
  exact ⟨_, call_min2 hc, i, j, rfl, k μ H _ Ext.refl rs rfl⟩
/-- a list of values whose reading is a list (no tuple) -/
theorem lsq (rs : RS t μ S H) {x : D} {v : V} {xs : List D} (e : lsqOf S x = some xs) (r : RD t μ H x v) : ∃ a vs, v = .ref a ∧ SqL t.K H a vs ∧ RDs t μ H xs vs := by
  cases x with
  | lst ys => cases e; obtain ⟨a, vs, rfl, f, r⟩ := r; exact ⟨a, vs, rfl, SqL.of f.2, r⟩
  | scr ys => cases e; obtain ⟨a, vs, rfl, f, r⟩ := r; exact ⟨a, vs, rfl, f.seq, r⟩
  | ref l =>
    obtain ⟨a, h, rfl⟩ := r
    simp only [lsqOf, seqOf] at e
    split at e
    · rename_i ys q
      cases e
      obtain ⟨vs, h1, h2⟩ := rs.get l _ a q h
      exact ⟨a, vs, rfl, SqL.of h1, h2⟩
    · cases e
  | _ => cases e
theorem maxI_mem : ∀ (ns : List Int) (n : Int), maxI n ns ∈ n :: ns
  | [], n => by simp [maxI]
  | m :: ns, n => by
    unfold maxI
    have := maxI_mem ns (if n < m then m else n)
    rcases List.mem_cons.mp this with h | h
    · rw [h]; split <;> simp
    · simp [h]
theorem maxI_ge : ∀ (ns : List Int) (n : Int), ∀ a ∈ n :: ns, a ≤ maxI n ns
  | [], n, a, h => by simp [maxI] at h ⊢; omega
  | m :: ns, n, a, h => by
    unfold maxI
    have h0 := maxI_ge ns (if n < m then m else n) (if n < m then m else n) (by simp)
    rcases List.mem_cons.mp h with rfl | h
    · split at h0 <;> split <;> omega
    · rcases List.mem_cons.mp h with rfl | h
      · split at h0 <;> split <;> omega
      · exact maxI_ge ns _ a (by simp [h])
theorem minI_mem : ∀ (ns : List Int) (n : Int), minI n ns ∈ n :: ns
  | [], n => by simp [minI]
  | m :: ns, n => by
    unfold minI
    have := minI_mem ns (if m < n then m else n)
    rcases List.mem_cons.mp this with h | h
    · rw [h]; split <;> simp
    · simp [h]
theorem minI_le : ∀ (ns : List Int) (n : Int), ∀ a ∈ n :: ns, minI n ns ≤ a
  | [], n, a, h => by simp [minI] at h ⊢; omega
  | m :: ns, n, a, h => by
    unfold minI
    have h0 := minI_le ns (if m < n then m else n) (if m < n then m else n) (by simp)
    rcases List.mem_cons.mp h with rfl | h
    · split at h0 <;> split <;> omega
    · rcases List.mem_cons.mp h with rfl | h
      · split at h0 <;> split <;> omega
      · exact minI_le ns _ a (by simp [h])
theorem c_max1 (hK : X.K = t.K) (hc : X.calm = true) (cx : Dn.Cx) (cell : Bool) : CallR X (.builtin "max") (rC t (bi cx cell .max1)) := CallR.by fun vs H Q ⟨μ, S, ds, rs, r, h⟩ => by
  obtain ⟨d, e1, k⟩ := ofc (op := f1 (fMax S)) rs h
  obtain ⟨x, rfl, e⟩ := f1_of e1
  obtain ⟨v, rfl, rx⟩ := r.one
  unfold fMax at e
  split at e
  · rename_i n ns q
    cases e
    obtain ⟨xs, q1, q2⟩ := bind_of q
    obtain ⟨a, us, rfl, hs, r2⟩ := lsq rs q1 rx
    rw [intsD_rd q2 r2] at hs
    refine ⟨_, cr_max hc, a, n :: ns, rfl, by rw [hK]; exact hs, by simp, fun m hm hle => ?_⟩
    have h1 := maxI_ge ns n m hm
    have h2 := hle _ (maxI_mem ns n)
    have e : m = maxI n ns := by omega
    rw [e]
    exact k μ H _ Ext.refl rs rfl
  · cases e
theorem c_min1 (hK : X.K = t.K) (hc : X.calm = true) (cx : Dn.Cx) (cell : Bool) : CallR X (.builtin "min") (rC t (bi cx cell .min1)) := CallR.by fun vs H Q ⟨μ, S, ds, rs, r, h⟩ => by
  obtain ⟨d, e1, k⟩ := ofc (op := f1 (fMin S)) rs h
  obtain ⟨x, rfl, e⟩ := f1_of e1
  obtain ⟨v, rfl, rx⟩ := r.one
  unfold fMin at e
  split at e
  · rename_i n ns q
    cases e
    obtain ⟨xs, q1, q2⟩ := bind_of q
    obtain ⟨a, us, rfl, hs, r2⟩ := lsq rs q1 rx
    rw [intsD_rd q2 r2] at hs
    refine ⟨_, cr_min hc, a, n :: ns, rfl, by rw [hK]; exact hs, by simp, fun m hm hle => ?_⟩
    have h1 := minI_le ns n m hm
    have h2 := hle _ (minI_mem ns n)
    have e : m = minI n ns := by omega
    rw [e]
    exact k μ H _ Ext.refl rs rfl
  · cases e
theorem c_sum (hK : X.K = t.K) (hc : X.calm = true) (cx : Dn.Cx) (cell : Bool) : CallR X (.builtin "sum") (rC t (bi cx cell .sum)) := CallR.by fun vs H Q ⟨μ, S, ds, rs, r, h⟩ => by
  obtain ⟨d, e1, k⟩ := ofc (op := f1 fun d => ((lsqOf S d).bind intsD).map fun (ns : List Int) => .int ns.sum) rs h
  obtain ⟨x, rfl, e2⟩ := f1_of e1
  obtain ⟨ns, q, e⟩ := map_of e2
  subst e
  obtain ⟨v, rfl, rx⟩ := r.one
  obtain ⟨xs, q1, q2⟩ := bind_of q
  obtain ⟨a, us, rfl, hs, r2⟩ := lsq rs q1 rx
  rw [intsD_rd q2 r2] at hs
  exact ⟨_, cr_sum hc, a, ns, rfl, by rw [hK]; exact hs, k μ H _ Ext.refl rs rfl⟩
theorem c_all (hK : X.K = t.K) (hc : X.calm = true) (cx : Dn.Cx) (cell : Bool) : CallR X (.builtin "all") (rC t (bi cx cell .all)) := CallR.by fun vs H Q ⟨μ, S, ds, rs, r, h⟩ => by
  obtain ⟨d, e1, k⟩ := ofc (op := f1 fun d => ((lsqOf S d).bind boolsD).map fun (ns : List Bool) => .bl (ns.all id)) rs h
  obtain ⟨x, rfl, e2⟩ := f1_of e1
  obtain ⟨ns, q, e⟩ := map_of e2
  subst e
  obtain ⟨v, rfl, rx⟩ := r.one
  obtain ⟨xs, q1, q2⟩ := bind_of q
  obtain ⟨a, us, rfl, hs, r2⟩ := lsq rs q1 rx
  rw [boolsD_rd q2 r2] at hs
  exact ⟨_, cr_all hc, a, ns, rfl, by rw [hK]; exact hs, k μ H _ Ext.refl rs rfl⟩
theorem c_any (hK : X.K = t.K) (hc : X.calm = true) (cx : Dn.Cx) (cell : Bool) : CallR X (.builtin "any") (rC t (bi cx cell .any)) := CallR.by fun vs H Q ⟨μ, S, ds, rs, r, h⟩ => by
  obtain ⟨d, e1, k⟩ := ofc (op := f1 fun d => ((lsqOf S d).bind boolsD).map fun (ns : List Bool) => .bl (ns.any id)) rs h
  obtain ⟨x, rfl, e2⟩ := f1_of e1
  obtain ⟨ns, q, e⟩ := map_of e2
  subst e
  obtain ⟨v, rfl, rx⟩ := r.one
  obtain ⟨xs, q1, q2⟩ := bind_of q
  obtain ⟨a, us, rfl, hs, r2⟩ := lsq rs q1 rx
  rw [boolsD_rd q2 r2] at hs
  exact ⟨_, cr_any hc, a, ns, rfl, by rw [hK]; exact hs, k μ H _ Ext.refl rs rfl⟩
end
end Dn
/-! Dn: the tree form's expressions, rule by rule. -/
namespace Dn
open PySem L2 -- names

/-- what an expression's context must be; nothing about calls -/
structure Fe (t : Tb) (cx : Dn.Cx) (N : List Str) (sc : Scope) (mg : Str → Option Value) (W : Wi) (X : L2.Cx) : Prop where
  kk : X.K = t.K
  nn : X.N = N
  nd : N.Nodup
  ss : X.env.scope = sc
  mm : X.mg = mg
  un : X.A.units + 65 < cLine
  gd : X.A.guards = some []
  cur : cx.cur = W.cu.map (·.x)
  nmi : ∀ i j, t.nm i = t.nm j → i = j

section
variable {t : Tb} {cx : Dn.Cx} {N : List Str} {sc : Scope} {mg : Str → Option Value} {W : Wi} {X : L2.Cx} {a b c : Expr} {ea eb ec : E} {es : List Expr} {Es : List E} {pos p px : Pos}
abbrev VE (t : Tb) (cx : Dn.Cx) (W : Wi) (X : L2.Cx) (a : Expr) (ea : E) : Prop := PE X a (tE t W (ev cx ea))
abbrev VT (t : Tb) (cx : Dn.Cx) (W : Wi) (X : L2.Cx) (a : Expr) (ea : Te) : Prop := PT X a (tT t W (evt cx ea))
abbrev VW (t : Tb) (cx : Dn.Cx) (W : Wi) (X : L2.Cx) (a : Expr) (ea : Te) : Prop := PW X a (tT t W (evt cx ea))
abbrev VA (t : Tb) (cx : Dn.Cx) (W : Wi) (X : L2.Cx) (es : List Expr) (Es : List E) : Prop := PA X es (tA t W (evs cx Es))

/-! names, constants -/
theorem r_var (h : Fe t cx N sc mg W X) {i : Nat} {x : Str} (hN : N[i]? = some x) (hv : Vis sc x) (hd : ((x == ("__debug__" : Str)) || (x == ("__classdict__" : Str))) = false := by decide +kernel) : VE t cx W X (.Name x p) (.var i) := by
  rw [Bool.or_eq_false_iff] at hd
  exact d_var (by rw [h.nn]; exact hN) (by rw [h.ss]; exact hv) hd.1 hd.2
theorem r_int {i : Int} {j : Nat} : VE t cx W X (.Constant (.int i) j p) (.cst (.int i)) := d_const pe_int fun _ _ => rfl
theorem r_bl {i : Bool} {j : Nat} : VE t cx W X (.Constant (.bool i) j p) (.cst (.bl i)) := d_const pe_bl fun _ _ => rfl
theorem r_non {j : Nat} : VE t cx W X (.Constant .none j p) (.cst .non) := d_const pe_non fun _ _ => rfl
theorem r_str {x : Str} {j : Nat} {s : List Nat} (hx : (x == (⟨s.toArray⟩ : Str)) = true) (hs : s.all (fun c => decide (c < 1114112)) = true) : VE t cx W X (.Constant (.str x) j p) (.cst (.str s)) := by
  have e : x = ⟨s.toArray⟩ := by simpa using hx
  subst e
  exact d_const pe_str fun _ _ => ⟨rfl, fun c hc => by simpa using (List.all_eq_true.mp hs) c hc⟩

/-! arguments, displays -/
theorem r_nil : VA t cx W X [] [] := d_nil
theorem r_cons (ha : VE t cx W X a ea) (hr : VA t cx W X es Es) (hs : starEach (a :: es) X.env = (false, eval a X.env) :: starEach es X.env) : VA t cx W X (a :: es) (ea :: Es) := d_cons ha hr hs
theorem evs_len : ∀ {Es : List E} {ρ : Env} {S S' : Sto} {ds : List D}, evs cx Es ρ S = .ok ds S' → ds.length = Es.length
  | [], _, _, _, _, h => by simp only [evs] at h; cases h; rfl
  | e :: Es, ρ, S, S', ds, h => by
    simp only [evs] at h
    cases q : ev cx e ρ S with
    | bad => rw [q] at h; cases h
    | exc x S1 => rw [q] at h; cases h
    | ok d S1 =>
      rw [q] at h
      simp only [R.bind_ok] at h
      cases q2 : evs cx Es ρ S1 with
      | bad => rw [q2] at h; cases h
      | exc x S2 => rw [q2] at h; cases h
      | ok ds2 S2 =>
        rw [q2] at h
        cases h
        rw [List.length_cons, List.length_cons, evs_len q2]
end
section
variable {t : Tb} {μ μ' μ1 : List Addr} {H H' H1 : Hp} {S : Sto} {α β : Type}
/-- with the equation -/
theorem Aft.eqn {r : R α} {k : α → Sto → List Addr → Hp → Prop} {kx : Xn → Sto → List Addr → Hp → Prop} (h : Aft t μ H r k kx) : Aft t μ H r (fun a S' μ' H' => r = .ok a S' ∧ k a S' μ' H') (fun x S' μ' H' => r = .exc x S' ∧ kx x S' μ' H') := by
  cases r with
  | bad => exact h
  | ok a S => exact fun μ' H' e s => ⟨rfl, h μ' H' e s⟩
  | exc x S => exact fun μ' H' e s => ⟨rfl, h μ' H' e s⟩
end
section
variable {t : Tb} {cx : Dn.Cx} {N : List Str} {sc : Scope} {mg : Str → Option Value} {W : Wi} {X : L2.Cx} {a b c : Expr} {ea eb ec : E} {es : List Expr} {Es : List E} {pos p px : Pos}
/-- arguments, then an operation by values; n many -/
theorem args_ok {op : List D → Sto → R D} {r : List V → Hp → VK → Prop} (hr : ∀ (σ : L2.St) (μ : List Addr) (H : Hp) (S : Sto) (ds : List D) (vs : List V) (Q : VK), RS t μ S H → RDs t μ H ds vs → ds.length = Es.length →
      Aft t μ H (op ds S) (fun d _ μ' H' => ∀ w, RD t μ' H' d w → Q w H') (fun x _ μ' H' => ∀ cls dd, RX t μ' H' x cls dd → W.w cls dd σ H') → r vs H Q)
    (σ : L2.St) (H : Hp) (Q : VK) (h : tE t W (fun ρ S => (evs cx Es ρ S).bind fun ds S => op ds S) σ H Q) : tA t W (evs cx Es) σ H (fun vs H1 => r vs H1 Q) := by
  obtain ⟨μ, ρ, S, re, rs, h⟩ := h
  refine ⟨μ, ρ, S, re, rs, h.bind.eqn.imp (fun ds S1 μ1 H1 e1 s1 k vs rv => ?_) fun _ _ _ _ _ _ z => z.2⟩
  exact hr σ μ1 H1 S1 ds vs Q s1 rv (evs_len k.1) (k.2.imp (fun d S3 μ3 H3 e3 s3 z => z (e1.trans e3)) fun x S3 μ3 H3 e3 s3 z => z (e1.trans e3))
theorem lit_line {n : Nat} (h : (n ≤ 4096) = True) : n ≤ sizeLine := by
  have : n ≤ 4096 := by rw [h]; trivial
  rw [sizeLine_eq]; omega
theorem r_tup {k : Nat} (h : VA t cx W X es Es) (hl : Es.length ≤ 4096) : VE t cx W X (.Tuple es k pos) (.tup Es) := by
  refine PE.weak (pe_tup h) fun σ H Q q => ?_
  refine args_ok (r := fun xs H1 Q => xs.length ≤ sizeLine ∧ ∀ p, H1 p = none → Q (.ref p) (upd H1 p (.tup xs))) (op := fun ds S => .ok (.tup ds) S) (fun σ μ H S ds vs Q rs r hd k => ?_) σ H Q q
  refine ⟨by rw [← r.length, hd, sizeLine_eq]; omega, fun p hp => ?_⟩
  exact k μ _ (Ext.fresh hp) (rs.fresh hp) _ (RD.newTup rs hp r (by rw [hd, sizeLine_eq]; omega))
theorem r_lst {cell : Bool} (h : VA t cx W X es Es) (hl : Es.length ≤ 4096) : VE t cx W X (.List es pos) (.lst cell Es) := by
  refine PE.weak (pe_lst h) fun σ H Q q => ?_
  refine args_ok (r := fun xs H1 Q => xs.length ≤ sizeLine ∧ ∀ p, H1 p = none → Q (.ref p) (upd H1 p (.lst xs))) (op := fun ds S => mkL cell ds S) (fun σ μ H S ds vs Q rs r hd k => ?_) σ H Q q
  exact ⟨by rw [← r.length, hd, sizeLine_eq]; omega, fun p hp => mkL_ok rs hp r k (by rw [hd, sizeLine_eq]; omega)⟩

/-! operators -/
def boP : Bo → Operator
  | .add => .Add | .sub => .Sub | .mul => .Mult | .fdiv => .FloorDiv | .mod => .Mod | .pow => .Pow
theorem r_bin (h : Fe t cx N sc mg W X) (o : Bo) (ha : VE t cx W X a ea) (hb : VE t cx W X b eb) : VE t cx W X (.BinOp a (boP o) b pos) (.bin o ea eb) := by
  cases o
  · exact d_bin (o_add h.kk) ha hb
  · exact d_bin o_sub ha hb
  · exact d_bin (o_mul h.kk) ha hb
  · exact d_bin o_fdiv ha hb
  · exact d_bin o_mod ha hb
  · exact d_bin o_pow ha hb
theorem r_neg (ha : VE t cx W X a ea) : VE t cx W X (.UnaryOp .USub a pos) (.neg ea) := by
  refine PE.weak (pe_un un_neg ha) fun σ H Q q => ?_
  refine un_ok (op := fun x S => match x with | .int i => .ok (.int (-i)) S | _ => .bad) (fun σ μ H S x v Q rs r k => ?_) σ H Q q
  split at k
  · cases r
    exact ⟨_, rfl, k.now rs _ rfl⟩
  · exact k.elim

/-! comparisons, tests -/
def coP : Co → CmpOp
  | .eq => .Eq | .ne => .NotEq | .lt => .Lt | .le => .LtE | .gt => .Gt | .ge => .GtE | .inn => .In | .notin => .NotIn | .isn => .Is | .notn => .IsNot
theorem o_cmp (h : Fe t cx N sc mg W X) (o : Co) : OpR X (compareOp (coP o)) (rB t fun S => cmpop S o) := by
  cases o
  · exact o_eq h.kk h.un
  · exact o_ne h.kk h.un
  · exact o_lt h.kk h.un
  · exact o_le
  · exact o_gt
  · exact o_ge
  · exact o_in h.kk h.un
  · exact o_notin h.kk h.un
  · exact o_is
  · exact o_isnot
/-- a comparison's own step -/
theorem rB_of {op : Sto → D → D → Option Bool} (σ : L2.St) (μ : List Addr) (H : Hp) (S : Sto) (x y : D) (v u : V) (Q : VK) (rs : RS t μ S H) (rx : RD t μ H x v) (ry : RD t μ H y u)
    (h : Aft t μ H ((R.of (op S x y) S).bind fun c S => .ok (.bl c) S) (fun d _ μ' H' => ∀ w, RD t μ' H' d w → Q w H') (fun x _ μ' H' => ∀ cls dd, RX t μ' H' x cls dd → W.w cls dd σ H')) : rB t op v u H Q := by
  cases q : op S x y with
  | none => rw [q] at h; exact h.elim
  | some c =>
    rw [q] at h
    exact ⟨μ, S, x, y, c, rs, rx, ry, q, h.now rs _ rfl⟩
theorem r_cmp (h : Fe t cx N sc mg W X) (o : Co) (ha : VE t cx W X a ea) (hb : VE t cx W X b eb) (hm : behindInMarks (coP o) b = false) : VE t cx W X (.Compare a [coP o] [b] pos) (.cmp o ea eb) :=
  PE.weak (pe_cmpR (o_cmp h o) ha hb hm) (bin_ok (op := fun x y S => (R.of (cmpop S o x y) S).bind fun c S => .ok (.bl c) S) rB_of)
/-- a value that is a bool, as a test -/
theorem tT_bl {f : Env → Sto → R D} (hf : ∀ ρ S d S', f ρ S = .ok d S' → ∃ b, d = .bl b) (σ : L2.St) (H : Hp) (Q : Bool → Hp → Prop) (h : tT t W (fun ρ S => tru (f ρ S)) σ H Q) :
    tE t W f σ H (fun x H' => ∃ k, x = .bl k ∧ Q k H') := by
  obtain ⟨μ, ρ, S, re, rs, h⟩ := h
  dsimp only at h
  refine ⟨μ, ρ, S, re, rs, ?_⟩
  cases q : f ρ S with
  | bad => rw [q] at h; exact h
  | exc x S' => rw [q] at h; exact h
  | ok d S' =>
    rw [q] at h
    obtain ⟨b, rfl⟩ := hf _ _ _ _ q
    exact fun μ' H' e s v r => by
      cases r
      exact ⟨b, rfl, h μ' H' e s⟩
theorem cmp_bl {o : Co} : ∀ ρ S d S', ev cx (.cmp o ea eb) ρ S = .ok d S' → ∃ b, d = .bl b := fun ρ S d S' h => by
  simp only [ev] at h
  cases q : ev cx ea ρ S with
  | bad => rw [q] at h; cases h
  | exc x S1 => rw [q] at h; cases h
  | ok x S1 =>
    rw [q] at h
    simp only [R.bind_ok] at h
    cases q2 : ev cx eb ρ S1 with
    | bad => rw [q2] at h; cases h
    | exc x S1 => rw [q2] at h; cases h
    | ok y S2 =>
      rw [q2] at h
      simp only [R.bind_ok] at h
      cases q3 : cmpop S2 o x y with
      | none => rw [q3] at h; cases h
      | some c => rw [q3] at h; cases h; exact ⟨c, rfl⟩
theorem t_cmp (h : Fe t cx N sc mg W X) (o : Co) (ha : VE t cx W X a ea) (hb : VE t cx W X b eb) (hm : behindInMarks (coP o) b = false) : VT t cx W X (.Compare a [coP o] [b] pos) (.val (.cmp o ea eb)) :=
  PT.weak (pt_cmpR (o_cmp h o) ha hb hm) fun σ H Q q => bin_ok (op := fun x y S => (R.of (cmpop S o x y) S).bind fun c S => .ok (.bl c) S) rB_of σ H _ (tT_bl cmp_bl σ H Q q)
theorem chain_ok {o p : Co} (σ : L2.St) (H : Hp) (Q : VK) (q : tE t W (ev cx (.chain o p ea eb ec)) σ H Q) :
    tChain (rB t fun S => cmpop S o) (rB t fun S => cmpop S p) (tE t W (ev cx ea)) (tE t W (ev cx eb)) (tE t W (ev cx ec)) σ H Q := by
  obtain ⟨μ, ρ, S, re, rs, q⟩ := q
  refine ⟨μ, ρ, S, re, rs, q.bind.imp (fun x S1 μ1 H1 e1 s1 k1 v rv => ?_) fun _ _ _ _ _ _ z => z⟩
  refine ⟨μ1, ρ, S1, re.ext e1, s1, k1.bind.imp (fun y S2 μ2 H2 e2 s2 k2 u ru => ?_) fun _ _ _ _ e2 _ z => z (e1.trans e2)⟩
  cases q1 : cmpop S2 o x y with
  | none => rw [q1] at k2; exact k2.elim
  | some c =>
    rw [q1] at k2
    refine ⟨μ2, S2, x, y, c, s2, rv.ext e2, ru, q1, c, rfl, ?_⟩
    replace k2 := Aft.imp (k := _) (k' := fun d _ μ' H' => ∀ v, RD t μ' H' d v → Q v H') (kx' := fun x _ μ' H' => ∀ cls dd, RX t μ' H' x cls dd → W.w cls dd σ H') k2
      (fun d S3 μ3 H3 e3 s3 z => z (e2.trans e3) (e1.trans (e2.trans e3))) (fun d S3 μ3 H3 e3 s3 z => z (e2.trans e3) (e1.trans (e2.trans e3)))
    cases c with
    | false =>
      rw [if_neg (by decide)]
      exact k2.now s2 _ rfl
    | true =>
      rw [if_pos rfl]
      refine ⟨μ2, ρ, S2, re.ext (e1.trans e2), s2, Aft.imp (Aft.bind (r := ev cx ec ρ S2) k2) (fun z S3 μ3 H3 e3 s3 k3 w rw' => ?_) fun _ _ _ _ _ _ z => z⟩
      cases q2 : cmpop S3 p y z with
      | none => rw [q2] at k3; exact k3.elim
      | some c2 =>
        rw [q2] at k3
        exact ⟨μ3, S3, y, z, c2, s3, ru.ext e3, rw', q2, k3.now s3 e3 _ rfl⟩
theorem r_chain (h : Fe t cx N sc mg W X) (o p : Co) (ha : VE t cx W X a ea) (hb : VE t cx W X b eb) (hc : VE t cx W X c ec) (hm : lastMarks [coP o, coP p] [b, c] = false) :
    VE t cx W X (.Compare a [coP o, coP p] [b, c] pos) (.chain o p ea eb ec) := PE.weak (pe_chain (o_cmp h o) (o_cmp h p) ha hb hc hm) chain_ok
theorem chain_bl {o p : Co} : ∀ ρ S d S', ev cx (.chain o p ea eb ec) ρ S = .ok d S' → ∃ b, d = .bl b := fun ρ S d S' h => by
  simp only [ev] at h
  cases q : ev cx ea ρ S with
  | bad => rw [q] at h; cases h
  | exc x S1 => rw [q] at h; cases h
  | ok x S1 =>
    rw [q] at h
    simp only [R.bind_ok] at h
    cases q2 : ev cx eb ρ S1 with
    | bad => rw [q2] at h; cases h
    | exc x S1 => rw [q2] at h; cases h
    | ok y S2 =>
      rw [q2] at h
      simp only [R.bind_ok] at h
      cases q3 : cmpop S2 o x y with
      | none => rw [q3] at h; cases h
      | some c =>
        rw [q3] at h
        simp only [R.of_some, R.bind_ok] at h
        cases c with
        | false => cases h; exact ⟨false, rfl⟩
        | true =>
          rw [if_pos rfl] at h
          cases q4 : ev cx ec ρ S2 with
          | bad => rw [q4] at h; cases h
          | exc x S1 => rw [q4] at h; cases h
          | ok z S3 =>
            rw [q4] at h
            simp only [R.bind_ok] at h
            cases q5 : cmpop S3 p y z with
            | none => rw [q5] at h; cases h
            | some c => rw [q5] at h; cases h; exact ⟨c, rfl⟩
theorem t_chain (h : Fe t cx N sc mg W X) (o p : Co) (ha : VE t cx W X a ea) (hb : VE t cx W X b eb) (hc : VE t cx W X c ec) (hm : lastMarks [coP o, coP p] [b, c] = false) :
    VT t cx W X (.Compare a [coP o, coP p] [b, c] pos) (.val (.chain o p ea eb ec)) := PT.weak (pt_chain (o_cmp h o) (o_cmp h p) ha hb hc hm) fun σ H Q q => chain_ok σ H _ (tT_bl chain_bl σ H Q q)
/-- any value, as a test -/
theorem truV_of {μ : List Addr} {H : Hp} {S : Sto} {d : D} {v : V} {b : Bool} (hK : X.K = t.K) (rs : RS t μ S H) (r : RD t μ H d v) (e : truth S d = some b) : TruV X.K v H b := by
  rw [hK]
  cases d with
  | non => cases r; cases e; rfl
  | bl c => cases r; cases e; rfl
  | int i => cases r; cases e; rfl
  | str s =>
    obtain ⟨rfl, _⟩ := r
    simp only [truth] at e
    split at e
    · rename_i hl
      cases e
      refine ⟨by rw [str_len, line_eq]; exact hl, ?_⟩
      rw [str_len]
      cases s with
      | nil => rfl
      | cons x xs =>
        show true = _
        symm
        simp only [List.length_cons, bne_iff_ne, ne_eq]
        omega
    · cases e
  | tup xs =>
    cases e
    obtain ⟨a, vs, rfl, f, r⟩ := r
    refine .inr (.inl ⟨vs, f.seq, ?_⟩)
    cases xs with
    | nil => cases r; rfl
    | cons x xs => obtain ⟨v, vr, rfl, _⟩ := r; rfl
  | lst xs =>
    cases e
    obtain ⟨a, vs, rfl, f, r⟩ := r
    refine .inl ⟨vs, SqL.of f.2, ?_⟩
    cases xs with
    | nil => cases r; rfl
    | cons x xs => obtain ⟨v, vr, rfl, _⟩ := r; rfl
  | ref l =>
    obtain ⟨a, hl, rfl⟩ := r
    simp only [truth] at e
    split at e
    · rename_i xs q
      cases e
      obtain ⟨vs, h1, h2⟩ := rs.get l _ a q hl
      refine .inl ⟨vs, SqL.of h1, ?_⟩
      cases xs with
      | nil => cases h2; rfl
      | cons x xs => obtain ⟨v, vr, rfl, _⟩ := h2; rfl
    · cases e
  | _ => cases e
theorem t_val (h : Fe t cx N sc mg W X) (ha : VE t cx W X a ea) (he : ∀ whole, isTrue a X.env whole = (do let v ← whole; standAt a.pos; holding [v] (truthy v))) : VT t cx W X a (.val ea) := by
  refine PT.weak (pt_truth ha he) fun σ H Q q => ?_
  obtain ⟨μ, ρ, S, re, rs, q⟩ := q
  refine ⟨μ, ρ, S, re, rs, (Aft.bind (r := ev cx ea ρ S) q).imp (fun x S1 μ1 H1 e1 s1 k1 v rv => ?_) fun _ _ _ _ _ _ z => z⟩
  obtain ⟨b, e, k1⟩ := k1.of
  exact ⟨b, truV_of h.kk s1 rv e, k1.now s1 e1⟩
theorem r_not (ha : VE t cx W X a ea) : VE t cx W X (.UnaryOp .Not a pos) (.not ea) := by
  refine PE.weak (pe_not ha) fun σ H Q q => ?_
  obtain ⟨μ, ρ, S, re, rs, q⟩ := q
  refine ⟨μ, ρ, S, re, rs, (Aft.bind (r := ev cx ea ρ S) q).imp (fun x S1 μ1 H1 e1 s1 k1 v rv => ?_) fun _ _ _ _ _ _ z => z⟩
  split at k1
  · cases rv
    exact ⟨_, rfl, k1.now s1 e1 _ rfl⟩
  · exact k1.elim
variable {ta tb : Te} {ts : List Te} {rest : List Expr}
theorem t_not (ha : VT t cx W X a ta) : VT t cx W X (.UnaryOp .Not a pos) (.not ta) := by
  refine PT.weak (pt_not ha) fun σ H Q q => ?_
  obtain ⟨μ, ρ, S, re, rs, q⟩ := q
  refine ⟨μ, ρ, S, re, rs, (Aft.bind (r := evt cx ta ρ S) q).imp (fun b S1 μ1 H1 e1 s1 k1 => ?_) fun _ _ _ _ _ _ z => z⟩
  exact k1.now s1 e1
theorem w_and1 (ha : VT t cx W X a ta) : VW t cx W X (.BoolOp .And [a] pos) (.and [ta]) := pw_and1 ha
theorem w_or1 (ha : VT t cx W X a ta) : VW t cx W X (.BoolOp .Or [a] pos) (.or [ta]) := pw_or1 ha
theorem w_and (ha : VT t cx W X a ta) (hb : VW t cx W X (.BoolOp .And (b :: rest) pos) (.and (tb :: ts))) : VW t cx W X (.BoolOp .And (a :: b :: rest) pos) (.and (ta :: tb :: ts)) := by
  refine PW.weak (pw_and ha hb) fun σ H Q q => ?_
  obtain ⟨μ, ρ, S, re, rs, q⟩ := q
  refine ⟨μ, ρ, S, re, rs, (Aft.bind (r := evt cx ta ρ S) q).imp (fun c S1 μ1 H1 e1 s1 k1 => ?_) fun _ _ _ _ _ _ z => z⟩
  cases c with
  | true => exact ⟨μ1, ρ, S1, re.ext e1, s1, Aft.imp k1 (fun _ _ _ _ e2 _ z => z (e1.trans e2)) fun _ _ _ _ e2 _ z => z (e1.trans e2)⟩
  | false => exact Aft.now s1 k1 e1
theorem w_or (ha : VT t cx W X a ta) (hb : VW t cx W X (.BoolOp .Or (b :: rest) pos) (.or (tb :: ts))) : VW t cx W X (.BoolOp .Or (a :: b :: rest) pos) (.or (ta :: tb :: ts)) := by
  refine PW.weak (pw_or ha hb) fun σ H Q q => ?_
  obtain ⟨μ, ρ, S, re, rs, q⟩ := q
  refine ⟨μ, ρ, S, re, rs, (Aft.bind (r := evt cx ta ρ S) q).imp (fun c S1 μ1 H1 e1 s1 k1 => ?_) fun _ _ _ _ _ _ z => z⟩
  cases c with
  | false => exact ⟨μ1, ρ, S1, re.ext e1, s1, Aft.imp k1 (fun _ _ _ _ e2 _ z => z (e1.trans e2)) fun _ _ _ _ e2 _ z => z (e1.trans e2)⟩
  | true => exact Aft.now s1 k1 e1
theorem t_w (h : VW t cx W X a ta) : VT t cx W X a ta := h.pt
theorem r_and1 (ha : VE t cx W X a ea) : VE t cx W X (.BoolOp .And [a] pos) (.and [ea]) := pe_one ha
theorem r_or1 (ha : VE t cx W X a ea) : VE t cx W X (.BoolOp .Or [a] pos) (.or [ea]) := pe_one ha
theorem r_and (ha : VE t cx W X a ea) (hb : VE t cx W X (.BoolOp .And (b :: rest) pos) (.and (eb :: Es))) : VE t cx W X (.BoolOp .And (a :: b :: rest) pos) (.and (ea :: eb :: Es)) := by
  refine PE.weak (pe_and ha hb) fun σ H Q q => ?_
  obtain ⟨μ, ρ, S, re, rs, q⟩ := q
  refine ⟨μ, ρ, S, re, rs, (Aft.bind (r := ev cx ea ρ S) q).imp (fun c S1 μ1 H1 e1 s1 k1 v rv => ?_) fun _ _ _ _ _ _ z => z⟩
  cases c with
  | bl c =>
    cases rv
    refine ⟨c, rfl, ?_⟩
    cases c with
    | true => exact ⟨μ1, ρ, S1, re.ext e1, s1, Aft.imp k1 (fun _ _ _ _ e2 _ z => z (e1.trans e2)) fun _ _ _ _ e2 _ z => z (e1.trans e2)⟩
    | false => exact Aft.now s1 k1 e1 _ rfl
  | _ => exact k1.elim
theorem r_or (ha : VE t cx W X a ea) (hb : VE t cx W X (.BoolOp .Or (b :: rest) pos) (.or (eb :: Es))) : VE t cx W X (.BoolOp .Or (a :: b :: rest) pos) (.or (ea :: eb :: Es)) := by
  refine PE.weak (pe_or ha hb) fun σ H Q q => ?_
  obtain ⟨μ, ρ, S, re, rs, q⟩ := q
  refine ⟨μ, ρ, S, re, rs, (Aft.bind (r := ev cx ea ρ S) q).imp (fun c S1 μ1 H1 e1 s1 k1 v rv => ?_) fun _ _ _ _ _ _ z => z⟩
  cases c with
  | bl c =>
    cases rv
    refine ⟨c, rfl, ?_⟩
    cases c with
    | false => exact ⟨μ1, ρ, S1, re.ext e1, s1, Aft.imp k1 (fun _ _ _ _ e2 _ z => z (e1.trans e2)) fun _ _ _ _ e2 _ z => z (e1.trans e2)⟩
    | true => exact Aft.now s1 k1 e1 _ rfl
  | _ => exact k1.elim
theorem r_ite (ht : VT t cx W X c ta) (ha : VE t cx W X a ea) (hb : VE t cx W X b eb) : VE t cx W X (.IfExp c a b pos) (.ite ta ea eb) := by
  refine PE.weak (pe_ifExp ht ha hb) fun σ H Q q => ?_
  obtain ⟨μ, ρ, S, re, rs, q⟩ := q
  refine ⟨μ, ρ, S, re, rs, (Aft.bind (r := evt cx ta ρ S) q).imp (fun c S1 μ1 H1 e1 s1 k1 => ?_) fun _ _ _ _ _ _ z => z⟩
  cases c with
  | true => exact ⟨μ1, ρ, S1, re.ext e1, s1, Aft.imp k1 (fun _ _ _ _ e2 _ z => z (e1.trans e2)) fun _ _ _ _ e2 _ z => z (e1.trans e2)⟩
  | false => exact ⟨μ1, ρ, S1, re.ext e1, s1, Aft.imp k1 (fun _ _ _ _ e2 _ z => z (e1.trans e2)) fun _ _ _ _ e2 _ z => z (e1.trans e2)⟩
end
end Dn
/-! Dn: subscripts, slices, built-in functions and methods. -/
namespace Dn
open PySem L2 -- names

section
variable {t : Tb} {cx : Dn.Cx} {N : List Str} {sc : Scope} {mg : Str → Option Value} {W : Wi} {X : L2.Cx} {a b c : Expr} {ea eb ec : E} {es : List Expr} {Es : List E} {pos p px : Pos}
theorem IxR.by {r' : R2} (h : ∀ v u H Q, r' v u H Q → ∃ r, IxR X r ∧ r v u H Q) : IxR X r' :=
  fun value slice pins s σ H x y v u Q I rx ry q hs => let ⟨r, h1, h2⟩ := h x y H Q q; h1 value slice pins s σ H x y v u Q I rx ry h2 hs
theorem atI_rd {μ : List Addr} {H : Hp} {ds : List D} {vs : List V} {i : Int} {d : D} (r : RDs t μ H ds vs) (e : Dn.atI ds i = some d) : ∃ v, L2.atI vs i = some v ∧ RD t μ H d v := by
  unfold Dn.atI at e
  unfold L2.atI
  rw [← r.length]
  cases q : Dn.ixN ds.length i with
  | none => rw [q] at e; cases e
  | some j =>
    rw [q] at e
    obtain ⟨v, h1, h2⟩ := r.get (i := j) (by simpa using e)
    refine ⟨v, ?_, h2⟩
    have q' : L2.ixN ds.length i = some j := q
    rw [q']
    simpa using h1
theorem ix_of (hK : X.K = t.K) : IxR X (rP t getI) := IxR.by fun v u H Q ⟨μ, S, x, y, d, rs, rx, ry, e, k⟩ => by
  have seq : ∀ {x y : D} {xs : List D} {i : Int}, RD t μ H x v → y = .int i → u = .int i → seqOf S x = some xs → Dn.atI xs i = some d → ∃ r, IxR X r ∧ r v u H Q := fun {x y xs i} rx hy hu e1 e2 => by
    obtain ⟨a, vs, rfl, hs, r⟩ := seqOf_rd rs e1 rx
    obtain ⟨w, h1, h2⟩ := atI_rd r e2
    rcases hs with hs | hs
    · exact ⟨_, ix_list, a, vs, i, w, rfl, hu, by rw [hK]; exact hs, h1, k μ H _ Ext.refl rs h2⟩
    · exact ⟨_, ix_tup, a, vs, i, w, rfl, hu, by rw [hK]; exact hs, h1, k μ H _ Ext.refl rs h2⟩
  unfold getI at e
  split at e
  · split at e
    · rename_i hl
      obtain ⟨c, e1, e2⟩ := map_of e
      subst e2
      obtain ⟨rfl, o⟩ := rx
      cases ry
      have hm : c < 1114112 := by
        refine o c ?_
        unfold Dn.atI at e1
        obtain ⟨j, _, h2⟩ := bind_of e1
        exact List.mem_of_getElem? h2
      refine ⟨_, ix_str, _, _, c, rfl, rfl, by rw [str_len, line_eq]; exact hl, by rw [str_list]; exact e1, k μ H _ Ext.refl rs ⟨rfl, fun z hz => by rw [List.mem_singleton.mp hz]; exact hm⟩⟩
    · cases e
  · cases e
  · split at e
    · cases e
    · rename_i q
      split at e
      · cases ry
        exact seq (y := .int _) rx rfl rfl (by simp only [seqOf, q]) e
      · cases e
    · cases e
  · obtain ⟨xs, e1, e2⟩ := bind_of e
    cases ry
    exact seq (y := .int _) rx rfl rfl e1 e2
  · cases e
theorem r_idx (h : Fe t cx N sc mg W X) (ha : VE t cx W X a ea) (hb : VE t cx W X b eb) (hs : PlainIx b) : VE t cx W X (.Subscript a b pos) (.idx ea eb) :=
  PE.weak (pe_ix (ix_of h.kk) ha hb hs) (bin_ok (op := fun x y S => R.of (getI S x y) S) rP_of)
/-! slices -/
theorem cut_rd {μ : List Addr} {H : Hp} {ds : List D} {vs : List V} (lo hi : Option Int) (r : RDs t μ H ds vs) : RDs t μ H (cut ds lo hi) (cutV vs lo hi) := by
  unfold cut cutV
  rw [← r.length]
  exact (r.drop _).take _
theorem cut_len {α : Type} (xs : List α) (lo hi : Option Int) : (cut xs lo hi).length ≤ xs.length := by
  unfold cut
  rw [List.length_take, List.length_drop]
  omega
theorem cut_whole {α : Type} {xs : List α} {lo hi : Option Int} (h : HT.sIx xs.length 0 lo = 0 ∧ HT.sIx xs.length xs.length hi = xs.length) : cut xs lo hi = xs := by
  have h1 : Dn.sIx xs.length 0 lo = 0 := h.1
  have h2 : Dn.sIx xs.length xs.length hi = xs.length := h.2
  unfold cut
  rw [h1, h2]
  simp
def rS (t : Tb) (cell : Bool) : V → Option Int → Option Int → Hp → VK → Prop := fun v lo hi H Q => ∃ μ S x, RS t μ S H ∧ RD t μ H x v ∧
  Aft t μ H (opSl cell x lo hi S) (fun d _ μ' H' => ∀ w, RD t μ' H' d w → Q w H') (fun _ _ _ _ => False)
theorem SlR.by {r' : V → Option Int → Option Int → Hp → VK → Prop} (h : ∀ v lo hi H Q, r' v lo hi H Q → ∃ r, SlR X r ∧ r v lo hi H Q) : SlR X r' :=
  fun pins s σ H x v vl vu lo hi sl Q I rx hs pl pu q => let ⟨r, h1, h2⟩ := h x lo hi H Q q; h1 pins s σ H x v vl vu lo hi sl Q I rx hs pl pu h2
theorem sl_of (hK : X.K = t.K) (cell : Bool) : SlR X (rS t cell) := SlR.by fun v lo hi H Q ⟨μ, S, x, rs, rx, k⟩ => by
  have lists : ∀ {x : D} {xs : List D}, RD t μ H x v → lstOf S x = some xs → Aft t μ H (mkL cell (cut xs lo hi) S) (fun d _ μ' H' => ∀ w, RD t μ' H' d w → Q w H') (fun _ _ _ _ => False) → ∃ r, SlR X r ∧ r v lo hi H Q := fun {x xs} rx e k => by
    obtain ⟨a, vs, rfl, h1, r⟩ := lstOf_rd rs e rx
    exact ⟨_, sl_list, a, vs, rfl, SqL.of h1, fun p hp => mkL_ok rs hp (cut_rd lo hi r) k (Nat.le_trans (cut_len xs lo hi) (lst_len rs e rx))⟩
  unfold opSl at k
  split at k
  · split at k
    · rename_i s hl
      obtain ⟨rfl, o⟩ := rx
      refine ⟨_, sl_str, _, rfl, by rw [str_len, line_eq]; exact hl, ?_⟩
      have e : cutS (⟨s.toArray⟩ : Str) lo hi = ⟨(cut s lo hi).toArray⟩ := by
        unfold cutS
        rw [str_list, str_len]
        rfl
      rw [e]
      refine k.now rs _ ⟨rfl, fun c hc => o c ?_⟩
      unfold cut at hc
      exact List.mem_of_mem_drop (List.mem_of_mem_take hc)
    · exact k.elim
  · rename_i xs
    obtain ⟨a, vs, rfl, f, r⟩ := rx
    refine ⟨_, sl_tupA, a, vs, rfl, by rw [hK]; exact f.seq, fun hw => ?_, fun hw p hp => ?_⟩
    · rw [← r.length] at hw
      rw [cut_whole hw] at k
      exact k.now rs _ ⟨a, vs, rfl, f, r⟩
    · exact k μ _ (Ext.fresh hp) (rs.fresh hp) _ (RD.newTup rs hp (cut_rd lo hi r) (Nat.le_trans (cut_len xs lo hi) (by rw [r.length]; exact f.len)))
  · split at k
    · rename_i e
      exact lists rx e k
    · exact k.elim
abbrev VO (t : Tb) (cx : Dn.Cx) (W : Wi) (X : L2.Cx) (a : Option Expr) (ea : Option E) : Prop :=
  PO X a (fun σ H Q => ∃ μ ρ S, RE t W.cu μ H ρ σ ∧ RS t μ S H ∧ Aft t μ H (evo cx ea ρ S) (fun o _ _ H' => Q o H') (fun x _ μ' H' => ∀ cls dd, RX t μ' H' x cls dd → W.w cls dd σ H'))
theorem v_none : VO t cx W X none none := by
  refine ⟨fun pins s σ H Q I h => po_none.run pins s σ H Q I ?_⟩
  obtain ⟨μ, ρ, S, re, rs, h⟩ := h
  exact Aft.now (a := (none : Option Int)) rs h
theorem v_some (ha : VE t cx W X a ea) : VO t cx W X (some a) (some ea) := by
  refine ⟨fun pins s σ H Q I h => (po_some ha).run pins s σ H Q I ?_⟩
  obtain ⟨μ, ρ, S, re, rs, h⟩ := h
  refine ⟨μ, ρ, S, re, rs, (Aft.bind (r := ev cx ea ρ S) h).imp (fun x S1 μ1 H1 e1 s1 k v rv => ?_) fun _ _ _ _ _ _ z => z⟩
  cases x with
  | int i => cases rv; exact ⟨i, rfl, k.now s1 e1⟩
  | _ => exact k.elim
variable {lo hi : Option Expr} {el eh : Option E} {p2 : Pos}
theorem r_slc (h : Fe t cx N sc mg W X) (cell : Bool) (ha : VE t cx W X a ea) (hl : VO t cx W X lo el) (hh : VO t cx W X hi eh) : VE t cx W X (.Subscript a (.Slice lo hi none p2) pos) (.slc cell ea el eh) := by
  refine PE.weak (pe_slice (sl_of h.kk cell) ha hl hh) fun σ H Q q => ?_
  obtain ⟨μ, ρ, S, re, rs, q⟩ := q
  refine ⟨μ, ρ, S, re, rs, (Aft.bind (r := ev cx ea ρ S) q).imp (fun x S1 μ1 H1 e1 s1 k1 v rv => ?_) fun _ _ _ _ _ _ z => z⟩
  refine ⟨μ1, ρ, S1, re.ext e1, s1, k1.bind.imp (fun l S2 μ2 H2 e2 s2 k2 => ?_) fun _ _ _ _ e2 _ z => z (e1.trans e2)⟩
  refine ⟨μ2, ρ, S2, re.ext (e1.trans e2), s2, k2.bind.imp (fun h S3 μ3 H3 e3 s3 k3 => ?_) fun _ _ _ _ e3 _ z => z (e2.trans e3) (e1.trans (e2.trans e3))⟩
  refine ⟨μ3, S3, x, s3, (rv.ext e2).ext e3, ?_⟩
  cases z : opSl cell x l h S3 with
  | bad => rw [z] at k3; exact k3
  | exc y S4 =>
    unfold opSl at z
    split at z
    · split at z <;> cases z
    · cases z
    · split at z
      · unfold mkL at z; split at z <;> cases z
      · cases z
  | ok d S4 =>
    rw [z] at k3
    exact fun μ4 H4 e4 s4 w rw' => k3 μ4 H4 e4 s4 (e3.trans e4) (e2.trans (e3.trans e4)) (e1.trans (e2.trans (e3.trans e4))) w rw'

/-! built-in functions -/
theorem of_nox {α : Type} {o : Option α} {S S' : Sto} {x : Xn} : R.of o S ≠ .exc x S' := fun h => by cases o <;> cases h
theorem mkL_nox {cell : Bool} {xs : List D} {S S' : Sto} {x : Xn} : mkL cell xs S ≠ .exc x S' := fun h => by unfold mkL at h; split at h <;> cases h
theorem l1_nox {cell : Bool} {f : D → Option (List D)} {ds : List D} {S S' : Sto} {x : Xn} : l1 cell f ds S ≠ .exc x S' := fun h => by
  unfold l1 at h
  split at h
  · split at h
    · exact mkL_nox h
    · cases h
  · cases h
theorem bi_nox (cell : Bool) (b : Bi) (ds : List D) (S : Sto) (x : Xn) (S' : Sto) : bi cx cell b ds S ≠ .exc x S' := fun h => by
  cases b <;> unfold bi at h <;> first
    | exact of_nox h
    | exact l1_nox h
    | (dsimp only at h; split at h <;> first | exact mkL_nox h | cases h)
    | cases h
theorem Aft.nox {t : Tb} {μ : List Addr} {H : Hp} {α : Type} {r : R α} (hn : ∀ x S', r ≠ .exc x S') {k : α → Sto → List Addr → Hp → Prop} {kx kx' : Xn → Sto → List Addr → Hp → Prop} (h : Aft t μ H r k kx) : Aft t μ H r k kx' := by
  cases r with
  | bad => exact h
  | ok a S => exact h
  | exc x S => exact absurd rfl (hn x S)
theorem bi_args {b : Bi} {cell : Bool} (σ : L2.St) (H : Hp) (Q : VK) (q : tE t W (ev cx (.bi cell b Es)) σ H Q) : tCB (rC t (bi cx cell b)) (tA t W (evs cx Es)) σ H Q :=
  args_ok (r := fun vs H1 Q => rC t (bi cx cell b) vs H1 Q) (op := fun ds S => bi cx cell b ds S) (fun σ μ H S ds vs Q rs r hd k => ⟨μ, S, ds, rs, r, k.nox (bi_nox cell b ds S)⟩) σ H Q q
theorem Fe.gl (h : Fe t cx N sc mg W X) {x : Str} (hg : sc.names.lookup x = some .globalImplicit) : Gl X x := by
  show X.env.scope.names.lookup x = _
  rw [h.ss]; exact hg
theorem r_biB (h : Fe t cx N sc mg W X) {b : Bi} {cell : Bool} {id : String} {x : Str} (hc : CallR X (.builtin id) (rC t (bi cx cell b))) (hg : sc.names.lookup x = some .globalImplicit) (hm : mg x = none) (hv : bootBuiltins x = some (.builtin id))
    (ha : VA t cx W X (a :: es) Es) (hn : x ≠ "__name__") (hdb : (x == ("__debug__" : Str)) = false)
    (he : starEach (a :: es) X.env = (false, eval a X.env) :: starEach es X.env) (hpl : (backTo pos (starEach es X.env)).any (·.1) = false) : VE t cx W X (.Call (.Name x p) (a :: es) [] pos) (.bi cell b Es) :=
  PE.weak (pe_callB hc (h.gl hg) (by rw [h.mm]; exact hm) hv ha hn hdb he hpl) bi_args
theorem r_biT (h : Fe t cx N sc mg W X) {b : Bi} {cell : Bool} {id : String} {x : Str} (hc : CallR X (.type id) (rC t (bi cx cell b))) (hg : sc.names.lookup x = some .globalImplicit) (hm : mg x = none) (hv : bootBuiltins x = some (.type id))
    (ha : VA t cx W X (a :: es) Es) (hn : x ≠ "__name__") (hdb : (x == ("__debug__" : Str)) = false)
    (he : starEach (a :: es) X.env = (false, eval a X.env) :: starEach es X.env) (hpl : (backTo pos (starEach es X.env)).any (·.1) = false) : VE t cx W X (.Call (.Name x p) (a :: es) [] pos) (.bi cell b Es) :=
  PE.weak (pe_callTy hc (h.gl hg) (by rw [h.mm]; exact hm) hv ha hn hdb he hpl) bi_args
theorem insI_perm (x : Int) : ∀ ys : List Int, (insI x ys).Perm (x :: ys)
  | [] => List.Perm.refl _
  | y :: ys => by
    unfold insI
    split
    · exact List.Perm.refl _
    · exact ((insI_perm x ys).cons y).trans (List.Perm.swap x y ys)
theorem sortI_perm : ∀ xs : List Int, (sortI xs).Perm xs
  | [] => List.Perm.refl _
  | x :: xs => (insI_perm x (sortI xs)).trans ((sortI_perm xs).cons x)
theorem insI_sorted (x : Int) : ∀ ys : List Int, ys.Pairwise (· ≤ ·) → (insI x ys).Pairwise (· ≤ ·)
  | [], _ => by unfold insI; exact List.pairwise_singleton _ _
  | y :: ys, h => by
    obtain ⟨h1, h2⟩ := List.pairwise_cons.mp h
    unfold insI
    split
    · rename_i hle
      refine List.pairwise_cons.mpr ⟨fun z hz => ?_, h⟩
      rcases List.mem_cons.mp hz with rfl | hz
      · exact hle
      · exact Int.le_trans hle (h1 z hz)
    · rename_i hle
      refine List.pairwise_cons.mpr ⟨fun z hz => ?_, insI_sorted x ys h2⟩
      rcases List.mem_cons.mp ((insI_perm x ys).mem_iff.mp hz) with rfl | hz
      · omega
      · exact h1 z hz
theorem sortI_sorted : ∀ xs : List Int, (sortI xs).Pairwise (· ≤ ·)
  | [] => .nil
  | x :: xs => insI_sorted x _ (sortI_sorted xs)
theorem sorted_one {a b : List Int} (p : a.Perm b) (ha : a.Pairwise (· ≤ ·)) (hb : b.Pairwise (· ≤ ·)) : a = b :=
  List.Perm.eq_of_pairwise (fun x y _ _ h1 h2 => Int.le_antisymm h1 h2) ha hb p
theorem intsD_len : ∀ {ds : List D} {ns : List Int}, intsD ds = some ns → ds.length = ns.length
  | [], _, e => by cases e; rfl
  | d :: ds, ns, e => by
    unfold intsD at e
    split at e
    · rename_i q; cases q
    · rename_i q
      injection q with q1 q2
      subst q1 q2
      obtain ⟨ms, h1, h2⟩ := map_of e
      subst h2
      rw [List.length_cons, List.length_cons, intsD_len h1]
    · cases e
theorem lsq_seq {S : Sto} {x : D} {xs : List D} (e : lsqOf S x = some xs) : seqOf S x = some xs := by
  unfold lsqOf at e
  split at e
  · cases e
  · exact e
theorem c_sorted (hK : X.K = t.K) (cell : Bool) : CallR X (.builtin "sorted") (rC t (bi cx cell .sorted)) := CallR.by fun vs H Q ⟨μ, S, ds, rs, r, h⟩ => by
  obtain ⟨x, xs, rfl, e, h⟩ := l1_of h
  obtain ⟨v, rfl, rx⟩ := r.one
  obtain ⟨ns, q, e⟩ := map_of e
  obtain ⟨ys, q1, q2⟩ := bind_of q
  obtain ⟨a, us, rfl, hs, r2⟩ := lsq rs q1 rx
  rw [intsD_rd q2 r2] at hs
  refine ⟨_, cr_sortedI, a, ns, rfl, by rw [hK]; exact hs, fun ns' p hp hs' hn => ?_⟩
  have e2 : ns' = sortI ns := sorted_one (hp.trans (sortI_perm ns).symm) hs' (sortI_sorted ns)
  subst e2 e
  refine mkL_ok rs hn (rd_ints _) h ?_
  rw [List.length_map, (sortI_perm ns).length_eq, ← intsD_len q2]
  have := lsq_seq q1
  exact seq_len rs this rx
end
end Dn
/-! Dn: isinstance, repr, methods of lists. -/
namespace Dn
open PySem L2 -- names

def tyW (t : Tb) : Ty → V
  | .int => .ty "int" | .bool => .ty "bool" | .str => .ty "str" | .list => .ty "list" | .tuple => .ty "tuple" | .dict => .ty "dict" | .cls c => .ref (t.ca c)
def tyU (t : Tb) : Ty → Value
  | .int => .type "int" | .bool => .type "bool" | .str => .type "str" | .list => .type "list" | .tuple => .type "tuple" | .dict => .type "dict" | .cls c => .ref (t.ca c)
def kdU (t : Tb) : Kd → Value
  | .non => .type "NoneType" | .ty a => tyU t a
theorem tyW_rel (t : Tb) (y : Ty) : RelV (tyW t y) (tyU t y) := by cases y <;> rfl
theorem tyW_cls (t : Tb) (y : Ty) : ClsV (tyW t y) (tyU t y) := by cases y <;> constructor
theorem tys_cls (t : Tb) : ∀ ts : List Ty, Paired ClsV (ts.map (tyW t)) (ts.map (tyU t))
  | [] => .nil
  | y :: ts => .cons (tyW_cls t y) (tys_cls t ts)
/-- what the program's own classes are -/
structure CF (t : Tb) (P : Prog) (c : Nat) (cd : CD) : Prop where
  ins : C8.InsC t.K (t.ca c)
  noat : ∀ f ∈ cd.fields, NoAttr t.K (t.ca c) (t.nm f)
  meth : ∀ m f, cd.meths.lookup m = some f → Meth t.K (t.ca c) (t.nm m) (t.fa f)
  make : Mk t.K (t.ca c) (t.fa cd.init)
  kit : ∀ y : Ty, (∀ c', y = .cls c' → c' < P.cls.length) → PySem.W.kitOne t.K (.ref (t.ca c)) (tyU t y) = some (subK (.ty (.cls c)) y)
  tik : ∀ k : Kd, (∀ c', k ≠ .ty (.cls c')) → PySem.W.kitOne t.K (kdU t k) (.ref (t.ca c)) = some (subK k (.cls c))
abbrev CFs (t : Tb) (P : Prog) : Prop := ∀ c cd, P.cls[c]? = some cd → CF t P c cd
theorem kit_base (t : Tb) (k : Kd) (y : Ty) (hk : ∀ c', k ≠ .ty (.cls c')) (hy : ∀ c', y ≠ .cls c') : PySem.W.kitOne t.K (kdU t k) (tyU t y) = some (subK k y) := by
  cases k with
  | non => cases y <;> first | exact absurd rfl (hy _) | exact kit_ty (by decide +kernel)
  | ty a =>
    cases a <;> first | exact absurd rfl (hk _) | (cases y <;> first | exact absurd rfl (hy _) | exact kit_ty (by decide +kernel))
theorem kit_of {t : Tb} {P : Prog} (cf : CFs t P) {k : Kd} {y : Ty} (hk : ∀ c', k = .ty (.cls c') → c' < P.cls.length) (hy : ∀ c', y = .cls c' → c' < P.cls.length) : PySem.W.kitOne t.K (kdU t k) (tyU t y) = some (subK k y) := by
  by_cases h1 : ∃ c, k = .ty (.cls c)
  · obtain ⟨c, rfl⟩ := h1
    have hc := hk c rfl
    exact (cf c _ (List.getElem?_eq_getElem hc)).kit y hy
  · have h1' : ∀ c', k ≠ .ty (.cls c') := fun c' e => h1 ⟨c', e⟩
    by_cases h2 : ∃ c, y = .cls c
    · obtain ⟨c, rfl⟩ := h2
      have hc := hy c rfl
      exact (cf c _ (List.getElem?_eq_getElem hc)).tik k h1'
    · exact kit_base t k y h1' fun c' e => h2 ⟨c', e⟩
theorem kit_any {t : Tb} {P : Prog} (cf : CFs t P) {k : Kd} (hk : ∀ c', k = .ty (.cls c') → c' < P.cls.length) : ∀ (ts : List Ty), (∀ y ∈ ts, ∀ c', y = .cls c' → c' < P.cls.length) → PySem.W.kitAny t.K (kdU t k) (ts.map (tyU t)) = some (ts.any (subK k))
  | [], _ => rfl
  | y :: ts, h => by
    have h1 := kit_of cf hk (h y List.mem_cons_self)
    have h2 := kit_any cf hk ts fun z hz => h z (List.mem_cons_of_mem _ hz)
    rw [List.map_cons, List.any_cons]
    exact kitAny_cons h1 (fun e => by rw [e, Bool.false_or]; exact h2) fun e => by rw [e, Bool.true_or]
section
variable {t : Tb} {cx : Dn.Cx} {N : List Str} {sc : Scope} {mg : Str → Option Value} {W : Wi} {X : L2.Cx} {a b c : Expr} {ea eb ec : E} {es : List Expr} {Es : List E} {pos p px : Pos}
theorem tyX_tup {K : PySem.W.Frag} {H : Hp} {a : Addr} {vs : List V} (h : SqT K H a vs) : TyX K H (.ref a) (.type "tuple") := by
  rcases h with (h | ⟨o, h⟩) | ⟨o, its, n, h1, h2, _⟩
  · exact .base (.tup h)
  · exact .fTuple h
  · exact .kTuple h1 h2
theorem tyX_lst {K : PySem.W.Frag} {H : Hp} {a : Addr} {vs : List V} (h : SqL K H a vs) : TyX K H (.ref a) (.type "list") := by
  rcases h with (h | ⟨o, h⟩) | ⟨o, its, n, h1, h2, _⟩
  · exact .base (.lst h)
  · exact .base (.frz h)
  · exact .kList h1 h2
theorem tyX_dic {K : PySem.W.Frag} {H : Hp} {a : Addr} {kvs : List (Key × V)} (h : Rd H a (.dK kvs)) : TyX K H (.ref a) (.type "dict") := by
  rcases h with h | ⟨o, h⟩
  · exact .base (.dK h)
  · exact .fDict h
theorem tyX_ins {K : PySem.W.Frag} {H : Hp} {a C dx : Addr} {fs : List (Str × V)} (h : H a = some (.ins C dx fs)) (i : C8.InsC K C) : TyX K H (.ref a) (.ref C) := .base (.ins h i.cl i.ha i.hn i.htk i.hm)
theorem tyX_of {P : Prog} (cf : CFs t P) {μ : List Addr} {H : Hp} {S : Sto} {d : D} {v : V} {k : Kd} (rs : RS t μ S H) (r : RD t μ H d v) (e : kdOf P S d = some k) : TyX t.K H v (kdU t k) ∧ ∀ c', k = .ty (.cls c') → c' < P.cls.length := by
  have cls : ∀ {c a dx fs}, v = .ref a → H a = some (.ins (t.ca c) dx fs) → (if c < P.cls.length then some (Kd.ty (.cls c)) else none) = some k → TyX t.K H v (kdU t k) ∧ ∀ c', k = .ty (.cls c') → c' < P.cls.length := fun {c a dx fs} hv h e => by
    subst hv
    split at e
    · rename_i hc
      cases e
      exact ⟨tyX_ins h (cf c _ (List.getElem?_eq_getElem hc)).ins, fun c' e => by cases e; exact hc⟩
    · cases e
  cases d with
  | non => cases r; cases e; exact ⟨.base .non, fun _ h => nomatch h⟩
  | bl b => cases r; cases e; exact ⟨.base (.bl b), fun _ h => nomatch h⟩
  | int i => cases r; cases e; exact ⟨.base (.int i), fun _ h => nomatch h⟩
  | str s => obtain ⟨rfl, _⟩ := r; cases e; exact ⟨.base (.str _), fun _ h => nomatch h⟩
  | tup xs => cases e; obtain ⟨a, vs, rfl, f, _⟩ := r; exact ⟨tyX_tup f.seq, fun _ h => nomatch h⟩
  | lst xs => cases e; obtain ⟨a, vs, rfl, f, _⟩ := r; exact ⟨tyX_lst (SqL.of f.2), fun _ h => nomatch h⟩
  | scr xs => cases e; obtain ⟨a, vs, rfl, f, _⟩ := r; exact ⟨tyX_lst f.seq, fun _ h => nomatch h⟩
  | dic ks vs => cases e; obtain ⟨a, kvs, rfl, _, f, _⟩ := r; exact ⟨tyX_dic f, fun _ h => nomatch h⟩
  | ins c ids vs => obtain ⟨a, dx, us, rfl, _, f, _⟩ := r; exact cls rfl f e
  | fn f => cases e
  | ref l =>
    obtain ⟨a, hl, rfl⟩ := r
    simp only [kdOf] at e
    split at e
    · rename_i q
      cases e
      obtain ⟨vs, h1, _⟩ := rs.get l _ a q hl
      exact ⟨tyX_lst (SqL.of h1), fun _ h => nomatch h⟩
    · rename_i q
      cases e
      obtain ⟨vs, h1, _⟩ := rs.get l _ a q hl
      exact ⟨tyX_dic (.inl h1), fun _ h => nomatch h⟩
    · rename_i q
      obtain ⟨dx, vs, h1, _⟩ := rs.get l _ a q hl
      exact cls rfl h1 e
    · cases e
/-- a type's name, as a value -/
theorem p_ty {x : Str} {n : String} (h : Fe t cx N sc mg W X) (hg : sc.names.lookup x = some .globalImplicit) (hm : mg x = none) (hv : bootBuiltins x = some (.type n)) (hn : x ≠ "__name__") (hd : (x == ("__debug__" : Str)) = false) : PE X (.Name x p) (tC (.ty n)) :=
  pe_bltn (h.gl hg) (by rw [h.mm]; exact hm) hv rfl hn hd
theorem p_cls {x : Str} {c : Addr} (h : Fe t cx N sc mg W X) (hg : sc.names.lookup x = some .globalImplicit) (hm : mg x = some (.ref c)) (hd : (x == ("__debug__" : Str)) = false) : PE X (.Name x p) (tC (.ref c)) :=
  pe_glob (h.gl hg) (by rw [h.mm]; exact hm) rfl hd
def tCs (vs : List V) : TA := fun _ H Q => Q vs H
theorem pa_cs0 : PA X [] (tCs []) := PA.weak pa_nil fun _ _ _ q => q
theorem pa_cs {v : V} {vs : List V} (ha : PE X a (tC v)) (hr : PA X es (tCs vs)) (hs : starEach (a :: es) X.env = (false, eval a X.env) :: starEach es X.env) : PA X (a :: es) (tCs (v :: vs)) :=
  PA.weak (pa_cons ha hr hs) fun _ _ _ q => q
def opIs (P : Prog) (ts : List Ty) (x : D) (S : Sto) : R D := (R.of (isTys P S x ts) S).bind fun b S => .ok (.bl b) S
theorem isi_ok {ts : List Ty} (σ : L2.St) (H : Hp) (Q : VK) (q : tE t W (ev cx (.isi ea ts)) σ H Q) :
    tE t W (ev cx ea) σ H (fun v H' => ∃ μ S x k, RS t μ S H' ∧ RD t μ H' x v ∧ kdOf cx.P S x = some k ∧ ∀ μ2 H2, Ext μ H' μ2 H2 → RS t μ2 S H2 → Q (.bl (ts.any (subK k))) H2) := by
  obtain ⟨μ, ρ, S, re, rs, q⟩ := q
  refine ⟨μ, ρ, S, re, rs, (Aft.bind (r := ev cx ea ρ S) q).imp (fun x S1 μ1 H1 e1 s1 k1 v rv => ?_) fun _ _ _ _ _ _ z => z⟩
  cases z : kdOf cx.P S1 x with
  | none =>
    have z' : isTys cx.P S1 x ts = none := by unfold isTys; rw [z]; rfl
    rw [z'] at k1
    exact k1.elim
  | some k =>
    have z' : isTys cx.P S1 x ts = some (ts.any (subK k)) := by unfold isTys; rw [z]; rfl
    rw [z'] at k1
    exact ⟨μ1, S1, x, k, s1, rv, z, fun μ2 H2 e2 s2 => k1 μ2 H2 e2 s2 (e1.trans e2) _ rfl⟩
/-- isinstance(a, T) -/
theorem r_isi1 (h : Fe t cx N sc mg W X) (cf : CFs t cx.P) {y : Ty} (hg : sc.names.lookup ("isinstance" : Str) = some .globalImplicit) (hm : mg ("isinstance" : Str) = none) (ha : VE t cx W X a ea) (hb : PE X b (tC (tyW t y))) (hy : ∀ c', y = .cls c' → c' < cx.P.cls.length)
    (h1 : starEach [a, b] X.env = (false, eval a X.env) :: starEach [b] X.env) (h2 : starEach [b] X.env = (false, eval b X.env) :: starEach [] X.env) (hpl : (backTo pos (starEach [b] X.env)).any (·.1) = false) :
    VE t cx W X (.Call (.Name "isinstance" p) [a, b] [] pos) (.isi ea [y]) := by
  refine PE.weak (pe_callB call_isi (h.gl hg) (by rw [h.mm]; exact hm) (by decide +kernel) (pa_cons ha (pa_cons hb pa_nil h2) h1) (by decide +kernel) (by decide +kernel) h1 hpl) fun σ H Q q => ?_
  obtain ⟨μ, ρ, S, re, rs, q⟩ := isi_ok σ H Q q
  refine ⟨μ, ρ, S, re, rs, q.imp (fun x S1 μ1 H1 e1 s1 k1 v rv => ?_) fun _ _ _ _ _ _ z => z⟩
  obtain ⟨μ', S', x', k, s', r', e, q'⟩ := k1 v rv
  obtain ⟨ty, hk⟩ := tyX_of cf s' r' e
  refine ⟨v, tyW t y, _, tyU t y, _, rfl, tyW_cls t y, by rw [h.kk]; exact ty, by rw [h.kk]; exact kit_of cf hk hy, ?_⟩
  have q2 := q' μ' H1 Ext.refl s'
  rw [List.any_cons, List.any_nil, Bool.or_false] at q2
  exact q2
/-- isinstance(a, (T, ..)) -/
theorem r_isiT (h : Fe t cx N sc mg W X) (cf : CFs t cx.P) {ts : List Ty} {k : Nat} (hg : sc.names.lookup ("isinstance" : Str) = some .globalImplicit) (hm : mg ("isinstance" : Str) = none) (ha : VE t cx W X a ea) (hb : PA X es (tCs (ts.map (tyW t)))) (hl : ts.length ≤ 100) (hy : ∀ y ∈ ts, ∀ c', y = .cls c' → c' < cx.P.cls.length)
    (h1 : starEach [a, .Tuple es k px] X.env = (false, eval a X.env) :: starEach [.Tuple es k px] X.env) (h2 : starEach [.Tuple es k px] X.env = (false, eval (.Tuple es k px) X.env) :: starEach [] X.env) (hpl : (backTo pos (starEach [.Tuple es k px] X.env)).any (·.1) = false) :
    VE t cx W X (.Call (.Name "isinstance" p) [a, .Tuple es k px] [] pos) (.isi ea ts) := by
  refine PE.weak (pe_callB call_isiT (h.gl hg) (by rw [h.mm]; exact hm) (by decide +kernel) (pa_cons ha (pa_cons (pe_tup hb) pa_nil h2) h1) (by decide +kernel) (by decide +kernel) h1 hpl) fun σ H Q q => ?_
  obtain ⟨μ, ρ, S, re, rs, q⟩ := isi_ok σ H Q q
  refine ⟨μ, ρ, S, re, rs, q.imp (fun x S1 μ1 H1 e1 s1 k1 v rv => ?_) fun _ _ _ _ _ _ z => z⟩
  refine ⟨by rw [List.length_map, sizeLine_eq]; omega, fun tp hp => ?_⟩
  obtain ⟨μ', S', x', k, s', r', e, q'⟩ := k1 v rv
  have ex := Ext.fresh (μ := μ') (o := .tup (ts.map (tyW t))) hp
  have sx : RS t μ' S' (upd H1 tp (.tup (ts.map (tyW t)))) := s'.fresh hp
  obtain ⟨ty, hk⟩ := tyX_of cf sx (r'.ext ex) e
  refine ⟨v, tp, ts.map (tyW t), _, ts.map (tyU t), _, rfl, upd_same, ?_, by rw [h.kk]; exact ty, by rw [h.kk]; exact kit_any cf hk ts hy, q' μ' _ ex sx⟩
  exact tys_cls t ts

/-! repr -/
theorem tru_bind {α : Type} (r : R α) (f : α → Sto → R D) : tru (r.bind f) = r.bind fun a S => tru (f a S) := by cases r <;> rfl
theorem Aft.tru_bind {t : Tb} {μ : List Addr} {H : Hp} {α : Type} {r : R α} {f : α → Sto → R D} {k : Bool → Sto → List Addr → Hp → Prop} {kx : Xn → Sto → List Addr → Hp → Prop} (h : Aft t μ H (tru (r.bind f)) k kx) : Aft t μ H (r.bind fun a S => tru (f a S)) k kx := by
  rw [← Dn.tru_bind]; exact h
def rRep (K : PySem.W.Frag) : List V → Hp → VK → Prop := fun vs H Q => ∃ v d, vs = [v] ∧ Dp K H v d ∧ d.showable = true ∧ d.canLay0 = true ∧ d.shown.length ≤ sizeLine ∧ d.depth ≤ 60 ∧ Q (.str d.shown) H
theorem call_repr (hu : X.A.units + 65 < cLine) (hg : X.A.guards = some []) : CallR X (.builtin "repr") (rRep X.K) := by
  intro pins s σ H xs us Q I r h
  obtain ⟨v, d, rfl, hd, hs, hc, hz, hdp, q⟩ := h
  obtain ⟨u, rfl, ru⟩ := vals1 r
  obtain ⟨as, rd⟩ := Dp.reads I d v u hd ru
  have nd : d.hasDict = true → sysModules ∉ as := PyData.noDict_hsm (PyData.hasDict_of_canLay d hc)
  have fin : ∀ (h' : Heap) (tk : Nat), (∀ b o, s.heap.get? b = some o → h'.get? b = some o) → ∀ z, EP X pins σ Q (.str d.shown z) { s with heap := h', toks := tk } := fun h' tk hk z =>
    ⟨.str d.shown, H, I.kept (t' := tk) hk, ⟨z, rfl⟩, q⟩
  cases rd with
  | none => exact PySem.P.repr_of_none (by simpa only [PyData.shown] using fin s.heap _ (fun _ _ e => e) _)
  | bool b => exact PySem.P.repr_of_bool (by simpa only [PyData.shown] using fin s.heap _ (fun _ _ e => e) _)
  | int i t => exact PySem.P.repr_of_int (by simpa [PyData.showable] using hs) (by simpa only [PyData.shown] using fin s.heap _ (fun _ _ e => e) _)
  | str x t => exact PySem.P.repr_of_str (by simpa only [PyData.shown] using fin s.heap _ (fun _ _ e => e) _) (by simpa only [PyData.shown] using hz)
  | list h1 h2 h3 h4 => exact repr_of_reads' (.list h1 h2 h3 h4) hs nd hg (by omega) (fun _ _ e => e) (fun h' u tk hk => fin h' tk hk u) hz
  | tuple h1 h2 h3 h4 => exact repr_of_reads' (.tuple h1 h2 h3 h4) hs nd hg (by omega) (fun _ _ e => e) (fun h' u tk hk => fin h' tk hk u) hz
  | dict h1 h2 h3 h4 h5 => exact absurd (PyData.hasDict_of_canLay _ hc) (by simp [PyData.hasDict])
mutual
theorem shw_pd : ∀ (n : Nat) (d : D), pd n d = true → shw d = true → (toPD d).showable = true ∧ ((toPD d).canLay0 = true → (toPD d).leavesShort 2000 = true) ∧ (toPD d).bulk = blk d
  | _, .non, _, _ => by simp [toPD, PyData.showable, PyData.leavesShort, PyData.bulk, blk]
  | _, .bl _, _, _ => by simp [toPD, PyData.showable, PyData.leavesShort, PyData.bulk, blk]
  | _, .int i, _, h => by
    have h' : i.natAbs.log2 < 1920 := by simpa [shw] using h
    refine ⟨by simpa [toPD, PyData.showable] using h', fun _ => ?_, by simp [toPD, PyData.bulk, blk]⟩
    have := int_text_length_le (by omega) h'
    simp only [toPD, PyData.leavesShort, PyData.shown]
    refine decide_eq_true ?_
    rw [ofString_length]
    omega
  | _, .str s, _, _ => by
    refine ⟨by simp [toPD, PyData.showable], fun h => ?_, by simp [toPD, PyData.bulk, blk]⟩
    simp only [toPD, PyData.canLay0, PyData.strOk, PyData.leavesShort] at h ⊢
    simp only [List.all_toArray, List.all_eq_true, decide_eq_true_eq] at h ⊢
    intro c hc
    have := h c hc
    omega
  | 0, .tup _, h, _ => by simp [pd] at h
  | 0, .lst _, h, _ => by simp [pd] at h
  | n + 1, .tup xs, h, k => by
    obtain ⟨h1, h2, h3⟩ := shws_pd n xs (by simpa [pd] using h) (by simpa [shw] using k)
    exact ⟨by simpa [toPD, PyData.showable] using h1, fun z => by simpa [toPD, PyData.leavesShort] using h2 (by simpa [toPD, PyData.canLay0] using z), by simpa [toPD, PyData.bulk, blk] using h3⟩
  | n + 1, .lst xs, h, k => by
    obtain ⟨h1, h2, h3⟩ := shws_pd n xs (by simpa [pd] using h) (by simpa [shw] using k)
    exact ⟨by simpa [toPD, PyData.showable] using h1, fun z => by simpa [toPD, PyData.leavesShort] using h2 (by simpa [toPD, PyData.canLay0] using z), by simpa [toPD, PyData.bulk, blk] using h3⟩
  | _, .dic _ _, h, _ => by simp [pd] at h
  | _, .ins _ _ _, h, _ => by simp [pd] at h
  | _, .ref _, h, _ => by simp [pd] at h
  | _, .fn _, h, _ => by simp [pd] at h
  | _, .scr _, h, _ => by simp [pd] at h
theorem shws_pd : ∀ (n : Nat) (ds : List D), pds n ds = true → shws ds = true → PyData.showableAll (toPDs ds) = true ∧ (PyData.canLayAll0 (toPDs ds) = true → PyData.leavesShortAll 2000 (toPDs ds) = true) ∧ PyData.bulkAll (toPDs ds) = blks ds
  | _, [], _, _ => by simp [toPDs, PyData.showableAll, PyData.leavesShortAll, PyData.bulkAll, blks]
  | n, d :: ds, h, k => by
    have h' : pd n d = true ∧ pds n ds = true := by simpa [pds] using h
    have k' : shw d = true ∧ shws ds = true := by simpa [shws] using k
    obtain ⟨a1, a2, a3⟩ := shw_pd n d h'.1 k'.1
    obtain ⟨b1, b2, b3⟩ := shws_pd n ds h'.2 k'.2
    refine ⟨by simp [toPDs, PyData.showableAll, a1, b1], fun z => ?_, by simp [toPDs, PyData.bulkAll, blks, a3, b3]⟩
    have z' : (toPD d).canLay0 = true ∧ PyData.canLayAll0 (toPDs ds) = true := by simpa [toPDs, PyData.canLayAll0] using z
    simp [toPDs, PyData.leavesShortAll, a2 z'.1, b2 z'.2]
end
mutual
theorem same_eq : ∀ (a b : D), same a b = true → a = b
  | .non, b, h => by cases b <;> simp [same] at h ⊢
  | .bl x, b, h => by cases b <;> simp [same] at h ⊢; exact h
  | .int x, b, h => by cases b <;> simp [same] at h ⊢; exact h
  | .str x, b, h => by cases b <;> simp [same] at h ⊢; exact h
  | .tup xs, b, h => by
    cases b with
    | tup ys => rw [sames_eq xs ys (by simpa [same] using h)]
    | _ => simp [same] at h
  | .lst xs, b, h => by
    cases b with
    | lst ys => rw [sames_eq xs ys (by simpa [same] using h)]
    | _ => simp [same] at h
  | .dic _ _, b, h => by cases b <;> simp [same] at h
  | .ins _ _ _, b, h => by cases b <;> simp [same] at h
  | .ref _, b, h => by cases b <;> simp [same] at h
  | .fn _, b, h => by cases b <;> simp [same] at h
  | .scr _, b, h => by cases b <;> simp [same] at h
theorem sames_eq : ∀ (as bs : List D), sames as bs = true → as = bs
  | [], bs, h => by cases bs <;> simp [sames] at h ⊢
  | a :: as, bs, h => by
    cases bs with
    | nil => simp [sames] at h
    | cons b bs =>
      have h' : same a b = true ∧ sames as bs = true := by simpa [sames] using h
      rw [same_eq a b h'.1, sames_eq as bs h'.2]
end
theorem reprOk_of {μ : List Addr} {H : Hp} {S : Sto} {d : D} {v : V} (rs : RS t μ S H) (r : RD t μ H d v) (h : reprOk (rdOf S d) = true) :
    Dp t.K H v (toPD (rdOf S d)) ∧ (toPD (rdOf S d)).showable = true ∧ (toPD (rdOf S d)).canLay0 = true ∧ (toPD (rdOf S d)).shown.length ≤ sizeLine ∧ (toPD (rdOf S d)).depth ≤ 60 := by
  unfold reprOk at h
  simp only [Bool.and_eq_true, decide_eq_true_eq] at h
  obtain ⟨⟨h1, h2⟩, h3⟩ := h
  obtain ⟨dp, cl⟩ := dp_rd rs h1 r
  obtain ⟨a1, a2, a3⟩ := shw_pd 60 _ h1 h2
  refine ⟨dp, a1, cl, ?_, toPD_dep 60 _ h1⟩
  have := PyData.shown_le_bulk 2000 (by omega) _ (a2 cl)
  rw [a3] at this
  rw [sizeLine_eq]
  omega
/-- repr(a) != repr(b), of the same plain data -/
theorem r_repne (h : Fe t cx N sc mg W X) {p1 p2 p3 p4 : Pos} (hg : sc.names.lookup ("repr" : Str) = some .globalImplicit) (hm : mg ("repr" : Str) = none) (ha : VE t cx W X a ea) (hb : VE t cx W X b eb)
    (h1 : starEach [a] X.env = (false, eval a X.env) :: starEach [] X.env) (h2 : starEach [b] X.env = (false, eval b X.env) :: starEach [] X.env) :
    VT t cx W X (.Compare (.Call (.Name "repr" p1) [a] [] p2) [.NotEq] [.Call (.Name "repr" p3) [b] [] p4] pos) (.val (.repne ea eb)) := by
  have bt : bootBuiltins ("repr" : Str) = some (.builtin "repr") := by decide +kernel
  have ca := pe_callB (X := X) (pos := p2) (p := p1) (call_repr h.un h.gd) (h.gl hg) (by rw [h.mm]; exact hm) bt (pa_cons ha pa_nil h1) (by decide +kernel) (by decide +kernel) h1 rfl
  have cb := pe_callB (X := X) (pos := p4) (p := p3) (call_repr h.un h.gd) (h.gl hg) (by rw [h.mm]; exact hm) bt (pa_cons hb pa_nil h2) (by decide +kernel) (by decide +kernel) h2 rfl
  refine PT.weak (pt_cmpR op_ne ca cb (nomark _)) fun σ H Q q => ?_
  obtain ⟨μ, ρ, S, re, rs, q⟩ := q
  replace q : Aft t μ H (tru (ev cx (.repne ea eb) ρ S)) (fun b _ _ H' => Q b H') (fun x _ μ' H' => ∀ cls dd, RX t μ' H' x cls dd → W.w cls dd σ H') := q
  have rw1 : ev cx (.repne ea eb) ρ S = (ev cx ea ρ S).bind fun x S1 => if reprOk (rdOf S1 x) then (ev cx eb ρ S1).bind fun y S => if same (rdOf S1 x) (rdOf S y) then .ok (.bl false) S else .bad else .bad := by simp only [ev]
  rw [rw1] at q
  refine ⟨μ, ρ, S, re, rs, Aft.imp (r := ev cx ea ρ S) (Aft.bind (Aft.tru_bind q)) (fun x S1 μ1 H1 e1 s1 k1 v rv => ?_) fun _ _ _ _ _ _ z => z⟩
  cases z : reprOk (rdOf S1 x) with
  | false => rw [z] at k1; exact k1.elim
  | true =>
    rw [z] at k1
    rw [h.kk]
    obtain ⟨g1, g2, g3, g4, g5⟩ := reprOk_of s1 rv z
    refine ⟨v, _, rfl, g1, g2, g3, g4, g5, μ1, ρ, S1, re.ext e1, s1, Aft.imp (r := ev cx eb ρ S1) (Aft.bind (Aft.tru_bind k1)) (fun y S2 μ2 H2 e2 s2 k2 u ru => ?_) fun _ _ _ _ e2 _ z => z (e1.trans e2)⟩
    cases z2 : same (rdOf S1 x) (rdOf S2 y) with
    | false => rw [z2] at k2; exact k2.elim
    | true =>
      rw [z2] at k2
      have eq := same_eq _ _ z2
      obtain ⟨g1, g2, g3, g4, g5⟩ := reprOk_of s2 ru (by rw [← eq]; exact z)
      refine ⟨u, _, rfl, g1, g2, g3, g4, g5, rfl, false, ?_, Aft.now s2 k2 e2 (e1.trans e2)⟩
      rw [← eq]
      simp
end
end Dn
/-! Dn: a call's end; calls of the program's own defs and classes. -/
namespace Dn
open PySem L2 -- names

section
variable {t : Tb} {μ : List Addr} {H : Hp} {S : Sto} {n : Nat}
theorem take_at {l : Nat} {a : Addr} (hl : l < n) (h : μ[l]? = some a) : (μ.take n)[l]? = some a := by
  rw [List.getElem?_take_of_lt hl]; exact h
theorem take_not {a : Addr} (h : a ∉ μ) : a ∉ μ.take n := fun m => h (List.mem_of_mem_take m)
mutual
theorem RD.shrink : ∀ (d : D) {v : V}, lt n d = true → RD t μ H d v → RD t (μ.take n) H d v
  | .non, _, _, h => h
  | .bl _, _, _, h => h
  | .int _, _, _, h => h
  | .str _, _, _, h => h
  | .fn _, _, _, h => h
  | .tup ds, _, k, h => by
    obtain ⟨a, vs, rfl, f, r⟩ := h
    refine ⟨a, vs, rfl, ?_, RDs.shrink ds (by simpa [lt] using k) r⟩
    rcases f with ⟨f, z⟩ | f
    · exact .inl ⟨⟨take_not f.1, f.2⟩, z⟩
    · exact .inr f
  | .scr ds, _, k, h => by
    obtain ⟨a, vs, rfl, f, r⟩ := h
    refine ⟨a, vs, rfl, ?_, RDs.shrink ds (by simpa [lt] using k) r⟩
    rcases f with ⟨f, z⟩ | f
    · exact .inl ⟨⟨take_not f.1, f.2⟩, z⟩
    · exact .inr f
  | .lst ds, _, k, h => by
    obtain ⟨a, vs, rfl, f, r⟩ := h
    exact ⟨a, vs, rfl, ⟨⟨take_not f.1.1, f.1.2⟩, f.2⟩, RDs.shrink ds (by simpa [lt] using k) r⟩
  | .dic ks ds, _, k, h => by
    obtain ⟨a, kvs, rfl, f, z, q, r⟩ := h
    have k' : lts n ks = true ∧ lts n ds = true := by simpa [lt] using k
    exact ⟨a, kvs, rfl, ⟨take_not f.1, f.2⟩, z, q, RDs.shrink ds k'.2 r⟩
  | .ins c ids ds, _, k, h => by
    obtain ⟨a, dx, vs, rfl, f, z, q, r⟩ := h
    exact ⟨a, dx, vs, rfl, ⟨take_not f.1, f.2⟩, z, q, RDs.shrink ds (by simpa [lt] using k) r⟩
  | .ref l, _, k, h => by
    obtain ⟨a, h, rfl⟩ := h
    exact ⟨a, take_at (by simpa [lt] using k) h, rfl⟩
theorem RDs.shrink : ∀ (ds : List D) {vs : List V}, lts n ds = true → RDs t μ H ds vs → RDs t (μ.take n) H ds vs
  | [], _, _, h => h
  | d :: ds, _, k, h => by
    obtain ⟨v, vr, rfl, h1, h2⟩ := h
    have k' : lt n d = true ∧ lts n ds = true := by simpa [lts] using k
    exact ⟨v, vr, rfl, RD.shrink d k'.1 h1, RDs.shrink ds k'.2 h2⟩
end
theorem RO.shrink {o : LO} {a : Addr} (k : o.lt n = true) (h : RO t μ H o a) : RO t (μ.take n) H o a := by
  cases o with
  | lst ds =>
    obtain ⟨vs, h, r⟩ := h
    exact ⟨vs, h, RDs.shrink ds k r⟩
  | dic ks ds =>
    obtain ⟨kvs, h, q, r⟩ := h
    have k' : lts n ks = true ∧ lts n ds = true := by simpa [LO.lt] using k
    exact ⟨kvs, h, q, RDs.shrink ds k'.2 r⟩
  | ins c ids ds =>
    obtain ⟨dx, vs, h, q, r⟩ := h
    exact ⟨dx, vs, h, q, RDs.shrink ds k r⟩
theorem RS.shrink (s : RS t μ S H) (k : (S.take n).all (LO.lt n) = true) : RS t (μ.take n) (S.take n) H where
  len := by rw [List.length_take, List.length_take, s.len]
  nd := s.nd.sublist (List.take_sublist n μ)
  get := fun l o a e1 e2 => by
    have hl : l < n := by
      have := (List.getElem?_eq_some_iff.mp e1).1
      rw [List.length_take] at this; omega
    rw [List.getElem?_take_of_lt hl] at e1 e2
    refine (s.get l o a e1 e2).shrink ((List.all_eq_true.mp k) o ?_)
    exact List.mem_of_getElem? (by rw [List.getElem?_take_of_lt hl]; exact e1)
  hid := s.hid
  dis := fun a ha => s.dis a (List.mem_of_mem_take ha)
  lens := fun o ho => s.lens o (List.mem_of_mem_take ho)
/-- cells that are new: values from now on -/
theorem cell_out (s : RS t μ S H) {l : Nat} {a : Addr} (hl : n ≤ l) (h : μ[l]? = some a) : a ∉ μ.take n ∧ a ∉ t.xi := by
  refine ⟨fun m => ?_, s.dis a (List.mem_of_getElem? h)⟩
  obtain ⟨k, hk, e⟩ := List.getElem_of_mem m
  have hk' : k < n := by rw [List.length_take] at hk; omega
  have e2 : μ[k]? = some a := by
    rw [← List.getElem?_take_of_lt hk', List.getElem?_eq_getElem hk, e]
  have := s.inj h e2
  omega
theorem ref_ge {l : Nat} (h : ¬ lt n (.ref l) = true) : n ≤ l := by
  simp only [lt, decide_eq_true_eq] at h
  omega
theorem frz1_rd (s : RS t μ S H) {d e : D} {v : V} (h : frz1 S n d = some e) (r : RD t μ H d v) : RD t (μ.take n) H e v := by
  unfold frz1 at h
  split at h
  · rename_i k
    cases h
    exact RD.shrink d k r
  · rename_i k
    split at h
    · rename_i l
      obtain ⟨a, hl, rfl⟩ := r
      have hn := ref_ge k
      split at h
      · rename_i xs q
        split at h
        · rename_i k2
          cases h
          obtain ⟨vs, h1, h2⟩ := s.get l _ a q hl
          exact ⟨a, vs, rfl, ⟨⟨(cell_out s hn hl).1, (cell_out s hn hl).2, by rw [← h2.length]; exact s.lens _ (List.mem_of_getElem? q)⟩, h1⟩, RDs.shrink xs k2 h2⟩
        · cases h
      · rename_i ks vs q
        split at h
        · rename_i k2
          cases h
          rw [Bool.and_eq_true] at k2
          obtain ⟨kvs, h1, h2, h3⟩ := s.get l _ a q hl
          exact ⟨a, kvs, rfl, cell_out s hn hl, .inl h1, h2, RDs.shrink vs k2.2 h3⟩
        · cases h
      · cases h
    · cases h
theorem frz1s_rd (s : RS t μ S H) : ∀ {ds es : List D} {vs : List V}, frz1s S n ds = some es → RDs t μ H ds vs → RDs t (μ.take n) H es vs
  | [], es, vs, h, r => by cases h; exact r
  | d :: ds, es, vs, h, r => by
    obtain ⟨v, vr, rfl, r1, r2⟩ := r
    unfold frz1s at h
    obtain ⟨y, h1, h2⟩ := bind_of h
    obtain ⟨ys, h3, h4⟩ := map_of h2
    subst h4
    exact ⟨v, vr, rfl, frz1_rd s h1 r1, frz1s_rd s h3 r2⟩
theorem frz2_rd (s : RS t μ S H) {d e : D} {v : V} (h : frz2 S n d = some e) (r : RD t μ H d v) : RD t (μ.take n) H e v := by
  unfold frz2 at h
  split at h
  · rename_i k
    cases h
    exact RD.shrink d k r
  · rename_i k
    split at h
    · rename_i l
      obtain ⟨a, hl, rfl⟩ := r
      have hn := ref_ge k
      split at h
      · rename_i xs q
        obtain ⟨ys, h3, h4⟩ := map_of h
        subst h4
        obtain ⟨vs, h1, h2⟩ := s.get l _ a q hl
        exact ⟨a, vs, rfl, ⟨⟨(cell_out s hn hl).1, (cell_out s hn hl).2, by rw [← h2.length]; exact s.lens _ (List.mem_of_getElem? q)⟩, h1⟩, frz1s_rd s h3 h2⟩
      · rename_i ks vs q
        split at h
        · obtain ⟨ys, h3, h4⟩ := map_of h
          subst h4
          obtain ⟨kvs, h1, h2, h3'⟩ := s.get l _ a q hl
          exact ⟨a, kvs, rfl, cell_out s hn hl, .inl h1, h2, frz1s_rd s h3 h3'⟩
        · cases h
      · cases h
    · rename_i xs
      obtain ⟨ys, h3, h4⟩ := map_of h
      subst h4
      obtain ⟨a, vs, rfl, f, r⟩ := r
      refine ⟨a, vs, rfl, ?_, frz1s_rd s h3 r⟩
      rcases f with ⟨f, z⟩ | f
      · exact .inl ⟨⟨take_not f.1, f.2⟩, z⟩
      · exact .inr f
    · cases h
theorem Ext.shrink {μ' : List Addr} {H' : Hp} (e : Ext μ H μ' H') : Ext μ H (μ'.take μ.length) H' where
  pre := by
    obtain ⟨r, rfl⟩ := e.pre
    rw [List.take_left]
    exact List.prefix_refl _
  keep := e.keep
  new := fun a h => e.new a (List.mem_of_mem_take h)
theorem RX.shrink {x : Xn} {cls : Value} {dd : Option Addr} (k : lts n x.fs = true) (r : RX t (μ.take n) H x cls dd) : RX t (μ.take n) H x cls dd := r
/-- a call's end: fin's answer stands -/
theorem fin_ok {H0 : Hp} {μ0 : List Addr} {d : D} {k : D → Sto → List Addr → Hp → Prop} {kx : Xn → Sto → List Addr → Hp → Prop} (h : Aft t μ0 H0 (fin μ0.length d S) k kx)
    (e : Ext μ0 H0 μ H) (s : RS t μ S H) {v : V} (r : RD t μ H d v) : ∃ d' S' μ', k d' S' μ' H ∧ RD t μ' H d' v := by
  unfold fin at h
  split at h
  · rename_i hk
    split at h
    · rename_i q
      exact ⟨_, _, _, h _ H e.shrink (s.shrink hk), frz2_rd s q r⟩
    · exact ⟨_, _, _, h _ H e s, r⟩
  · exact ⟨_, _, _, h _ H e s, r⟩
end
/-! ### the program's own defs -/
structure RoomG (k : Nat) (A : Around) : Prop where
  room : Room k A
  gd : A.guards = some []
theorem RoomG.mono {j k : Nat} {A : Around} (r : RoomG k A) (h : j ≤ k) : RoomG j A := ⟨r.room.mono h, r.gd⟩
theorem RoomG.deeper {k : Nat} {A : Around} (r : RoomG (k + 1) A) (env : PySem.Env) : RoomG k (A.deeper env) := ⟨r.room.deeper env, r.gd⟩
theorem RoomG.make {k : Nat} {A : Around} (r : RoomG (k + 1) A) (C : Addr) (us : List Value) (kw : List (Str × Value)) : RoomG k (A.under (.builtin "type.__call__" ⟨.ref C :: us, kw⟩)) := by
  refine ⟨r.room.make C us kw, ?_⟩
  have := r.gd
  simp [Around.under, Code.guards, Code.isGuard, guardIds, pushGuards, this]
structure FnG (P : Program) (w : World) (K : PySem.W.Frag) (mg : Str → Option Value) (base : Heap) (k : Nat) (f : Addr) (fd : FuncData) (ps : List Str) (sp : Sp) : Prop where
  len : ∀ vs H Q E, sp vs H Q E → vs.length = ps.length
  run : ∀ (A : Around) (outer : List PySem.Env) (s : Shared) (H : Hp) (args : Args) (us : List Value) (vs : List V) (Q : VK) (E : XK), RoomG k A → Env0 P w K mg base A outer s H → BindsTo s fd args (ps.zip us) → Vals vs us → sp vs H Q E →
    codeAny (PySem.model P w) A (.call (.ref f) args) (CR (L2.CX P w) outer P w H s Q E) s
/-- what the f-th def promises: what call says -/
def spC (t : Tb) (call : Nat → List D → Sto → R D) (f : Nat) : Sp := fun vs H Q E => ∃ xi μ S ds, RS { t with xi := xi } μ S H ∧ RDs { t with xi := xi } μ H ds vs ∧
  Aft { t with xi := xi } μ H (call f ds S) (fun d _ μ' H' => ∀ v, RD { t with xi := xi } μ' H' d v → Q v H') (fun x _ μ' H' => ∀ cls dd, RX { t with xi := xi } μ' H' x cls dd → E cls dd H')
/-- a def, as the module has it -/
structure Fi where
  a : Addr
  x : Str
  fd : FuncData
  ps : List Str
structure FiOk (K : PySem.W.Frag) (mg : Str → Option Value) (i : Fi) : Prop where
  at_ : mg i.x = some (.ref i.a)
  kp : PySem.W.keepIn K (.ref i.a) = true
  db : (i.x == ("__debug__" : Str)) = false
/-- calls, too -/
structure Fc (t : Tb) (cx : Dn.Cx) (N : List Str) (sc : Scope) (mg : Str → Option Value) (W : Wi) (fi : Nat → Option Fi) (k : Nat) (X : L2.Cx) : Prop extends Fe t cx N sc mg W X where
  calm : X.calm = true
  nocu : W.cu = none
  room : RoomG (k + 1) X.A
  pass : ∀ σ, PassesAt (L2.CX X.prog X.w) X σ (WE W.w σ)
  fn : ∀ f i, fi f = some i → FnG X.prog X.w X.K X.mg X.base k (t.fa f) i.fd i.ps (spC t cx.call f)
  bd : ∀ f i, fi f = some i → Binds X.K i.fd i.ps []

section
variable {t : Tb} {cx : Dn.Cx} {N : List Str} {sc : Scope} {mg : Str → Option Value} {W : Wi} {fi : Nat → Option Fi} {k : Nat} {X : L2.Cx} {a b c o : Expr} {ea eb ec eo : E} {es : List Expr} {Es : List E} {pos p px apos : Pos}
theorem run_fG {ad : Addr} {fd : FuncData} {ps : List Str} {sp : Sp} {E1 : L2.St → XK} {pins : List (Addr × Obj)} {σ : L2.St} {H : Hp} {s : Shared} {Q : VK} {us : List Value} {vs : List V} (F : FnG X.prog X.w X.K X.mg X.base k ad fd ps sp) (hr : RoomG k X.A) (hb : Binds X.K fd ps [])
    (hx : PassesAt (L2.CX X.prog X.w) X σ (E1 σ)) (I : Inv X pins σ H s) (r : Vals vs us) (h : sp vs H Q (E1 σ)) : wpAny (PySem.model X.prog X.w) X.A (call (.ref ad) us) (EP X pins σ Q) X.xe s := by
  have many : us.length = ps.length := by rw [← r.length]; exact F.len _ _ _ _ h
  have bound := hb s us I.kIn (by rw [List.append_nil]; exact many)
  rw [List.append_nil] at bound
  refine wpAny_call (codeAny_mono (F.run X.A X.stack s H ⟨us, []⟩ us vs Q (E1 σ) hr I.env0 bound r h) fun out s' fin => ?_)
  cases out with
  | error ex => exact hx pins H s ex s' I fin
  | ok fl =>
    cases fl with
    | ret u => exact I.after fin
    | next => exact fin.elim
    | brk => exact fin.elim
    | cont => exact fin.elim
theorem Fc.run (h : Fc t cx N sc mg W fi k X) {f : Nat} {i : Fi} (hf : fi f = some i) (ia : i.a = t.fa f) {pins : List (Addr × Obj)} {σ : L2.St} {H : Hp} {s : Shared} {Q : VK} {us : List Value} {vs : List V} (I : Inv X pins σ H s) (r : Vals vs us)
    (q : spC t cx.call f vs H Q (WE W.w σ)) : wpAny (PySem.model X.prog X.w) X.A (call (.ref i.a) us) (EP X pins σ Q) X.xe s := by
  rw [ia]
  exact run_fG (E1 := WE W.w) (h.fn f i hf) (h.room.mono (Nat.le_succ k)) (h.bd f i hf) (h.pass σ) I r q
/-- arguments, then the call -/
theorem call_ok {f : Nat} (σ : L2.St) (H : Hp) (Q : VK) (q : tE t W (ev cx (.call f Es)) σ H Q) : tA t W (evs cx Es) σ H (fun vs H1 => spC t cx.call f vs H1 Q (WE W.w σ)) := by
  obtain ⟨μ, ρ, S, re, rs, q⟩ := q
  refine ⟨μ, ρ, S, re, rs, (Aft.bind (r := evs cx Es ρ S) q).imp (fun ds S1 μ1 H1 e1 s1 k1 vs rv => ?_) fun _ _ _ _ _ _ z => z⟩
  exact ⟨t.xi, μ1, S1, ds, s1, rv, k1.imp (fun d S3 μ3 H3 e3 s3 z => z (e1.trans e3)) fun x S3 μ3 H3 e3 s3 z => z (e1.trans e3)⟩
theorem r_call (h : Fc t cx N sc mg W fi k X) {f : Nat} {i : Fi} (hf : fi f = some i) (ia : i.a = t.fa f) (io : FiOk X.K mg i) (hg : sc.names.lookup i.x = some .globalImplicit) (ha : VA t cx W X (a :: es) Es)
    (he : starEach (a :: es) X.env = (false, eval a X.env) :: starEach es X.env) (hpl : (backTo pos (starEach es X.env)).any (·.1) = false) : VE t cx W X (.Call (.Name i.x p) (a :: es) [] pos) (.call f Es) := by
  refine ⟨fun pins s σ H Q I q => ?_⟩
  refine wpAny_Call_Name_kw (ld_glob I (h.gl hg) (by rw [h.mm]; exact io.at_) ?_ io.db)
  refine PySem.W.callWith_K (h₀ := X.base) I.ok.mod.kin io.kp (thn (ha.run pos pins s σ H _ I (call_ok σ H Q q)) fun us s1 ⟨vs, H1, I1, r, q1⟩ => ⟨I1.kIn, ?_⟩) he hpl
  exact h.run hf ia I1 r q1
theorem r_call0 (h : Fc t cx N sc mg W fi k X) {f : Nat} {i : Fi} (hf : fi f = some i) (ia : i.a = t.fa f) (io : FiOk X.K mg i) (hg : sc.names.lookup i.x = some .globalImplicit) : VE t cx W X (.Call (.Name i.x p) [] [] pos) (.call f []) := by
  refine ⟨fun pins s σ H Q I q => ?_⟩
  refine wpAny_Call_Name_kw (ld_glob I (h.gl hg) (by rw [h.mm]; exact io.at_) ?_ io.db)
  refine PySem.W.callWith_K0 I.kIn io.kp (h.run (us := []) (vs := []) hf ia I .nil ?_)
  obtain ⟨μ, ρ, S, re, rs, q1⟩ := call_ok σ H Q q
  exact Aft.now (a := ([] : List D)) rs q1 [] rfl
end
end Dn
/-! Dn: what a loop walks. -/
namespace Dn
open PySem L2 -- names

/-- a turn's item: a value as it is, or a new tuple -/
inductive Sh where
  | v (x : V) | t (us : List V)
def RDh (t : Tb) (μ : List Addr) (H : Hp) (d : D) (h : Sh) : Prop :=
  match h with
  | .v x => RD t μ H d x
  | .t us => ∃ ds, d = .tup ds ∧ RDs t μ H ds us ∧ ds.length ≤ sizeLine
def RDhs (t : Tb) (μ : List Addr) (H : Hp) (ds : List D) (hs : List Sh) : Prop := Paired (RDh t μ H) ds hs
/-- how such a list is walked, whatever comes between -/
structure JV (μ : List Addr) (H : Hp) (hs : List Sh) (J : It) : Prop where
  go : ∀ μ' H', Ext μ H μ' H' → ∀ i, i < hs.length → J.go i H'
  stop : ∀ μ' H', Ext μ H μ' H' → ∀ i, hs.length ≤ i → J.stop i H'
  yld : ∀ μ' H', Ext μ H μ' H' → ∀ i x H2 h, J.yld i H' x H2 → hs[i]? = some h → match h with
    | .v y => H2 = H' ∧ x = y
    | .t us => ∃ p, x = .ref p ∧ H' p = none ∧ H2 = upd H' p (.tup us)
def SrcJ (t : Tb) (μ : List Addr) (H : Hp) (s : Src) (J : It) : Prop :=
  match s with
  | .vals xs => ∃ hs, RDhs t μ H xs hs ∧ JV μ H hs J ∧ xs.length ≤ sizeLine
  | .cell en l n => ∃ a, μ[l]? = some a ∧ J = if en then Ite t.K a else Itl t.K a
def tI (t : Tb) (W : Wi) (f : Env → Sto → R Src) : TI := fun σ H R => ∃ μ ρ S, RE t W.cu μ H ρ σ ∧ RS t μ S H ∧
  Aft t μ H (f ρ S) (fun s S' μ' H' => (∀ en l n, s = .cell en l n → ∃ xs, S'[l]? = some (.lst xs) ∧ xs.length = n) → ∀ J, SrcJ t μ' H' s J → R J H') (fun x _ μ' H' => ∀ cls dd, RX t μ' H' x cls dd → W.w cls dd σ H')
theorem PI.weak {X : L2.Cx} {tg e : Expr} {w w' : TI} (h : PI X tg e w) (q : ∀ σ H R, w' σ H R → w σ H R) : PI X tg e w' := ⟨fun pins s σ H R I z => h.run pins s σ H R I (q σ H R z)⟩
section
variable {t : Tb} {cx : Dn.Cx} {N : List Str} {sc : Scope} {mg : Str → Option Value} {W : Wi} {X : L2.Cx} {a b c tg : Expr} {ea eb ec : E} {es : List Expr} {Es : List E} {pos p px apos : Pos}
abbrev VI (t : Tb) (cx : Dn.Cx) (W : Wi) (X : L2.Cx) (tg a : Expr) (ea : E) : Prop := PI X tg a (tI t W (src cx ea))
theorem pairs_vs {μ : List Addr} {H : Hp} : ∀ {ds : List D} {vs : List V}, RDs t μ H ds vs → RDhs t μ H ds (vs.map .v)
  | [], _, h => by cases h; exact .nil
  | d :: ds, _, h => by
    obtain ⟨v, vr, rfl, h1, h2⟩ := h
    exact .cons h1 (pairs_vs h2)
theorem vs_at {vs : List V} {i : Nat} {h : Sh} (e : (vs.map Sh.v)[i]? = some h) : ∃ y, vs[i]? = some y ∧ h = .v y := by
  rw [List.getElem?_map] at e
  obtain ⟨y, h1, h2⟩ := map_of e
  exact ⟨y, h1, h2.symm⟩
/-- a list, a tuple that stays -/
theorem jv_list {μ : List Addr} {H : Hp} {a : Addr} {vs : List V} (hs : ∀ μ' H', Ext μ H μ' H' → SqL t.K H' a vs) : JV μ H (vs.map .v) (Itl t.K a) where
  go := fun μ' H' e i hi => by
    rw [List.length_map] at hi
    exact ⟨vs, vs[i], hs μ' H' e, List.getElem?_eq_getElem hi⟩
  stop := fun μ' H' e i hi => by
    rw [List.length_map] at hi
    exact ⟨vs, hs μ' H' e, hi⟩
  yld := fun μ' H' e i x H2 h y e2 => by
    obtain ⟨z, h1, rfl⟩ := vs_at e2
    obtain ⟨y1, y2⟩ := y
    have := y2 vs (hs μ' H' e)
    rw [h1] at this
    cases this
    exact ⟨y1, rfl⟩
theorem jv_tup {μ : List Addr} {H : Hp} {a : Addr} {vs : List V} (hs : ∀ μ' H', Ext μ H μ' H' → SqT t.K H' a vs) : JV μ H (vs.map .v) (Itt t.K a) where
  go := fun μ' H' e i hi => by
    rw [List.length_map] at hi
    exact ⟨vs, vs[i], hs μ' H' e, List.getElem?_eq_getElem hi⟩
  stop := fun μ' H' e i hi => by
    rw [List.length_map] at hi
    exact ⟨vs, hs μ' H' e, hi⟩
  yld := fun μ' H' e i x H2 h y e2 => by
    obtain ⟨z, h1, rfl⟩ := vs_at e2
    obtain ⟨y1, y2⟩ := y
    have := y2 vs (hs μ' H' e)
    rw [h1] at this
    cases this
    exact ⟨y1, rfl⟩
theorem jv_str {μ : List Addr} {H : Hp} {s : List Nat} : JV μ H ((s.map fun c => V.str ⟨#[c]⟩).map .v) (Its ⟨s.toArray⟩) where
  go := fun μ' H' e i hi => by
    rw [List.length_map, List.length_map] at hi
    show i < s.toArray.size
    simpa using hi
  stop := fun μ' H' e i hi => by
    rw [List.length_map, List.length_map] at hi
    show s.toArray.size ≤ i
    simpa using hi
  yld := fun μ' H' e i x H2 h y e2 => by
    obtain ⟨z, h1, rfl⟩ := vs_at e2
    obtain ⟨y1, c, y2, y3⟩ := y
    rw [List.getElem?_map] at h1
    have y2' : s[i]? = some c := by simpa using y2
    rw [y2'] at h1
    cases h1
    exact ⟨y1, y3⟩
theorem jv_range {μ : List Addr} {H : Hp} {lo : Int} {n : Nat} : JV μ H (((List.range n).map fun (k : Nat) => V.int (lo + k)).map .v) (Itr lo n) where
  go := fun μ' H' e i hi => by
    rw [List.length_map, List.length_map, List.length_range] at hi
    exact hi
  stop := fun μ' H' e i hi => by
    rw [List.length_map, List.length_map, List.length_range] at hi
    exact hi
  yld := fun μ' H' e i x H2 h y e2 => by
    obtain ⟨z, h1, rfl⟩ := vs_at e2
    obtain ⟨y1, y2⟩ := y
    rw [List.getElem?_map] at h1
    obtain ⟨k, h3, h4⟩ := map_of h1
    have : k = i := by
      rw [List.getElem?_range] at h3
      · cases h3; rfl
      · have := (List.getElem?_eq_some_iff.mp h3).1
        simpa using this
    subst this
    exact ⟨y1, y2.trans h4⟩
/-- an expression whose value is walked: list, tuple or text -/
theorem pi_any {ta : TE} (ha : PE X a ta) : PI X tg a (fun σ H R => ta σ H fun x H1 => (∃ p, x = .ref p ∧ (∃ xs, SqL X.K H1 p xs) ∧ R (Itl X.K p) H1) ∨ (∃ p, x = .ref p ∧ (∃ xs, SqT X.K H1 p xs) ∧ R (Itt X.K p) H1) ∨ ∃ z, x = .str z ∧ R (Its z) H1) := by
  refine ⟨fun pins s σ H R I h => ?_⟩
  refine thn (ha.run pins s σ H _ I h) fun u s1 ⟨x, H1, I1, rx, q⟩ => ?_
  have fresh : ∀ b ∈ [s1.heap.objs.size], FpOk X pins H1 b := fun b hb => by
    rw [List.mem_singleton.mp hb]
    exact I1.fpOk (Nat.le_refl _) (I1.hok.fresh (Nat.le_refl _))
  rcases q with ⟨ad, ex, ⟨xs, hx⟩, q⟩ | ⟨ad, ex, ⟨xs, hx⟩, q⟩ | ⟨z, ex, q⟩
  · subst ex
    cases rx
    obtain ⟨its, _, pl, _⟩ := I1.list hx
    exact wpAny_pyIter_list pl.isList ⟨_, _, _, _, H1, rfl, I1.kept (t' := s1.toks) fun b ob e => Heap.get?_push_of_some _ e, turn_list ad _, ⟨_, Heap.get?_push_size _ rfl, rfl, rfl⟩, fresh, q⟩
  · subst ex
    cases rx
    obtain ⟨its, _, pl, _⟩ := I1.tuple hx
    exact wpAny_pyIter_tuple pl ⟨_, _, _, _, H1, rfl, I1.kept (t' := s1.toks) fun b ob e => Heap.get?_push_of_some _ e, turn_tuple ad _, ⟨_, Heap.get?_push_size _ rfl, rfl, rfl⟩, fresh, q⟩
  · subst ex
    obtain ⟨tk, rfl⟩ := rx
    cases wide : z.cps.all (· < 128)
    · exact wpAny_pyIter_wide wide ⟨_, _, _, _, H1, rfl, I1.kept (t' := s1.toks) fun b ob e => Heap.get?_push_of_some _ e, turn_str _ z tk "str_iterator" (.inr rfl), ⟨_, Heap.get?_push_size _ rfl, rfl, rfl⟩, fresh, q⟩
    · exact wpAny_pyIter_ascii wide ⟨_, _, _, _, H1, rfl, I1.kept (t' := s1.toks) fun b ob e => Heap.get?_push_of_some _ e, turn_str _ z tk "str_ascii_iterator" (.inl rfl), ⟨_, Heap.get?_push_size _ rfl, rfl, rfl⟩, fresh, q⟩
theorem i_val (h : Fe t cx N sc mg W X) (ha : VE t cx W X a ea) : VI t cx W X tg a (.val ea) := by
  refine PI.weak (pi_any ha) fun σ H R q => ?_
  obtain ⟨μ, ρ, S, re, rs, q⟩ := q
  refine ⟨μ, ρ, S, re, rs, (Aft.bind (r := ev cx ea ρ S) q).imp (fun x S1 μ1 H1 e1 s1 k1 v rv => ?_) fun _ _ _ _ _ _ z => z⟩
  obtain ⟨sr, e, k1⟩ := k1.of
  have k2 := k1.now s1 e1
  rw [h.kk]
  cases x with
  | lst xs =>
    cases e
    obtain ⟨ad, vs, rfl, f, r⟩ := rv
    exact .inl ⟨ad, rfl, ⟨vs, SqL.of f.2⟩, k2 (fun _ _ _ z => nomatch z) _ ⟨_, pairs_vs r, jv_list fun μ' H' e => SqL.of (f.ext e).2, by rw [r.length]; exact f.1.2.2⟩⟩
  | scr xs =>
    cases e
    obtain ⟨ad, vs, rfl, f, r⟩ := rv
    exact .inl ⟨ad, rfl, ⟨vs, f.seq⟩, k2 (fun _ _ _ z => nomatch z) _ ⟨_, pairs_vs r, jv_list fun μ' H' e => (f.ext e).seq, by rw [r.length]; exact f.len⟩⟩
  | tup xs =>
    cases e
    obtain ⟨ad, vs, rfl, f, r⟩ := rv
    exact .inr (.inl ⟨ad, rfl, ⟨vs, f.seq⟩, k2 (fun _ _ _ z => nomatch z) _ ⟨_, pairs_vs r, jv_tup fun μ' H' e => (f.ext e).seq, by rw [r.length]; exact f.len⟩⟩)
  | str s =>
    obtain ⟨rfl, o⟩ := rv
    simp only [srcOf] at e
    split at e
    case isFalse => cases e
    rename_i hle
    cases e
    refine .inr (.inr ⟨_, rfl, k2 (fun _ _ _ z => nomatch z) _ ⟨_, ?_, jv_str, by rw [List.length_map, line_eq]; exact hle⟩⟩)
    refine pairs_vs ?_
    have : ∀ l : List Nat, (∀ c ∈ l, c < 1114112) → RDs t μ1 H1 (l.map fun c => D.str [c]) (l.map fun c => V.str ⟨#[c]⟩) := fun l => by
      induction l with
      | nil => intro _; rfl
      | cons c l ih => exact fun ho => ⟨_, _, rfl, ⟨rfl, fun z hz => by rw [List.mem_singleton.mp hz]; exact ho c List.mem_cons_self⟩, ih fun z hz => ho z (List.mem_cons_of_mem _ hz)⟩
    exact this s o
  | ref l =>
    obtain ⟨ad, hl, rfl⟩ := rv
    simp only [srcOf] at e
    split at e
    · rename_i xs q
      cases e
      obtain ⟨vs, h1, h2⟩ := s1.get l _ ad q hl
      exact .inl ⟨ad, rfl, ⟨vs, SqL.of h1⟩, k2 (fun _ _ _ z => by cases z; exact ⟨xs, q, rfl⟩) _ ⟨ad, hl, rfl⟩⟩
    · cases e
  | _ => cases e
theorem i_range1 (h : Fe t cx N sc mg W X) (hg : sc.names.lookup ("range" : Str) = some .globalImplicit) (hm : mg ("range" : Str) = none) (ha : VA t cx W X [a] [ea]) (hs : starEach [a] X.env = [(false, eval a X.env)]) {cell : Bool} :
    VI t cx W X tg (.Call (.Name "range" p) [a] [] pos) (.bi cell .range1 [ea]) := by
  refine PI.weak (pi_range1 (h.gl hg) (by rw [h.mm]; exact hm) ha hs) fun σ H R q => ?_
  obtain ⟨μ, ρ, S, re, rs, q⟩ := q
  refine ⟨μ, ρ, S, re, rs, (Aft.bind (r := evs cx [ea] ρ S) q).imp (fun ds S1 μ1 H1 e1 s1 k1 vs rv => ?_) fun _ _ _ _ _ _ z => z⟩
  obtain ⟨sr, e, k1⟩ := k1.of
  obtain ⟨xs, e, e'⟩ := map_of e
  subst e'
  have k2 := k1.now s1 e1 (fun _ _ _ z => nomatch z)
  simp only [rng] at e
  split at e
  · split at e
    · rename_i n _ hn
      cases e
      obtain ⟨v, rfl, r⟩ := rv.one
      cases r
      rw [Bool.and_eq_true] at hn
      rw [rgOk_eq] at hn
      have hn2 := of_leI hn.2
      have hn := of_decide_eq_true hn.1
      refine ⟨n, rfl, by omega, by omega, k2 _ ⟨_, pairs_vs ?_, jv_range, by unfold rangeD; rw [List.length_map, List.length_range, sizeLine_eq]; omega⟩⟩
      unfold rangeD
      rw [show (n - 0).toNat = n.toNat by rw [Int.sub_zero]]
      have : ∀ l : List Nat, RDs t μ1 H1 (l.map fun (k : Nat) => D.int (0 + (k : Nat))) (l.map fun (k : Nat) => V.int (0 + k)) := fun l => by
        induction l with
        | nil => rfl
        | cons c l ih => exact ⟨_, _, rfl, rfl, ih⟩
      exact this _
    · cases e
  · cases e
theorem i_range2 (h : Fe t cx N sc mg W X) (hg : sc.names.lookup ("range" : Str) = some .globalImplicit) (hm : mg ("range" : Str) = none) (ha : VA t cx W X [a, b] [ea, eb]) (hs : starEach [a, b] X.env = [(false, eval a X.env), (false, eval b X.env)]) (hs2 : starEach [b] X.env = [(false, eval b X.env)]) {cell : Bool} :
    VI t cx W X tg (.Call (.Name "range" p) [a, b] [] pos) (.bi cell .range2 [ea, eb]) := by
  refine PI.weak (pi_range2 (h.gl hg) (by rw [h.mm]; exact hm) ha hs hs2) fun σ H R q => ?_
  obtain ⟨μ, ρ, S, re, rs, q⟩ := q
  refine ⟨μ, ρ, S, re, rs, (Aft.bind (r := evs cx [ea, eb] ρ S) q).imp (fun ds S1 μ1 H1 e1 s1 k1 vs rv => ?_) fun _ _ _ _ _ _ z => z⟩
  obtain ⟨sr, e, k1⟩ := k1.of
  obtain ⟨xs, e, e'⟩ := map_of e
  subst e'
  have k2 := k1.now s1 e1 (fun _ _ _ z => nomatch z)
  simp only [rng] at e
  split at e
  · split at e
    · rename_i lo n _ hn
      cases e
      obtain ⟨v, u, rfl, r1, r2⟩ := rv.two
      cases r1; cases r2
      rw [Bool.and_eq_true, Bool.and_eq_true] at hn
      rw [rgOk_eq, rgOk_eq] at hn
      have h1 := of_decide_eq_true hn.1.1
      have h2 := of_decide_eq_true hn.1.2
      have h3 := of_leI hn.2
      refine ⟨lo, n, rfl, ⟨by omega, by omega, by omega, by omega⟩, k2 _ ⟨_, pairs_vs ?_, jv_range, by unfold rangeD; rw [List.length_map, List.length_range, sizeLine_eq]; omega⟩⟩
      unfold rangeD
      have : ∀ l : List Nat, RDs t μ1 H1 (l.map fun (k : Nat) => D.int (lo + (k : Nat))) (l.map fun (k : Nat) => V.int (lo + k)) := fun l => by
        induction l with
        | nil => rfl
        | cons c l ih => exact ⟨_, _, rfl, rfl, ih⟩
      exact this _
    · cases e
  · cases e
end
end Dn
/-! Dn: statements. -/
namespace Dn
open PySem L2 -- names

section
variable {t : Tb} {μ μ' μ1 : List Addr} {H H' H1 : Hp} {S : Sto} {α : Type}
theorem Aft.stm {r : R α} {ρ : Env} {f : α → Sto → R Fl} {k : Fl → Sto → List Addr → Hp → Prop} {kx : Xn → Sto → List Addr → Hp → Prop} (h : Aft t μ H (r.stm ρ f) k kx) :
    Aft t μ H r (fun a S' μ' H' => Aft t μ' H' (f a S') (fun b S2 μ2 H2 => Ext μ H μ2 H2 → k b S2 μ2 H2) (fun x S2 μ2 H2 => Ext μ H μ2 H2 → kx x S2 μ2 H2)) (fun x S' μ' H' => k (.xc x ρ) S' μ' H') := by
  cases r with
  | bad => exact h
  | ok a S =>
    intro μ1 H1 e1 s1
    have h' : Aft t μ H (f a S) k kx := h
    show Aft t μ1 H1 (f a S) _ _
    cases q : f a S with
    | bad => rw [q] at h'; exact h'
    | ok b S2 => rw [q] at h'; exact fun μ2 H2 e2 s2 _ => h' μ2 H2 (e1.trans e2) s2
    | exc x S2 => rw [q] at h'; exact fun μ2 H2 e2 s2 _ => h' μ2 H2 (e1.trans e2) s2
  | exc x S => exact h
end
theorem RE.set {t : Tb} {cu : Option Cu} {μ : List Addr} {H : Hp} {ρ : Env} {σ : L2.St} (r : RE t cu μ H ρ σ) (i : Nat) {d : D} {v : V} (h : RD t μ H d v) : RE t cu μ H (ρ.set i (some d)) (σ.set i (some v)) where
  cur := fun c hc => ⟨(r.cur c hc).1, fun z => by
    by_cases hj : i = c.i
    · exfalso
      by_cases hl : i < ρ.length
      · rw [← hj, List.getElem?_set_self hl] at z; cases z
      · rw [← hj, List.getElem?_eq_none (by rw [List.length_set]; omega)] at z; cases z
    · rw [List.getElem?_set_ne hj] at z ⊢
      exact (r.cur c hc).2 z⟩
  len := by rw [List.length_set, List.length_set]; exact r.len
  get := fun j d' e => by
    by_cases hj : i = j
    · subst hj
      by_cases hl : i < ρ.length
      · rw [List.getElem?_set_self hl] at e
        cases e
        exact ⟨v, List.getElem?_set_self (by rw [← r.len]; exact hl), h⟩
      · rw [List.getElem?_eq_none (by rw [List.length_set]; omega)] at e
        cases e
    · rw [List.getElem?_set_ne hj] at e
      obtain ⟨v', h1, h2⟩ := r.get j d' e
      exact ⟨v', by rw [List.getElem?_set_ne hj]; exact h1, h2⟩
theorem RE.unset {t : Tb} {μ : List Addr} {H : Hp} {ρ : Env} {σ : L2.St} (r : RE t none μ H ρ σ) (i : Nat) (o : Option V) : RE t none μ H (ρ.set i none) (σ.set i o) where
  cur := fun _ z => nomatch z
  len := by rw [List.length_set, List.length_set]; exact r.len
  get := fun j d' e => by
    by_cases hj : i = j
    · subst hj
      by_cases hl : i < ρ.length
      · rw [List.getElem?_set_self hl] at e
        cases e
      · rw [List.getElem?_eq_none (by rw [List.length_set]; omega)] at e
        cases e
    · rw [List.getElem?_set_ne hj] at e
      obtain ⟨v', h1, h2⟩ := r.get j d' e
      exact ⟨v', by rw [List.getElem?_set_ne hj]; exact h1, h2⟩
section
variable {t : Tb} {cx : Dn.Cx} {N : List Str} {sc : Scope} {mg : Str → Option Value} {W : Wi} {fi : Nat → Option Fi} {k : Nat} {X : L2.Cx} {a b c o tg : Expr} {ea eb ec eo : E} {te : Te} {T1 : T} {Ts : List T} {es : List Expr} {Es : List E} {pos p px apos : Pos} {s : Stmt} {ss sa sb : List Stmt} {S1 : Dn.St} {SS SA SB : List Dn.St}
abbrev VS (t : Tb) (cx : Dn.Cx) (W : Wi) (X : L2.Cx) (s : Stmt) (S1 : Dn.St) : Prop := PS X s (tS t W (st S1 cx))
abbrev VSs (t : Tb) (cx : Dn.Cx) (W : Wi) (X : L2.Cx) (s : List Stmt) (S1 : List Dn.St) : Prop := PSs X s (tS t W (sts S1 cx))
/-! ### targets -/
mutual
/-- the names of a target -/
def varsT : T → List Nat
  | .var i => [i]
  | .tup ts => varsTs ts
def varsTs : List T → List Nat
  | [] => []
  | t :: ts => varsT t ++ varsTs ts
end
/-- but for these names all is as it was -/
def But (vs : List Nat) (σ σ' : L2.St) : Prop := ∀ ws : List Nat, (∀ i ∈ vs, i ∈ ws) → L2.wipe σ' ws = L2.wipe σ ws
theorem wipe_set {i : Nat} {o : Option V} {σ : L2.St} : ∀ {ws : List Nat}, i ∈ ws → L2.wipe (σ.set i o) ws = L2.wipe σ ws
  | [], h => by simp at h
  | w :: ws, h => by
    unfold L2.wipe
    by_cases hw : i ∈ ws
    · rw [wipe_set hw]
    · have e : i = w := (List.mem_cons.mp h).resolve_right hw
      subst e
      have : ∀ vs : List Nat, i ∉ vs → L2.wipe (σ.set i o) vs = (L2.wipe σ vs).set i o := fun vs => by
        induction vs with
        | nil => intro _; rfl
        | cons v vs ih =>
          intro hn
          unfold L2.wipe
          rw [ih fun z => hn (List.mem_cons_of_mem _ z), List.set_comm _ _ (fun z => hn (by rw [z]; exact List.mem_cons_self))]
      rw [this ws hw, List.set_set]
def tG (t : Tb) (W : Wi) (T1 : T) : TG := fun v σ H Q => ∃ μ ρ S d ρ', RE t W.cu μ H ρ σ ∧ RS t μ S H ∧ RD t μ H d v ∧ tgt T1 d ρ = some ρ' ∧ ∀ σ', RE t W.cu μ H ρ' σ' → But (varsT T1) σ σ' → Q σ' H
def tGs (t : Tb) (W : Wi) (Ts : List T) : TGs := fun vs σ H Q => ∃ μ ρ S ds ρ', RE t W.cu μ H ρ σ ∧ RS t μ S H ∧ RDs t μ H ds vs ∧ tgts Ts ds ρ = some ρ' ∧ ∀ σ', RE t W.cu μ H ρ' σ' → But (varsTs Ts) σ σ' → Q σ' H
abbrev VG (t : Tb) (W : Wi) (X : L2.Cx) (tg : Expr) (T1 : T) : Prop := PG X tg (tG t W T1)
abbrev VGs (t : Tb) (W : Wi) (X : L2.Cx) (tg : List Expr) (T1 : List T) : Prop := PGs X tg (tGs t W T1)
theorem PG.weak {g g' : TG} (h : PG X tg g) (q : ∀ v σ H Q, g' v σ H Q → g v σ H Q) : PG X tg g' := ⟨fun pins s σ H v u Q I r z => h.run pins s σ H v u Q I r (q v σ H Q z)⟩
theorem PGs.weak {g g' : TGs} (h : PGs X es g) (q : ∀ v σ H Q, g' v σ H Q → g v σ H Q) : PGs X es g' := ⟨fun pins s σ H v u Q I r z => h.run pins s σ H v u Q I r (q v σ H Q z)⟩
theorem g_name (h : Fe t cx N sc mg W X) {i : Nat} {x : Str} (hN : N[i]? = some x) (hx : Loc sc x) (hf : X.fn x = true ∨ sc.names.lookup x = some .local) : VG t W X (.Name x p) (.var i) := by
  refine PG.weak (pg_name (by rw [h.nn]; exact h.nd) (by rw [h.nn]; exact hN) (by rw [h.ss]; exact hx) (by rw [h.ss]; exact hf)) fun v σ H Q q => ?_
  obtain ⟨μ, ρ, S, d, ρ', re, rs, rd, e, q⟩ := q
  unfold tgt at e
  cases e
  exact q _ (re.set i rd) fun ws h => wipe_set (h i List.mem_cons_self)
theorem gs_nil : VGs t W X [] [] := by
  refine PGs.weak pgs_nil fun v σ H Q q => ?_
  obtain ⟨μ, ρ, S, ds, ρ', re, rs, rd, e, q⟩ := q
  cases ds with
  | nil =>
    unfold tgts at e
    cases e
    exact ⟨rd, q σ re fun _ _ => rfl⟩
  | cons d ds =>
    unfold tgts at e
    cases e
theorem gs_cons (h1 : VG t W X a T1) (h2 : VGs t W X es Ts) (hs : (assignEach (a :: es) X.env).map (·.2) = assign a X.env :: (assignEach es X.env).map (·.2)) : VGs t W X (a :: es) (T1 :: Ts) := by
  refine PGs.weak (pgs_cons h1 h2 hs) fun v σ H Q q => ?_
  obtain ⟨μ, ρ, S, ds, ρ', re, rs, rd, e, q⟩ := q
  cases ds with
  | nil =>
    unfold tgts at e
    cases e
  | cons d ds =>
    unfold tgts at e
    obtain ⟨ρ1, e1, e2⟩ := bind_of e
    obtain ⟨v1, vr, rfl, r1, r2⟩ := rd
    exact ⟨v1, vr, rfl, μ, ρ, S, d, ρ1, re, rs, r1, e1, fun σ1 re1 b1 => ⟨μ, ρ1, S, ds, ρ', re1, rs, r2, e2, fun σ2 re2 b2 => q σ2 re2 fun ws h =>
      (b2 ws fun i hi => h i (List.mem_append_right _ hi)).trans (b1 ws fun i hi => h i (List.mem_append_left _ hi))⟩⟩
theorem tgts_len : ∀ {Ts : List T} {ds : List D} {ρ ρ' : Env}, tgts Ts ds ρ = some ρ' → ds.length = Ts.length
  | [], ds, ρ, ρ', e => by
    unfold tgts at e
    cases ds with
    | nil => rfl
    | cons d ds => cases e
  | T1 :: Ts, ds, ρ, ρ', e => by
    unfold tgts at e
    cases ds with
    | nil => cases e
    | cons d ds =>
      obtain ⟨ρ1, e1, e2⟩ := bind_of e
      rw [List.length_cons, List.length_cons, tgts_len e2]
theorem g_tup (hc : X.calm = true) (hK : X.K = t.K) (h : VGs t W X es Ts) {n : Nat} (hn : (assignEach es X.env).length = Ts.length) (hst : (assignEach es X.env).findIdx? (·.1) = none) {k : Nat} : VG t W X (.Tuple es k pos) (.tup Ts) := by
  refine PG.weak (pg_tup hc h hn hst) fun v σ H Q q => ?_
  obtain ⟨μ, ρ, S, d, ρ', re, rs, rd, e, q⟩ := q
  unfold tgt at e
  split at e
  · obtain ⟨a, vs, rfl, f, r⟩ := rd
    refine ⟨a, vs, rfl, by rw [hK]; exact f.seq, by rw [← r.length]; exact tgts_len e, μ, ρ, S, _, ρ', re, rs, r, e, q⟩
  · cases e
/-! ### blocks, small statements -/
theorem ss_nil : VSs t cx W X [] [] := by
  refine PSs.weak pss_nil fun D σ H q => ?_
  obtain ⟨μ, ρ, S, re, rs, q⟩ := q
  exact Aft.now (a := Fl.nx ρ) rs q σ re
theorem ss_cons (h1 : VS t cx W X s S1) (h2 : VSs t cx W X ss SS) : VSs t cx W X (s :: ss) (S1 :: SS) := by
  refine PSs.weak (pss_cons h1 h2) fun D σ H q => ?_
  obtain ⟨μ, ρ, S, re, rs, q⟩ := q
  refine ⟨μ, ρ, S, re, rs, (Aft.bind (r := st S1 cx ρ S) q).imp (fun fl S2 μ1 H1 e1 s1 k1 => ?_) fun _ _ _ _ _ _ z => z⟩
  cases fl with
  | nx ρ' => exact fun σ' re' => ⟨μ1, ρ', S2, re', s1, Aft.imp k1 (fun _ _ _ _ e2 _ z => z (e1.trans e2)) fun _ _ _ _ e2 _ z => z (e1.trans e2)⟩
  | rt d => exact Aft.now (a := Fl.rt d) s1 k1 e1
  | bk ρ' => exact Aft.now (a := Fl.bk ρ') s1 k1 e1
  | ct ρ' => exact Aft.now (a := Fl.ct ρ') s1 k1 e1
  | xc x ρ' => exact Aft.now (a := Fl.xc x ρ') s1 k1 e1
theorem s_pass : VS t cx W X (.Pass pos) .pass := by
  refine PS.weak ps_pass fun D σ H q => ?_
  obtain ⟨μ, ρ, S, re, rs, q⟩ := q
  exact Aft.now (a := Fl.nx ρ) rs q σ re
theorem s_brk : VS t cx W X (.Break pos) .brk := by
  refine PS.weak ps_break fun D σ H q => ?_
  obtain ⟨μ, ρ, S, re, rs, q⟩ := q
  exact Aft.now (a := Fl.bk ρ) rs q σ re
theorem s_cnt : VS t cx W X (.Continue pos) .cnt := by
  refine PS.weak ps_continue fun D σ H q => ?_
  obtain ⟨μ, ρ, S, re, rs, q⟩ := q
  exact Aft.now (a := Fl.ct ρ) rs q σ re
/-- an expression in a statement -/
theorem stm_ok {f : D → Sto → R Fl} {D1 : Ends} {σ : L2.St} {H : Hp} {Q : VK} {ρ0 : Env → Env} {g : Env → D → Sto → R Fl} (q : tS t W (fun ρ S => (ev cx ea ρ S).stm ρ fun d S => g ρ d S) D1 σ H)
    (h : ∀ μ ρ S d v H', RE t W.cu μ H' ρ σ → RS t μ S H' → RD t μ H' d v → Aft t μ H' (g ρ d S) (fun fl _ μ' H' => endS t W D1 fl μ' H') (fun _ _ _ _ => False) → Q v H') : tE t W (ev cx ea) σ H Q := by
  obtain ⟨μ, ρ, S, re, rs, q⟩ := q
  refine ⟨μ, ρ, S, re, rs, (Aft.stm (r := ev cx ea ρ S) q).imp (fun d S2 μ1 H1 e1 s1 k1 v rv => ?_) fun x S2 μ1 H1 e1 s1 z cls dd rx => z σ cls dd (re.ext e1) rx⟩
  exact h μ1 ρ S2 d v H1 (re.ext e1) s1 rv (Aft.imp k1 (fun _ _ _ _ e2 _ z => z (e1.trans e2)) fun _ _ _ _ e2 _ z => z (e1.trans e2))
theorem s_exp (ha : VE t cx W X a ea) (hs : swapsWith a none pos.line X.env = pure false) : VS t cx W X (.Expr a pos) (.exp ea) := by
  refine PS.weak (ps_expr ha hs) fun D σ H q => ?_
  refine stm_ok (f := fun _ S => .bad) (ρ0 := id) (g := fun ρ _ S => .ok (.nx ρ) S) q fun μ ρ S d v H' re rs rd k => ?_
  exact Aft.now (a := Fl.nx ρ) rs k σ re
theorem s_ret (ha : VE t cx W X a ea) : VS t cx W X (.Return (some a) pos) (.ret ea) := by
  refine PS.weak (ps_ret ha) fun D σ H q => ?_
  refine stm_ok (f := fun _ S => .bad) (ρ0 := id) (g := fun ρ d S => .ok (.rt d) S) q fun μ ρ S d v H' re rs rd k => ?_
  exact Aft.now (a := Fl.rt d) rs k v rd
theorem s_retN : VS t cx W X (.Return none pos) .retN := by
  refine PS.weak ps_retN fun D σ H q => ?_
  obtain ⟨μ, ρ, S, re, rs, q⟩ := q
  exact Aft.now (a := Fl.rt .non) rs q _ rfl
theorem s_asg (ha : VE t cx W X a ea) (hg : VG t W X tg T1) (hs : swapsWithSole [tg] a pos.line X.env = pure false) (hw : swappedStores [tg] a X.env = pure none) (h1 : (assignEach [tg] X.env).map (·.2) = [assign tg X.env]) :
    VS t cx W X (.Assign [tg] a pos) (.asg T1 ea) := by
  refine PS.weak (ps_asg ha hg hs hw h1) fun D σ H q => ?_
  refine stm_ok (f := fun _ S => .bad) (ρ0 := id) (g := fun ρ d S => match tgt T1 d ρ with | some ρ' => .ok (.nx ρ') S | none => .bad) q fun μ ρ S d v H' re rs rd k => ?_
  cases e : tgt T1 d ρ with
  | none => rw [e] at k; exact k.elim
  | some ρ' =>
    rw [e] at k
    exact ⟨μ, ρ, S, d, ρ', re, rs, rd, e, fun σ' re' _ => Aft.now (a := Fl.nx ρ') rs k σ' re'⟩
/-- name = value -/
theorem s_set (h : Fe t cx N sc mg W X) {i : Nat} {x : Str} (hN : N[i]? = some x) (hx : Loc sc x) (hf : X.fn x = true ∨ sc.names.lookup x = some .local) (ha : VE t cx W X a ea) (hs : swapsWith a (some (.Name x p)) pos.line X.env = pure false) :
    VS t cx W X (.Assign [.Name x p] a pos) (.asg (.var i) ea) := by
  refine PS.weak (ps_set (by rw [h.nn]; exact h.nd) (by rw [h.nn]; exact hN) (by rw [h.ss]; exact hx) ha hs (by rw [h.ss]; exact hf)) fun D σ H q => ?_
  refine stm_ok (f := fun _ S => .bad) (ρ0 := id) (g := fun ρ d S => match tgt (.var i) d ρ with | some ρ' => .ok (.nx ρ') S | none => .bad) q fun μ ρ S d v H' re rs rd k => ?_
  unfold tgt at k
  exact Aft.now (a := Fl.nx (ρ.set i (some d))) rs k _ (re.set i rd)
theorem s_ite (hc : VT t cx W X c te) (ha : VSs t cx W X sa SA) (hb : VSs t cx W X sb SB) : VS t cx W X (.If c sa sb pos) (.ite te SA SB) := by
  refine PS.weak (ps_if hc ha hb) fun D σ H q => ?_
  obtain ⟨μ, ρ, S, re, rs, q⟩ := q
  refine ⟨μ, ρ, S, re, rs, (Aft.stm (r := evt cx te ρ S) q).imp (fun d S2 μ1 H1 e1 s1 k1 => ?_) fun x S2 μ1 H1 e1 s1 z cls dd rx => z σ cls dd (re.ext e1) rx⟩
  cases d with
  | true => exact ⟨μ1, ρ, S2, re.ext e1, s1, Aft.imp k1 (fun _ _ _ _ e2 _ z => z (e1.trans e2)) fun _ _ _ _ e2 _ z => z (e1.trans e2)⟩
  | false => exact ⟨μ1, ρ, S2, re.ext e1, s1, Aft.imp k1 (fun _ _ _ _ e2 _ z => z (e1.trans e2)) fun _ _ _ _ e2 _ z => z (e1.trans e2)⟩
theorem s_whl (hp : PassesOwn (PySem.model X.prog X.w) X.A X.env X.xe) (hc : VT t cx W X c te) (hb : VSs t cx W X sb SB) : VS t cx W X (.While c sb [] pos) (.whl te SB) := by
  refine PS.weak (ps_while hp hc hb) fun D σ H q => ?_
  obtain ⟨μ, ρ, S, re, rs, q⟩ := q
  refine ⟨fun m σ H => ∃ μ ρ S, RE t W.cu μ H ρ σ ∧ RS t μ S H ∧ Aft t μ H (whl (fun ρ S => evt cx te ρ S) (fun ρ S => sts SB cx ρ S) m ρ S) (fun fl _ μ' H' => endS t W D fl μ' H') (fun _ _ _ _ => False), ⟨cx.w, μ, ρ, S, re, rs, q⟩, ?_⟩
  rintro m σ H ⟨μ, ρ, S, re, rs, q⟩
  cases m with
  | zero => exact q.elim
  | succ m =>
    refine ⟨μ, ρ, S, re, rs, (Aft.stm (r := evt cx te ρ S) q).imp (fun d S2 μ1 H1 e1 s1 k1 => ?_) fun x S2 μ1 H1 e1 s1 z cls dd rx => z σ cls dd (re.ext e1) rx⟩
    replace k1 := Aft.imp (k' := fun fl _ μ' H' => endS t W D fl μ' H') (kx' := fun _ _ _ _ => False) k1 (fun _ _ _ _ e2 _ z => z (e1.trans e2)) fun _ _ _ _ e2 _ z => z (e1.trans e2)
    cases d with
    | false =>
      dsimp only
      rw [if_neg Bool.false_ne_true]
      exact Aft.now (a := Fl.nx ρ) s1 k1 σ (re.ext e1)
    | true =>
      dsimp only
      rw [if_pos rfl]
      refine ⟨fun σ' H' => ∃ μ ρ S, RE t W.cu μ H' ρ σ' ∧ RS t μ S H' ∧ Aft t μ H' (whl (fun ρ S => evt cx te ρ S) (fun ρ S => sts SB cx ρ S) m ρ S) (fun fl _ μ' H' => endS t W D fl μ' H') (fun _ _ _ _ => False),
        fun σ' H' z => ⟨m, Nat.lt_succ_self m, z⟩, μ1, ρ, S2, re.ext e1, s1, Aft.imp (r := sts SB cx ρ S2) (Aft.bind k1) (fun fl S3 μ2 H2 e2 s2 k2 => ?_) fun _ _ _ _ _ _ z => z⟩
      cases fl with
      | nx ρ' => exact fun σ' re' => ⟨μ2, ρ', S3, re', s2, Aft.imp k2 (fun _ _ _ _ e3 _ z => z (e2.trans e3)) fun _ _ _ _ e3 _ z => z (e2.trans e3)⟩
      | ct ρ' => exact fun σ' re' => ⟨μ2, ρ', S3, re', s2, Aft.imp k2 (fun _ _ _ _ e3 _ z => z (e2.trans e3)) fun _ _ _ _ e3 _ z => z (e2.trans e3)⟩
      | bk ρ' => exact Aft.now (a := Fl.nx ρ') s2 k2 e2
      | rt d => exact Aft.now (a := Fl.rt d) s2 k2 e2
      | xc x ρ' => exact Aft.now (a := Fl.xc x ρ') s2 k2 e2
end
end Dn
/-! Dn: for, stores, parallel assignments, methods of lists. -/
namespace Dn
open PySem L2 -- names

section
variable {t : Tb} {cx : Dn.Cx} {N : List Str} {sc : Scope} {mg : Str → Option Value} {W : Wi} {fi : Nat → Option Fi} {k : Nat} {X : L2.Cx} {a b c o tg : Expr} {ea eb ec eo ei : E} {te : Te} {T1 : T} {Ts : List T} {es : List Expr} {Es : List E} {pos p px apos : Pos} {s : Stmt} {ss sa sb : List Stmt} {S1 : Dn.St} {SS SA SB : List Dn.St}
theorem RDhs.length {μ : List Addr} {H : Hp} {ds : List D} {hs : List Sh} (r : RDhs t μ H ds hs) : ds.length = hs.length := Paired.length r
theorem RDhs.get {μ : List Addr} {H : Hp} : ∀ {ds : List D} {hs : List Sh} {i : Nat} {d : D}, RDhs t μ H ds hs → ds[i]? = some d → ∃ h, hs[i]? = some h ∧ RDh t μ H d h
  | _, _, _, _, .nil, e => by simp at e
  | _, _, 0, _, .cons r _, e => by simp at e; subst e; exact ⟨_, rfl, r⟩
  | _, _, i + 1, d, .cons _ q, e => by
    obtain ⟨u, h1, h2⟩ := RDhs.get (i := i) q (by simpa using e)
    exact ⟨u, by simpa using h1, h2⟩
theorem RDh.ext {μ μ' : List Addr} {H H' : Hp} (e : Ext μ H μ' H') {d : D} {h : Sh} (r : RDh t μ H d h) : RDh t μ' H' d h := by
  cases h with
  | v x => exact RD.ext e d r
  | t us => obtain ⟨ds, rfl, r, hl⟩ := r; exact ⟨ds, rfl, RDs.ext e ds r, hl⟩
theorem RDhs.ext {μ μ' : List Addr} {H H' : Hp} (e : Ext μ H μ' H') {ds : List D} {hs : List Sh} (r : RDhs t μ H ds hs) : RDhs t μ' H' ds hs := Paired.mapP r fun _ _ z => z.ext e
/-- what a turn yields -/
theorem yld_ok {μ0 : List Addr} {H0 : Hp} {ds : List D} {hs : List Sh} {J : It} (jv : JV μ0 H0 hs J) (r : RDhs t μ0 H0 ds hs) {μ : List Addr} {S : Sto} {H H2 : Hp} (e : Ext μ0 H0 μ H) (rs : RS t μ S H) {i : Nat} {d : D} (hd : ds[i]? = some d) {x : V} (y : J.yld i H x H2) :
    Ext μ H μ H2 ∧ RS t μ S H2 ∧ RD t μ H2 d x := by
  obtain ⟨h, h1, h2⟩ := r.get hd
  have q := jv.yld μ H e i x H2 h y h1
  have h3 := h2.ext e
  cases h with
  | v y =>
    obtain ⟨rfl, rfl⟩ := q
    exact ⟨Ext.refl, rs, h3⟩
  | t us =>
    obtain ⟨p, rfl, hp, rfl⟩ := q
    obtain ⟨es, rfl, r3, hsh⟩ := h3
    exact ⟨Ext.fresh hp, rs.fresh hp, RD.newTup rs hp r3 hsh⟩
theorem itl_at {en : Bool} {μ : List Addr} {S : Sto} {H : Hp} (rs : RS t μ S H) {l : Nat} {ad : Addr} (ha : μ[l]? = some ad) {xs : List D} (hx : S[l]? = some (.lst xs)) {i : Nat} :
    (i < xs.length → (if en then Ite t.K ad else Itl t.K ad : It).go i H) ∧ (xs.length ≤ i → (if en then Ite t.K ad else Itl t.K ad : It).stop i H) ∧
    ∀ x H2 d, (if en then Ite t.K ad else Itl t.K ad : It).yld i H x H2 → xs[i]? = some d → Ext μ H μ H2 ∧ RS t μ S H2 ∧ RD t μ H2 (itm en i d) x := by
  obtain ⟨vs, h1, h2⟩ := rs.get l _ ad hx ha
  have hl := h2.length
  have hq : SqL t.K H ad vs := SqL.of h1
  cases en with
  | false =>
    refine ⟨fun hi => ⟨vs, vs[i]'(by omega), hq, List.getElem?_eq_getElem _⟩, fun hi => ⟨vs, hq, by omega⟩, fun x H2 d y e => ?_⟩
    obtain ⟨rfl, y2⟩ := y
    obtain ⟨v, e1, r1⟩ := h2.get e
    have := y2 vs hq
    rw [e1] at this
    cases this
    exact ⟨Ext.refl, rs, r1⟩
  | true =>
    refine ⟨fun hi => ⟨vs, vs[i]'(by omega), hq, List.getElem?_eq_getElem _⟩, fun hi => ⟨vs, hq, by omega⟩, fun x H2 d y e => ?_⟩
    obtain ⟨T, x', rfl, hT, rfl, y2⟩ := y
    obtain ⟨v, e1, r1⟩ := h2.get e
    have := y2 vs hq
    rw [e1] at this
    cases this
    exact ⟨Ext.fresh hT, rs.fresh hT, RD.newTup rs hT ⟨_, _, rfl, rfl, _, _, rfl, r1, rfl⟩ (by show 2 ≤ sizeLine; decide)⟩
def bodyF (cx : Dn.Cx) (T1 : T) (SB : List Dn.St) : D → Env → Sto → R Fl := fun x ρ S => match tgt T1 x ρ with
    | none => .bad
    | some ρ => sts SB cx ρ S
/-- a turn: the item is stored, then the body -/
theorem turn_ok {D1 : Ends} {σ : L2.St} {μ μ2 : List Addr} {H H2 : Hp} {S : Sto} {ρ : Env} {d : D} {x : V} {Nx : L2.St → Hp → Prop} (re : RE t W.cu μ H ρ σ) (e : Ext μ H μ2 H2) (rs : RS t μ2 S H2) (rd : RD t μ2 H2 d x)
    (q : Aft t μ H (bodyF cx T1 SB d ρ S) (fun fl S3 μ3 H3 => match fl with
      | .nx ρ' => ∀ σ', RE t W.cu μ3 H3 ρ' σ' → RS t μ3 S3 H3 → Nx σ' H3
      | .ct ρ' => ∀ σ', RE t W.cu μ3 H3 ρ' σ' → RS t μ3 S3 H3 → Nx σ' H3
      | .bk ρ' => ∀ σ', RE t W.cu μ3 H3 ρ' σ' → D1.nx σ' H3
      | .rt d => ∀ v, RD t μ3 H3 d v → D1.rt v H3
      | .xc x ρ' => ∀ σ' cls dd, RE t W.cu μ3 H3 ρ' σ' → RX t μ3 H3 x cls dd → W.w cls dd σ' H3) (fun _ _ _ _ => False)) :
    tG t W T1 x σ H2 fun σ2 H2 => tS t W (sts SB cx) { D1 with nx := Nx, ct := Nx, bk := D1.nx } σ2 H2 := by
  unfold bodyF at q
  cases z : tgt T1 d ρ with
  | none => rw [z] at q; exact q.elim
  | some ρ' =>
    rw [z] at q
    refine ⟨μ2, ρ, S, d, ρ', re.ext e, rs, rd, z, fun σ' re' _ => ⟨μ2, ρ', S, re', rs, (Aft.ext e q).imp (fun fl S3 μ3 H3 e3 s3 k => ?_) fun _ _ _ _ _ _ z => z⟩⟩
    cases fl with
    | nx ρ' => exact fun σ' re' => k σ' re' s3
    | ct ρ' => exact fun σ' re' => k σ' re' s3
    | bk ρ' => exact k
    | rt d => exact k
    | xc x ρ' => exact k
theorem s_for (h : Fe t cx N sc mg W X) (hp : PassesOwn (PySem.model X.prog X.w) X.A X.env X.xe) (hc : X.calm = true) (hi : VI t cx W X tg a ea) (hg : VG t W X tg T1) (hb : VSs t cx W X sb SB) (hs : ∀ x, foldedSetIterable a X.env x = pure x) :
    VS t cx W X (.For tg a sb [] pos) (.for T1 ea SB) := by
  refine PS.weak (ps_for hp hc hi hg hb hs) fun D1 σ H q => ?_
  obtain ⟨μ, ρ, S, re, rs, q⟩ := q
  replace q : Aft t μ H ((src cx ea ρ S).stm ρ fun s S => forS (bodyF cx T1 SB) s ρ S) (fun fl _ μ' H' => endS t W D1 fl μ' H') (fun _ _ _ _ => False) := q
  refine ⟨μ, ρ, S, re, rs, (Aft.stm (r := src cx ea ρ S) q).imp (fun sr S1 μ1 H1 e1 s1 k1 hcell J sj => ?_) fun x S2 μ1 H1 e1 s1 z cls dd rx => z σ cls dd (re.ext e1) rx⟩
  replace k1 := Aft.imp (k' := fun fl _ μ' H' => endS t W D1 fl μ' H') (kx' := fun _ _ _ _ => False) k1 (fun _ _ _ _ e2 _ z => z (e1.trans e2)) fun _ _ _ _ e2 _ z => z (e1.trans e2)
  cases sr with
  | vals xs =>
    obtain ⟨hs, r, jv, _⟩ := sj
    have hlen := r.length
    replace k1 : Aft t μ1 H1 (forV (bodyF cx T1 SB) xs ρ S1) (fun fl _ μ' H' => endS t W D1 fl μ' H') (fun _ _ _ _ => False) := k1
    refine ⟨fun i m σ' H' => ∃ μ' ρ' S', Ext μ1 H1 μ' H' ∧ RE t W.cu μ' H' ρ' σ' ∧ RS t μ' S' H' ∧ i + m = xs.length ∧ Aft t μ' H' (forV (bodyF cx T1 SB) (xs.drop i) ρ' S') (fun fl _ μ' H' => endS t W D1 fl μ' H') (fun _ _ _ _ => False),
      ⟨xs.length, μ1, ρ, S1, Ext.refl, re.ext e1, s1, by omega, by rw [List.drop_zero]; exact k1⟩, ?_⟩
    rintro i m σ' H' ⟨μ', ρ', S', e', re', rs', hm, q'⟩
    cases m with
    | zero =>
      have : xs.drop i = [] := List.drop_eq_nil_of_le (by omega)
      rw [this] at q'
      exact .inl ⟨jv.stop μ' H' e' i (by omega), Aft.now (a := Fl.nx ρ') rs' q' σ' re'⟩
    | succ m =>
      have hi : i < xs.length := by omega
      rw [List.drop_eq_getElem_cons hi] at q'
      refine .inr ⟨jv.go μ' H' e' i (by omega), fun σ2 H2 => ∃ μ' ρ' S', Ext μ1 H1 μ' H2 ∧ RE t W.cu μ' H2 ρ' σ2 ∧ RS t μ' S' H2 ∧ (i + 1) + m = xs.length ∧ Aft t μ' H2 (forV (bodyF cx T1 SB) (xs.drop (i + 1)) ρ' S') (fun fl _ μ' H' => endS t W D1 fl μ' H') (fun _ _ _ _ => False),
        fun σ2 H2 z => ⟨m, Nat.lt_succ_self m, z⟩, fun x H2 y => ?_⟩
      obtain ⟨e2, s2, rd⟩ := yld_ok jv r e' rs' (List.getElem?_eq_getElem hi) y
      refine turn_ok re' e2 s2 rd ((Aft.bind (r := bodyF cx T1 SB xs[i] ρ' S') q').imp (fun fl S3 μ3 H3 e3 s3 k3 => ?_) fun _ _ _ _ _ _ z => z)
      cases fl with
      | nx ρ2 => exact fun σ2 re2 _ => ⟨μ3, ρ2, S3, e'.trans e3, re2, s3, by omega, Aft.imp k3 (fun _ _ _ _ e4 _ z => z (e3.trans e4)) fun _ _ _ _ e4 _ z => z (e3.trans e4)⟩
      | ct ρ2 => exact fun σ2 re2 _ => ⟨μ3, ρ2, S3, e'.trans e3, re2, s3, by omega, Aft.imp k3 (fun _ _ _ _ e4 _ z => z (e3.trans e4)) fun _ _ _ _ e4 _ z => z (e3.trans e4)⟩
      | bk ρ2 => exact Aft.now (a := Fl.nx ρ2) s3 k3 e3
      | rt d => exact Aft.now (a := Fl.rt d) s3 k3 e3
      | xc x ρ2 => exact Aft.now (a := Fl.xc x ρ2) s3 k3 e3
  | cell en l n =>
    obtain ⟨ad, ha, rfl⟩ := sj
    replace k1 : Aft t μ1 H1 (forC (bodyF cx T1 SB) en l n n ρ S1) (fun fl _ μ' H' => endS t W D1 fl μ' H') (fun _ _ _ _ => False) := k1
    refine ⟨fun i m σ' H' => ∃ μ' ρ' S', Ext μ1 H1 μ' H' ∧ RE t W.cu μ' H' ρ' σ' ∧ RS t μ' S' H' ∧ i + m = n ∧ Aft t μ' H' (forC (bodyF cx T1 SB) en l n m ρ' S') (fun fl _ μ' H' => endS t W D1 fl μ' H') (fun _ _ _ _ => False),
      ⟨n, μ1, ρ, S1, Ext.refl, re.ext e1, s1, by omega, k1⟩, ?_⟩
    rintro i m σ' H' ⟨μ', ρ', S', e', re', rs', hm, q'⟩
    have ha' := e'.at ha
    cases m with
    | zero =>
      unfold forC at q'
      split at q'
      · rename_i xs hx
        split at q'
        · rename_i hn
          exact .inl ⟨(itl_at rs' ha' hx).2.1 (by omega), Aft.now (a := Fl.nx ρ') rs' q' σ' re'⟩
        · exact q'.elim
      · exact q'.elim
    | succ m =>
      unfold forC at q'
      split at q'
      · rename_i xs hx
        split at q'
        · rename_i d hd
          have hi : n - (m + 1) = i := by omega
          rw [hi] at hd q'
          have hl : i < xs.length := (List.getElem?_eq_some_iff.mp hd).1
          refine .inr ⟨(itl_at rs' ha' hx).1 hl, fun σ2 H2 => ∃ μ' ρ' S', Ext μ1 H1 μ' H2 ∧ RE t W.cu μ' H2 ρ' σ2 ∧ RS t μ' S' H2 ∧ (i + 1) + m = n ∧ Aft t μ' H2 (forC (bodyF cx T1 SB) en l n m ρ' S') (fun fl _ μ' H' => endS t W D1 fl μ' H') (fun _ _ _ _ => False),
            fun σ2 H2 z => ⟨m, Nat.lt_succ_self m, z⟩, fun x H2 y => ?_⟩
          obtain ⟨e2, s2, rd⟩ := (itl_at rs' ha' hx).2.2 x H2 d y hd
          refine turn_ok re' e2 s2 rd ((Aft.bind (r := bodyF cx T1 SB (itm en i d) ρ' S') q').imp (fun fl S3 μ3 H3 e3 s3 k3 => ?_) fun _ _ _ _ _ _ z => z)
          cases fl with
          | nx ρ2 => exact fun σ2 re2 _ => ⟨μ3, ρ2, S3, e'.trans e3, re2, s3, by omega, Aft.imp k3 (fun _ _ _ _ e4 _ z => z (e3.trans e4)) fun _ _ _ _ e4 _ z => z (e3.trans e4)⟩
          | ct ρ2 => exact fun σ2 re2 _ => ⟨μ3, ρ2, S3, e'.trans e3, re2, s3, by omega, Aft.imp k3 (fun _ _ _ _ e4 _ z => z (e3.trans e4)) fun _ _ _ _ e4 _ z => z (e3.trans e4)⟩
          | bk ρ2 => exact Aft.now (a := Fl.nx ρ2) s3 k3 e3
          | rt d => exact Aft.now (a := Fl.rt d) s3 k3 e3
          | xc x ρ2 => exact Aft.now (a := Fl.xc x ρ2) s3 k3 e3
        · exact q'.elim
      · exact q'.elim
end
end Dn
/-! Dn: stores, parallel assignments, methods of lists, comprehensions. -/
namespace Dn
open PySem L2 -- names

section
variable {t : Tb} {cx : Dn.Cx} {N : List Str} {sc : Scope} {mg : Str → Option Value} {W : Wi} {fi : Nat → Option Fi} {k : Nat} {X : L2.Cx} {a b c o tg i e : Expr} {ea eb ec eo ei ee : E} {te : Te} {T1 : T} {Ts : List T} {es : List Expr} {Es : List E} {pos p px py pz pt apos : Pos} {s : Stmt} {ss sa sb : List Stmt} {S1 : Dn.St} {SS SA SB : List Dn.St}
/-! ### o[i] = v -/
theorem PSet.by {r' : TSet} (h : ∀ o i v H Q, r' o i v H Q → ∃ r, PSet X r ∧ r o i v H Q) : PSet X r' :=
  fun pins s σ H o i v ov iv u Q I ro ri rv q => let ⟨r, h1, h2⟩ := h o i v H Q q; h1 pins s σ H o i v ov iv u Q I ro ri rv h2
def rSt (t : Tb) : TSet := fun vo vi v H Q => ∃ μ S x y d S', RS t μ S H ∧ RD t μ H x vo ∧ RD t μ H y vi ∧ RD t μ H d v ∧ setI S x y d = some S' ∧ ∀ H', Ext μ H μ H' → RS t μ S' H' → Q H'
theorem set_of : PSet X (rSt t) := PSet.by fun vo vi v H Q ⟨μ, S, x, y, d, S', rs, rx, ry, rd, e, q⟩ => by
  unfold setI at e
  split at e
  · rename_i l
    obtain ⟨ad, hl, rfl⟩ := rx
    split at e
    · rename_i xs hx
      split at e
      · rename_i i
        obtain ⟨j, e1, e2⟩ := map_of e
        subst e2
        cases ry
        obtain ⟨vs, h1, h2⟩ := rs.get l _ ad hx hl
        have e1' : L2.ixN vs.length i = some j := by rw [← h2.length]; exact e1
        refine ⟨_, set_list, ad, vs, i, j, rfl, rfl, h1, e1', q _ (Ext.chg hl) (rs.chg hl ⟨_, upd_same, ?_⟩ ?_)⟩
        · exact RDs.ext (Ext.chg hl) _ (h2.set j rd)
        · show (xs.set j d).length ≤ sizeLine
          rw [List.length_set]
          exact rs.lens _ (List.mem_of_getElem? hx)
      · cases e
    · cases e
  · cases e
theorem s_setI (ho : VE t cx W X o eo) (hi : VE t cx W X i ei) (he : VE t cx W X e ee) (hs : swapsWithSole [.Subscript o i p] e pos.line X.env = pure false) (hw : swappedStores [.Subscript o i p] e X.env = pure none)
    (h1 : (assignEach [.Subscript o i p] X.env).map (·.2) = [assign (.Subscript o i p) X.env])
    (ha : ∀ v, assign (.Subscript o i p) X.env v = (do
      let ov ← holding [v] (eval o X.env)
      let iv ← holding [v, ov] (eval i X.env)
      standAt p
      holding [v, ov, iv] (setItem ov iv v)
      release [v, ov, iv] [])) : VS t cx W X (.Assign [.Subscript o i p] e pos) (.setI eo ei ee) := by
  refine PS.weak (ps_asg he (pg_sub ho hi (set_of (t := t)) ha) hs hw h1) fun D σ H q => ?_
  refine stm_ok (f := fun _ S => .bad) (ρ0 := id) (g := fun ρ v S => (ev cx eo ρ S).stm ρ fun x S => (ev cx ei ρ S).stm ρ fun y S => match setI S x y v with | some S' => .ok (.nx ρ) S' | none => .bad) q fun μ ρ S d v H' re rs rd k => ?_
  refine ⟨μ, ρ, S, re, rs, (Aft.stm (r := ev cx eo ρ S) k).imp (fun x S2 μ1 H1 e1 s1 k1 vo rv => ?_) fun x S2 μ1 H1 e1 s1 z cls dd rx => z σ cls dd (re.ext e1) rx⟩
  refine ⟨μ1, ρ, S2, re.ext e1, s1, (Aft.stm (r := ev cx ei ρ S2) k1).imp (fun y S3 μ2 H2 e2 s2 k2 vi ri => ?_) fun x S2 μ2 H2 e2 s2 z cls dd rx => z (e1.trans e2) σ cls dd ((re.ext e1).ext e2) rx⟩
  cases z : setI S3 x y d with
  | none => rw [z] at k2; exact k2.elim
  | some S4 =>
    rw [z] at k2
    exact ⟨μ2, S3, x, y, d, S4, s2, rv.ext e2, ri, (rd.ext e1).ext e2, z, fun H' e3 s3 => k2 μ2 H' e3 s3 (e2.trans e3) (e1.trans (e2.trans e3)) σ (((re.ext e1).ext e2).ext e3)⟩
/-! ### a, b = x, y of plain names -/
theorem tgts2 {i j : Nat} {ds : List D} {ρ ρ' : Env} (e : tgt (.tup [.var i, .var j]) (.tup ds) ρ = some ρ') : ∃ d1 d2, ds = [d1, d2] ∧ ρ' = (ρ.set i (some d1)).set j (some d2) := by
  unfold tgt at e
  cases ds with
  | nil => unfold tgts at e; cases e
  | cons d1 ds => cases ds with
    | nil => simp only [tgts, tgt, Option.bind_some] at e; cases e
    | cons d2 ds => cases ds with
      | nil => simp only [tgts, tgt, Option.bind_some] at e; cases e; exact ⟨d1, d2, rfl, rfl⟩
      | cons d3 ds => simp only [tgts, tgt, Option.bind_some] at e; cases e
theorem tgts3 {i j l : Nat} {ds : List D} {ρ ρ' : Env} (e : tgt (.tup [.var i, .var j, .var l]) (.tup ds) ρ = some ρ') : ∃ d1 d2 d3, ds = [d1, d2, d3] ∧ ρ' = ((ρ.set i (some d1)).set j (some d2)).set l (some d3) := by
  unfold tgt at e
  cases ds with
  | nil => unfold tgts at e; cases e
  | cons d1 ds => cases ds with
    | nil => simp only [tgts, tgt, Option.bind_some] at e; cases e
    | cons d2 ds => cases ds with
      | nil => simp only [tgts, tgt, Option.bind_some] at e; cases e
      | cons d3 ds => cases ds with
        | nil => simp only [tgts, tgt, Option.bind_some] at e; cases e; exact ⟨d1, d2, d3, rfl, rfl⟩
        | cons d4 ds => simp only [tgts, tgt, Option.bind_some] at e; cases e
/-- the values, then the stores -/
theorem par_ok {D1 : Ends} {σ : L2.St} {H : Hp} {Q : List V → Hp → Prop} (q : tS t W (st (.asg T1 (.tup Es)) cx) D1 σ H)
    (h : ∀ μ ρ ρ' ds vs H' S, RE t W.cu μ H' ρ σ → RS t μ S H' → RDs t μ H' ds vs → tgt T1 (.tup ds) ρ = some ρ' → (∀ σ', RE t W.cu μ H' ρ' σ' → D1.nx σ' H') → Q vs H') : tA t W (evs cx Es) σ H Q := by
  obtain ⟨μ, ρ, S, re, rs, q⟩ := q
  have q' : Aft t μ H (((evs cx Es ρ S).bind fun ds S => .ok (.tup ds) S).stm ρ fun d S => match tgt T1 d ρ with | some ρ' => .ok (.nx ρ') S | none => .bad) (fun fl _ μ' H' => endS t W D1 fl μ' H') (fun _ _ _ _ => False) := by
    simp only [st, ev] at q
    exact q
  refine ⟨μ, ρ, S, re, rs, ?_⟩
  cases z : evs cx Es ρ S with
  | bad => rw [z] at q'; exact q'
  | exc x S' =>
    rw [z] at q'
    exact fun μ' H' e s cls dd rx => q' μ' H' e s σ cls dd (re.ext e) rx
  | ok ds S' =>
    rw [z] at q'
    have q2 : Aft t μ H (match tgt T1 (.tup ds) ρ with | some ρ' => (.ok (.nx ρ') S' : R Fl) | none => .bad) (fun fl _ μ' H' => endS t W D1 fl μ' H') (fun _ _ _ _ => False) := q'
    cases z2 : tgt T1 (.tup ds) ρ with
    | none => rw [z2] at q2; exact q2.elim
    | some ρ' =>
      rw [z2] at q2
      exact fun μ' H' e s vs r => h μ' ρ ρ' ds vs H' S' (re.ext e) s r z2 (q2 μ' H' e s)
theorem s_par2 (h : Fe t cx N sc mg W X) {i j : Nat} {x y : Str} {kt k2 : Nat} {pt2 : Pos} (hc : X.calm = true) (hi : N[i]? = some x) (hj : N[j]? = some y) (hij : i ≠ j)
    (hx : sc.names.lookup x = some .local) (hy : sc.names.lookup y = some .local) (ha : VA t cx W X [a, b] Es)
    (hw : swappedStores [.Tuple [.Name x px, .Name y py] kt pt] (.Tuple [a, b] k2 pt2) X.env = pure (some [x, y]))
    (hs : swapsWithSole [.Tuple [.Name x px, .Name y py] kt pt] (.Tuple [a, b] k2 pt2) pos.line X.env = pure false) :
    VS t cx W X (.Assign [.Tuple [.Name x px, .Name y py] kt pt] (.Tuple [a, b] k2 pt2) pos) (.asg (.tup [.var i, .var j]) (.tup Es)) := by
  refine PS.weak (ps_par hc (by rw [h.nn]; exact h.nd) (by rw [h.nn]; exact hi) (by rw [h.nn]; exact hj) hij (by rw [h.ss]; exact hx) (by rw [h.ss]; exact hy) ha hw hs) fun D σ H q => ?_
  refine par_ok q fun μ ρ ρ' ds vs H' S re rs r e q => ?_
  obtain ⟨d1, d2, rfl, rfl⟩ := tgts2 e
  obtain ⟨v, u, rfl, r1, r2⟩ := r.two
  exact ⟨v, u, rfl, q _ ((re.set i r1).set j r2)⟩
theorem s_par3 (h : Fe t cx N sc mg W X) {i j l : Nat} {x y z : Str} {kt k2 : Nat} {pt2 : Pos} (hc : X.calm = true) (hi : N[i]? = some x) (hj : N[j]? = some y) (hl : N[l]? = some z) (hij : i ≠ j) (hil : i ≠ l) (hjl : j ≠ l)
    (hx : sc.names.lookup x = some .local) (hy : sc.names.lookup y = some .local) (hz : sc.names.lookup z = some .local) (ha : VA t cx W X [a, b, c] Es)
    (hw : swappedStores [.Tuple [.Name x px, .Name y py, .Name z pz] kt pt] (.Tuple [a, b, c] k2 pt2) X.env = pure (some [x, y, z]))
    (hs : swapsWithSole [.Tuple [.Name x px, .Name y py, .Name z pz] kt pt] (.Tuple [a, b, c] k2 pt2) pos.line X.env = pure false) :
    VS t cx W X (.Assign [.Tuple [.Name x px, .Name y py, .Name z pz] kt pt] (.Tuple [a, b, c] k2 pt2) pos) (.asg (.tup [.var i, .var j, .var l]) (.tup Es)) := by
  refine PS.weak (ps_par3 hc (by rw [h.nn]; exact h.nd) (by rw [h.nn]; exact hi) (by rw [h.nn]; exact hj) (by rw [h.nn]; exact hl) hij hil hjl (by rw [h.ss]; exact hx) (by rw [h.ss]; exact hy) (by rw [h.ss]; exact hz) ha hw hs) fun D σ H q => ?_
  refine par_ok q fun μ ρ ρ' ds vs H' S re rs r e q => ?_
  obtain ⟨d1, d2, d3, rfl, rfl⟩ := tgts3 e
  obtain ⟨v, vr, rfl, r1, r2⟩ := r
  obtain ⟨u, w, rfl, r3, r4⟩ := RDs.two r2
  exact ⟨v, u, w, rfl, q _ (((re.set i r1).set j r3).set l r4)⟩
end
end Dn
/-! Dn: comprehensions. -/
namespace Dn
open PySem L2 -- names

section
variable {t : Tb} {μ μ' : List Addr} {H H' : Hp} {S : Sto} {D1 : Addr}
theorem no_app {a : Addr} (h : a ∉ μ) (k : a ∉ D1 :: t.xi) : a ∉ μ ++ [D1] := fun m => (List.mem_append.mp m).elim h fun z => k (by rw [List.mem_singleton.mp z]; exact List.mem_cons_self)
theorem no_xi {a : Addr} (k : a ∉ D1 :: t.xi) : a ∉ t.xi := fun z => k (List.mem_cons_of_mem _ z)
theorem at_app {l : Nat} {a : Addr} (h : μ[l]? = some a) : (μ ++ [D1])[l]? = some a := by
  rw [List.getElem?_append_left (List.getElem?_eq_some_iff.mp h).1]; exact h
mutual
/-- a list that was being made becomes a cell -/
theorem RD.adopt : ∀ (d : D) {v : V}, RD (t.hide D1) μ H d v → RD t (μ ++ [D1]) H d v
  | .non, _, h => h
  | .bl _, _, h => h
  | .int _, _, h => h
  | .str _, _, h => h
  | .fn _, _, h => h
  | .tup ds, _, h => by
    obtain ⟨a, vs, rfl, f, r⟩ := h
    refine ⟨a, vs, rfl, ?_, RDs.adopt ds r⟩
    rcases f with ⟨f, z⟩ | f
    · exact .inl ⟨⟨no_app f.1 f.2.1, no_xi f.2.1, f.2.2⟩, z⟩
    · exact .inr f
  | .scr ds, _, h => by
    obtain ⟨a, vs, rfl, f, r⟩ := h
    refine ⟨a, vs, rfl, ?_, RDs.adopt ds r⟩
    rcases f with ⟨f, z⟩ | f
    · exact .inl ⟨⟨no_app f.1 f.2.1, no_xi f.2.1, f.2.2⟩, z⟩
    · exact .inr f
  | .lst ds, _, h => by
    obtain ⟨a, vs, rfl, f, r⟩ := h
    exact ⟨a, vs, rfl, ⟨⟨no_app f.1.1 f.1.2.1, no_xi f.1.2.1, f.1.2.2⟩, f.2⟩, RDs.adopt ds r⟩
  | .dic ks ds, _, h => by
    obtain ⟨a, kvs, rfl, f, z, q, r⟩ := h
    exact ⟨a, kvs, rfl, ⟨no_app f.1 f.2, no_xi f.2⟩, z, q, RDs.adopt ds r⟩
  | .ins c ids ds, _, h => by
    obtain ⟨a, dx, vs, rfl, f, z, q, r⟩ := h
    exact ⟨a, dx, vs, rfl, ⟨no_app f.1 f.2, no_xi f.2⟩, z, q, RDs.adopt ds r⟩
  | .ref l, _, h => by
    obtain ⟨a, h, rfl⟩ := h
    exact ⟨a, at_app h, rfl⟩
theorem RDs.adopt : ∀ (ds : List D) {vs : List V}, RDs (t.hide D1) μ H ds vs → RDs t (μ ++ [D1]) H ds vs
  | [], _, h => h
  | d :: ds, _, h => by
    obtain ⟨v, vr, rfl, h1, h2⟩ := h
    exact ⟨v, vr, rfl, RD.adopt d h1, RDs.adopt ds h2⟩
end
theorem RO.adopt {o : LO} {a : Addr} (h : RO (t.hide D1) μ H o a) : RO t (μ ++ [D1]) H o a := by
  cases o with
  | lst ds => obtain ⟨vs, h, r⟩ := h; exact ⟨vs, h, RDs.adopt ds r⟩
  | dic ks ds => obtain ⟨kvs, h, q, r⟩ := h; exact ⟨kvs, h, q, RDs.adopt ds r⟩
  | ins c ids ds => obtain ⟨dx, vs, h, q, r⟩ := h; exact ⟨dx, vs, h, q, RDs.adopt ds r⟩
theorem RS.adopt (s : RS (t.hide D1) μ S H) (hx : D1 ∉ t.xi) {ds : List D} {vs : List V} (h : H D1 = some (.lst vs)) (r : RDs (t.hide D1) μ H ds vs) (hl : ds.length ≤ sizeLine) : RS t (μ ++ [D1]) (S ++ [.lst ds]) H where
  len := by rw [List.length_append, List.length_append, s.len]; rfl
  nd := List.nodup_append.mpr ⟨s.nd, by simp, fun a ha b hb e => s.dis a ha (by rw [List.mem_singleton.mp hb] at e; rw [e]; exact List.mem_cons_self)⟩
  get := fun l q a e1 e2 => by
    by_cases hl : l < S.length
    · rw [List.getElem?_append_left hl] at e1
      rw [List.getElem?_append_left (by rw [s.len]; exact hl)] at e2
      exact (s.get l q a e1 e2).adopt
    · have hl' : l = S.length := by
        have := (List.getElem?_eq_some_iff.mp e1).1
        rw [List.length_append, List.length_singleton] at this; omega
      subst hl'
      rw [List.getElem?_append_right (Nat.le_refl _), Nat.sub_self] at e1
      rw [← s.len, List.getElem?_append_right (Nat.le_refl _), Nat.sub_self] at e2
      cases e1; cases e2
      exact ⟨vs, h, RDs.adopt ds r⟩
  hid := fun a ha => s.hid a (List.mem_cons_of_mem _ ha)
  dis := fun a ha z => (List.mem_append.mp ha).elim (fun m => s.dis a m (List.mem_cons_of_mem _ z)) fun m => hx (by rw [← List.mem_singleton.mp m]; exact z)
  lens := fun o ho => (List.mem_append.mp ho).elim (s.lens o) fun z => by rw [List.mem_singleton.mp z]; exact hl
/-- the hidden list is changed: nothing of it is seen -/
theorem Ext.hid {μ0 : List Addr} {H0 : Hp} (e : Ext μ0 H0 μ H) (h0 : H0 D1 = none) {o : HO} : Ext μ0 H0 μ (upd H D1 o) where
  pre := e.pre
  keep := fun a u h n => by rw [upd_ne (ne_of_none h h0)]; exact e.keep a u h n
  new := e.new
mutual
theorem RD.unseen {o : HO} : ∀ (d : D) {v : V}, RD (t.hide D1) μ H d v → RD (t.hide D1) μ (upd H D1 o) d v
  | .non, _, h => h
  | .bl _, _, h => h
  | .int _, _, h => h
  | .str _, _, h => h
  | .fn _, _, h => h
  | .tup ds, _, h => by
    obtain ⟨a, vs, rfl, f, r⟩ := h
    refine ⟨a, vs, rfl, ?_, RDs.unseen ds r⟩
    rcases f with ⟨f, z⟩ | f
    · have ne : a ≠ D1 := fun e => f.2.1 (by rw [e]; exact List.mem_cons_self)
      exact .inl ⟨f, by unfold Rd; rw [upd_ne ne]; exact z⟩
    · exact .inr f
  | .scr ds, _, h => by
    obtain ⟨a, vs, rfl, f, r⟩ := h
    refine ⟨a, vs, rfl, ?_, RDs.unseen ds r⟩
    rcases f with ⟨f, z⟩ | f
    · have ne : a ≠ D1 := fun e => f.2.1 (by rw [e]; exact List.mem_cons_self)
      exact .inl ⟨f, by unfold Rd; rw [upd_ne ne]; exact z⟩
    · exact .inr f
  | .lst ds, _, h => by
    obtain ⟨a, vs, rfl, f, r⟩ := h
    have ne : a ≠ D1 := fun e => f.1.2.1 (by rw [e]; exact List.mem_cons_self)
    exact ⟨a, vs, rfl, ⟨f.1, by rw [upd_ne ne]; exact f.2⟩, RDs.unseen ds r⟩
  | .dic ks ds, _, h => by
    obtain ⟨a, kvs, rfl, f, z, q, r⟩ := h
    have ne : a ≠ D1 := fun e => f.2 (by rw [e]; exact List.mem_cons_self)
    exact ⟨a, kvs, rfl, f, by unfold Rd; rw [upd_ne ne]; exact z, q, RDs.unseen ds r⟩
  | .ins c ids ds, _, h => by
    obtain ⟨a, dx, vs, rfl, f, z, q, r⟩ := h
    have ne : a ≠ D1 := fun e => f.2 (by rw [e]; exact List.mem_cons_self)
    exact ⟨a, dx, vs, rfl, f, by rw [upd_ne ne]; exact z, q, RDs.unseen ds r⟩
  | .ref l, _, h => h
theorem RDs.unseen {o : HO} : ∀ (ds : List D) {vs : List V}, RDs (t.hide D1) μ H ds vs → RDs (t.hide D1) μ (upd H D1 o) ds vs
  | [], _, h => h
  | d :: ds, _, h => by
    obtain ⟨v, vr, rfl, h1, h2⟩ := h
    exact ⟨v, vr, rfl, RD.unseen d h1, RDs.unseen ds h2⟩
end
theorem RS.unseen (s : RS (t.hide D1) μ S H) {o : HO} : RS (t.hide D1) μ S (upd H D1 o) where
  len := s.len
  nd := s.nd
  get := fun l u a e1 e2 => by
    have ne : a ≠ D1 := fun e => s.dis a (List.mem_of_getElem? e2) (by rw [e]; exact List.mem_cons_self)
    have h := s.get l u a e1 e2
    cases u with
    | lst ds => obtain ⟨vs, h, r⟩ := h; exact ⟨vs, by rw [upd_ne ne]; exact h, RDs.unseen ds r⟩
    | dic ks ds => obtain ⟨kvs, h, q, r⟩ := h; exact ⟨kvs, by rw [upd_ne ne]; exact h, q, RDs.unseen ds r⟩
    | ins c ids ds => obtain ⟨dx, vs, h, q, r⟩ := h; exact ⟨dx, vs, by rw [upd_ne ne]; exact h, q, RDs.unseen ds r⟩
  hid := hid_upd s.hid
  dis := s.dis
  lens := s.lens
theorem RE.wipe {ρ : Env} {σ : L2.St} (r : RE t none μ H ρ σ) : ∀ vs : List Nat, RE t none μ H (Dn.wipe ρ vs) (L2.wipe σ vs)
  | [] => r
  | v :: vs => by
    unfold Dn.wipe L2.wipe
    exact (RE.wipe r vs).unset v none
end

abbrev W0 : Wi := { w := fun _ _ _ _ => False }
theorem RE.hide {t : Tb} {μ : List Addr} {H : Hp} {ρ : Env} {σ : L2.St} {p : Addr} (r : RE t none μ H ρ σ) (hp : H p = none) : RE (t.hide p) none μ H ρ σ :=
  ⟨fun _ z => (nomatch z), r.len, fun i d h => let ⟨v, h1, h2⟩ := r.get i d h; ⟨v, h1, RD.hide hp d h2⟩⟩
theorem RE.unseen {t : Tb} {μ : List Addr} {H : Hp} {ρ : Env} {σ : L2.St} {D1 : Addr} (r : RE (t.hide D1) none μ H ρ σ) {o : HO} : RE (t.hide D1) none μ (upd H D1 o) ρ σ :=
  ⟨fun _ z => (nomatch z), r.len, fun i d h => let ⟨v, h1, h2⟩ := r.get i d h; ⟨v, h1, RD.unseen d h2⟩⟩
theorem wipe_get {σ : L2.St} : ∀ {vs : List Nat} {i : Nat}, i ∈ vs → i < σ.length → (L2.wipe σ vs)[i]? = some none
  | [], _, h, _ => by simp at h
  | v :: vs, i, h, hl => by
    unfold L2.wipe
    by_cases e : v = i
    · subst e
      rw [List.getElem?_set_self (by rw [wipe_length]; exact hl)]
    · rw [List.getElem?_set_ne e]
      exact wipe_get ((List.mem_cons.mp h).resolve_left fun z => e z.symm) hl
theorem wipe_out2 {σ : L2.St} {i : Nat} : ∀ {vs : List Nat}, i ∉ vs → (L2.wipe σ vs)[i]? = σ[i]?
  | [], _ => rfl
  | v :: vs, h => by
    unfold L2.wipe
    rw [List.getElem?_set_ne fun z => h (by rw [z]; exact List.mem_cons_self)]
    exact wipe_out2 fun z => h (List.mem_cons_of_mem _ z)
theorem wipe_twice (σ : L2.St) (vs : List Nat) : L2.wipe (L2.wipe σ vs) vs = L2.wipe σ vs := by
  refine List.ext_getElem? fun i => ?_
  by_cases h : i ∈ vs
  · by_cases hl : i < σ.length
    · rw [wipe_get h (by rw [wipe_length]; exact hl), wipe_get h hl]
    · rw [List.getElem?_eq_none (by rw [wipe_length, wipe_length]; omega), List.getElem?_eq_none (by rw [wipe_length]; omega)]
  · rw [wipe_out2 h]
/-- a turn's element, or none -/
def compF (cx : Dn.Cx) (own : List Nat) (T1 : T) (te : Option Te) (ee : E) (ρ : Env) : D → Sto → R (Option D) := fun x S => match tgt T1 x (Dn.wipe ρ own) with
  | none => .bad
  | some ρ' => (evc cx te ρ' S).bind fun c S => if c then (ev cx ee ρ' S).bind fun y S => .ok (some y) S else .ok none S
/-- what is wished of the rest, acc the elements so far -/
def PcL (K : List D → Sto → Prop) (acc : List D) (r : R (List D)) : Prop :=
  match r with
  | .ok ys S => K (acc ++ ys) S
  | _ => False
theorem pcl_bind {K : List D → Sto → Prop} {acc : List D} {r : R (Option D)} {g : Sto → R (List D)} (h : PcL K acc (r.bind fun o S => (g S).bind fun ys S => .ok (consO o ys) S)) :
    ∃ o S2, r = .ok o S2 ∧ PcL K (acc ++ o.toList) (g S2) := by
  cases r with
  | bad => exact h.elim
  | exc x S => exact h.elim
  | ok o S =>
    refine ⟨o, S, rfl, ?_⟩
    have h' : PcL K acc ((g S).bind fun ys S => .ok (consO o ys) S) := h
    cases z : g S with
    | bad => rw [z] at h'; exact h'
    | exc x S2 => rw [z] at h'; exact h'
    | ok ys S2 =>
      rw [z] at h'
      show K (acc ++ o.toList ++ ys) S2
      cases o with
      | none => rw [Option.toList_none, List.append_nil]; exact h'
      | some y => rw [Option.toList_some, List.append_assoc]; exact h'
section
variable {t : Tb} {cx : Dn.Cx} {N : List Str} {sc scope : Scope} {mg : Str → Option Value} {W : Wi} {fi : Nat → Option Fi} {k : Nat} {X : L2.Cx} {tg iter elt : Expr} {ifs : List Expr} {ei ee : E} {te : Option Te} {T1 : T} {pos p : Pos} {own : List (Str × Nat)}
def aT (t : Tb) (W : Wi) (f : Env → Sto → R Bool) : TT := fun σ H Q => ∃ xi, tT { t with xi := xi } W f σ H Q
def aE (t : Tb) (W : Wi) (f : Env → Sto → R D) : TE := fun σ H Q => ∃ xi, tE { t with xi := xi } W f σ H Q
def aG (t : Tb) (W : Wi) (T1 : T) : TG := fun v σ H Q => ∃ xi, tG { t with xi := xi } W T1 v σ H Q
theorem turn_c {σ : L2.St} {ρ : Env} {vs : List Nat} (hv : ∀ i ∈ varsT T1, i ∈ vs) {μ : List Addr} {H2 : Hp} {S S2 : Sto} {D1 : Addr} {d : D} {x : V} {acc : List V} {o : Option D} {Nx : Hp → Prop} (re : RE (t.hide D1) none μ H2 (Dn.wipe ρ vs) (L2.wipe σ vs)) (rs : RS (t.hide D1) μ S H2)
    (rd : RD (t.hide D1) μ H2 d x) (hf : compF cx vs T1 te ee ρ d S = .ok o S2) (hD : ∀ μ3 H3, Ext μ H2 μ3 H3 → H3 D1 = some (.lst acc)) (hl : acc.length < sizeLine)
    (n0 : o = none → ∀ μ3 H3, Ext μ H2 μ3 H3 → RS (t.hide D1) μ3 S2 H3 → Nx H3) (n1 : ∀ y, o = some y → ∀ μ3 H3 v, Ext μ H2 μ3 H3 → RS (t.hide D1) μ3 S2 H3 → RD (t.hide D1) μ3 H3 y v → Nx (upd H3 D1 (.lst (acc ++ [v])))) :
    aG t W0 T1 x (L2.wipe σ vs) H2 fun σ2 H2 => L2.wipe σ2 vs = L2.wipe σ vs ∧ aT t W0 (evc cx te) σ2 H2 fun b H3 => if b = true then aE t W0 (ev cx ee) σ2 H3 fun y H4 => ∃ acc, H4 D1 = some (.lst acc) ∧ acc.length < sizeLine ∧ Nx (upd H4 D1 (.lst (acc ++ [y]))) else Nx H3 := by
  unfold compF at hf
  cases z : tgt T1 d (Dn.wipe ρ vs) with
  | none => rw [z] at hf; cases hf
  | some ρ' =>
    rw [z] at hf
    refine ⟨D1 :: t.xi, μ, _, S, d, ρ', re, rs, rd, z, fun σ' re' bt => ⟨(bt vs hv).trans (wipe_twice σ vs), D1 :: t.xi, μ, ρ', S, re', rs, ?_⟩⟩
    dsimp only at hf
    cases z1 : evc cx te ρ' S with
    | bad => rw [z1] at hf; cases hf
    | exc y Sa => rw [z1] at hf; cases hf
    | ok c Sa =>
      rw [z1] at hf
      simp only [R.bind_ok] at hf
      intro μ3 H3 e3 s3
      cases c with
      | false =>
        simp only [Bool.false_eq_true, if_false] at hf ⊢
        cases hf
        exact n0 rfl μ3 H3 e3 s3
      | true =>
        simp only [if_true] at hf ⊢
        refine ⟨D1 :: t.xi, μ3, ρ', Sa, re'.ext e3, s3, ?_⟩
        cases z2 : ev cx ee ρ' Sa with
        | bad => rw [z2] at hf; cases hf
        | exc y Sb => rw [z2] at hf; cases hf
        | ok y Sb =>
          rw [z2] at hf
          cases hf
          exact fun μ4 H4 e4 s4 v rv => ⟨acc, hD μ4 H4 (e3.trans e4), hl, n1 y rfl μ4 H4 v (e3.trans e4) s4 rv⟩
/-- the list that was made -/
theorem made_ok {cell : Bool} {μ1 : List Addr} {H1 : Hp} {zs : List D} {S : Sto} {Q : VK} (h : Aft t μ1 H1 (mkL cell zs S) (fun d _ μ' H' => ∀ v, RD t μ' H' d v → Q v H') (fun _ _ _ _ => False)) {D1 : Addr} (h1 : H1 D1 = none) (hx : D1 ∉ t.xi) (hm : D1 ∉ μ1) {μ : List Addr} {H : Hp}
    (e : Ext μ1 H1 μ H) (rs : RS (t.hide D1) μ S H) {acc : List V} (hD : H D1 = some (.lst acc)) (r : RDs (t.hide D1) μ H zs acc) (hl : zs.length ≤ sizeLine) : Q (.ref D1) H := by
  cases cell with
  | false =>
    refine h μ H e rs.show _ ⟨D1, acc, rfl, ⟨⟨fun m => ?_, hx, by rw [← r.length]; exact hl⟩, hD⟩, RDs.show zs r⟩
    exact rs.dis _ m List.mem_cons_self
  | true =>
    have e2 : Ext μ1 H1 (μ ++ [D1]) H := ⟨e.pre.trans (List.prefix_append _ _), fun a o q n => e.keep a o q n, fun a m => (List.mem_append.mp m).elim (e.new a) fun z => .inr (by rw [List.mem_singleton.mp z]; exact h1)⟩
    refine h (μ ++ [D1]) H e2 (rs.adopt hx hD r hl) _ ⟨D1, ?_, rfl⟩
    rw [← rs.len, List.getElem?_append_right (Nat.le_refl _), Nat.sub_self]
    rfl
theorem lc_ok (hcu : W.cu = none) (hv : ∀ i ∈ varsT T1, i ∈ own.map (·.2)) {cell : Bool} (σ : L2.St) (H : Hp) (Q : VK) (q : tE t W (ev cx (.comp cell (own.map (·.2)) T1 ei te ee)) σ H Q) :
    tLc (tI t W (src cx ei)) (aG t W0 T1) (aT t W0 (evc cx te)) (aE t W0 (ev cx ee)) (own.map (·.2)) σ H Q := by
  obtain ⟨μ, ρ, S, re, rs, q⟩ := q
  generalize hvs : own.map (·.2) = vs at q hv ⊢
  replace q : Aft t μ H ((src cx ei ρ S).bind fun s S => (col (compF cx vs T1 te ee ρ) s S).nox.bind fun ys S => mkL cell ys S) (fun d _ μ' H' => ∀ v, RD t μ' H' d v → Q v H') (fun x _ μ' H' => ∀ cls dd, RX t μ' H' x cls dd → W.w cls dd σ H') := q
  refine ⟨μ, ρ, S, re, rs, q.bind.imp (fun sr S1 μ1 H1 e1 s1 k1 hcell J sj D1 hD1 => ?_) fun _ _ _ _ _ _ z => z⟩
  have re1 : RE t none μ1 H1 ρ σ := by rw [← hcu]; exact re.ext e1
  have nx : D1 ∉ t.xi := s1.nohid hD1
  have nm : D1 ∉ μ1 := s1.nofresh hD1
  -- what is wished of the elements
  have pc : PcL (fun zs S => Aft t μ1 H1 (mkL cell zs S) (fun d _ μ' H' => ∀ v, RD t μ' H' d v → Q v H') (fun _ _ _ _ => False)) [] (col (compF cx vs T1 te ee ρ) sr S1) := by
    cases z : col (compF cx vs T1 te ee ρ) sr S1 with
    | bad => rw [z] at k1; exact k1.elim
    | exc x S2 => rw [z] at k1; exact k1.elim
    | ok ys S2 =>
      rw [z] at k1
      have k2 : Aft t μ1 H1 (mkL cell ys S2) (fun b S2 μ2 H2 => Ext μ H μ2 H2 → ∀ v, RD t μ2 H2 b v → Q v H2) (fun x S2 μ2 H2 => Ext μ H μ2 H2 → ∀ cls dd, RX t μ2 H2 x cls dd → W.w cls dd σ H2) := k1
      show Aft t μ1 H1 (mkL cell ([] ++ ys) S2) _ _
      rw [List.nil_append]
      exact (k2.imp (fun d S3 μ3 H3 e3 s3 z => z (e1.trans e3)) fun _ _ _ _ _ _ z => z).nox fun x S' => mkL_nox
  -- the start
  have r0 : RE (t.hide D1) none μ1 (upd H1 D1 (.lst [])) (Dn.wipe ρ vs) (L2.wipe σ vs) := ((re1.hide hD1).ext (Ext.fresh hD1)).wipe vs
  have s0 : RS (t.hide D1) μ1 S1 (upd H1 D1 (.lst [])) := s1.hide hD1
  cases sr with
  | vals xs =>
    obtain ⟨hs, r, jv, hlx⟩ := sj
    have hlen := r.length
    replace pc : PcL _ [] (colV (compF cx vs T1 te ee ρ) xs S1) := pc
    have rh : RDhs (t.hide D1) μ1 H1 xs hs := Paired.mapP r fun d h z => by
      cases h with
      | v x => exact RD.hide hD1 d z
      | t us => obtain ⟨ds, rfl, z, hl⟩ := z; exact ⟨ds, rfl, RDs.hide hD1 ds z, hl⟩
    refine ⟨fun i m H' => ∃ μ' S' dacc acc, Ext μ1 H1 μ' H' ∧ RE (t.hide D1) none μ' H' (Dn.wipe ρ vs) (L2.wipe σ vs) ∧ RS (t.hide D1) μ' S' H' ∧ RDhs (t.hide D1) μ' H' xs hs ∧ H' D1 = some (.lst acc) ∧ RDs (t.hide D1) μ' H' dacc acc ∧ acc.length ≤ i ∧ i + m = xs.length ∧
        PcL (fun zs S => Aft t μ1 H1 (mkL cell zs S) (fun d _ μ' H' => ∀ v, RD t μ' H' d v → Q v H') (fun _ _ _ _ => False)) dacc (colV (compF cx vs T1 te ee ρ) (xs.drop i) S'),
      ⟨xs.length, μ1, S1, [], [], Ext.fresh hD1, r0, s0, rh.ext (Ext.fresh hD1), upd_same, rfl, Nat.le_refl _, by omega, by rw [List.drop_zero]; exact pc⟩, ?_⟩
    rintro i m H' ⟨μ', S', dacc, acc, e', re', rs', rh', hD, ra, hai, hm, pc'⟩
    cases m with
    | zero =>
      have hz : xs.drop i = [] := List.drop_eq_nil_of_le (by omega)
      rw [hz] at pc'
      have pc2 : Aft t μ1 H1 (mkL cell (dacc ++ []) S') (fun d _ μ' H' => ∀ v, RD t μ' H' d v → Q v H') (fun _ _ _ _ => False) := pc'
      rw [List.append_nil] at pc2
      exact .inl ⟨jv.stop μ' H' e' i (by omega), made_ok pc2 hD1 nx nm e' rs' hD ra (by rw [ra.length]; omega)⟩
    | succ m =>
      have hi : i < xs.length := by omega
      rw [List.drop_eq_getElem_cons hi] at pc'
      obtain ⟨o, S2, hf, pc2⟩ := pcl_bind (g := fun S => colV (compF cx vs T1 te ee ρ) (xs.drop (i + 1)) S) pc'
      refine .inr ⟨jv.go μ' H' e' i (by omega), fun H2 => ∃ μ' S' dacc acc, Ext μ1 H1 μ' H2 ∧ RE (t.hide D1) none μ' H2 (Dn.wipe ρ vs) (L2.wipe σ vs) ∧ RS (t.hide D1) μ' S' H2 ∧ RDhs (t.hide D1) μ' H2 xs hs ∧ H2 D1 = some (.lst acc) ∧ RDs (t.hide D1) μ' H2 dacc acc ∧ acc.length ≤ i + 1 ∧ (i + 1) + m = xs.length ∧
        PcL (fun zs S => Aft t μ1 H1 (mkL cell zs S) (fun d _ μ' H' => ∀ v, RD t μ' H' d v → Q v H') (fun _ _ _ _ => False)) dacc (colV (compF cx vs T1 te ee ρ) (xs.drop (i + 1)) S'),
        fun H2 z => ⟨m, Nat.lt_succ_self m, z⟩, fun x H2 y => ?_⟩
      -- the item
      have it : Ext μ' H' μ' H2 ∧ RS (t.hide D1) μ' S' H2 ∧ RD (t.hide D1) μ' H2 xs[i] x := by
        obtain ⟨h, h1, h2⟩ := rh'.get (List.getElem?_eq_getElem hi)
        have q := jv.yld μ' H' e' i x H2 h y h1
        cases h with
        | v y =>
          obtain ⟨rfl, rfl⟩ := q
          exact ⟨Ext.refl, rs', h2⟩
        | t us =>
          obtain ⟨p, rfl, hp, rfl⟩ := q
          obtain ⟨es, h4, r3, hsh⟩ := h2
          rw [h4]
          exact ⟨Ext.fresh hp, rs'.fresh hp, RD.newTup rs' hp r3 hsh⟩
      obtain ⟨e2, s2, rd⟩ := it
      have hD2 : ∀ μ3 H3, Ext μ' H2 μ3 H3 → H3 D1 = some (.lst acc) := fun μ3 H3 e3 => (e2.trans e3).keep D1 _ hD fun m => rs'.dis _ m List.mem_cons_self
      refine turn_c hv (re'.ext e2) s2 rd hf hD2 (by omega) (fun ho μ3 H3 e3 s3 => ?_) fun y1 ho μ3 H3 v e3 s3 rv => ?_
      · subst ho
        rw [Option.toList_none, List.append_nil] at pc2
        exact ⟨μ3, S2, dacc, acc, e'.trans (e2.trans e3), re'.ext (e2.trans e3), s3, rh'.ext (e2.trans e3), hD2 μ3 H3 e3, RDs.ext (e2.trans e3) _ ra, by omega, by omega, pc2⟩
      · subst ho
        rw [Option.toList_some] at pc2
        refine ⟨μ3, S2, dacc ++ [y1], acc ++ [v], (e'.trans (e2.trans e3)).hid hD1, (re'.ext (e2.trans e3)).unseen, s3.unseen, ?_, upd_same, ?_, by rw [List.length_append, List.length_singleton]; omega, by omega, pc2⟩
        · exact Paired.mapP (rh'.ext (e2.trans e3)) fun d h z => by
            cases h with
            | v x => exact RD.unseen d z
            | t us => obtain ⟨ds, rfl, z, hl⟩ := z; exact ⟨ds, rfl, RDs.unseen ds z, hl⟩
        · exact RDs.append (RDs.unseen _ (RDs.ext (e2.trans e3) _ ra)) ⟨v, [], rfl, RD.unseen y1 rv, rfl⟩
  | cell en l n =>
    obtain ⟨ad, ha, rfl⟩ := sj
    replace pc : PcL _ [] (colC (compF cx vs T1 te ee ρ) en l n n S1) := pc
    refine ⟨fun i m H' => ∃ μ' S' dacc acc, Ext μ1 H1 μ' H' ∧ RE (t.hide D1) none μ' H' (Dn.wipe ρ vs) (L2.wipe σ vs) ∧ RS (t.hide D1) μ' S' H' ∧ H' D1 = some (.lst acc) ∧ RDs (t.hide D1) μ' H' dacc acc ∧ acc.length ≤ i ∧ i + m = n ∧
        PcL (fun zs S => Aft t μ1 H1 (mkL cell zs S) (fun d _ μ' H' => ∀ v, RD t μ' H' d v → Q v H') (fun _ _ _ _ => False)) dacc (colC (compF cx vs T1 te ee ρ) en l n m S'),
      ⟨n, μ1, S1, [], [], Ext.fresh hD1, r0, s0, upd_same, rfl, Nat.le_refl _, by omega, pc⟩, ?_⟩
    rintro i m H' ⟨μ', S', dacc, acc, e', re', rs', hD, ra, hai, hm, pc'⟩
    have ha' := e'.at ha
    cases m with
    | zero =>
      unfold colC at pc'
      split at pc'
      · rename_i xs hx
        split at pc'
        · rename_i hn
          have pc2 : Aft t μ1 H1 (mkL cell (dacc ++ []) S') (fun d _ μ' H' => ∀ v, RD t μ' H' d v → Q v H') (fun _ _ _ _ => False) := pc'
          rw [List.append_nil] at pc2
          have hz : xs.length ≤ sizeLine := rs'.lens _ (List.mem_of_getElem? hx)
          exact .inl ⟨(itl_at rs' ha' hx).2.1 (by omega), made_ok pc2 hD1 nx nm e' rs' hD ra (by rw [ra.length]; omega)⟩
        · exact pc'.elim
      · exact pc'.elim
    | succ m =>
      unfold colC at pc'
      split at pc'
      · rename_i xs hx
        split at pc'
        · rename_i d hd
          have hi : n - (m + 1) = i := by omega
          rw [hi] at hd pc'
          have hl : i < xs.length := (List.getElem?_eq_some_iff.mp hd).1
          have hz : xs.length ≤ sizeLine := rs'.lens _ (List.mem_of_getElem? hx)
          obtain ⟨o, S2, hf, pc2⟩ := pcl_bind (g := fun S => colC (compF cx vs T1 te ee ρ) en l n m S) pc'
          refine .inr ⟨(itl_at rs' ha' hx).1 hl, fun H2 => ∃ μ' S' dacc acc, Ext μ1 H1 μ' H2 ∧ RE (t.hide D1) none μ' H2 (Dn.wipe ρ vs) (L2.wipe σ vs) ∧ RS (t.hide D1) μ' S' H2 ∧ H2 D1 = some (.lst acc) ∧ RDs (t.hide D1) μ' H2 dacc acc ∧ acc.length ≤ i + 1 ∧ (i + 1) + m = n ∧
            PcL (fun zs S => Aft t μ1 H1 (mkL cell zs S) (fun d _ μ' H' => ∀ v, RD t μ' H' d v → Q v H') (fun _ _ _ _ => False)) dacc (colC (compF cx vs T1 te ee ρ) en l n m S'),
            fun H2 z => ⟨m, Nat.lt_succ_self m, z⟩, fun x H2 y => ?_⟩
          obtain ⟨e2, s2, rd⟩ := (itl_at rs' ha' hx).2.2 x H2 d y hd
          have hD2 : ∀ μ3 H3, Ext μ' H2 μ3 H3 → H3 D1 = some (.lst acc) := fun μ3 H3 e3 => (e2.trans e3).keep D1 _ hD fun m => rs'.dis _ m List.mem_cons_self
          refine turn_c hv (re'.ext e2) s2 rd hf hD2 (by omega) (fun ho μ3 H3 e3 s3 => ?_) fun y1 ho μ3 H3 v e3 s3 rv => ?_
          · subst ho
            rw [Option.toList_none, List.append_nil] at pc2
            exact ⟨μ3, S2, dacc, acc, e'.trans (e2.trans e3), re'.ext (e2.trans e3), s3, hD2 μ3 H3 e3, RDs.ext (e2.trans e3) _ ra, by omega, by omega, pc2⟩
          · subst ho
            rw [Option.toList_some] at pc2
            refine ⟨μ3, S2, dacc ++ [y1], acc ++ [v], (e'.trans (e2.trans e3)).hid hD1, (re'.ext (e2.trans e3)).unseen, s3.unseen, upd_same, ?_, by rw [List.length_append, List.length_singleton]; omega, by omega, pc2⟩
            exact RDs.append (RDs.unseen _ (RDs.ext (e2.trans e3) _ ra)) ⟨v, [], rfl, RD.unseen y1 rv, rfl⟩
        · exact pc'.elim
      · exact pc'.elim
end
end Dn
/-! Dn: comprehensions as expressions and stored; methods of lists; list(range). -/
namespace Dn
open PySem L2 -- names

section
variable {t : Tb} {cx : Dn.Cx} {N : List Str} {sc scope : Scope} {mg : Str → Option Value} {W : Wi} {fi : Nat → Option Fi} {k : Nat} {X : L2.Cx} {tg iter elt a b o : Expr} {ifs es : List Expr} {ei ee ea eb eo : E} {Es : List E} {te : Option Te} {t1 : Te} {T1 : T} {pos p px spos py apos : Pos} {own : List (Str × Nat)}
/-- the context of a comprehension's block -/
theorem Fc.blk (h : Fc t cx N sc mg W fi k X) {s : Shared} {H : Hp} {C : Addr} {cl : List (Str × Addr)} {fp xi : List Addr} :
    Fc { t with xi := xi } cx N (relS scope sc) mg W0 fi k (X.blk s H scope (compEnvC scope cl C X.env) fp) where
  kk := h.kk
  nn := h.nn
  nd := h.nd
  ss := by rw [← h.ss]; rfl
  mm := h.mm
  un := h.un
  gd := h.gd
  cur := by rw [h.cur, h.nocu]
  nmi := h.nmi
  calm := h.calm
  nocu := rfl
  room := h.room
  pass := fun σ pins H s e s' I c => by
    obtain ⟨_, _, _, _, _, _, _, _, _, _, _, _, z⟩ := c
    exact z.elim
  fn := h.fn
  bd := h.bd
abbrev VTs (t : Tb) (cx : Dn.Cx) (W : Wi) (X : L2.Cx) (ifs : List Expr) (te : Option Te) : Prop := PTs X ifs (tT t W (evc cx te))
theorem PTs.weak {ifs : List Expr} {t t' : TT} (h : PTs X ifs t) (w : ∀ σ H Q, t' σ H Q → t σ H Q) : PTs X ifs t' := ⟨fun pins s σ H Q I q => h.run pins s σ H Q I (w σ H Q q)⟩
theorem ts_nil : VTs t cx W X [] none := by
  refine PTs.weak pts_nil fun σ H Q q => ?_
  obtain ⟨μ, ρ, S, re, rs, q⟩ := q
  exact Aft.now (a := true) rs q
theorem ts_one (h : VT t cx W X a t1) : VTs t cx W X [a] (some t1) := pts_one h
/-- what a comprehension's parts are to be, in its block -/
structure Blk (t : Tb) (cx : Dn.Cx) (X : L2.Cx) (scope : Scope) (tg : Expr) (ifs : List Expr) (elt : Expr) (T1 : T) (te : Option Te) (e1 : E) : Prop where
  gg : ∀ (s : Shared) (H : Hp) (C : Addr) (cl : List (Str × Addr)) (fp xi : List Addr), VG { t with xi := xi } W0 (X.blk s H scope (compEnvC scope cl C X.env) fp) tg T1
  tt : ∀ (s : Shared) (H : Hp) (C : Addr) (cl : List (Str × Addr)) (fp xi : List Addr), VTs { t with xi := xi } cx W0 (X.blk s H scope (compEnvC scope cl C X.env) fp) ifs te
  ee : ∀ (s : Shared) (H : Hp) (C : Addr) (cl : List (Str × Addr)) (fp xi : List Addr), VE { t with xi := xi } cx W0 (X.blk s H scope (compEnvC scope cl C X.env) fp) elt e1
theorem r_comp (h : Fc t cx N sc mg W fi k X) {cell : Bool} (ok : BlkOk N sc scope own) (hi : VI t cx W X tg iter ei) (B : Blk t cx X scope tg ifs elt T1 te ee) (hv : ∀ i ∈ varsT T1, i ∈ own.map (·.2)) (hs : ∀ x, foldedSetIterable iter X.env x = pure x) :
    VE t cx W X (.ListComp elt [⟨tg, iter, ifs, 0⟩] scope pos) (.comp cell (own.map (·.2)) T1 ei te ee) := by
  have nd : X.N.Nodup := by rw [h.nn]; exact h.nd
  refine PE.weak (pe_lc (te := aE t W0 (ev cx ee)) (tt := aT t W0 (evc cx te)) (g := aG t W0 T1) h.calm nd hi (by rw [h.nn, h.ss]; exact ok) (fun s H C cl fp => ?_) (fun s H C cl fp => ?_) (fun s H C cl fp => ?_) hs) (lc_ok h.nocu hv)
  · exact ⟨fun pins s1 σ H v u Q I r ⟨xi, q⟩ => (B.gg s _ C cl fp xi).run pins s1 σ H v u Q I r q⟩
  · exact ⟨fun pins s1 σ H Q I ⟨xi, q⟩ => (B.tt s _ C cl fp xi).run pins s1 σ H Q I q⟩
  · exact ⟨fun pins s1 σ H Q I ⟨xi, q⟩ => (B.ee s _ C cl fp xi).run pins s1 σ H Q I q⟩
/-- name = [..] -/
theorem s_setC (h : Fc t cx N sc mg W fi k X) {i : Nat} {y : Str} {cell : Bool} (hy : N[i]? = some y) (hyl : sc.names.lookup y = some .local) (hsw : swapsWith (.ListComp elt [⟨tg, iter, ifs, 0⟩] scope pos) (some (.Name y py)) spos.line X.env = pure true)
    (ok : BlkOk N sc scope own) (hi : VI t cx W X tg iter ei) (B : Blk t cx X scope tg ifs elt T1 te ee) (hv : ∀ i ∈ varsT T1, i ∈ own.map (·.2)) (hs : ∀ x, foldedSetIterable iter X.env x = pure x) :
    VS t cx W X (.Assign [.Name y py] (.ListComp elt [⟨tg, iter, ifs, 0⟩] scope pos) spos) (.asg (.var i) (.comp cell (own.map (·.2)) T1 ei te ee)) := by
  have nd : X.N.Nodup := by rw [h.nn]; exact h.nd
  refine PS.weak (ps_setLc (te := aE t W0 (ev cx ee)) (tt := aT t W0 (evc cx te)) (g := aG t W0 T1) h.calm nd (by rw [h.nn]; exact hy) (by rw [h.ss]; exact hyl) hsw hi (by rw [h.nn, h.ss]; exact ok) (fun s H C cl fp => ?_) (fun s H C cl fp => ?_) (fun s H C cl fp => ?_) hs) fun D σ H q => ?_
  · exact ⟨fun pins s1 σ H v u Q I r ⟨xi, q⟩ => (B.gg s _ C cl fp xi).run pins s1 σ H v u Q I r q⟩
  · exact ⟨fun pins s1 σ H Q I ⟨xi, q⟩ => (B.tt s _ C cl fp xi).run pins s1 σ H Q I q⟩
  · exact ⟨fun pins s1 σ H Q I ⟨xi, q⟩ => (B.ee s _ C cl fp xi).run pins s1 σ H Q I q⟩
  · refine lc_ok (cell := cell) h.nocu hv σ H _ ?_
    refine stm_ok (f := fun _ S => .bad) (ρ0 := id) (g := fun ρ d S => match tgt (.var i) d ρ with | some ρ' => .ok (.nx ρ') S | none => .bad) q fun μ ρ S d v H' re rs rd k => ?_
    unfold tgt at k
    exact Aft.now (a := Fl.nx (ρ.set i (some d))) rs k _ (re.set i rd)
/-! ### methods of lists -/
def rM (t : Tb) (f : D → List D → Sto → R D) : V → List V → Hp → VK → Prop := fun v vs H Q => ∃ μ S d ds, RS t μ S H ∧ RD t μ H d v ∧ RDs t μ H ds vs ∧ Aft t μ H (f d ds S) (fun d _ μ' H' => ∀ w, RD t μ' H' d w → Q w H') (fun _ _ _ _ => False)
theorem MtR.by {id : String} {r' : V → List V → Hp → VK → Prop} (h : ∀ v vs H Q, r' v vs H Q → ∃ r, MtR X id r ∧ r v vs H Q) : MtR X id r' :=
  fun pins s σ H x xs v us Q I rx rv q => let ⟨r, h1, h2⟩ := h x xs H Q q; h1 pins s σ H x xs v us Q I rx rv h2
theorem refL_rd {μ : List Addr} {H : Hp} {S : Sto} {d : D} {v : V} {p : Nat × List D} (rs : RS t μ S H) (e : refL S d = some p) (r : RD t μ H d v) :
    ∃ ad vs, v = .ref ad ∧ μ[p.1]? = some ad ∧ H ad = some (.lst vs) ∧ RDs t μ H p.2 vs ∧ p.2.length ≤ sizeLine := by
  unfold refL at e
  split at e
  · split at e
    · rename_i xs hx
      cases e
      obtain ⟨ad, ha, rfl⟩ := r
      obtain ⟨vs, h1, h2⟩ := rs.get _ _ ad hx ha
      exact ⟨ad, vs, rfl, ha, h1, h2, rs.lens _ (List.mem_of_getElem? hx)⟩
    · cases e
  · cases e
theorem m_append : MtR X "list.append" (rM t bAppend) := MtR.by fun v vs H Q ⟨μ, S, d, ds, rs, rd, rv, q⟩ => by
  unfold bAppend at q
  cases e : refL S d with
  | none => rw [e] at q; exact q.elim
  | some p =>
    rw [e] at q
    obtain ⟨ad, us, rfl, ha, h1, h2, hl⟩ := refL_rd rs e rd
    dsimp only at q
    split at q
    · split at q
      · rename_i x hlt
        obtain ⟨u, rfl, ru⟩ := rv.one
        refine ⟨_, mt_append, ad, us, u, rfl, rfl, h1, by rw [← h2.length, line_eq]; exact hlt, ?_⟩
        have e := Ext.chg (H := H) (o := .lst (us ++ [u])) ha
        exact q μ _ e (rs.chg ha ⟨_, upd_same, RDs.ext e _ (h2.append ⟨u, [], rfl, ru, rfl⟩)⟩ (by show (p.2 ++ [x]).length ≤ sizeLine; rw [List.length_append, List.length_singleton, line_eq]; exact hlt)) _ rfl
      · exact q.elim
    · exact q.elim
theorem m_insert : MtR X "list.insert" (rM t bInsert) := MtR.by fun v vs H Q ⟨μ, S, d, ds, rs, rd, rv, q⟩ => by
  unfold bInsert at q
  cases e : refL S d with
  | none => rw [e] at q; exact q.elim
  | some p =>
    rw [e] at q
    obtain ⟨ad, us, rfl, ha, h1, h2, hl⟩ := refL_rd rs e rd
    dsimp only at q
    split at q
    · split at q
      · rename_i i x hlt
        obtain ⟨u, w, rfl, ru, rw'⟩ := rv.two
        cases ru
        refine ⟨_, mt_insert, ad, us, i, w, rfl, rfl, h1, by rw [← h2.length, line_eq]; exact hlt.1, hlt.2.1, by have := hlt.2.2; omega, ?_⟩
        have e := Ext.chg (H := H) (o := .lst (us.take i.toNat ++ [w] ++ us.drop i.toNat)) ha
        refine q μ _ e (rs.chg ha ⟨_, upd_same, RDs.ext e _ (((h2.take i.toNat).append (show RDs t μ H [x] [w] from ⟨w, [], rfl, rw', rfl⟩)).append (h2.drop i.toNat))⟩ ?_) _ rfl
        show (p.2.take i.toNat ++ [x] ++ p.2.drop i.toNat).length ≤ sizeLine
        have h3 := hlt.1
        rw [List.length_append, List.length_append, List.length_take, List.length_drop, List.length_singleton, line_eq]
        omega
      · exact q.elim
    · exact q.elim
theorem m_pop : MtR X "list.pop" (rM t bPop) := MtR.by fun v vs H Q ⟨μ, S, d, ds, rs, rd, rv, q⟩ => by
  unfold bPop at q
  cases e : refL S d with
  | none => rw [e] at q; exact q.elim
  | some p =>
    rw [e] at q
    obtain ⟨ad, us, rfl, ha, h1, h2, hl⟩ := refL_rd rs e rd
    dsimp only at q
    split at q
    · cases rv
      cases z : p.2[p.2.length - 1]? with
      | none => rw [z] at q; exact q.elim
      | some y =>
        rw [z] at q
        obtain ⟨u, e1, ru⟩ := h2.get z
        rw [h2.length] at e1
        refine ⟨_, mt_pop, ad, us, u, rfl, rfl, h1, e1, ?_⟩
        have e := Ext.chg (H := H) (o := .lst us.dropLast) ha
        have hd : RDs t μ H p.2.dropLast us.dropLast := by
          rw [List.dropLast_eq_take, List.dropLast_eq_take, h2.length]
          exact h2.take _
        refine q μ _ e (rs.chg ha ⟨_, upd_same, RDs.ext e _ hd⟩ ?_) _ (ru.ext e)
        show p.2.dropLast.length ≤ sizeLine
        rw [List.length_dropLast]; omega
    · exact q.elim
/-- o.m(e, ..), a method of lists -/
theorem bml_ok {m : Bm} {f : D → List D → Sto → R D} (hK : X.K = t.K) (hf : ∀ d ds S, bm m d ds S = f d ds S) (hx : ∀ d ds S x S', f d ds S ≠ .exc x S') (σ : L2.St) (H : Hp) (Q : VK) (q : tE t W (ev cx (.bm m eo Es)) σ H Q) :
    tBM X.K "list" (rM t f) (tE t W (ev cx eo)) (tA t W (evs cx Es)) σ H Q := by
  obtain ⟨μ, ρ, S, re, rs, q⟩ := q
  refine ⟨μ, ρ, S, re, rs, (Aft.bind (r := ev cx eo ρ S) q).imp (fun x S1 μ1 H1 e1 s1 k1 v rv => ?_) fun _ _ _ _ _ _ z => z⟩
  split at k1
  · rename_i hr
    obtain ⟨p, e⟩ := Option.isSome_iff_exists.mp hr
    obtain ⟨ad, us, rfl, ha, h1, h2, hl⟩ := refL_rd s1 e rv
    refine ⟨.inl ⟨rfl, us, SqL.of h1⟩, μ1, ρ, S1, re.ext e1, s1, k1.bind.imp (fun ds S2 μ2 H2 e2 s2 k2 vs rvs => ?_) fun _ _ _ _ e2 _ z => z (e1.trans e2)⟩
    refine ⟨μ2, S2, x, ds, s2, rv.ext e2, rvs, ?_⟩
    rw [hf] at k2
    exact (k2.imp (fun d S3 μ3 H3 e3 s3 z => z (e2.trans e3) (e1.trans (e2.trans e3))) fun _ _ _ _ _ _ z => z).nox (hx x ds S2)
  · exact k1.elim
/-- o.m(e, ..), a method of lists -/
theorem r_bm (h : Fe t cx N sc mg W X) {m : Bm} {f : D → List D → Sto → R D} (hf : ∀ d ds S, bm m d ds S = f d ds S) (hx : ∀ d ds S x S', f d ds S ≠ .exc x S') {name : Str} {id : String} (slot : Slot "list" name id) (hty : typeOf (.builtin id) = pure (.type "method_descriptor")) (hm : MtR X id (rM t f))
    (ho : VE t cx W X o eo) (ha : VA t cx W X (a :: es) Es) (hbase : attributeBase o name X.env (eval o X.env) = eval o X.env)
    (hfew : ((backTo pos (starEach (a :: es) X.env)).all (fun x => !x.1) && (backToKw pos (keywordEach [] X.env)).all (fun x => x.1.isSome)
      && decide ((a :: es).length + ([] : List Keyword).length + (if ([] : List Keyword).isEmpty then 0 else 1) < 30)) = true)
    (hline : (apos.endLine == pos.line) = true) (hs : starEach (a :: es) X.env = (false, eval a X.env) :: starEach es X.env) (hplain : (backTo pos (starEach es X.env)).any (·.1) = false) :
    VE t cx W X (.Call (.Attribute o name apos) (a :: es) [] pos) (.bm m eo Es) :=
  PE.weak (pe_bm F.plainAttrs_list slot hty hm ho ha hbase hfew hline hs hplain) (bml_ok h.kk hf hx)
theorem r_bm0 (h : Fe t cx N sc mg W X) {m : Bm} {f : D → List D → Sto → R D} (hf : ∀ d ds S, bm m d ds S = f d ds S) (hx : ∀ d ds S x S', f d ds S ≠ .exc x S') {name : Str} {id : String} (slot : Slot "list" name id) (hty : typeOf (.builtin id) = pure (.type "method_descriptor")) (hm : MtR X id (rM t f))
    (ho : VE t cx W X o eo) (hbase : attributeBase o name X.env (eval o X.env) = eval o X.env) (hline : (apos.endLine == pos.line) = true) :
    VE t cx W X (.Call (.Attribute o name apos) [] [] pos) (.bm m eo []) := by
  refine PE.weak (pe_bm0 F.plainAttrs_list slot hty hm ho hbase hline) fun σ H Q q => ?_
  obtain ⟨μ, ρ, S, re, rs, q⟩ := bml_ok h.kk hf hx σ H Q q
  refine ⟨μ, ρ, S, re, rs, q.imp (fun x S1 μ1 H1 e1 s1 k1 v rv => ?_) fun _ _ _ _ _ _ z => z⟩
  obtain ⟨ty, μ2, ρ2, S2, re2, rs2, k2⟩ := k1 v rv
  exact ⟨ty, Aft.now (a := ([] : List D)) rs2 k2 [] rfl⟩
theorem bAppend_nox (d : D) (ds : List D) (S : Sto) (x : Xn) (S' : Sto) : bAppend d ds S ≠ .exc x S' := fun h => by
  unfold bAppend at h
  repeat' (first | (split at h) | cases h)
theorem bInsert_nox (d : D) (ds : List D) (S : Sto) (x : Xn) (S' : Sto) : bInsert d ds S ≠ .exc x S' := fun h => by
  unfold bInsert at h
  repeat' (first | (split at h) | cases h)
theorem bPop_nox (d : D) (ds : List D) (S : Sto) (x : Xn) (S' : Sto) : bPop d ds S ≠ .exc x S' := fun h => by
  unfold bPop at h
  repeat' (first | (split at h) | cases h)
/-! ### list(range(..)) -/
theorem rg_rd {μ : List Addr} {H : Hp} (a b : Int) : RDs t μ H (rangeD a b) (rgV a b) := by
  unfold rangeD rgV
  have : ∀ l : List Nat, RDs t μ H (l.map fun (k : Nat) => D.int (a + (k : Nat))) (l.map fun (k : Nat) => V.int (a + (k : Nat))) := fun l => by
    induction l with
    | nil => rfl
    | cons c l ih => exact ⟨_, _, rfl, rfl, ih⟩
  exact this _
theorem rg_len (a b : Int) : (rangeD a b).length = (b - a).toNat := by unfold rangeD; rw [List.length_map, List.length_range]
theorem r_listRg1 (h : Fc t cx N sc mg W fi k X) {cell : Bool} {p2 pos2 : Pos} (hg : sc.names.lookup ("list" : Str) = some .globalImplicit) (hm : mg ("list" : Str) = none) (hg2 : sc.names.lookup ("range" : Str) = some .globalImplicit) (hm2 : mg ("range" : Str) = none) (ha : VE t cx W X a ea)
    (na : starEach [a] X.env = (false, eval a X.env) :: starEach [] X.env) (na2 : starEach [.Call (.Name "range" p2) [a] [] pos2] X.env = (false, eval (.Call (.Name "range" p2) [a] [] pos2) X.env) :: starEach [] X.env) :
    VE t cx W X (.Call (.Name "list" p) [.Call (.Name "range" p2) [a] [] pos2] [] pos) (.bi cell .range1 [ea]) := by
  refine PE.weak (pe_listRg h.calm (h.gl hg) (by rw [h.mm]; exact hm) (prg_1 (h.gl hg2) (by rw [h.mm]; exact hm2) ha na) na2) fun σ H Q q => ?_
  obtain ⟨μ, ρ, S, re, rs, q⟩ := q
  have rw1 : ev cx (.bi cell .range1 [ea]) ρ S = (ev cx ea ρ S).bind fun d S => bi cx cell .range1 [d] S := by
    simp only [ev, evs]
    cases ev cx ea ρ S <;> rfl
  rw [rw1] at q
  refine ⟨μ, ρ, S, re, rs, q.bind.imp (fun x S1 μ1 H1 e1 s1 k1 v rv => ?_) fun _ _ _ _ _ _ z => z⟩
  simp only [bi, rng] at k1
  cases x with
  | int n =>
    dsimp only at k1
    cases hn : (rgOk n && leI n 16777216) with
    | false => rw [hn] at k1; exact k1.elim
    | true =>
      rw [hn] at k1
      cases rv
      rw [Bool.and_eq_true] at hn
      rw [rgOk_eq] at hn
      have h1 := of_decide_eq_true hn.1
      have h2 := of_leI hn.2
      refine ⟨n, rfl, ⟨by omega, by omega, by omega, by omega, by omega⟩, fun q hq => ?_⟩
      refine mkL_ok (cell := cell) s1 hq (rg_rd 0 n) (Aft.imp k1 (fun d S3 μ3 H3 e3 s3 z => z (e1.trans e3)) fun x S3 μ3 H3 e3 s3 z => z (e1.trans e3)) ?_
      rw [rg_len, sizeLine_eq]; omega
  | _ => exact k1.elim
theorem r_listRg2 (h : Fc t cx N sc mg W fi k X) {cell : Bool} {p2 pos2 : Pos} (hg : sc.names.lookup ("list" : Str) = some .globalImplicit) (hm : mg ("list" : Str) = none) (hg2 : sc.names.lookup ("range" : Str) = some .globalImplicit) (hm2 : mg ("range" : Str) = none) (ha : VE t cx W X a ea) (hb : VE t cx W X b eb)
    (na : starEach [a, b] X.env = (false, eval a X.env) :: starEach [b] X.env) (nb : starEach [b] X.env = (false, eval b X.env) :: starEach [] X.env) (hp : (backTo pos2 (starEach [b] X.env)).any (·.1) = false)
    (na2 : starEach [.Call (.Name "range" p2) [a, b] [] pos2] X.env = (false, eval (.Call (.Name "range" p2) [a, b] [] pos2) X.env) :: starEach [] X.env) :
    VE t cx W X (.Call (.Name "list" p) [.Call (.Name "range" p2) [a, b] [] pos2] [] pos) (.bi cell .range2 [ea, eb]) := by
  refine PE.weak (pe_listRg h.calm (h.gl hg) (by rw [h.mm]; exact hm) (prg_2 (h.gl hg2) (by rw [h.mm]; exact hm2) ha hb na nb hp) na2) fun σ H Q q => ?_
  obtain ⟨μ, ρ, S, re, rs, q⟩ := q
  have rw1 : ev cx (.bi cell .range2 [ea, eb]) ρ S = (ev cx ea ρ S).bind fun d S => (ev cx eb ρ S).bind fun e S => bi cx cell .range2 [d, e] S := by
    simp only [ev, evs]
    cases z : ev cx ea ρ S with
    | ok d S1 =>
      simp only [R.bind_ok]
      cases ev cx eb ρ S1 <;> rfl
    | _ => rfl
  rw [rw1] at q
  refine ⟨μ, ρ, S, re, rs, q.bind.imp (fun x S1 μ1 H1 e1 s1 k1 v rv => ?_) fun _ _ _ _ _ _ z => z⟩
  refine ⟨μ1, ρ, S1, re.ext e1, s1, k1.bind.imp (fun y S2 μ2 H2 e2 s2 k2 u ru => ?_) fun _ _ _ _ e2 _ z => z (e1.trans e2)⟩
  simp only [bi, rng] at k2
  cases x with
  | int lo =>
    cases y with
    | int n =>
      dsimp only at k2
      cases hn : (rgOk lo && rgOk n && leI (n - lo) 16777216) with
      | false => rw [hn] at k2; exact k2.elim
      | true =>
        rw [hn] at k2
        cases rv
        cases ru
        rw [Bool.and_eq_true, Bool.and_eq_true] at hn
        rw [rgOk_eq, rgOk_eq] at hn
        have h1 := of_decide_eq_true hn.1.1
        have h2 := of_decide_eq_true hn.1.2
        have h3 := of_leI hn.2
        refine ⟨lo, n, rfl, rfl, ⟨by omega, by omega, by omega, by omega, by omega⟩, fun q hq => ?_⟩
        refine mkL_ok (cell := cell) s2 hq (rg_rd lo n) (Aft.imp k2 (fun d S3 μ3 H3 e3 s3 z => z (e2.trans e3) (e1.trans (e2.trans e3))) fun x S3 μ3 H3 e3 s3 z => z (e2.trans e3) (e1.trans (e2.trans e3))) ?_
        rw [rg_len, sizeLine_eq]; omega
    | _ => exact k2.elim
  | _ => exact k2.elim
end
end Dn
/-! DnX: an own error over ValueError whose __init__ says super().__init__(v); self.f = v. -/
namespace DnX
open PySem PySem.W PySem.Calls PyProof.Rows PySem.HandSPX -- names

/-- the text of such an __init__ -/
def eArg (f : Str) (p1 p2 : Pos) : Arguments := { posonlyargs := [], args := [{ arg := "self", annotation := none, pos := p1 }, { arg := f, annotation := none, pos := p2 }], vararg := none, kwonlyargs := [], kw_defaults := [], kwarg := none, defaults := [] }
def eBody (f : Str) (p1 p2 p3 p4 p5 p6 q1 q2 q3 q4 : Pos) : List Stmt :=
  [.Expr (.Call (.Attribute (.Call (.Name "super" p1) [] [] p2) "__init__" p3) [.Name f p4] [] p5) p6, .Assign [.Attribute (.Name "self" q1) f q2] (.Name f q3) q4]
def eScope (f : Str) : Scope := { kind := .function, names := [("self", .local), (f, .local), ("__class__", .free), ("super", .globalImplicit)], isGenerator := false, isCoroutine := false, more := [] }
/-- what the text says of the class at C, named nm, with the field f; its __init__ stands at fI -/
structure ETxt (prog : Program) (K : Frag) (C fI : Addr) (f : Str) : Prop where
  cls : ∃ nm q N bs bm sn sub ab col dd k0 k1 k2 k3 k5, K.lookup C = some (excClassObj nm q C N bs bm true sn sub ab col dd k0 k1 k2 k3 k5 "ValueError.__new__") ∧ refsVE bm = true ∧ clsIn K C = some { name := nm, bases := bs, mro := .ref C :: bm, ns := N, qualname := q, hasDict := true, slotNames := sn, subclasses := sub, abstract := ab, collection := col, hasDel := false }
  sa : findIn K (.ref C) "__setattr__" = some (some (.builtin "object.__setattr__"))
  ga : findIn K (.ref C) "__getattribute__" = some (some (.builtin "BaseException.__getattribute__"))
  gg : findIn K (.ref C) "__getattr__" = some none
  noN : findIn K (.ref C) f = some none
  iC : findIn K (.ref C) "__init__" = some (some (.ref fI))
  tC : typeIn K (.ref fI) = some (.type "function")
  kC : keepIn K (.ref C) = true
  exC : subIn K (.ref C) (.type "BaseException") = some true
  veC : subIn K (.ref C) (.type "ValueError") = some true
  tyC : typeIn K (.ref C) = some (.type "type")
  hdC : hasDictIn K C = true
  mr : mroIn K C (.ref C) = some true
  si : ks_superIn K C C "__init__" = some (some (.builtin "ValueError.__init__"))
  op : nsIn K cStatics "thirdparty.any" = some none
  top : (prog.main.scope.names.lookup ("super" : Str)).isSome = false
  f1 : (f == ("self" : Str)) = false
  f2 : (f == ("__class__" : Str)) = false
  f3 : (f == ("__debug__" : Str)) = false
  f4 : (f == ("super" : Str)) = false
  fn : ∃ (oc : Value) (od : Option Addr) (doc pm : Value) (an : Option Addr) (cda : Addr) (ct : Value) (osl : Array (Option Value)) (cc : Addr) (p1 p2 p3 p4 p5 p6 q1 q2 q3 q4 a1 a2 : Pos) (qual : Str) (ccl cl : Value) (cdd cld : Option Addr) (ccs csl : Array (Option Value)) (vs : Array Value) (file : Str) (tf : Tok),
    K.lookup fI = some ⟨oc, od, .func (ksFn "__init__" qual (eArg f a1 a2) (eBody f p1 p2 p3 p4 p5 p6 q1 q2 q3 q4) (eScope f) .none .none doc pm an (.ref cda) ct cc), osl⟩ ∧ codeIn K (.ref cda) qual = true ∧
    K.lookup cda = some ⟨ccl, cdd, .fields vs, ccs⟩ ∧ vs[2]? = some (.str file tf) ∧ ((prog.main.file : Str) == file) = true ∧ K.lookup cc = some ⟨cl, cld, .cell (some (.ref C)), csl⟩ ∧
    (∀ a b : Value, bindArgs (ksFn "__init__" qual (eArg f a1 a2) (eBody f p1 p2 p3 p4 p5 p6 q1 q2 q3 q4) (eScope f) .none .none doc pm an (.ref cda) ct cc) ⟨[a, b], []⟩ = pure [(("self" : Str), a), (f, b)]) ∧
    ∀ env : PySem.Env, ∃ pl : Sem Bool, eval (.Call (.Attribute (.Call (.Name "super" p1) [] [] p2) "__init__" p3) [.Name f p4] [] p5) env = (do
      let ov ← attributeBase (.Call (.Name "super" p1) [] [] p2) "__init__" env (eval (.Call (.Name "super" p1) [] [] p2) env)
      standAt p3.atName
      let (f', first) ← holding [ov] (getMethod ov "__init__" pl)
      callWith p5 f' first (backTo p5 (starEach [.Name f p4] env)) [])
theorem one_fits (v : Value) : [v].length ≤ sizeLine := by
  show 1 ≤ sizeLine
  rw [sizeLine_eq]; omega
theorem still {K : Frag} {h h' : Heap} {x : Addr} (X : K.In h) (hx : K.lookup x = none) (k : ∀ b o, b ≠ x → h.get? b = some o → h'.get? b = some o) : K.In h' := fun a o e =>
  k a o (fun z => by rw [z, hx] at e; cases e) (X a o e)
/-- what __init__ leaves of a fresh error at x -/
structure EEnd (h h' : Heap) (x C dx t1 : Addr) (f : Str) (v : Value) : Prop where
  keep : ∀ b o, b ≠ x → h.get? b = some o → h'.get? b = some o
  obj : h'.get? x = some { cls := .ref C, dict := some dx, data := .fields #[.ref t1, .none, .none, .none, .bool false, .none] }
  dbig : h.objs.size ≤ dx
  dne : dx ≠ x
  ns : h'.Ns1 dx (fun y => if y = f then some v else none)
section
variable {prog : Program} {w : World} {A : Around} {E : Value → Shared → Prop} {h : Heap} {g : Array GenState} {d : Drawn} {t : Nat} {os : OsState}
variable {nm q : Str} {C N : Addr} {bs bm : List Value} {hdct : Bool} {sn : List Str} {sub : List Value} {ab : Bool} {col : Option Bool} {dd : Option Addr} {k0 k1 k2 k3 k5 : Option Value}
/-- the bound ValueError.__init__ called -/
theorem mw_call {u e t0 : Addr} {rest : List Value} {Q : Value → Shared → Prop}
    (hC : h.get? C = some (excClassObj nm q C N bs bm hdct sn sub ab col dd k0 k1 k2 k3 k5 "ValueError.__new__")) (he : h.get? e = some (excO C t0)) (hu : h.get? u = some (kxs_mw "ValueError.__init__" e)) (hrest : rest.length ≤ sizeLine)
    (hq : ∀ h' t1, (∀ b o, b ≠ e → h.get? b = some o → h'.get? b = some o) → h'.get? e = some (excO C t1) → Q .none ⟨h', g, d, t, os⟩) :
    wpAny (model prog w) A (call (.ref u) rest) Q E ⟨h, g, d, t, os⟩ := by
  refine wpAny_call (codeAny_of_tree ?_)
  show wpAny _ A.in1 (callAny (.ref u) ⟨rest, []⟩) _ _ _
  simp only [callAny]
  refine wpAny_bind (wpAny_load hu ?_)
  simp only [kxs_mw, show (Value.type "method-wrapper" == Value.type "method" || Value.type "method-wrapper" == Value.type "builtin_function_or_method" || Value.type "method-wrapper" == Value.type "method-wrapper") = true by decide, if_true]
  refine KFB.if_so (by decide) ?_
  refine wpAny_bind (check_bound_init PySem.F.excBase_ValueError.toExcCallFacts hC he rfl ?_)
  refine wpAny_bind (wpAny_pure (wpAny_pure ?_))
  refine ⟨plainId_quiet PySem.F.excBase_ValueError.init.plain _, codeAny_builtin PySem.F.excBase_ValueError.initEntry ?_⟩
  exact exc_init_tree (cls := .ref C) (t0 := t0) (dv := none) (c2 := .none) (c3 := .none) (b4 := .bool false) he hrest fun h' k e' _ => hq h' h.objs.size k e'
end

section
variable {prog : Program} {w : World} {A : Around} {E : Value → Shared → Prop} {R : Result → Shared → Prop} {s : Shared} {K : Frag} {mg : Str → Option Value} {C fI : Addr} {f : Str}
theorem ld_loc {M : Model} {env : PySem.Env} {m : Str → Option Value} {x : Str} {pos : Pos} {v : Value} {Q : Value → Shared → Prop} (hn : s.heap.Ns env.locals m) (hv : m x = some v) (h : Q v s)
    (hk : env.scope.kind = .function) (hl : env.kindOf x = some .local) (hd : (x == ("__debug__" : Str)) = false) : wpAny M A (eval (.Name x pos) env) Q E s := wpAny_Name (wpAny_loadName_local hk hl hn hv h) hd
theorem mw_with {M : Model} {pos : Pos} {env : PySem.Env} {e : Expr} {rest : List Expr} {u x : Addr} {i : String} {Q : Value → Shared → Prop}
    (h : wpAny M A (spliced (backTo pos (starEach (e :: rest) env))) (fun us s₁ => KxsAt i u x s₁.heap ∧ wpAny M A (call (.ref u) us) Q E s₁) E s)
    (he : starEach (e :: rest) env = (false, eval e env) :: starEach rest env) (hpl : (backTo pos (starEach rest env)).any (·.1) = false) :
    wpAny M A (callWith pos (.ref u) [] (backTo pos (starEach (e :: rest) env)) []) Q E s := by
  rw [he] at h ⊢
  refine kxs_callWith (i := i) (x := x) ?_ (evalArgs_plain h)
  show (false || (backTo pos (starEach rest env)).any (·.1)) = false
  rw [hpl, Bool.or_false]
theorem e_init (T : ETxt prog K C fI f) {x t0 : Addr} {v : Value} (X : K.In s.heap) (hlim : s.heap.NoLimit) (G : s.heap.Ns mainGlobals mg) (hsu : mg "super" = none) {mb : Str → Option Value} (B : s.heap.Ns builtinsNs mb) (hB : ∀ y : Str, y ≠ "__name__" → mb y = bootBuiltins y)
    (hx : s.heap.get? x = some (excO C t0)) (hnx : K.lookup x = none) (hroom : A.depth < recursionLimit)
    (hq : ∀ h' tk dx t1, EEnd s.heap h' x C dx t1 f v → R (.ok (.ret .none)) { s with heap := h', toks := tk }) :
    codeAny (model prog w) A (.call (.ref fI) ⟨[.ref x, v], []⟩) R s := by
  obtain ⟨oc, od, doc, pm, an, cda, ct, osl, cc, p1, p2, p3, p4, p5, p6, q1, q2, q3, q4, a1, a2, qual, ccl, cl, cdd, cld, ccs, csl, vs, file, tf, ho, hcd, hcode, hvs, hfile, hcell, hbind, hev⟩ := T.fn
  obtain ⟨nm, q, N, bs, bm, sn, sub, ab, col, dd, k0, k1, k2, k3, k5, hC, hbm, hcl⟩ := T.cls
  have n1 : ¬ (f = ("self" : Str)) := by simpa using T.f1
  have n2 : ¬ (f = ("__class__" : Str)) := by simpa using T.f2
  have n4 : ¬ (f = ("super" : Str)) := by simpa using T.f4
  have lk0 : (eScope f).names.lookup ("self" : Str) = some .local := by rfl
  have lk1 : (eScope f).names.lookup f = some .local := by
    show List.lookup f [(("self" : Str), NameKind.local), (f, .local), ("__class__", .free), ("super", .globalImplicit)] = _
    rw [List.lookup_cons, T.f1, List.lookup_cons, beq_self_eq_true]
  have e2 : (("__class__" : Str) == f) = false := by simpa using fun z => n2 z.symm
  have e4 : (("super" : Str) == f) = false := by simpa using fun z => n4 z.symm
  have lk2 : (eScope f).names.lookup ("__class__" : Str) = some .free := by
    show List.lookup ("__class__" : Str) [(("self" : Str), NameKind.local), (f, .local), ("__class__", .free), ("super", .globalImplicit)] = _
    rw [List.lookup_cons, show (("__class__" : Str) == ("self" : Str)) = false by decide +kernel, List.lookup_cons, e2]
    rfl
  have lk3 : (eScope f).names.lookup ("super" : Str) = some .globalImplicit := by
    show List.lookup ("super" : Str) [(("self" : Str), NameKind.local), (f, .local), ("__class__", .free), ("super", .globalImplicit)] = _
    rw [List.lookup_cons, show (("super" : Str) == ("self" : Str)) = false by decide +kernel, List.lookup_cons, e4, List.lookup_cons, show (("super" : Str) == ("__class__" : Str)) = false by decide +kernel]
    rfl
  refine ks_codeAny_call_defAt (fd := ksFn "__init__" qual (eArg f a1 a2) (eBody f p1 p2 p3 p4 p5 p6 q1 q2 q3 q4) (eScope f) .none .none doc pm an (.ref cda) ct cc) (body := eBody f p1 p2 p3 p4 p5 p6 q1 q2 q3 q4) (binds := [("self", .ref x), (f, v)])
    hroom (X _ _ ho) rfl hlim (codeRec_of X hcd) rfl (BindsTo.of_eq (hbind _ _)) ?cells ?locs (fun h₀ hns hk => ?run) rfl rfl rfl
  case cells =>
    intro y hy
    rcases List.mem_cons.mp hy with rfl | hy
    · exact fun z => nomatch z
    rcases List.mem_cons.mp hy with rfl | hy
    · exact fun z => nomatch z
    rcases List.mem_cons.mp hy with rfl | hy
    · exact fun z => nomatch z
    rcases List.mem_cons.mp hy with rfl | hy
    · exact fun z => nomatch z
    · cases hy
  case locs =>
    intro y hy
    rcases List.mem_cons.mp hy with rfl | hy
    · exact lk0
    rcases List.mem_cons.mp hy with rfl | hy
    · exact lk1
    · cases hy
  case run =>
    have X₀ : K.In h₀ := X.keeps hk
    have hx₀ := hk _ _ hx
    have mself : (List.lookup ("self" : Str) [(f, v), (("self" : Str), Value.ref x)]) = some (.ref x) := by
      rw [List.lookup_cons, show (("self" : Str) == f) = false by simpa using fun z => n1 z.symm, List.lookup_cons, beq_self_eq_true]
    have mf : (List.lookup f [(f, v), (("self" : Str), Value.ref x)]) = some v := by rw [List.lookup_cons, beq_self_eq_true]
    have hns : h₀.Ns s.heap.objs.size (fun y => List.lookup y [(f, v), (("self" : Str), Value.ref x)]) := hns
    have hxC : x ≠ C := fun z => by rw [z, hC] at hnx; cases hnx
    have hin : ∀ {h : Heap}, K.In h → h.get? x = some (excO C t0) → Looks (model prog w) h (isInstance (.ref x) (.type "ValueError")) true := fun {h} Xh e =>
      ((show InstAt h x (excO C t0) C none from ⟨e, rfl, rfl, trivial⟩).type (M := model prog w)).andThen (looks_subIn Xh T.veC)
    generalize henv : callEnv (ksFn "__init__" qual (eArg f a1 a2) (eBody f p1 p2 p3 p4 p5 p6 q1 q2 q3 q4) (eScope f) .none .none doc pm an (.ref cda) ct cc) s.heap.objs.size fI = env
    have he : env = ksEnv qual (eScope f) s.heap.objs.size fI (.ref cda) cc := henv.symm
    subst he
    clear henv
    obtain ⟨pl, hpl⟩ := hev (ksEnv qual (eScope f) s.heap.objs.size fI (.ref cda) cc)
    refine ks_wpAt_execs_cons (ks_wpAt_Expr_any (ks_wpAt_MethodCall ?_ hpl))
    refine ks_wpAt_super_base (env := ksEnv qual (eScope f) s.heap.objs.size fI (.ref cda) cc) lk3 lk2 (by decide +kernel) rfl (X₀ _ _ ho) rfl rfl rfl (X₀ _ _ hcode) rfl hvs hfile T.top ?_
    refine ks_loadName_global rfl lk3 (loadGlobal_builtin (env := ksEnv qual (eScope f) s.heap.objs.size fI (.ref cda) cc) (G.keeps hk) hsu (B.keeps hk) ((hB _ (by decide +kernel)).trans (by decide +kernel)) ⟨rfl, ?_⟩)
    refine wpAny_loadName_free rfl lk2 rfl ⟨_, X₀ _ _ hcell, rfl⟩ ?_
    refine wpAny_loadName_local rfl lk0 hns mself ?_
    refine ks_wpAny_isType_cls (X₀ _ _ hC) rfl ⟨rfl, ?_⟩
    refine ks_wpAny_call_super (X₀ _ _ hC) rfl hx₀ rfl (fun c e => nomatch e) (looks_mroIn X₀ T.mr) (fun h1 hso k1 => ?_)
    have X₁ : K.In h1 := X₀.keeps k1
    have hal : alongIn K "__init__" (((Value.ref C :: bm).dropWhile (· != .ref C)).drop 1) = some (some (.builtin "ValueError.__init__")) := by
      have := T.si
      unfold ks_superIn at this
      rw [hcl] at this
      exact this
    refine kxs_getMethod kxs_ValueError hso (looks_opaque X₁ T.op) (l₀ := .ref C :: bm) (fun A Q E s k q => wpAny_bind ((looks_clsIn X₁ hcl) A _ E s k (wpAny_pure q))) rfl X₁ hal (hin X₁ (k1 _ _ hx₀)) hxC (by decide +kernel) ?_
    have k2 : ∀ b o, h1.get? b = some o → (h1.push (kxs_mw "ValueError.__init__" x)).get? b = some o := fun b o e => Heap.get?_push_of_some _ e
    have hu : (h1.push (kxs_mw "ValueError.__init__" x)).get? h1.objs.size = some (kxs_mw "ValueError.__init__" x) := Heap.get?_push_at rfl rfl
    refine mw_with (i := "ValueError.__init__") (x := x) ?_ rfl rfl
    refine args_cons (ld_loc (hns.keeps fun b o e => k2 b o (k1 b o e)) mf ?_ rfl lk1 T.f3) rfl
    refine args_nil ⟨hu, ?_⟩
    refine mw_call ((X₁.keeps k2) _ _ hC) (k2 _ _ (k1 _ _ hx₀)) hu (one_fits v) (fun h3 t1 k3 hx3 => ?_)
    have old : ∀ b o, b ≠ x → h₀.get? b = some o → h3.get? b = some o := fun b o hb e => k3 b o hb (k2 b o (k1 b o e))
    have X3 : K.In h3 := still (X₁.keeps k2) hnx k3
    have hxL : s.heap.objs.size ≠ x := Nat.ne_of_gt (Heap.lt_size hx)
    obtain ⟨oL, es, ep, hL, rL⟩ := id hns
    have hns3 : h3.Ns s.heap.objs.size (fun y => List.lookup y [(f, v), (("self" : Str), Value.ref x)]) := ⟨oL, es, ep, old _ _ hxL hL, rL⟩
    refine wpAt_of_wpAny (wpAny_execs_cons (plainObj_wpAny_Assign_Attribute ?_))
    refine ld_loc hns3 mf (ld_loc hns3 mself ?_ rfl lk0 (by decide +kernel)) rfl lk1 T.f3
    refine set_plain X3 (ox := excO C t1) (od := none) ⟨hx3, rfl, rfl, trivial⟩ T.sa ?_
    refine exc_osa X3 hx3 hcl (show refsVE (.ref C :: bm) = true from hbm) rfl T.noN (fun h4 tk4 dx k4 dn dne hx4 hn4 => ?_)
    show wpAny _ _ (execs _ _) _ _ _
    have z : s.heap.objs.size < h3.objs.size := Heap.lt_size (old _ _ hxL hL)
    exact wpAny_execs_nil (hq h4 tk4 dx t1 ⟨fun b o hb e => k4 b o hb (old b o hb (hk b o e)), hx4, Nat.le_trans (Nat.le_of_lt z) dn, dne, hn4⟩)
/-- a made error -/
structure EMade (h h' : Heap) (e C dx : Addr) (f : Str) (v : Value) : Prop where
  keep : ∀ b o, h.get? b = some o → h'.get? b = some o
  new : h.objs.size ≤ e
  obj : ∃ oe vs, h'.get? e = some oe ∧ oe.cls = .ref C ∧ oe.dict = some dx ∧ oe.data = .fields vs ∧ vs[1]? = some .none
  dbig : h.objs.size ≤ dx
  dne : dx ≠ e
  ns : h'.Ns1 dx (fun y => if y = f then some v else none)
theorem e_made (T : ETxt prog K C fI f) {v : Value} (X : K.In s.heap) (hlim : s.heap.NoLimit) (G : s.heap.Ns mainGlobals mg) (hsu : mg "super" = none) {mb : Str → Option Value} (B : s.heap.Ns builtinsNs mb) (hB : ∀ y : Str, y ≠ "__name__" → mb y = bootBuiltins y) (hroom : A.depth + 1 < recursionLimit)
    (hq : ∀ h' tk e dx, EMade s.heap h' e C dx f v → R (.ok (.ret (.ref e))) { s with heap := h', toks := tk }) :
    codeAny (model prog w) A (.call (.ref C) ⟨[v], []⟩) R s := by
  obtain ⟨nm, q, N, bs, bm, sn, sub, ab, col, dd, k0, k1, k2, k3, k5, hC, hbm, hcl⟩ := T.cls
  obtain ⟨hp, g, dr, tk, os⟩ := s
  have k : ∀ b o, hp.get? b = some o → ((hp.push (kdv_tup [v])).push (excO C hp.objs.size)).get? b = some o := fun b o e => Heap.get?_push_of_some _ (Heap.get?_push_of_some _ e)
  have there : ((hp.push (kdv_tup [v])).push (excO C hp.objs.size)).get? (hp.objs.size + 1) = some (excO C hp.objs.size) := by heap_get
  have off : K.lookup (hp.objs.size + 1) = none := by
    cases e : K.lookup (hp.objs.size + 1) with
    | none => rfl
    | some o =>
      have z : hp.get? (hp.objs.size + 1) = some o := X _ _ e
      exact absurd (Nat.lt_of_succ_lt (Heap.lt_size z)) (Nat.lt_irrefl _)
  refine call_own PySem.F.excBase_ValueError (fun X => refsVE_contains X bm hbm) (X _ _ hC) (looks_findIn X T.iC) (fun self => bind_fn X self T.tC) (one_fits v) ?_
  refine e_init (s := ⟨(hp.push (kdv_tup [v])).push (excO C hp.objs.size), g, dr, tk, os⟩) T (X.keeps k) (hlim.keeps k) (G.keeps k) hsu (B.keeps k) hB there off ?_ fun h' tk' dx t1 ⟨k', hx, dn, dne, hns⟩ => ?_
  · show A.depth + 1 < recursionLimit
    exact hroom
  · have old : ∀ b o, hp.get? b = some o → h'.get? b = some o := fun b o e => k' b o (Nat.ne_of_lt (Nat.lt_succ_of_lt (Heap.lt_size e))) (k b o e)
    have z : hp.objs.size + 1 + 1 ≤ dx := by
      have q := dn
      rw [Heap.size_push, Heap.size_push] at q
      exact q
    exact ⟨rfl, hq h' tk' (hp.objs.size + 1) dx ⟨old, Nat.le_succ _, ⟨_, _, hx, rfl, rfl, rfl, rfl⟩, show hp.objs.size ≤ dx by omega, dne, hns⟩⟩
end
end DnX
/-! Dn: exceptions raised, caught, their fields. -/
namespace Dn
open PySem L2 -- names

/-- statements, too -/
structure Fs (t : Tb) (cx : Dn.Cx) (N : List Str) (sc : Scope) (mg : Str → Option Value) (W : Wi) (fi : Nat → Option Fi) (k : Nat) (X : L2.Cx) : Prop extends Fc t cx N sc mg W fi k X where
  tk : Takes X W.w
  stk : X.stack = X.env :: X.outer
  frm : X.env.frame = some X.env.locals
  own : PassesOwn (PySem.model X.prog X.w) X.A X.env X.xe
  fna : X.fn = fun _ => true
/-- what the program's exception classes are: of one field -/
structure XF (prog : Program) (t : Tb) (mg : Str → Option Value) (c : Nat) (x : Str) (i : Nat) : Prop where
  txt : ∃ fI, DnX.ETxt prog t.K (t.xa c) fI (t.nm i)
  ids : t.ids c = [i]
  gC : mg x = some (.ref (t.xa c))
  su : mg "super" = none
  db : (x == ("__debug__" : Str)) = false
theorem relO_one {f : Str} {v : V} {v' : Value} (r : RelV v v') (y : Str) : RelO (List.lookup y [(f, v)]) (if y = f then some v' else none) := by
  rw [List.lookup_cons]
  by_cases h : y = f
  · subst h
    rw [if_pos rfl, beq_self_eq_true]
    exact r
  · rw [if_neg h, show (y == f) = false by simpa using h]
    trivial
section
variable {t : Tb} {cx : Dn.Cx} {N : List Str} {sc : Scope} {mg : Str → Option Value} {W : Wi} {fi : Nat → Option Fi} {k : Nat} {X : L2.Cx} {a b c o tg : Expr} {ea eb ec eo : E} {es : List Expr} {Es : List E} {pos p px apos pos2 : Pos}
/-- C(e) -/
theorem pmk_e {ci i : Nat} {x : Str} {ta : TA} (F : XF X.prog t X.mg ci x i) (hK : X.K = t.K) (hr : Room k X.A) (ha : PA X [a] ta) (hg : Gl X x)
    (he : starEach (a :: []) X.env = (false, eval a X.env) :: starEach [] X.env) :
    PMk X (.Call (.Name x p) [a] [] pos) (fun σ H Q => ta σ H fun vs H1 => ∃ v, vs = [v] ∧ ∀ d, H1 d = none → Q (.ref (t.xa ci)) (some d) (upd H1 d (.xd [(t.nm i, v)]))) := by
  intro pins s σ H Q I q
  obtain ⟨fI, T⟩ := F.txt
  rw [← hK] at T
  refine wpAny_Call_Name_kw (ld_glob I hg F.gC ?_ F.db)
  refine PySem.W.callWith_K (h₀ := X.base) I.ok.mod.kin T.kC (thn (ha.run pos pins s σ H _ I q) fun us s1 hh => ?_) he rfl
  obtain ⟨vs, H1, I1, r1, v, ev, q1⟩ := hh
  subst ev
  refine ⟨I1.kIn, ?_⟩
  obtain ⟨v', rfl, rv⟩ := vals1 r1
  have hlim := I1.nolimit
  obtain ⟨mb, b1, b2⟩ := I1.mod.blt
  have Gk := I1.mod.glob.keeps I1.bk
  have Bk := b1.keeps I1.bk
  have kin := I1.kIn
  obtain ⟨hp, g, dr, tk, os⟩ := s1
  refine wpAny_call (DnX.e_made T kin hlim Gk F.su Bk b2 (by have := hr.dp; omega) fun h' tk' e dx M => ?_)
  show MkP X pins σ Q (.ref e) ⟨h', g, dr, tk', os⟩
  obtain ⟨oe, fv, hoe, hc, hd, hdat, h1⟩ := M.obj
  obtain ⟨G', g1, g2⟩ := restrict h' fun b => decide (b ≠ e)
  have gk : ∀ b, b ≠ e → G'.get? b = h'.get? b := fun b hb => g1 b (decide_eq_true hb)
  have ge : G'.get? e = none := g2 e (by simp)
  have kept : ∀ b u, hp.get? b = some u → G'.get? b = some u := fun b u z => (gk b (Nat.ne_of_lt (Nat.lt_of_lt_of_le (Heap.lt_size z) M.new))).trans (M.keep b u z)
  have ob : ObjOk X.prog X.w (upd H1 dx (.xd [(t.nm i, v)])) G' dx (.xd [(t.nm i, v)]) := ⟨_, M.ns.at (fun u z => (gk dx M.dne).trans z), fun y => relO_one rv y⟩
  have J : Inv X pins σ (upd H1 dx (.xd [(t.nm i, v)])) ⟨G', g, dr, tk', os⟩ := I1.laid (t' := tk') kept M.dbig ob
  refine ⟨e, oe, fv, ⟨G', g, dr, tk', os⟩, _, .ref (t.xa ci), some dx, rfl, J, fun b u z => ?_, ge, hoe, ⟨hc, hd⟩, hdat, h1, ?_, rfl, I1.bare, raises_own T.exC T.tyC, q1 dx (I1.hok.fresh M.dbig)⟩
  · by_cases hb : b = e
    · have z' : G'.get? b = some u := z
      rw [hb, ge] at z'; cases z'
    · exact (gk b hb).symm.trans z
  · rw [upd_ne (Ne.symm M.dne)]
    exact I1.hok.fresh M.new
/-- raise C(e) -/
theorem s_rais (h : Fs t cx N sc mg W fi k X) {ci i : Nat} {x : Str} {xd : XD} (F : XF X.prog t mg ci x i) (hxd : cx.P.xcs[ci]? = some xd) (ha : VA t cx W X [a] [ea]) (hg : sc.names.lookup x = some .globalImplicit)
    (he : starEach (a :: []) X.env = (false, eval a X.env) :: starEach [] X.env) : VS t cx W X (.Raise (some (.Call (.Name x p) [a] [] pos)) none pos2) (.rais ci [ea]) := by
  have F' : XF X.prog t X.mg ci x i := by rw [h.mm]; exact F
  refine PS.weak (ps_raise h.calm h.tk (pmk_e F' h.kk (h.room.room) ha (h.gl hg) he)) fun D σ H q => ?_
  obtain ⟨μ, ρ, S, re, rs, q⟩ := q
  refine ⟨μ, ρ, S, re, rs, (Aft.stm (r := evs cx [ea] ρ S) q).eqn.imp (fun ds S2 μ1 H1 e1 s1 k1 vs rv => ?_) fun x S2 μ1 H1 e1 s1 z cls dd rx => z.2 σ cls dd (re.ext e1) rx⟩
  obtain ⟨k0, k1⟩ := k1
  have hl := evs_len k0
  match ds, hl with
  | [d], _ =>
    obtain ⟨v, rfl, r⟩ := rv.one
    refine ⟨v, rfl, fun dx hdx => ?_⟩
    rw [hxd] at k1
    dsimp only at k1
    split at k1
    · have ef := Ext.fresh (μ := μ1) (o := .xd [(t.nm i, v)]) hdx
      refine k1 μ1 _ ef (s1.fresh hdx) (e1.trans ef) σ _ _ ((re.ext e1).ext ef) ⟨rfl, by rw [F.ids]; rfl, .inr ⟨dx, [v], rfl, ⟨s1.nofresh hdx, s1.nohid hdx⟩, ?_, RDs.ext ef _ rv⟩⟩
      rw [upd_same, F.ids]
      rfl
    · exact k1.elim
end
end Dn
/-! Dn: try .. except C1 as e: .. except C2: .. -/
namespace Dn
open PySem L2 -- names

/-- an except clause: its class, its name (and slot), its suite's reading -/
structure HCl where
  c : Value
  n : Option (Str × Nat)
  ts : Addr → Value → Option Addr → TS
/-- a suite's ends, where its name is gone -/
def goneD (n : Option (Str × Nat)) (D : Ends) : Ends :=
  match n with
  | none => D
  | some p => { nx := fun σ' H' => D.nx (σ'.set p.2 none) H', rt := D.rt, bk := fun σ' H' => D.bk (σ'.set p.2 none) H', ct := fun σ' H' => D.ct (σ'.set p.2 none) H' }
def heldS (n : Option (Str × Nat)) (a : Addr) (σ : L2.St) : L2.St :=
  match n with
  | none => σ
  | some p => σ.set p.2 (some (.ref a))
/-- what the clauses wish of an exception of the body -/
def wHs (K : PySem.W.Frag) (Wout : WX) (D : Ends) : List HCl → WX
  | [] => Wout
  | h :: r => fun cls d σ H => ∃ b, PySem.W.exmOne K cls h.c = some b ∧ (b = true → ∀ a, H a = none → h.ts a cls d (goneD h.n D) (heldS h.n a σ) H) ∧ (b = false → wHs K Wout D r cls d σ H)
inductive HsOk (X : L2.Cx) : List ExceptHandler → List HCl → Prop
  | nil : HsOk X [] []
  | plain {x : Str} {c : Value} {ts : Addr → Value → Option Addr → TS} {st0 : Stmt} {suite : List Stmt} {np hpos : Pos} {hds : List ExceptHandler} {l : List HCl} (hc : Names X x c)
      (hsu : ∀ (a : Addr) (oe : Obj) (cls : Value) (d : Option Addr) (pn : List (Addr × Obj)), Zc cls d oe → (∃ vs, oe.data = .fields vs) → PSs (X.suite a ((a, oe) :: pn)) (st0 :: suite) (ts a cls d)) (r : HsOk X hds l) :
      HsOk X (.ExceptHandler (some (.Name x np)) none (st0 :: suite) hpos :: hds) (⟨c, none, ts⟩ :: l)
  | named {x n : Str} {i : Nat} {c : Value} {ts : Addr → Value → Option Addr → TS} {st0 : Stmt} {suite : List Stmt} {np hpos : Pos} {hds : List ExceptHandler} {l : List HCl} (hc : Names X x c) (hi : X.N[i]? = some n) (hln : X.env.kindOf n = some .local)
      (hsu : ∀ (a : Addr) (oe : Obj) (cls : Value) (d : Option Addr) (pn : List (Addr × Obj)), Zc cls d oe → (∃ vs, oe.data = .fields vs) → PSs (X.suite a ((a, oe) :: pn)) (st0 :: suite) (ts a cls d)) (r : HsOk X hds l) :
      HsOk X (.ExceptHandler (some (.Name x np)) (some n) (st0 :: suite) hpos :: hds) (⟨c, some (n, i), ts⟩ :: l)
section
variable {X : L2.Cx} {body : List Stmt} {hd0 : ExceptHandler} {hds : List ExceptHandler} {l : List HCl} {pos : Pos} {tb : WX → TS} {Wout : WX}
theorem ps_trys (hs : X.stack = X.env :: X.outer) (hf : X.env.frame = some X.env.locals) (hN : X.N.Nodup) (tk : Takes X Wout)
    (hb : ∀ (W : WX) (pn : List (Addr × Obj)) (xe : Value → Shared → Prop), Takes (X.tr pn xe) W → PassesOwn (PySem.model X.prog X.w) X.A X.env xe → PSs (X.tr pn xe) body (tb W))
    (hh : HsOk X (hd0 :: hds) l) : PS X (.Try body (hd0 :: hds) [] [] pos) (fun D σ H => tb (wHs X.K Wout D l) D σ H) := by
  refine ⟨fun pins s σ H D I q => ?_⟩
  have ok := I.ok
  have frs1 : X.A.frames = some (X.env :: X.outer) := by rw [ok.frames, hs]
  refine wpAny_Try_except ?_
  refine wpAny_mono ((hb (wHs X.K Wout D l) (X.pn ++ pins) (fun e s1 => wpAny (PySem.model X.prog X.w) X.A (noteFrame e X.env) (fun _ s2 => wpAny (PySem.model X.prog X.w) X.A (setFlight e none) (fun _ s3 =>
    wpAny (PySem.model X.prog X.w) X.A (handleBy e X.env (hd0 :: hds)) (SP X pins D) X.xe s3) X.xe s2) X.xe s1) (fun u s' xx => ?_) PassesOwn.looking).run [] s σ H D (I.toTry _) q) (fun fl s1 out => ?_) (fun e s1 he => he)
  · obtain ⟨a, B, sI, pins', σ', H', cls, d, rfl, Jt, nb, up, sky, na, os, ag, w⟩ := xx
    have J : Inv X pins σ' H' sI := Jt.ofTry ok
    have sky1 : Sky B (X.env :: X.outer) a (Zc cls d) X.env.locals s'.heap := by rw [← hs]; exact sky
    show wpAny (PySem.model X.prog X.w) X.A (noteFrame (.ref a) X.env) _ _ _
    refine Sky.land Zc.steady frs1 hf sky1 fun h3 fl3 up3 => ?_
    have J3 : Inv X pins σ' H' { s' with heap := h3 } := J.landed nb fl3.1 (up.trans up3) os ag
    obtain ⟨oe3, vs3, he3, hz3, hd3⟩ := fl3.there
    have offFr : a ∉ frs (X.env :: X.outer) := fun hm => by
      obtain ⟨_, ob, eb, hnf⟩ := fl3.2.2.1.mem hm
      rw [he3] at eb; cases eb
      exact hnf _ hd3
    have nL : a ≠ X.env.locals := fun z => offFr (List.mem_filterMap.mpr ⟨X.env, List.mem_cons_self, by rw [hf, z]⟩)
    have nF : a ∉ X.fs := fun hm => by
      obtain ⟨ev1, he, z⟩ := List.mem_filterMap.mp hm
      exact offFr (List.mem_filterMap.mpr ⟨ev1, List.mem_cons_of_mem _ he, z⟩)
    have S3 := J3.suite he3 hd3 na nL nF
    -- the class of a clause is asked
    have asked : ∀ {x : Str} {c : Value} {b : Bool} {np : Pos} {R : Bool → Shared → Prop} {E : Value → Shared → Prop}, Names X x c → PySem.W.exmOne X.K cls c = some b →
        (∀ {Q2 : Value → Shared → Prop}, Q2 c { s' with heap := h3 } → wpAny (PySem.model X.prog X.w) (X.A.mark (some (.ref a))) (eval (.Name x np) X.env) Q2 E { s' with heap := h3 }) := fun {x c b np R E} hc hb1 {Q2} z => by
      obtain ⟨hg, hdb, hm | ⟨hm, hv, hnn⟩⟩ := hc
      · exact ld_glob (X := X.suite a ((a, oe3) :: (X.pn ++ pins))) S3 hg hm z hdb
      · exact ld_blt (X := X.suite a ((a, oe3) :: (X.pn ++ pins))) S3 hg hm hv z hnn hdb
    have LT : PySem.W.Looks (PySem.model X.prog X.w) h3 (typeOf (.ref a)) cls := fun A Q E s k z => wpAny_typeOf_ref (k _ _ he3) (by rw [hz3.1]; exact z)
    have go : ∀ {hds' : List ExceptHandler} {l' : List HCl}, HsOk X hds' l' → wHs X.K Wout D l' cls d σ' H' →
        wpAny (PySem.model X.prog X.w) X.A (handleBy (.ref a) X.env hds') (SP X pins D) X.xe { s' with heap := h3 } := by
      intro hds' l' hk
      induction hk with
      | nil =>
        intro w
        refine wpAny_handleBy_nil ?_
        obtain ⟨_, _, _, oe, vs, T, oT, ts', he, hz, hd, hT, _⟩ := id fl3
        unfold PySem.passOn
        refine wpAny_bind (wpAny_field he hd hT ?_)
        rw [if_neg (show ¬ ((Value.ref T == Value.none) = true) from by simp)]
        have lets : wpAny (PySem.model X.prog X.w) X.A (setFlight (.ref a) X.env.frame) (fun _ s4 => wpAny (PySem.model X.prog X.w) X.A (throw (.ref a) : Sem Flow) (SP X pins D) X.xe s4) X.xe { s' with heap := h3 } := by
          rw [hf]
          refine HandSPX.setFlight_upZ fl3 fun h4 hh4 up4 => wpAny_throw (tk _ _ ?_)
          exact ⟨a, B, sI, pins, σ', H', cls, d, rfl, J, nb, (up.trans up3).trans up4, .inr (.inr (by rw [hs]; exact hh4)), na, os, ag, w⟩
        first
          | exact wpAny_bind (wpAny_pure (wpAny_bind lets))
          | exact wpAny_bind lets
      | @plain x c ts st0 suite np hpos hds2 l2 hc hsu r ih =>
        intro w
        obtain ⟨b, hb1, hyes, hno⟩ := w
        refine wpAny_handleBy_cons (codeAny_handlers_test ?_) (by intro z; cases z)
        have LM := PySem.W.exm_one (M := PySem.model X.prog X.w) (J3.kIn) LT hb1
        refine asked (R := fun _ _ => True) hc hb1 (LM.here ?_)
        cases b with
        | true =>
          refine codeAny_handlers_suite ?_
          refine HandSPX.lands_againZ fl3 fun h4 fl4 up4 => ?_
          have J4 : Inv X pins σ' H' { s' with heap := h4 } := J.landed nb fl4.1 ((up.trans up3).trans up4) os ag
          obtain ⟨oe4, vs4, he4, hz4, hd4⟩ := fl4.there
          have S4 := J4.suite he4 hd4 na nL nF
          refine wpAny_mono ((hsu a oe4 cls d (X.pn ++ pins) hz4 ⟨_, hd4⟩).run [] _ _ H' _ S4 (hyes rfl a na)) (fun fl s6 out => ?_) (fun _ _ z => False.elim z)
          cases fl with
          | ret u =>
            obtain ⟨v6, σ6, H6, S6, r6, q6⟩ := out
            exact ⟨_, _, _, S6.unsuite ok, r6, q6⟩
          | next => obtain ⟨σ6, H6, S6, q6⟩ := out; exact ⟨_, _, S6.unsuite ok, q6⟩
          | brk => obtain ⟨σ6, H6, S6, q6⟩ := out; exact ⟨_, _, S6.unsuite ok, q6⟩
          | cont => obtain ⟨σ6, H6, S6, q6⟩ := out; exact ⟨_, _, S6.unsuite ok, q6⟩
        | false =>
          show wpAny _ X.A (handleBy (.ref a) X.env hds2) _ _ _
          exact ih (hno rfl)
      | @named x n i c ts st0 suite np hpos hds2 l2 hc hi hln hsu r ih =>
        intro w
        obtain ⟨b, hb1, hyes, hno⟩ := w
        refine wpAny_handleBy_cons (codeAny_handlers_test ?_) (by intro z; cases z)
        have LM := PySem.W.exm_one (M := PySem.model X.prog X.w) (J3.kIn) LT hb1
        refine asked (R := fun _ _ => True) hc hb1 (LM.here ?_)
        cases b with
        | true =>
          refine codeAny_handlers_suite_as ?_
          refine HandSPX.lands_againZ fl3 fun h4 fl4 up4 => ?_
          have J4 : Inv X pins σ' H' { s' with heap := h4 } := J.landed nb fl4.1 ((up.trans up3).trans up4) os ag
          obtain ⟨oe4, vs4, he4, hz4, hd4⟩ := fl4.there
          have S4 := J4.suite he4 hd4 na nL nF
          refine store_ok (X := X.suite a ((a, oe4) :: (X.pn ++ pins))) (v := .ref a) S4 hN hi (.inl hln) rfl (fun s5 S5 => ?_) (.inr hln)
          refine wpAny_mono ((hsu a oe4 cls d (X.pn ++ pins) hz4 ⟨_, hd4⟩).run [] s5 _ H' _ S5 (hyes rfl a na)) (fun fl s6 out => ?_) (fun _ _ z => False.elim z)
          have behind : ∀ {σ6 : L2.St} {H6 : Hp} {Q2 : Shared → Prop}, Inv (X.suite a ((a, oe4) :: (X.pn ++ pins))) [] σ6 H6 s6 → (∀ s7, Inv X pins (σ6.set i none) H6 s7 → Q2 s7) →
              wpAny (PySem.model X.prog X.w) X.A (do bindName X.env n .none; unbindBehindTheSuite X.env n hpos) (fun _ s7 => Q2 s7) X.xe s6 := fun {σ6 H6 Q2} S6 hq => gone_ok (S6.unsuite ok) hN hi hln hq
          cases fl with
          | ret u =>
            obtain ⟨v6, σ6, H6, S6, r6, q6⟩ := out
            exact behind S6 fun s7 J7 => ⟨_, _, _, J7, r6, q6⟩
          | next => obtain ⟨σ6, H6, S6, q6⟩ := out; exact behind S6 fun s7 J7 => ⟨_, _, J7, q6⟩
          | brk => obtain ⟨σ6, H6, S6, q6⟩ := out; exact behind S6 fun s7 J7 => ⟨_, _, J7, q6⟩
          | cont => obtain ⟨σ6, H6, S6, q6⟩ := out; exact behind S6 fun s7 J7 => ⟨_, _, J7, q6⟩
        | false =>
          show wpAny _ X.A (handleBy (.ref a) X.env hds2) _ _ _
          exact ih (hno rfl)
    exact go hh w
  · cases fl with
    | next => obtain ⟨σ', H', J', z⟩ := out; exact wpAny_execs_nil ⟨σ', H', J'.ofTry ok, z⟩
    | brk => obtain ⟨σ', H', J', z⟩ := out; exact ⟨σ', H', J'.ofTry ok, z⟩
    | cont => obtain ⟨σ', H', J', z⟩ := out; exact ⟨σ', H', J'.ofTry ok, z⟩
    | ret u => obtain ⟨v, σ', H', J', r, z⟩ := out; exact ⟨v, σ', H', J'.ofTry ok, r, z⟩
end
end Dn
/-! Dn: except suites; the field of an error in hand; try as a statement. -/
namespace Dn
open PySem L2 -- names

/-- what a caught error's class is -/
structure XA (t : Tb) (c : Nat) (xd : XD) : Prop where
  ids : t.ids c = xd.ids
  ga : PySem.W.findIn t.K (.ref (t.xa c)) "__getattribute__" = some (some (.builtin "BaseException.__getattribute__"))
  gg : PySem.W.findIn t.K (.ref (t.xa c)) "__getattr__" = some none
  ex : PySem.W.subIn t.K (.ref (t.xa c)) (.type "BaseException") = some true
  hd : PySem.W.hasDictIn t.K (t.xa c) = true
  no : ∀ f ∈ xd.ids, PySem.W.findIn t.K (.ref (t.xa c)) (t.nm f) = some none
theorem getId_rd {t : Tb} {μ : List Addr} {H : Hp} (inj : ∀ i j, t.nm i = t.nm j → i = j) {f : Nat} : ∀ {ids : List Nat} {ds : List D} {vs : List V} {d : D}, getId f ids ds = some d → RDs t μ H ds vs → ∃ v, (fsOf t ids vs).lookup (t.nm f) = some v ∧ RD t μ H d v ∧ f ∈ ids
  | [], ds, vs, d, e, r => by cases ds <;> (unfold getId at e; cases e)
  | i :: ids, [], vs, d, e, r => by unfold getId at e; cases e
  | i :: ids, x :: ds, vs, d, e, r => by
    obtain ⟨v, vr, rfl, r1, r2⟩ := r
    unfold getId at e
    by_cases h : i = f
    · subst h
      rw [if_pos rfl] at e
      cases e
      refine ⟨v, ?_, r1, List.mem_cons_self⟩
      show List.lookup (t.nm i) ((t.nm i, v) :: _) = _
      rw [List.lookup_cons, beq_self_eq_true]
    · rw [if_neg h] at e
      obtain ⟨w, h1, h2, h3⟩ := getId_rd inj e r2
      refine ⟨w, ?_, h2, List.mem_cons_of_mem _ h3⟩
      show List.lookup (t.nm f) ((t.nm i, v) :: fsOf t ids vr) = _
      rw [List.lookup_cons, show (t.nm f == t.nm i) = false by simpa using fun z => h (inj _ _ z).symm]
      exact h1
section
variable {t : Tb} {cx : Dn.Cx} {N : List Str} {sc : Scope} {mg : Str → Option Value} {W : Wi} {fi : Nat → Option Fi} {k : Nat} {X : L2.Cx} {a : Expr} {pos p : Pos} {body : List Stmt} {SB : List Dn.St} {hds : List ExceptHandler} {hd0 : ExceptHandler} {HS : List Hd}
/-- within a suite -/
abbrev Wi.suite (cu : Cu) : Wi := { w := fun _ _ _ _ => False, cu := some cu }
theorem Fe.suite (h : Fe t cx N sc mg W X) (cu : Cu) {ad : Addr} {pn : List (Addr × Obj)} : Fe t { cx with cur := some cu.x } N sc mg (Wi.suite cu) (X.suite ad pn) where
  kk := h.kk
  nn := h.nn
  nd := h.nd
  ss := h.ss
  mm := h.mm
  un := h.un
  gd := h.gd
  cur := rfl
  nmi := h.nmi
/-- e.f, e the error in hand -/
theorem r_exf (h : Fe t cx N sc mg W X) (xa : ∀ c xd, cx.P.xcs[c]? = some xd → XA t c xd) {cu : Cu} {oe : Obj} {pn : List (Addr × Obj)} {n f : Str} {fid : Nat} (hi : N[cu.i]? = some n) (hv : Vis sc n) (hd : ((n == ("__debug__" : Str)) || (n == ("__classdict__" : Str))) = false) (hf : t.nm fid = f)
    (hz : Zc cu.cls cu.dd oe) (hfl : ∃ vs, oe.data = .fields vs) (hb : attributeBase (.Name n p) f X.env (eval (.Name n p) X.env) = eval (.Name n p) X.env) :
    PE (X.suite cu.a ((cu.a, oe) :: pn)) (.Attribute (.Name n p) f pos) (tE t (Wi.suite cu) (ev { cx with cur := some cu.x } (.exf cu.i fid))) := by
  subst hf
  rw [Bool.or_eq_false_iff] at hd
  have he : PE (X.suite cu.a ((cu.a, oe) :: pn)) (.Name n p) (tVar cu.i) := pe_var (by show X.N[cu.i]? = _; rw [h.nn]; exact hi) (by show Vis X.env.scope n; rw [h.ss]; exact hv) hd.1 hd.2
  refine ⟨fun pins s σ H Q I q => ?_⟩
  obtain ⟨μ, ρ, S, re, rs, q⟩ := q
  obtain ⟨rx, sl⟩ := re.cur cu rfl
  have q1 : Aft t μ H (match ρ[cu.i]? with
    | some none => match cx.P.xcs[cu.x.c]? with
        | some xd => R.of (getId fid xd.ids cu.x.fs) S
        | none => .bad
    | _ => .bad) (fun d _ μ' H' => ∀ v, RD t μ' H' d v → Q v H') (fun x _ μ' H' => ∀ cls dd, RX t μ' H' x cls dd → (Wi.suite cu).w cls dd σ H') := q
  cases z : ρ[cu.i]? with
  | none => rw [z] at q1; exact q1.elim
  | some o =>
    cases o with
    | some d => rw [z] at q1; exact q1.elim
    | none =>
      rw [z] at q1
      have sl := sl z
      cases z2 : cx.P.xcs[cu.x.c]? with
      | none => rw [z2] at q1; exact q1.elim
      | some xd =>
        rw [z2] at q1
        obtain ⟨d, e, q2⟩ := Aft.of q1
        have q3 := q2.now rs
        have A := xa _ _ z2
        obtain ⟨ec, hl, rx⟩ := rx
        rw [A.ids] at rx
        refine attr_of hb (thn (he.run pins s σ H (fun x H1 => x = .ref cu.a ∧ H1 = H) I ⟨_, sl, rfl, rfl⟩) fun u s1 hh => ?_)
        obtain ⟨x, H1, I1, ru, ex, eH⟩ := hh
        subst ex eH
        obtain rfl : u = Value.ref cu.a := ru
        rcases rx with ⟨h0, _⟩ | ⟨dx, vs, h1, h2, h3, h4⟩
        · exfalso
          rw [h0] at e
          unfold getId at e
          split at e <;> first | cases e | contradiction
        · obtain ⟨v, l1, l2, l3⟩ := getId_rd h.nmi e h4
          obtain ⟨ha, _⟩ := I1.pin (cu.a, oe) (List.mem_append_left _ List.mem_cons_self)
          obtain ⟨fs, hdat⟩ := hfl
          obtain ⟨mA, hns, hr⟩ := (show ObjOk X.prog X.w H1 s1.heap dx (.xd (fsOf t xd.ids vs)) from I1.hok dx _ h3)
          obtain ⟨od, ho, hlk⟩ := lookIn_ns hns
          obtain ⟨w, hw, rw1⟩ := RelO.some_of (v := v) (o := mA (t.nm fid)) (by rw [← l1]; exact hr (t.nm fid))
          have K1 : X.K.In s1.heap := I1.kIn
          rw [h.kk] at K1
          have ec' : oe.cls = .ref (t.xa cu.x.c) := hz.1.trans ec
          have J : PySem.W.InstAt s1.heap cu.a oe (t.xa cu.x.c) (some od) := ⟨ha, ec', by unfold PySem.W.notCls; rw [hdat] <;> rfl, by rw [hz.2, h1]; exact ho⟩
          exact HandSPX.exc_get K1 J A.ga A.gg A.ex (PySem.W.findObj_own A.hd (A.no fid l3) rfl (by rw [hlk, hw])) (handed_of rw1) ⟨v, H1, I1.tok _, rw1, q3 v l2⟩
/-- the clauses, one by one -/
inductive HdR (t : Tb) (cx : Dn.Cx) : List Hd → List HCl → Prop
  | nil : HdR t cx [] []
  | plain {c : Nat} {SH : List Dn.St} {hs : List Hd} {l : List HCl} (r : HdR t cx hs l) :
      HdR t cx (.mk c none SH :: hs) (⟨.ref (t.xa c), none, fun a cls d D σ H => ∃ x j, tS t (Wi.suite ⟨x, cls, d, j, a⟩) (sts SH { cx with cur := some x }) D σ H⟩ :: l)
  | named {c i : Nat} {n : Str} {SH : List Dn.St} {hs : List Hd} {l : List HCl} (r : HdR t cx hs l) :
      HdR t cx (.mk c (some i) SH :: hs) (⟨.ref (t.xa c), some (n, i), fun a cls d D σ H => ∃ x, tS t (Wi.suite ⟨x, cls, d, i, a⟩) (sts SH { cx with cur := some x }) D σ H⟩ :: l)
/-- a clause's class, among the program's own -/
abbrev Exm (t : Tb) (P : Prog) : Prop := ∀ c1 xd c2, P.xcs[c1]? = some xd → c2 < P.xcs.length → PySem.W.exmOne t.K (.ref (t.xa c1)) (.ref (t.xa c2)) = some (xd.sup.contains c2)
theorem han_ok (em : Exm t cx.P) (hcu : W.cu = none) {D1 : Ends} : ∀ {HS : List Hd} {l : List HCl}, HdR t cx HS l → (∀ h ∈ HS, match h with | .mk c _ _ => c < cx.P.xcs.length) → ∀ {x : Xn} {ρ : Env} {S : Sto} {μ : List Addr} {H : Hp} {σ : L2.St} {cls : Value} {dd : Option Addr},
    Aft t μ H (han HS cx x ρ S) (fun fl _ μ' H' => endS t W D1 fl μ' H') (fun _ _ _ _ => False) → RE t none μ H ρ σ → RS t μ S H → RX t μ H x cls dd → wHs t.K W.w D1 l cls dd σ H := by
  intro HS l r
  induction r with
  | nil =>
    intro _ x ρ S μ H σ cls dd q re rs rx
    unfold han at q
    exact Aft.now (a := Fl.xc x ρ) rs q σ cls dd (by rw [hcu]; exact re) rx
  | @plain c SH hs l r ih =>
    intro hc x ρ S μ H σ cls dd q re rs rx
    have hcl := hc _ List.mem_cons_self
    unfold han at q
    split at q
    · exact q.elim
    · rename_i xd hx
      have e := em _ _ c hx hcl
      refine ⟨xd.sup.contains c, by rw [rx.1]; exact e, fun hb a na => ?_, fun hb => ?_⟩
      · rw [hb, if_pos rfl] at q
        refine ⟨x, ρ.length, μ, ρ, S, ⟨fun c hc => ?_, re.len, re.get⟩, rs, (Aft.bind (r := sts SH { cx with cur := some x } ρ S) q).imp (fun fl S2 μ2 H2 e2 s2 k => ?_) fun _ _ _ _ _ _ z => z⟩
        · cases hc
          exact ⟨rx, fun z => by rw [List.getElem?_eq_none (Nat.le_refl _)] at z; cases z⟩
        · cases fl with
          | nx ρ2 => exact fun σ' re' => Aft.now (a := Fl.nx ρ2) s2 k e2 σ' (by rw [hcu]; exact ⟨fun _ z => (nomatch z), re'.len, re'.get⟩)
          | bk ρ2 => exact fun σ' re' => Aft.now (a := Fl.bk ρ2) s2 k e2 σ' (by rw [hcu]; exact ⟨fun _ z => (nomatch z), re'.len, re'.get⟩)
          | ct ρ2 => exact fun σ' re' => Aft.now (a := Fl.ct ρ2) s2 k e2 σ' (by rw [hcu]; exact ⟨fun _ z => (nomatch z), re'.len, re'.get⟩)
          | rt d => exact Aft.now (a := Fl.rt d) s2 k e2
          | xc x ρ2 => exact k.elim
      · rw [hb] at q
        exact ih (fun h hm => hc h (List.mem_cons_of_mem _ hm)) q re rs rx
  | @named c i n SH hs l r ih =>
    intro hc x ρ S μ H σ cls dd q re rs rx
    have hcl := hc _ List.mem_cons_self
    unfold han at q
    split at q
    · exact q.elim
    · rename_i xd hx
      have e := em _ _ c hx hcl
      refine ⟨xd.sup.contains c, by rw [rx.1]; exact e, fun hb a na => ?_, fun hb => ?_⟩
      · rw [hb, if_pos rfl] at q
        have re2 := re.unset i (some (.ref a))
        refine ⟨x, μ, ρ.set i none, S, ⟨fun c hc => ?_, re2.len, re2.get⟩, rs, (Aft.bind (r := sts SH { cx with cur := some x } (unO (some i) ρ) S) q).imp (fun fl S2 μ2 H2 e2 s2 k => ?_) fun _ _ _ _ _ _ z => z⟩
        · cases hc
          refine ⟨rx, fun z => ?_⟩
          have hl : i < ρ.length := by
            have := (List.getElem?_eq_some_iff.mp z).1
            rw [List.length_set] at this; exact this
          exact List.getElem?_set_self (by rw [← re.len]; exact hl)
        · cases fl with
          | nx ρ2 => exact fun σ' re' => Aft.now (a := Fl.nx (ρ2.set i none)) s2 k e2 _ (by rw [hcu]; exact RE.unset ⟨fun _ z => (nomatch z), re'.len, re'.get⟩ i none)
          | bk ρ2 => exact fun σ' re' => Aft.now (a := Fl.bk (ρ2.set i none)) s2 k e2 _ (by rw [hcu]; exact RE.unset ⟨fun _ z => (nomatch z), re'.len, re'.get⟩ i none)
          | ct ρ2 => exact fun σ' re' => Aft.now (a := Fl.ct (ρ2.set i none)) s2 k e2 _ (by rw [hcu]; exact RE.unset ⟨fun _ z => (nomatch z), re'.len, re'.get⟩ i none)
          | rt d => exact Aft.now (a := Fl.rt d) s2 k e2
          | xc x ρ2 => exact k.elim
      · rw [hb] at q
        exact ih (fun h hm => hc h (List.mem_cons_of_mem _ hm)) q re rs rx
/-- the context of a try's body -/
theorem Fs.tr (h : Fs t cx N sc mg W fi k X) {W1 : WX} {pn : List (Addr × Obj)} {xe : Value → Shared → Prop} (tk : Takes (X.tr pn xe) W1) (po : PassesOwn (PySem.model X.prog X.w) X.A X.env xe) : Fs t cx N sc mg { w := W1, cu := W.cu } fi k (X.tr pn xe) where
  kk := h.kk
  nn := h.nn
  nd := h.nd
  ss := h.ss
  mm := h.mm
  un := h.un
  gd := h.gd
  cur := h.cur
  nmi := h.nmi
  calm := h.calm
  nocu := h.nocu
  room := h.room
  pass := fun σ => passAt (X := X.tr pn xe) (W := W1) tk σ
  fn := h.fn
  bd := h.bd
  tk := tk
  stk := h.stk
  frm := h.frm
  own := po
  fna := h.fna
theorem s_tri (h : Fs t cx N sc mg W fi k X) (em : Exm t cx.P) {l : List HCl} (hb : ∀ (W1 : WX) (pn : List (Addr × Obj)) (xe : Value → Shared → Prop), Fs t cx N sc mg { w := W1, cu := W.cu } fi k (X.tr pn xe) → VSs t cx { w := W1, cu := W.cu } (X.tr pn xe) body SB)
    (hh : HsOk X (hd0 :: hds) l) (hr : HdR t cx HS l) (hc : ∀ h ∈ HS, match h with | .mk c _ _ => c < cx.P.xcs.length) : VS t cx W X (.Try body (hd0 :: hds) [] [] pos) (.tri SB HS) := by
  refine PS.weak (ps_trys (tb := fun W1 => tS t { w := W1, cu := W.cu } (sts SB cx)) h.stk h.frm (by rw [h.nn]; exact h.nd) h.tk (fun W1 pn xe tk po => hb W1 pn xe (h.tr tk po)) hh) fun D σ H q => ?_
  obtain ⟨μ, ρ, S, re, rs, q⟩ := q
  refine ⟨μ, ρ, S, re, rs, (Aft.bind (r := sts SB cx ρ S) q).imp (fun fl S2 μ1 H1 e1 s1 k1 => ?_) fun _ _ _ _ _ _ z => z⟩
  cases fl with
  | nx ρ' => exact Aft.now (a := Fl.nx ρ') s1 k1 e1
  | bk ρ' => exact Aft.now (a := Fl.bk ρ') s1 k1 e1
  | ct ρ' => exact Aft.now (a := Fl.ct ρ') s1 k1 e1
  | rt d => exact Aft.now (a := Fl.rt d) s1 k1 e1
  | xc x ρ' =>
    intro σ' cls dd re' rx
    rw [h.kk]
    have re2 : RE t none μ1 H1 ρ' σ' := by
      have z : RE t W.cu μ1 H1 ρ' σ' := re'
      rw [h.nocu] at z; exact z
    exact han_ok em h.nocu hr hc (Aft.imp k1 (fun _ _ _ _ e2 _ z => z (e1.trans e2)) fun _ _ _ _ e2 _ z => z (e1.trans e2)) re2 s1 rx
end
end Dn
/-! Dn: a def of the program keeps what its tree form says. -/
namespace Dn
open PySem L2 PyProof.Rows PySem.Spec -- names

theorem finX_ok {t : Tb} {μ0 μ : List Addr} {H0 H : Hp} {S : Sto} {x : Xn} {k : D → Sto → List Addr → Hp → Prop} {kx : Xn → Sto → List Addr → Hp → Prop} (h : Aft t μ0 H0 (finX μ0.length x S) k kx)
    (e : Ext μ0 H0 μ H) (s : RS t μ S H) {cls : Value} {dd : Option Addr} (r : RX t μ H x cls dd) : ∃ S' μ', kx x S' μ' H ∧ RX t μ' H x cls dd := by
  unfold finX at h
  split at h
  · rename_i hk
    rw [Bool.and_eq_true] at hk
    refine ⟨_, _, h _ H e.shrink (s.shrink hk.1), ?_⟩
    obtain ⟨r1, r2, r3⟩ := r
    refine ⟨r1, r2, ?_⟩
    rcases r3 with r3 | ⟨d, vs, h1, h2, h3, h4⟩
    · exact .inl r3
    · exact .inr ⟨d, vs, h1, ⟨take_not h2.1, h2.2⟩, h3, RDs.shrink _ hk.2 h4⟩
  · exact ⟨_, _, h _ H e s, r⟩
theorem re_start {t : Tb} {μ : List Addr} {H : Hp} {N : List Str} {ds : List D} {vs : List V} (r : RDs t μ H ds vs) : RE t none μ H (ds.map some ++ List.replicate (N.length - ds.length) none) (L2.start N vs) where
  cur := fun _ z => nomatch z
  len := by unfold L2.start; rw [List.length_append, List.length_append, List.length_map, List.length_map, List.length_replicate, List.length_replicate, r.length]
  get := fun i d e => by
    by_cases hi : i < ds.length
    · rw [List.getElem?_append_left (by rw [List.length_map]; exact hi), List.getElem?_map] at e
      obtain ⟨d', h1, h2⟩ := map_of e
      cases h2
      obtain ⟨v, h3, h4⟩ := r.get h1
      refine ⟨v, ?_, h4⟩
      unfold L2.start
      rw [List.getElem?_append_left (by rw [List.length_map, ← r.length]; exact hi), List.getElem?_map, h3]
      rfl
    · rw [List.getElem?_append_right (by rw [List.length_map]; omega), List.getElem?_replicate] at e
      split at e <;> cases e
section
variable {prog : Program} {w : World} {K : PySem.W.Frag} {mg : Str → Option Value} {base : Heap} {t : Tb} {P : Prog} {wf n : Nat} {fi : Nat → Option Fi}
theorem spC_len {f : Nat} {fd : FD} {vs : List V} {H : Hp} {Q : VK} {E1 : XK} (hf : P.fns[f]? = some fd) (h : spC t (callF P wf (n + 1)) f vs H Q E1) : vs.length = fd.np := by
  obtain ⟨xi, μ, S, ds, rs, r, q⟩ := h
  unfold callF at q
  rw [hf] at q
  dsimp only at q
  split at q
  · rename_i hl
    rw [← r.length]; exact hl
  · exact q.elim
/-- the body keeps it: the def does -/
theorem okG {f : Nat} {fdn : FD} {x qual : Str} {st : Stmt} {fa : Addr} {fd : FuncData} {N ps : List Str} {k : Nat} (hf : P.fns[f]? = some fdn) (F : Fun K x qual st fa fd) (sco : FnScope N ps (defScope st)) (hps : ps.length = fdn.np) (hN : N.length = fdn.nv)
    (hK : K = t.K) (inj : ∀ i j, t.nm i = t.nm j → i = j)
    (fns : ∀ f i, fi f = some i → FnG prog w K mg base k (t.fa f) i.fd i.ps (spC t (callF P wf n) f)) (bds : ∀ f i, fi f = some i → Binds K i.fd i.ps [])
    (hb : ∀ (xi : List Addr) (W : Wi) (X : L2.Cx), X.prog = prog → X.K = K → Fs { t with xi := xi } ⟨P, callF P wf n, wf, none⟩ N (defScope st) mg W fi k X → VSs { t with xi := xi } ⟨P, callF P wf n, wf, none⟩ W X (defBody st) fdn.body) :
    FnG prog w K mg base (k + 2) fa fd ps (spC t (callF P wf (n + 1)) f) := by
  obtain ⟨oc, od, kV, doc, pm, an, cdv, ct, osl, rfl, lk, hcd⟩ := F.ex
  refine ⟨fun vs H Q E h => (spC_len hf h).trans hps.symm, fun A outer s H args us vs Q E hr e0 hbind r hsp => ?_⟩
  have hl : vs.length = ps.length := (spC_len hf hsp).trans hps.symm
  have kin : K.In s.heap := e0.mod.kin.keeps fun b o e => (e0.bs b o e).1
  have room : s.heap.NoLimit := e0.mod.nolimit.keeps fun b o e => (e0.bs b o e).1
  have kinds : ∀ y ∈ ps.zip us, (defScope st).names.lookup y.1 = some .local ∨ ((defScope st).names.lookup y.1 = some .cell ∧ ((cellsFrom (s.heap.objs.size + 1) (defScope st).names []).lookup y.1).isSome = true) := fun ⟨nm, v⟩ hy => by
    rcases sco.par nm (List.of_mem_zip hy).1 with z | z
    · exact .inl z
    · exact .inr ⟨z, PySem.W.cellsFrom_some _ _ _ (.inl z)⟩
  refine codeAny_call_function hr.room.depth (kin _ _ lk) rfl sco.co sco.gen rfl (PySem.W.codeRec_of kin hcd) (hbind _ _ _ _ ?_)
  refine wpAny_newFunctionEnv_cells sco.kind kinds fun env he s1 x1 => ?_
  subst he
  refine ⟨room.keeps x1.toInCall.keep, codeAny_func ?_⟩
  have I : Inv (cxOf (L2.CX prog w) prog w K mg base N qual (defScope st) fa cdv A outer s H E) [] (L2.start N vs) H s1 := inv_start sco hr.room.hd e0 hl r x1
  obtain ⟨xi, μ, S, ds, rs, rd, q⟩ := hsp
  have X0 : Fs { t with xi := xi } ⟨P, callF P wf n, wf, none⟩ N (defScope st) mg { w := fun cls d _ H => E cls d H } fi k (cxOf (L2.CX prog w) prog w K mg base N qual (defScope st) fa cdv A outer s H E) :=
    { kk := hK, nn := rfl, nd := sco.nd, ss := rfl, mm := rfl, un := (by have := (hr.deeper (envOfC qual (defScope st) s.heap.objs.size fa cdv)).room.un; show (A.deeper _).units + 65 < _; omega), gd := hr.gd, cur := rfl, nmi := inj, calm := rfl, nocu := rfl,
      room := hr.deeper _, pass := fun σ => passAt (takes_of rfl rfl rfl rfl) σ, fn := fns, bd := bds, tk := takes_of rfl rfl rfl rfl, stk := rfl, frm := rfl, own := passes_of rfl, fna := rfl }
  have body := hb xi _ _ rfl rfl X0
  refine wpAny_mono (body.run [] s1 (L2.start N vs) H { nx := fun _ H' => Q .non H', rt := Q } I ?_) (fun fl s' hs => ?_) fun e s' hs => hs
  · -- what the tree form says
    refine ⟨μ, _, S, re_start (N := N) rd, rs, ?_⟩
    unfold callF at q
    rw [hf] at q
    dsimp only at q
    have hdl : ds.length = fdn.np := by rw [rd.length, hl, hps]
    rw [if_pos hdl] at q
    unfold runF at q
    rw [← hN] at q
    have hm : S.length = μ.length := rs.len.symm
    rw [hm] at q
    cases z : sts fdn.body ⟨P, callF P wf n, wf, none⟩ (ds.map some ++ List.replicate (N.length - ds.length) none) S with
    | bad => rw [z] at q; exact q.elim
    | exc y S2 => rw [z] at q; exact q.elim
    | ok fl S2 =>
      rw [z] at q
      intro μ1 H1 e1 s1'
      cases fl with
      | nx ρ' =>
        intro σ' _
        obtain ⟨d', S', μ', h1, h2⟩ := fin_ok (d := .non) q e1 s1' (v := .non) rfl
        exact h1 _ h2
      | rt d =>
        intro v rv
        obtain ⟨d', S', μ', h1, h2⟩ := fin_ok q e1 s1' rv
        exact h1 _ h2
      | bk ρ' => exact q.elim
      | ct ρ' => exact q.elim
      | xc y ρ' =>
        intro σ' cls dd _ rx
        obtain ⟨S', μ', h1, h2⟩ := finX_ok q e1 s1' rx
        exact h1 _ _ h2
  · have done : ∀ {σ' : L2.St} {H' : Hp} {v : V} {u : Value}, Inv (cxOf (L2.CX prog w) prog w K mg base N qual (defScope st) fa cdv A outer s H E) [] σ' H' s' → RelV v u → Q v H' → CE outer prog w H s Q u s' :=
      fun {σ' H' v u} J rv qv => ⟨v, H', J.os, J.bare, J.base, J.hok, rv, qv⟩
    cases fl with
    | ret u =>
      obtain ⟨v, σ', H', J, rv, qv⟩ := hs
      exact done J rv qv
    | next =>
      obtain ⟨σ', H', J, qv⟩ := hs
      exact done (v := V.non) (u := Value.none) J rfl qv
    | brk =>
      obtain ⟨_, _, _, z⟩ := hs
      exact z.elim
    | cont =>
      obtain ⟨_, _, _, z⟩ := hs
      exact z.elim
end
end Dn
/-! Dn: the law's own end. -/
namespace Dn
open PySem L2 PyProof.Rows PySem.Spec -- names

theorem law_runs {P : Program} {w : World} {K : PySem.W.Frag} {mg mb : Str → Option Value} {k : Nat} {fa a : Addr} {fd : FuncData} {x : Str} {sp : Sp} {s1 : Shared} {vs : List Value} {ns : List Int}
    (KX : K.In s1.heap) (hns : s1.heap.Ns mainGlobals mg) (hb : s1.heap.Ns builtinsNs mb) (hbb : ∀ x : Str, x ≠ "__name__" → mb x = bootBuiltins x) (hlim : s1.heap.NoLimit) (hg : s1.gens = #[])
    (ha : s1.heap.get? a = some { cls := .type "list", data := .seq vs.toArray }) (hi : IntsAre vs ns) (hl : ns.length ≤ sizeLine) (hr : RoomG k callerA)
    (F : ∀ base : Heap, K.In base → base.Ns mainGlobals mg → FnG P w K mg base k fa fd [x] sp) (hbind : ∀ (s : Shared) (u : Value), BindsTo s fd ⟨[u], []⟩ [(x, u)])
    (hsp : ∀ H : Hp, Only H → SqL K H a (ns.map V.int) → sp [.ref a] H (fun v _ => v = .bl true) fun _ _ _ => False) :
    codeAny (PySem.model P w) callerA (.call (.ref fa) ⟨[.ref a], []⟩) (fun r s' => r = .ok (.ret (.bool true)) ∧ OldK s1.heap s'.heap ∧ s'.os = s1.os ∧ AllBare s'.gens) s1 := by
  have vals := vals_ints hi
  have many := hi.length
  have from_ : ∀ H : Hp, Only H → SqL K H a (ns.map V.int) → HOk P w H s1.heap → (∀ b, H b ≠ none → b = a) → (H a ≠ none → K.lookup a = none) →
      codeAny (PySem.model P w) callerA (.call (.ref fa) ⟨[.ref a], []⟩) (fun r s' => r = .ok (.ret (.bool true)) ∧ OldK s1.heap s'.heap ∧ s'.os = s1.os ∧ AllBare s'.gens) s1 := by
    intro H hO hS hok only hK
    have low : ∀ {b : Addr} {u : Obj}, s1.heap.get? b = some u → H b = none → (hidT s1.heap H).get? b = some u := fun e n => hidT_get e n
    have noDict : ∀ {b : Addr} {u : Obj} {es : Array DictEntry} {ep : Nat}, s1.heap.get? b = some u → u.data = .dict es ep → H b = none := fun {b u es ep} e d => by
      cases z : H b with
      | none => rfl
      | some v =>
        have eb := only b (by rw [z]; simp)
        subst eb
        rw [ha] at e; cases e
        have d' : Data.seq vs.toArray _ = Data.dict es ep := d
        cases d'
    have names : ∀ {b : Addr} {m : Str → Option Value}, s1.heap.Ns b m → (hidT s1.heap H).Ns b m := fun {b m} ⟨u, es, ep, e, d, r⟩ => ⟨u, es, ep, low e (noDict e d), d, r⟩
    have kin : K.In (hidT s1.heap H) := fun b u e => low (KX b u e) (by
      cases z : H b with
      | none => rfl
      | some v =>
        have eb := only b (by rw [z]; simp)
        subst eb
        rw [hK (by rw [z]; simp)] at e; cases e)
    have hM : Mod K mg (hidT s1.heap H) := ⟨kin, names hns, ⟨mb, names hb, hbb⟩, let ⟨mc, h1, h2⟩ := hlim; ⟨mc, names h1, h2⟩⟩
    have e0 : Env0 P w K mg (hidT s1.heap H) callerA [] s1 H := ⟨rfl, hM, fun b u e => of_hidT e, Nat.le_of_eq (hidT_size _ _), trivial, fun b hb => absurd (show b ∈ ([] : List Addr) from hb) (by simp), hok, .of_eq hg⟩
    refine codeAny_mono ((F _ kin (names hns)).run callerA [] s1 H ⟨[.ref a], []⟩ [.ref a] [.ref a] _ _ hr e0 (hbind s1 (.ref a)) (.cons rfl .nil) (hsp H hO hS)) fun r s' out => ?_
    cases r with
    | error e =>
      have z : L2.CX P w [] H s1 (fun _ _ _ => False) e s' := out
      obtain ⟨_, _, _, _, _, _, _, _, _, _, _, _, f⟩ := z
      exact f.elim
    | ok fl =>
      cases fl with
      | next => exact False.elim out
      | brk => exact False.elim out
      | cont => exact False.elim out
      | ret u =>
        obtain ⟨v, H', os, bare, un, hok', rv, q⟩ := out
        have q' : v = .bl true := q
        subst q'
        obtain rfl : u = Value.bool true := rv
        refine ⟨rfl, OldK.of_keep fun b u e => ?_, os, bare⟩
        cases z : H b with
        | none => exact un.keep b u e z (by intro y; exact absurd (show b ∈ ([] : List Addr) from y) (by simp)) (by simp)
        | some v =>
          rcases hO b with y | ⟨ob, xs, y⟩
          · rw [z] at y; cases y
          · obtain ⟨e1, _⟩ := hok b _ y
            obtain ⟨e2, _⟩ := hok' b _ (un.frzs b ob _ y)
            rw [e] at e1; cases e1
            exact e2
  cases hk : K.lookup a with
  | some u =>
    have e := KX a u hk
    rw [ha] at e
    cases e
    exact from_ (fun _ => none) (fun _ => .inl rfl) (.inr ⟨_, vs.toArray, _, hk, rfl, rfl, rfl, by rw [List.size_toArray, many]; exact hl, by simpa using vals⟩) (fun b u z => nomatch (show (none : Option HO) = some u from z)) (fun b z => absurd rfl z) fun z => absurd rfl z
  | none =>
    refine from_ (fun b => if b = a then some (.frz { cls := .type "list", data := .seq vs.toArray } (.lst (ns.map V.int))) else none) (fun b => ?_) (.inl (.inr ⟨{ cls := .type "list", data := .seq vs.toArray }, if_pos rfl⟩)) (fun b u z => ?_) (fun b z => ?_) fun _ => hk
    · by_cases eb : b = a
      · exact .inr ⟨_, _, if_pos eb⟩
      · exact .inl (if_neg eb)
    · by_cases eb : b = a
      · have z' := (if_pos eb).symm.trans z
        cases z'
        subst eb
        exact ⟨ha, by rw [List.length_map]; exact hl, vs, _, vals, ha⟩
      · have z' := (if_neg eb).symm.trans z
        cases z'
    · by_cases eb : b = a
      · exact eb
      · exact absurd (if_neg eb) z
/-- the goal behind the head -/
theorem walkG {l : PySem.W.OpenLaw} {n k : Nat} {q : Program} {loose : List Str} {XP : (Str → Option Value) → Heap → Prop} {YP : World → Heap → Prop} {d : DefRec} {K : Params → PySem.W.Frag} {sp : World → Sp} {x : Str}
    (hn : l.most = some n) (hn2 : n ≤ sizeLine) (hdf : d.params.defaults = []) (hr : RoomG k callerA)
    (hY : ∀ (w : World) (h : Heap), YP w h → (K w.params).In h)
    (F : ∀ (w : World) (mg : Str → Option Value) (fa : Addr) (h : Heap), (K w.params).In h → h.Ns mainGlobals mg → mg d.name = some (.ref fa) →
      ∃ fd : FuncData, (∀ (s : Shared) (u : Value), BindsTo s fd ⟨[u], []⟩ [(x, u)]) ∧
        ∀ base : Heap, (K w.params).In base → base.Ns mainGlobals mg → FnG l.prog w (K w.params) mg base k fa fd [x] (sp w))
    (hsp : ∀ (w : World) (H : Hp) (a : Addr) (ns : List Int), ns.length ≤ n → Only H → SqL (K w.params) H a (ns.map V.int) → sp w [.ref a] H (fun v _ => v = .bl true) fun _ _ _ => False) :
    PySem.W.WalkO q loose XP YP l.row.toRowW d [] (fun f vs => PySem.call f vs) := by
  refine Att.attach_call hn hdf fun w s0 s1 mg mb fa o pm cd doc a vs ns G Y ho hd hcd hmg hobj hints hlen hg => ?_
  have KX := hY w _ Y
  obtain ⟨fd, hb, hF⟩ := F w mg fa _ KX G.T.g hmg
  exact law_runs KX G.T.g G.T.b G.T.builtins G.T.nolimit hg hobj hints (Nat.le_trans hlen hn2) hr hF hb fun H hO hS => hsp w H a ns hlen hO hS
/-- what is to be shown of the tree form: at every script the law's answer is True -/
theorem sp_law {K : PySem.W.Frag} {t : Tb} {call : Nat → List D → Sto → R D} {f : Nat} (hK : K = t.K) (hxi : t.xi = []) {H : Hp} {a : Addr} {ns : List Int} (hO : Only H) (hl : ns.length ≤ 1000) (hS : SqL K H a (ns.map V.int)) (h : ∃ S', call f [.scr (ns.map .int)] [] = .ok (.bl true) S') :
    spC t call f [.ref a] H (fun v _ => v = .bl true) fun _ _ _ => False := by
  obtain ⟨S', e⟩ := h
  refine ⟨[], [], [], [.scr (ns.map .int)], ⟨rfl, List.nodup_nil, fun l o a e => by simp at e, fun a h => by simp at h, fun a h => by simp at h, fun o h => by simp at h⟩, ⟨_, _, rfl, ⟨a, ns.map V.int, rfl, ?_, rd_ints ns⟩, rfl⟩, ?_⟩
  · rw [hK] at hS
    rcases hS with h | h
    · exact .inl ⟨⟨by simp, by simp, by rw [List.length_map, sizeLine_eq]; omega⟩, h⟩
    · exact .inr (.inr h)
  · rw [e]
    exact fun μ' H' _ _ v r => r
end Dn
/-! Dn: the rules, as the printed proofs name them. -/
namespace Dn
open PySem L2 PyProof.Rows PySem.Spec -- names

structure Cal (K : PySem.W.Frag) (fa : Nat → Addr) (mg : Str → Option Value) (fi : Nat → Option Fi) (f : Nat) (x : Str) : Prop where
  ex : ∃ i, fi f = some i ∧ i.a = fa f ∧ i.x = x ∧ FiOk K mg i
section
variable {t : Tb} {cx : Dn.Cx} {N : List Str} {sc scope : Scope} {mg : Str → Option Value} {W : Wi} {fi : Nat → Option Fi} {k : Nat} {X : L2.Cx} {tg iter elt a b c o : Expr} {ifs es : List Expr} {ei ee ea eb ec eo : E} {Es : List E} {te : Option Te} {t1 : Te} {T1 : T} {pos p px spos py apos pos2 : Pos} {own : List (Str × Nat)} {vs : List Nat}
  {body : List Stmt} {SB SH : List Dn.St} {hds : List ExceptHandler} {hd0 : ExceptHandler} {HS : List Hd} {prog : Program}
theorem r_callF (h : Fc t cx N sc mg W fi k X) {f : Nat} {x : Str} (C : Cal t.K t.fa mg fi f x) (hg : sc.names.lookup x = some .globalImplicit) (ha : VA t cx W X (a :: es) Es)
    (he : starEach (a :: es) X.env = (false, eval a X.env) :: starEach es X.env) (hpl : (backTo pos (starEach es X.env)).any (·.1) = false) : VE t cx W X (.Call (.Name x p) (a :: es) [] pos) (.call f Es) := by
  obtain ⟨i, h1, h2, h3, h4⟩ := C.ex
  subst h3
  exact r_call h h1 h2 (by rw [h.kk]; exact h4) hg ha he hpl
theorem r_callF0 (h : Fc t cx N sc mg W fi k X) {f : Nat} {x : Str} (C : Cal t.K t.fa mg fi f x) (hg : sc.names.lookup x = some .globalImplicit) : VE t cx W X (.Call (.Name x p) [] [] pos) (.call f []) := by
  obtain ⟨i, h1, h2, h3, h4⟩ := C.ex
  subst h3
  exact r_call0 h h1 h2 (by rw [h.kk]; exact h4) hg
/-- the order of the stores hangs on the scope alone -/
theorem sw_env {ts : List Expr} {v : Expr} {e : PySem.Env} (h : e.scope = sc) : swappedStores ts v e = swappedStores ts v (envOfC "" sc 0 0 .none) := by
  have h1 : ∀ x, e.kindOf x = (envOfC "" sc 0 0 .none).kindOf x := fun x => by
    show e.scope.names.lookup x = sc.names.lookup x
    rw [h]
  have h2 : e.blockKind = (envOfC "" sc 0 0 .none).blockKind := by
    show (if e.scope.kind.isAnnotationScope then .function else e.scope.kind) = (if sc.kind.isAnnotationScope then .function else sc.kind)
    rw [h]
  unfold swappedStores
  simp only [h1, h2]
theorem sx_env {tg : Expr} {v : Expr} {l : Nat} {e : PySem.Env} (h : e.scope = sc) : swapsWith v (some tg) l e = swapsWith v (some tg) l (envOfC "" sc 0 0 .none) := by
  have h1 : ∀ x, e.kindOf x = (envOfC "" sc 0 0 .none).kindOf x := fun x => by
    show e.scope.names.lookup x = sc.names.lookup x
    rw [h]
  have h2 : e.blockKind = (envOfC "" sc 0 0 .none).blockKind := by
    show (if e.scope.kind.isAnnotationScope then .function else e.scope.kind) = (if sc.kind.isAnnotationScope then .function else sc.kind)
    rw [h]
  unfold swapsWith
  split <;> rename_i z
  · rw [h2]
    cases tg <;> first | rfl | (dsimp only; rw [h1])
  · rfl
variable {y x z : Str} {pt pz : Pos} {d : Expr}
theorem s_asgB (h : Fe t cx N sc mg W X) (ha : VE t cx W X a ea) (hg : VG t W X tg T1) (hs : swapsWith a (some tg) pos.line (envOfC "" sc 0 0 .none) = pure false) (hw : swappedStores [tg] a (envOfC "" sc 0 0 .none) = pure none) (h1 : (assignEach [tg] X.env).map (·.2) = [assign tg X.env]) :
    VS t cx W X (.Assign [tg] a pos) (.asg T1 ea) := s_asg ha hg ((sx_env h.ss).trans hs) (by rw [sw_env h.ss]; exact hw) h1
theorem s_par2B (h : Fe t cx N sc mg W X) {i j : Nat} {x y : Str} {kt k2 : Nat} {pt2 : Pos} (hc : X.calm = true) (hi : N[i]? = some x) (hj : N[j]? = some y) (hij : i ≠ j)
    (hx : sc.names.lookup x = some .local) (hy : sc.names.lookup y = some .local) (ha : VA t cx W X [a, b] Es)
    (hw : swappedStores [.Tuple [.Name x px, .Name y py] kt pt] (.Tuple [a, b] k2 pt2) (envOfC "" sc 0 0 .none) = pure (some [x, y]))
    (hs : swapsWithSole [.Tuple [.Name x px, .Name y py] kt pt] (.Tuple [a, b] k2 pt2) pos.line X.env = pure false) :
    VS t cx W X (.Assign [.Tuple [.Name x px, .Name y py] kt pt] (.Tuple [a, b] k2 pt2) pos) (.asg (.tup [.var i, .var j]) (.tup Es)) := s_par2 h hc hi hj hij hx hy ha (by rw [sw_env h.ss]; exact hw) hs
theorem s_par3B (h : Fe t cx N sc mg W X) {i j l : Nat} {x y z : Str} {kt k2 : Nat} {pt2 : Pos} (hc : X.calm = true) (hi : N[i]? = some x) (hj : N[j]? = some y) (hl : N[l]? = some z) (hij : i ≠ j) (hil : i ≠ l) (hjl : j ≠ l)
    (hx : sc.names.lookup x = some .local) (hy : sc.names.lookup y = some .local) (hz : sc.names.lookup z = some .local) (ha : VA t cx W X [a, b, c] Es)
    (hw : swappedStores [.Tuple [.Name x px, .Name y py, .Name z pz] kt pt] (.Tuple [a, b, c] k2 pt2) (envOfC "" sc 0 0 .none) = pure (some [x, y, z]))
    (hs : swapsWithSole [.Tuple [.Name x px, .Name y py, .Name z pz] kt pt] (.Tuple [a, b, c] k2 pt2) pos.line X.env = pure false) :
    VS t cx W X (.Assign [.Tuple [.Name x px, .Name y py, .Name z pz] kt pt] (.Tuple [a, b, c] k2 pt2) pos) (.asg (.tup [.var i, .var j, .var l]) (.tup Es)) := s_par3 h hc hi hj hl hij hil hjl hx hy hz ha (by rw [sw_env h.ss]; exact hw) hs
/-- what is to be shown of a comprehension's parts -/
abbrev BlkT (t : Tb) (cx : Dn.Cx) (N : List Str) (sc scope : Scope) (mg : Str → Option Value) (fi : Nat → Option Fi) (k : Nat) (tg : Expr) (ifs : List Expr) (elt : Expr) (T1 : T) (te : Option Te) (ee : E) : Prop :=
  ∀ (xi : List Addr) (X' : L2.Cx), Fc { t with xi := xi } cx N (relS scope sc) mg W0 fi k X' → VG { t with xi := xi } W0 X' tg T1 ∧ VTs { t with xi := xi } cx W0 X' ifs te ∧ VE { t with xi := xi } cx W0 X' elt ee
theorem BlkT.blk (h : Fc t cx N sc mg W fi k X) (B : BlkT t cx N sc scope mg fi k tg ifs elt T1 te ee) : Blk t cx X scope tg ifs elt T1 te ee :=
  ⟨fun s H C cl fp xi => (B xi _ h.blk).1, fun s H C cl fp xi => (B xi _ h.blk).2.1, fun s H C cl fp xi => (B xi _ h.blk).2.2⟩
theorem r_compB (h : Fc t cx N sc mg W fi k X) (own : List (Str × Nat)) {cell : Bool} (hvs : own.map (·.2) = vs) (ok : BlkOk N sc scope own) (hi : VI t cx W X tg iter ei) (B : BlkT t cx N sc scope mg fi k tg ifs elt T1 te ee) (hv : ∀ i ∈ varsT T1, i ∈ vs) (hs : ∀ x, foldedSetIterable iter X.env x = pure x) :
    VE t cx W X (.ListComp elt [⟨tg, iter, ifs, 0⟩] scope pos) (.comp cell vs T1 ei te ee) := by
  subst hvs
  exact r_comp h ok hi (B.blk h) hv hs
theorem s_setB (h : Fc t cx N sc mg W fi k X) (own : List (Str × Nat)) {i : Nat} {y : Str} {cell : Bool} (hvs : own.map (·.2) = vs) (hy : N[i]? = some y) (hyl : sc.names.lookup y = some .local) (hsw : swapsWith (.ListComp elt [⟨tg, iter, ifs, 0⟩] scope pos) (some (.Name y py)) spos.line (envOfC "" sc 0 0 .none) = pure true)
    (ok : BlkOk N sc scope own) (hi : VI t cx W X tg iter ei) (B : BlkT t cx N sc scope mg fi k tg ifs elt T1 te ee) (hv : ∀ i ∈ varsT T1, i ∈ vs) (hs : ∀ x, foldedSetIterable iter X.env x = pure x) :
    VS t cx W X (.Assign [.Name y py] (.ListComp elt [⟨tg, iter, ifs, 0⟩] scope pos) spos) (.asg (.var i) (.comp cell vs T1 ei te ee)) := by
  subst hvs
  exact s_setC h hy hyl (by rw [sx_env h.ss]; exact hsw) ok hi (B.blk h) hv hs
theorem nocls {ts : List Ty} {n : Nat} (h : (ts.all fun y => match y with | .cls _ => false | _ => true) = true) : ∀ y ∈ ts, ∀ c', y = .cls c' → c' < n := fun y hy c' e => by
  have := List.all_eq_true.mp h y hy
  rw [e] at this
  cases this
theorem nocl {y : Ty} {n : Nat} (h : (match y with | .cls _ => false | _ => true) = true) : ∀ c', y = .cls c' → c' < n := fun c' e => by
  rw [e] at h
  cases h
theorem CFs.xi {P : Prog} (h : CFs t P) {xi : List Addr} : CFs { t with xi := xi } P := fun c cd e => ⟨(h c cd e).ins, (h c cd e).noat, (h c cd e).meth, (h c cd e).make, (h c cd e).kit, (h c cd e).tik⟩
theorem s_raisX {ci i : Nat} {x : Str} {xd : XD} (h : Fs t cx N sc mg W fi k X) (hp : X.prog = prog) (F : XF prog t mg ci x i) (hxd : cx.P.xcs[ci]? = some xd) (ha : VE t cx W X a ea) (hg : sc.names.lookup x = some .globalImplicit)
    (he : starEach (a :: []) X.env = (false, eval a X.env) :: starEach [] X.env) : VS t cx W X (.Raise (some (.Call (.Name x p) [a] [] pos)) none pos2) (.rais ci [ea]) := by
  subst hp
  exact s_rais h F hxd (r_cons ha r_nil he) hg he
/-- the clauses of a try -/
def HK (t : Tb) (cx : Dn.Cx) (X : L2.Cx) (hds : List ExceptHandler) (HS : List Hd) : Prop := ∃ l, HsOk X hds l ∧ HdR t cx HS l ∧ ∀ h ∈ HS, match h with | .mk c _ _ => c < cx.P.xcs.length
theorem hk_nil : HK t cx X [] [] := ⟨[], .nil, .nil, fun _ h => by simp at h⟩
variable {st0 : Stmt} {suite : List Stmt} {np hpos : Pos}
theorem hk_named (h : Fs t cx N sc mg W fi k X) {x n : Str} {i c : Nat} (hx : mg x = some (.ref (t.xa c))) (hg : sc.names.lookup x = some .globalImplicit) (hd : (x == ("__debug__" : Str)) = false) (hi : N[i]? = some n) (hln : sc.names.lookup n = some .local) (hc : c < cx.P.xcs.length)
    (hsu : ∀ (x : Xn) (cls : Value) (d : Option Addr) (a : Addr) (oe : Obj) (pn : List (Addr × Obj)), Zc cls d oe → (∃ vs, oe.data = .fields vs) → Fe t { cx with cur := some x } N sc mg (Wi.suite ⟨x, cls, d, i, a⟩) (X.suite a ((a, oe) :: pn)) →
      VSs t { cx with cur := some x } (Wi.suite ⟨x, cls, d, i, a⟩) (X.suite a ((a, oe) :: pn)) (st0 :: suite) SH) (r : HK t cx X hds HS) : HK t cx X (.ExceptHandler (some (.Name x np)) (some n) (st0 :: suite) hpos :: hds) (.mk c (some i) SH :: HS) := by
  obtain ⟨l, r1, r2, r3⟩ := r
  refine ⟨_, .named ⟨h.toFe.gl hg, hd, .inl (by rw [h.mm]; exact hx)⟩ (by rw [h.nn]; exact hi) (by show X.env.scope.names.lookup n = _; rw [h.ss]; exact hln) (fun a oe cls d pn hz hf => ?_) r1, .named r2, fun hh hm => ?_⟩
  · exact ⟨fun pins s σ H D I ⟨x1, q⟩ => (hsu x1 cls d a oe pn hz hf (Fe.suite h.toFe ⟨x1, cls, d, i, a⟩)).run pins s σ H D I q⟩
  · rcases List.mem_cons.mp hm with rfl | hm
    · exact hc
    · exact r3 hh hm
theorem hk_plain (h : Fs t cx N sc mg W fi k X) {x : Str} {c : Nat} (hx : mg x = some (.ref (t.xa c))) (hg : sc.names.lookup x = some .globalImplicit) (hd : (x == ("__debug__" : Str)) = false) (hc : c < cx.P.xcs.length)
    (hsu : ∀ (x : Xn) (cls : Value) (d : Option Addr) (a : Addr) (j : Nat) (oe : Obj) (pn : List (Addr × Obj)), Zc cls d oe → (∃ vs, oe.data = .fields vs) → Fe t { cx with cur := some x } N sc mg (Wi.suite ⟨x, cls, d, j, a⟩) (X.suite a ((a, oe) :: pn)) →
      VSs t { cx with cur := some x } (Wi.suite ⟨x, cls, d, j, a⟩) (X.suite a ((a, oe) :: pn)) (st0 :: suite) SH) (r : HK t cx X hds HS) : HK t cx X (.ExceptHandler (some (.Name x np)) none (st0 :: suite) hpos :: hds) (.mk c none SH :: HS) := by
  obtain ⟨l, r1, r2, r3⟩ := r
  refine ⟨_, .plain ⟨h.toFe.gl hg, hd, .inl (by rw [h.mm]; exact hx)⟩ (fun a oe cls d pn hz hf => ?_) r1, .plain r2, fun hh hm => ?_⟩
  · exact ⟨fun pins s σ H D I ⟨x1, j, q⟩ => (hsu x1 cls d a j oe pn hz hf (Fe.suite h.toFe ⟨x1, cls, d, j, a⟩)).run pins s σ H D I q⟩
  · rcases List.mem_cons.mp hm with rfl | hm
    · exact hc
    · exact r3 hh hm
theorem s_triB (h : Fs t cx N sc mg W fi k X) (em : Exm t cx.P) (hb : ∀ (W1 : Wi) (X1 : L2.Cx), X1.prog = X.prog → Fs t cx N sc mg W1 fi k X1 → VSs t cx W1 X1 body SB) (hh : HK t cx X (hd0 :: hds) HS) : VS t cx W X (.Try body (hd0 :: hds) [] [] pos) (.tri SB HS) := by
  obtain ⟨l, r1, r2, r3⟩ := hh
  exact s_tri h em (fun W1 pn xe h1 => hb _ _ rfl h1) r1 r2 r3
end
end Dn
/-! Dn: a whole program: its table, all its defs, its law. -/
namespace Dn
open PySem L2 PyProof.Rows PySem.Spec -- names

/-- the names of the attributes -/
def nmOf (ns : List Str) (i : Nat) : Str := match ns[i]? with
  | some x => x
  | none => ⟨(List.replicate (i + 1) 0).toArray⟩
theorem nmOf_inj {ns : List Str} (nd : ns.Nodup) (h0 : (ns.all fun x => x.cps[0]? != some 0) = true) (i j : Nat) (h : nmOf ns i = nmOf ns j) : i = j := by
  have out : ∀ {i : Nat}, ns[i]? = none → nmOf ns i = ⟨(List.replicate (i + 1) 0).toArray⟩ := fun {i} e => by unfold nmOf; rw [e]
  have ins : ∀ {i : Nat} {x : Str}, ns[i]? = some x → nmOf ns i = x ∧ x.cps[0]? ≠ some 0 := fun {i x} e => by
    refine ⟨by unfold nmOf; rw [e], ?_⟩
    have := List.all_eq_true.mp h0 x (List.mem_of_getElem? e)
    simpa using this
  have hd : ∀ n : Nat, (⟨(List.replicate (n + 1) 0).toArray⟩ : Str).cps[0]? = some 0 := fun n => by simp
  cases e1 : ns[i]? with
  | none =>
    cases e2 : ns[j]? with
    | none =>
      rw [out e1, out e2] at h
      have : (List.replicate (i + 1) 0).toArray.size = (List.replicate (j + 1) 0).toArray.size := by injection h with h; rw [h]
      simpa using this
    | some y =>
      rw [out e1, (ins e2).1] at h
      exact absurd (h ▸ hd i) (ins e2).2
  | some x =>
    cases e2 : ns[j]? with
    | none =>
      rw [out e2, (ins e1).1] at h
      exact absurd (h ▸ hd j) (ins e1).2
    | some y =>
      rw [(ins e1).1, (ins e2).1] at h
      subst h
      obtain ⟨h1, h2⟩ := List.getElem?_eq_some_iff.mp e1
      obtain ⟨h3, h4⟩ := List.getElem?_eq_some_iff.mp e2
      exact (List.getElem_inj nd).mp (h2.trans h4.symm)
def mkTb (K : PySem.W.Frag) (fA cA xA : List Addr) (names : List Str) (ids : List (List Nat)) (xi : List Addr) : Tb where
  K := K
  fa := fun i => fA.getD i 0
  ca := fun i => cA.getD i 0
  xa := fun i => xA.getD i 0
  nm := nmOf names
  ids := fun i => ids.getD i []
  xi := xi
def fiOf (fs : List Fi) : Nat → Option Fi := fun f => fs[f]?
def AllI (p : Nat → Fi → Prop) : Nat → List Fi → Prop
  | _, [] => True
  | k, i :: r => p k i ∧ AllI p (k + 1) r
theorem AllI.at_ {p : Nat → Fi → Prop} : ∀ {l : List Fi} {k : Nat}, AllI p k l → ∀ (f : Nat) (i : Fi), l[f]? = some i → p (k + f) i
  | [], _, _, f, i, e => by simp at e
  | i :: r, k, h, 0, j, e => by simp at e; subst e; exact h.1
  | i :: r, k, h, f + 1, j, e => by
    have := AllI.at_ h.2 f j (by simpa using e)
    rw [show k + (f + 1) = k + 1 + f by omega]
    exact this
theorem AllI.all {p : Nat → Fi → Prop} {l : List Fi} (h : AllI p 0 l) (f : Nat) (i : Fi) (e : fiOf l f = some i) : p f i := by
  have := AllI.at_ h f i e
  rwa [Nat.zero_add] at this
section
variable {prog : Program} {w : World} {K : PySem.W.Frag} {mg : Str → Option Value} {base : Heap} {t : Tb} {P : Prog} {wf : Nat} {fi : Nat → Option Fi}
/-- all defs, at every depth -/
theorem all_fn (step : ∀ n k : Nat, (∀ f i, fi f = some i → FnG prog w K mg base k (t.fa f) i.fd i.ps (spC t (callF P wf n) f)) → ∀ f i, fi f = some i → FnG prog w K mg base (k + 2) (t.fa f) i.fd i.ps (spC t (callF P wf (n + 1)) f)) :
    ∀ n f i, fi f = some i → FnG prog w K mg base (2 * n) (t.fa f) i.fd i.ps (spC t (callF P wf n) f)
  | 0, f, i, _ => by
    have no : ∀ {vs H Q E}, spC t (callF P wf 0) f vs H Q E → False := fun {vs H Q E} h => by
      obtain ⟨xi, μ, S, ds, _, _, h⟩ := h
      unfold callF at h
      exact h
    exact ⟨fun _ _ _ _ h => (no h).elim, fun _ _ _ _ _ _ _ _ _ _ _ _ _ h => (no h).elim⟩
  | n + 1, f, i, e => step n (2 * n) (all_fn step n) f i e
/-- one def: its text runs as its tree form says -/
theorem one_fn {n k f : Nat} {fdn : FD} {x qual : Str} {st : Stmt} {fd : FuncData} {N ps : List Str} (hf : P.fns[f]? = some fdn) (F : Fun K x qual st (t.fa f) fd) (sco : FnScope N ps (defScope st)) (hps : ps.length = fdn.np) (hN : N.length = fdn.nv)
    (hK : K = t.K) (inj : ∀ i j, t.nm i = t.nm j → i = j) (bds : ∀ f i, fi f = some i → Binds K i.fd i.ps [])
    (hb : ∀ (xi : List Addr) (call : Nat → List D → Sto → R D) (k : Nat) (W : Wi) (X : L2.Cx), X.prog = prog → Fs { t with xi := xi } ⟨P, call, wf, none⟩ N (defScope st) mg W fi k X → VSs { t with xi := xi } ⟨P, call, wf, none⟩ W X (defBody st) fdn.body)
    (fns : ∀ f i, fi f = some i → FnG prog w K mg base k (t.fa f) i.fd i.ps (spC t (callF P wf n) f)) :
    FnG prog w K mg base (k + 2) (t.fa f) fd ps (spC t (callF P wf (n + 1)) f) :=
  okG hf F sco hps hN hK inj fns bds fun xi W X hp _ h => hb xi _ k W X hp h
/-- the law's promise -/
def spLaw (K : PySem.W.Frag) : Sp := fun vs H Q _ => ∃ (a : Addr) (ns : List Int), vs = [.ref a] ∧ ns.length ≤ 63 ∧ Only H ∧ SqL K H a (ns.map V.int) ∧ ∀ H', Q (.bl true) H'
theorem law_fn {k f n : Nat} {fa : Addr} {fd : FuncData} {x : Str} (F : FnG prog w K mg base k fa fd [x] (spC t (callF P wf n) f)) (hK : K = t.K) (hxi : t.xi = []) (math : ∀ ns : List Int, ns.length ≤ 63 → ∃ S', callF P wf n f [.scr (ns.map .int)] [] = .ok (.bl true) S') :
    FnG prog w K mg base k fa fd [x] (spLaw K) := by
  have weak : ∀ {vs H Q E}, spLaw K vs H Q E → spC t (callF P wf n) f vs H Q E := fun {vs H Q E} h => by
    obtain ⟨a, ns, rfl, hl, hO, hS, q⟩ := h
    obtain ⟨xi, μ, S, ds, rs, r, z⟩ := sp_law (call := callF P wf n) (f := f) hK hxi hO (by omega) hS (math ns hl)
    refine ⟨xi, μ, S, ds, rs, r, z.imp (fun d S3 μ3 H3 e3 s3 z w rw2 => ?_) fun _ _ _ _ _ _ z cls dd rx => (z cls dd rx).elim⟩
    have := z w rw2
    subst this
    exact q _
  exact ⟨fun vs H Q E h => F.len vs H Q E (weak h), fun A outer s H args us vs Q E hr e0 hb r h => F.run A outer s H args us vs Q E hr e0 hb r (weak h)⟩
theorem exm_of {a b : Addr} {r : Bool} (h1 : PySem.W.subIn K (.ref a) (.type "BaseException") = some true) (h1' : PySem.W.subIn K (.ref b) (.type "BaseException") = some true) (h2 : PySem.W.isClsIn K b = true) (h3 : PySem.W.typeIn K (.ref b) = some (.type "type")) (h4 : PySem.W.subIn K (.ref a) (.ref b) = some r) :
    PySem.W.exmOne K (.ref a) (.ref b) = some r := by
  have e1 : (PySem.W.subIn K (.ref b) (.type "BaseException") == some true) = true := by rw [h1'] <;> rfl
  have e2 : ((PySem.W.clsIn K b).isSome && PySem.W.typeIn K (.ref b) == some (.type "type")) = true := by
    have h2' : (PySem.W.clsIn K b).isSome = true := h2
    rw [h2', h3] <;> rfl
  show (if (PySem.W.subIn K (.ref b) (.type "BaseException") == some true) = true then (if ((PySem.W.clsIn K b).isSome && PySem.W.typeIn K (.ref b) == some (.type "type")) = true then PySem.W.subIn K (.ref a) (.ref b) else none) else none) = some r
  rw [if_pos e1, if_pos e2]
  exact h4
end
end Dn
/-! Dn: the evaluator's equations, for simp. -/
namespace Dn
section
variable (cx : Cx) (ρ : Env) (S : Sto)
@[simp] theorem ev_var (i : Nat) : ev cx (.var i) ρ S = (match ρ[i]? with | some (some d) => .ok d S | _ => .bad) := by first | (simp only [ev]; done) | (simp only [ev]; rfl)
@[simp] theorem ev_cst (d : D) : ev cx (.cst d) ρ S = .ok d S := by first | (simp only [ev]; done) | (simp only [ev]; rfl)
@[simp] theorem ev_tup (es : List E) : ev cx (.tup es) ρ S = (evs cx es ρ S).bind fun ds S => .ok (.tup ds) S := by first | (simp only [ev]; done) | (simp only [ev]; rfl)
@[simp] theorem ev_lst (c : Bool) (es : List E) : ev cx (.lst c es) ρ S = (evs cx es ρ S).bind fun ds S => mkL c ds S := by first | (simp only [ev]; done) | (simp only [ev]; rfl)
@[simp] theorem ev_bin (o : Bo) (a b : E) : ev cx (.bin o a b) ρ S = (ev cx a ρ S).bind fun x S => (ev cx b ρ S).bind fun y S => R.of (binop S o x y) S := by first | (simp only [ev]; done) | (simp only [ev]; rfl)
@[simp] theorem ev_neg (a : E) : ev cx (.neg a) ρ S = (ev cx a ρ S).bind fun x S => match x with | .int i => .ok (.int (-i)) S | _ => .bad := by first | (simp only [ev]; done) | (simp only [ev]; rfl)
@[simp] theorem ev_cmp (o : Co) (a b : E) : ev cx (.cmp o a b) ρ S = (ev cx a ρ S).bind fun x S => (ev cx b ρ S).bind fun y S => (R.of (cmpop S o x y) S).bind fun c S => .ok (.bl c) S := by first | (simp only [ev]; done) | (simp only [ev]; rfl)
@[simp] theorem ev_chain (o p : Co) (a b c : E) : ev cx (.chain o p a b c) ρ S = (ev cx a ρ S).bind fun x S => (ev cx b ρ S).bind fun y S => (R.of (cmpop S o x y) S).bind fun t S =>
      if t then (ev cx c ρ S).bind fun z S => (R.of (cmpop S p y z) S).bind fun t S => .ok (.bl t) S else .ok (.bl false) S := by first | (simp only [ev]; done) | (simp only [ev]; rfl)
@[simp] theorem ev_and (es : List E) : ev cx (.and es) ρ S = evAnd cx es ρ S := by first | (simp only [ev]; done) | (simp only [ev]; rfl)
@[simp] theorem ev_or (es : List E) : ev cx (.or es) ρ S = evOr cx es ρ S := by first | (simp only [ev]; done) | (simp only [ev]; rfl)
@[simp] theorem ev_not (a : E) : ev cx (.not a) ρ S = (ev cx a ρ S).bind fun x S => match x with | .bl b => .ok (.bl (!b)) S | _ => .bad := by first | (simp only [ev]; done) | (simp only [ev]; rfl)
@[simp] theorem ev_ite (t : Te) (a b : E) : ev cx (.ite t a b) ρ S = (evt cx t ρ S).bind fun c S => if c then ev cx a ρ S else ev cx b ρ S := by first | (simp only [ev]; done) | (simp only [ev]; rfl)
@[simp] theorem ev_idx (a b : E) : ev cx (.idx a b) ρ S = (ev cx a ρ S).bind fun x S => (ev cx b ρ S).bind fun y S => R.of (getI S x y) S := by first | (simp only [ev]; done) | (simp only [ev]; rfl)
@[simp] theorem ev_slc (c : Bool) (a : E) (l h : Option E) : ev cx (.slc c a l h) ρ S = (ev cx a ρ S).bind fun x S => (evo cx l ρ S).bind fun l S => (evo cx h ρ S).bind fun h S => opSl c x l h S := by first | (simp only [ev]; done) | (simp only [ev]; rfl)
@[simp] theorem ev_call (f : Nat) (es : List E) : ev cx (.call f es) ρ S = (evs cx es ρ S).bind fun ds S => cx.call f ds S := by first | (simp only [ev]; done) | (simp only [ev]; rfl)
@[simp] theorem ev_bi (c : Bool) (b : Bi) (es : List E) : ev cx (.bi c b es) ρ S = (evs cx es ρ S).bind fun ds S => bi cx c b ds S := by first | (simp only [ev]; done) | (simp only [ev]; rfl)
@[simp] theorem ev_bm (m : Bm) (o : E) (es : List E) : ev cx (.bm m o es) ρ S = (ev cx o ρ S).bind fun x S => if (refL S x).isSome then (evs cx es ρ S).bind fun ds S => bm m x ds S else .bad := by first | (simp only [ev]; done) | (simp only [ev]; rfl)
@[simp] theorem ev_isi (a : E) (ts : List Ty) : ev cx (.isi a ts) ρ S = (ev cx a ρ S).bind fun x S => (R.of (isTys cx.P S x ts) S).bind fun b S => .ok (.bl b) S := by first | (simp only [ev]; done) | (simp only [ev]; rfl)
/-- a comprehension's turn -/
def cturn (cx : Cx) (own : List Nat) (t : T) (cond : Option Te) (elt : E) (ρ : Env) (x : D) (S : Sto) : R (Option D) := match tgt t x (wipe ρ own) with
        | none => .bad
        | some ρ' => (evc cx cond ρ' S).bind fun c S => if c then (ev cx elt ρ' S).bind fun y S => .ok (some y) S else .ok none S
@[simp] theorem ev_comp (c : Bool) (own : List Nat) (t : T) (it : E) (cond : Option Te) (elt : E) : ev cx (.comp c own t it cond elt) ρ S = (src cx it ρ S).bind fun s S => (col (cturn cx own t cond elt ρ) s S).nox.bind fun ys S => mkL c ys S := by first | (simp only [ev]; done) | (simp only [ev]; rfl)
@[simp] theorem ev_repne (a b : E) : ev cx (.repne a b) ρ S = (ev cx a ρ S).bind fun x S1 => if reprOk (rdOf S1 x) then (ev cx b ρ S1).bind fun y S => if same (rdOf S1 x) (rdOf S y) then .ok (.bl false) S else .bad else .bad := by first | (simp only [ev]; done) | (simp only [ev]; rfl)
@[simp] theorem ev_exf (i f : Nat) : ev cx (.exf i f) ρ S = (match ρ[i]? with
    | some none => match cx.cur with
      | some x => match cx.P.xcs[x.c]? with
        | some xd => R.of (getId f xd.ids x.fs) S
        | none => .bad
      | none => .bad
    | _ => .bad) := by first | (simp only [ev]; done) | (simp only [ev]; rfl)
@[simp] theorem evs_nil : evs cx [] ρ S = .ok [] S := by first | (simp only [evs]; done) | (simp only [evs]; rfl)
@[simp] theorem evs_cons (e : E) (es : List E) : evs cx (e :: es) ρ S = (ev cx e ρ S).bind fun d S => (evs cx es ρ S).bind fun ds S => .ok (d :: ds) S := by first | (simp only [evs]; done) | (simp only [evs]; rfl)
@[simp] theorem evAnd_one (e : E) : evAnd cx [e] ρ S = ev cx e ρ S := by first | (simp only [evAnd]; done) | (simp only [evAnd]; rfl)
@[simp] theorem evAnd_cons (e f : E) (es : List E) : evAnd cx (e :: f :: es) ρ S = (ev cx e ρ S).bind fun x S => match x with | .bl b => if b then evAnd cx (f :: es) ρ S else .ok (.bl false) S | _ => .bad := by first | (rw [evAnd]; done) | (rw [evAnd]; rfl)
@[simp] theorem evOr_one (e : E) : evOr cx [e] ρ S = ev cx e ρ S := by first | (simp only [evOr]; done) | (simp only [evOr]; rfl)
@[simp] theorem evOr_cons (e f : E) (es : List E) : evOr cx (e :: f :: es) ρ S = (ev cx e ρ S).bind fun x S => match x with | .bl b => if b then .ok (.bl true) S else evOr cx (f :: es) ρ S | _ => .bad := by first | (rw [evOr]; done) | (rw [evOr]; rfl)
@[simp] theorem evo_none : evo cx none ρ S = .ok none S := by first | (simp only [evo]; done) | (simp only [evo]; rfl)
@[simp] theorem evo_some (e : E) : evo cx (some e) ρ S = (ev cx e ρ S).bind fun x S => match x with | .int i => .ok (some i) S | _ => .bad := by first | (simp only [evo]; done) | (simp only [evo]; rfl)
@[simp] theorem evc_none : evc cx none ρ S = .ok true S := by first | (simp only [evc]; done) | (simp only [evc]; rfl)
@[simp] theorem evc_some (e : Te) : evc cx (some e) ρ S = evt cx e ρ S := by first | (simp only [evc]; done) | (simp only [evc]; rfl)
@[simp] theorem evt_val (e : E) : evt cx (.val e) ρ S = tru (ev cx e ρ S) := by first | (simp only [evt]; done) | (simp only [evt]; rfl)
@[simp] theorem evt_and (ts : List Te) : evt cx (.and ts) ρ S = evtAnd cx ts ρ S := by first | (simp only [evt]; done) | (simp only [evt]; rfl)
@[simp] theorem evt_or (ts : List Te) : evt cx (.or ts) ρ S = evtOr cx ts ρ S := by first | (simp only [evt]; done) | (simp only [evt]; rfl)
@[simp] theorem evt_not (t : Te) : evt cx (.not t) ρ S = (evt cx t ρ S).bind fun b S => .ok (!b) S := by first | (simp only [evt]; done) | (simp only [evt]; rfl)
@[simp] theorem evtAnd_one (e : Te) : evtAnd cx [e] ρ S = evt cx e ρ S := by first | (simp only [evtAnd]; done) | (simp only [evtAnd]; rfl)
@[simp] theorem evtAnd_cons (e f : Te) (es : List Te) : evtAnd cx (e :: f :: es) ρ S = (evt cx e ρ S).bind fun b S => if b then evtAnd cx (f :: es) ρ S else .ok false S := by first | (rw [evtAnd]; done) | (rw [evtAnd]; rfl)
@[simp] theorem evtOr_one (e : Te) : evtOr cx [e] ρ S = evt cx e ρ S := by first | (simp only [evtOr]; done) | (simp only [evtOr]; rfl)
@[simp] theorem evtOr_cons (e f : Te) (es : List Te) : evtOr cx (e :: f :: es) ρ S = (evt cx e ρ S).bind fun b S => if b then .ok true S else evtOr cx (f :: es) ρ S := by first | (rw [evtOr]; done) | (rw [evtOr]; rfl)
@[simp] theorem src_bi (c : Bool) (b : Bi) (es : List E) : src cx (.bi c b es) ρ S = (evs cx es ρ S).bind fun ds S => R.of ((rng b ds).map .vals) S := by first | (simp only [src]; done) | (simp only [src]; rfl)
@[simp] theorem src_val (a : E) : src cx (.val a) ρ S = (ev cx a ρ S).bind fun x S => R.of (srcOf S x) S := by first | (simp only [src]; done) | (simp only [src]; rfl)
@[simp] theorem src_enum (a : E) : src cx (.enum a) ρ S = (ev cx a ρ S).bind fun x S => R.of (enumOf S x) S := by first | (simp only [src]; done) | (simp only [src]; rfl)
@[simp] theorem src_zip (a b : E) : src cx (.zip a b) ρ S = (ev cx a ρ S).bind fun x S => (ev cx b ρ S).bind fun y S => R.of (zipOf S x y) S := by first | (simp only [src]; done) | (simp only [src]; rfl)
/-! statements -/
@[simp] theorem st_asg (t : T) (e : E) : st (.asg t e) cx ρ S = (ev cx e ρ S).stm ρ fun d S => match tgt t d ρ with | some ρ' => .ok (.nx ρ') S | none => .bad := by first | (simp only [st]; done) | (simp only [st]; rfl)
@[simp] theorem st_setI (o i e : E) : st (.setI o i e) cx ρ S = (ev cx e ρ S).stm ρ fun v S => (ev cx o ρ S).stm ρ fun x S => (ev cx i ρ S).stm ρ fun y S => match setI S x y v with | some S' => .ok (.nx ρ) S' | none => .bad := by first | (simp only [st]; done) | (simp only [st]; rfl)
@[simp] theorem st_exp (e : E) : st (.exp e) cx ρ S = (ev cx e ρ S).stm ρ fun _ S => .ok (.nx ρ) S := by first | (simp only [st]; done) | (simp only [st]; rfl)
@[simp] theorem st_ite (t : Te) (a b : List St) : st (.ite t a b) cx ρ S = (evt cx t ρ S).stm ρ fun c S => if c then sts a cx ρ S else sts b cx ρ S := by first | (simp only [st]; done) | (simp only [st]; rfl)
/-- a loop's body -/
def turn (cx : Cx) (t : T) (b : List St) (x : D) (ρ : Env) (S : Sto) : R Fl := match tgt t x ρ with
    | none => .bad
    | some ρ => sts b cx ρ S
/-- a block, as a loop runs it -/
def blkS (b : List St) (cx : Cx) (ρ : Env) (S : Sto) : R Fl := sts b cx ρ S
@[simp] theorem st_whl (t : Te) (b : List St) : st (.whl t b) cx ρ S = whl (evt cx t) (blkS b cx) cx.w ρ S := by first | (simp only [st]; done) | (simp only [st]; rfl)
@[simp] theorem st_for (t : T) (it : E) (b : List St) : st (.for t it b) cx ρ S = (src cx it ρ S).stm ρ fun s S => forS (turn cx t b) s ρ S := by first | (simp only [st]; done) | (simp only [st]; rfl)
@[simp] theorem st_ret (e : E) : st (.ret e) cx ρ S = (ev cx e ρ S).stm ρ fun d S => .ok (.rt d) S := by first | (simp only [st]; done) | (simp only [st]; rfl)
@[simp] theorem st_retN : st .retN cx ρ S = .ok (.rt .non) S := by first | (simp only [st]; done) | (simp only [st]; rfl)
@[simp] theorem st_rais (c : Nat) (es : List E) : st (.rais c es) cx ρ S = (evs cx es ρ S).stm ρ fun ds S => match cx.P.xcs[c]? with
    | some xd => if ds.length = xd.ids.length then .ok (.xc ⟨c, ds⟩ ρ) S else .bad
    | none => .bad := by first | (simp only [st]; done) | (simp only [st]; rfl)
/-- behind a try's body -/
def aft (hs : List Hd) (cx : Cx) (r : Fl) (S : Sto) : R Fl := match r with
    | .xc x ρ' => han hs cx x ρ' S
    | r => .ok r S
@[simp] theorem st_tri (b : List St) (hs : List Hd) : st (.tri b hs) cx ρ S = (sts b cx ρ S).bind fun r S => aft hs cx r S := by first | (simp only [st]; done) | (simp only [st]; rfl)
@[simp] theorem aft_xc (hs : List Hd) (x : Xn) : aft hs cx (.xc x ρ) S = han hs cx x ρ S := rfl
@[simp] theorem aft_nx (hs : List Hd) : aft hs cx (.nx ρ) S = .ok (.nx ρ) S := rfl
@[simp] theorem aft_rt (hs : List Hd) (d : D) : aft hs cx (.rt d) S = .ok (.rt d) S := rfl
@[simp] theorem han_nil (x : Xn) : han [] cx x ρ S = .ok (.xc x ρ) S := by first | (simp only [han]; done) | (simp only [han]; rfl)
/-- behind a clause's suite -/
def suf (n : Option Nat) (r : Fl) (S : Sto) : R Fl := match r with
        | .nx ρ => .ok (.nx (unO n ρ)) S
        | .bk ρ => .ok (.bk (unO n ρ)) S
        | .ct ρ => .ok (.ct (unO n ρ)) S
        | .rt d => .ok (.rt d) S
        | .xc _ _ => .bad
theorem han_cons {c : Nat} {n : Option Nat} {b : List St} {hs : List Hd} {x : Xn} {xd : XD} (h : cx.P.xcs[x.c]? = some xd) : han (.mk c n b :: hs) cx x ρ S = if xd.sup.contains c then (sts b { cx with cur := some x } (unO n ρ) S).bind fun r S => suf n r S else han hs cx x ρ S := by
  rw [han, h]
  rfl
@[simp] theorem suf_nx (n : Option Nat) : suf n (.nx ρ) S = .ok (.nx (unO n ρ)) S := rfl
@[simp] theorem suf_rt (n : Option Nat) (d : D) : suf n (.rt d) S = .ok (.rt d) S := rfl
@[simp] theorem unO_some (i : Nat) : unO (some i) ρ = ρ.set i none := rfl
@[simp] theorem st_pass : st .pass cx ρ S = .ok (.nx ρ) S := by first | (simp only [st]; done) | (simp only [st]; rfl)
@[simp] theorem st_brk : st .brk cx ρ S = .ok (.bk ρ) S := by first | (simp only [st]; done) | (simp only [st]; rfl)
@[simp] theorem st_cnt : st .cnt cx ρ S = .ok (.ct ρ) S := by first | (simp only [st]; done) | (simp only [st]; rfl)
/-- the statements behind -/
def thn (ss : List St) (cx : Cx) (r : Fl) (S : Sto) : R Fl := match r with
    | .nx ρ => sts ss cx ρ S
    | r => .ok r S
@[simp] theorem sts_nil : sts [] cx ρ S = .ok (.nx ρ) S := by first | (simp only [sts]; done) | (simp only [sts]; rfl)
@[simp] theorem sts_cons (s : St) (ss : List St) : sts (s :: ss) cx ρ S = (st s cx ρ S).bind fun r S => thn ss cx r S := by first | (simp only [sts]; done) | (simp only [sts]; rfl)
@[simp] theorem thn_nx (ss : List St) : thn ss cx (.nx ρ) S = sts ss cx ρ S := rfl
@[simp] theorem thn_rt (ss : List St) (d : D) : thn ss cx (.rt d) S = .ok (.rt d) S := rfl
@[simp] theorem thn_bk (ss : List St) : thn ss cx (.bk ρ) S = .ok (.bk ρ) S := rfl
@[simp] theorem thn_ct (ss : List St) : thn ss cx (.ct ρ) S = .ok (.ct ρ) S := rfl
@[simp] theorem thn_xc (ss : List St) (x : Xn) : thn ss cx (.xc x ρ) S = .ok (.xc x ρ) S := rfl
end
theorem whl_go {t : Env → Sto → R Bool} {b : Env → Sto → R Fl} {n : Nat} {ρ ρ' : Env} {S S1 S2 : Sto} (h1 : t ρ S = .ok true S1) (h2 : b ρ S1 = .ok (.nx ρ') S2) : whl t b (n + 1) ρ S = whl t b n ρ' S2 := by
  rw [whl, h1, R.stm_ok, if_pos rfl, h2]; rfl
theorem whl_end {t : Env → Sto → R Bool} {b : Env → Sto → R Fl} {n : Nat} {ρ : Env} {S S1 : Sto} (h1 : t ρ S = .ok false S1) : whl t b (n + 1) ρ S = .ok (.nx ρ) S1 := by
  rw [whl, h1, R.stm_ok, if_neg (by decide)]
@[simp] theorem env_0 (x : Option D) (ρ : Env) : (x :: ρ)[0]? = some x := rfl
/-! if over results -/
@[simp] theorem R.bind_ite {α β : Type} (p : Prop) [Decidable p] (a b : R α) (f : α → Sto → R β) : (if p then a else b).bind f = if p then a.bind f else b.bind f := by split <;> rfl
@[simp] theorem R.stm_ite {α : Type} (p : Prop) [Decidable p] (a b : R α) (ρ : Env) (f : α → Sto → R Fl) : (if p then a else b).stm ρ f = if p then a.stm ρ f else b.stm ρ f := by split <;> rfl
@[simp] theorem tru_bl (b : Bool) (S : Sto) : tru (.ok (.bl b) S) = .ok b S := rfl
@[simp] theorem tru_ok (d : D) (S : Sto) : tru (.ok d S) = R.of (truth S d) S := rfl
/-- a call's end, where the answer holds no cell of its own -/
theorem fin_same {n : Nat} {d : D} {S : Sto} (hd : lt n d = true) (hn : S.length = n) : fin n d S = .ok d S := by
  unfold fin frz2
  rw [if_pos hd]
  have : S.take n = S := by rw [← hn, List.take_length]
  rw [this]
  split <;> rfl

/-! operators on what is known -/
section
variable (S : Sto)
@[simp] theorem op_add (i j : Int) : binop S .add (.int i) (.int j) = some (.int (i + j)) := rfl
@[simp] theorem op_sub (i j : Int) : binop S .sub (.int i) (.int j) = some (.int (i - j)) := rfl
theorem mulOk_l {i j : Int} (h1 : -18446744073709551616 < i) (h2 : i < 18446744073709551616) : mulOk i j = true := by
  rw [mulOk_eq]; rw [decide_eq_true ⟨h1, h2⟩]; rfl
theorem mulOk_r {i j : Int} (h1 : -18446744073709551616 < j) (h2 : j < 18446744073709551616) : mulOk i j = true := by
  rw [mulOk_eq]; rw [decide_eq_true (p := -18446744073709551616 < j ∧ j < 18446744073709551616) ⟨h1, h2⟩, Bool.or_true]; rfl
@[simp] theorem op_mul_l {i j : Int} (h1 : -18446744073709551616 < i) (h2 : i < 18446744073709551616) : binop S .mul (.int i) (.int j) = some (.int (i * j)) := by
  show (if mulOk i j then some (D.int (i * j)) else none) = _
  rw [mulOk_l h1 h2]; rfl
@[simp] theorem op_mul_r {i j : Int} (h1 : -18446744073709551616 < j) (h2 : j < 18446744073709551616) : binop S .mul (.int i) (.int j) = some (.int (i * j)) := by
  show (if mulOk i j then some (D.int (i * j)) else none) = _
  rw [mulOk_r h1 h2]; rfl
theorem divOk_of {j : Int} (h1 : 0 < j) (h2 : j < 1073741824) : divOk j = true := by
  rw [divOk_eq]; rw [decide_eq_true h1, decide_eq_true h2]; rfl
@[simp] theorem op_div {i j : Int} (h1 : 0 < j) (h2 : j < 1073741824) : binop S .fdiv (.int i) (.int j) = some (.int (i / j)) := by
  show (if divOk j then some (D.int (i / j)) else none) = _
  rw [divOk_of h1 h2]; rfl
@[simp] theorem op_mod {i j : Int} (h1 : 0 < j) : binop S .mod (.int i) (.int j) = some (.int (i % j)) := by
  show (if 0 < j then some (D.int (i % j)) else none) = _
  rw [if_pos h1]
@[simp] theorem cm_lt (i j : Int) : cmpop S .lt (.int i) (.int j) = some (decide (i < j)) := rfl
@[simp] theorem cm_gt (i j : Int) : cmpop S .gt (.int i) (.int j) = some (decide (j < i)) := rfl
@[simp] theorem cm_le (i j : Int) : cmpop S .le (.int i) (.int j) = some (decide (i ≤ j)) := rfl
@[simp] theorem cm_ge (i j : Int) : cmpop S .ge (.int i) (.int j) = some (decide (j ≤ i)) := rfl
@[simp] theorem cm_eq (i j : Int) : cmpop S .eq (.int i) (.int j) = some (decide (i = j)) := rfl
@[simp] theorem cm_ne (i j : Int) : cmpop S .ne (.int i) (.int j) = some (!decide (i = j)) := rfl
@[simp] theorem cm_eqb (a b : Bool) : cmpop S .eq (.bl a) (.bl b) = some (a == b) := rfl
@[simp] theorem cm_neb (a b : Bool) : cmpop S .ne (.bl a) (.bl b) = some (!(a == b)) := rfl
@[simp] theorem get_tup (xs : List D) (i : Int) : getI S (.tup xs) (.int i) = atI xs i := rfl
@[simp] theorem get_lst (xs : List D) (i : Int) : getI S (.lst xs) (.int i) = atI xs i := rfl
@[simp] theorem get_scr (xs : List D) (i : Int) : getI S (.scr xs) (.int i) = atI xs i := rfl
theorem get_ref {l : Nat} {xs : List D} (i : Int) (h : S[l]? = some (.lst xs)) : getI S (.ref l) (.int i) = atI xs i := by
  show (match S[l]? with | some (.dic ks vs) => none | some (.lst xs) => atI xs i | _ => none) = _
  rw [h]
theorem at_nat {α : Type} {xs : List α} {i : Nat} (h : i < xs.length) : atI xs (i : Int) = some xs[i] := by
  unfold atI ixN
  rw [if_pos (by omega), if_pos (by omega)]
  simp [h]
@[simp] theorem at_0 {α : Type} (x : α) (xs : List α) : atI (x :: xs) 0 = some x := by
  have := at_nat (xs := x :: xs) (i := 0) (by simp); simpa using this
@[simp] theorem at_1 {α : Type} (x y : α) (xs : List α) : atI (x :: y :: xs) 1 = some y := by
  have := at_nat (xs := x :: y :: xs) (i := 1) (by simp); simpa using this
@[simp] theorem at_2 {α : Type} (x y z : α) (xs : List α) : atI (x :: y :: z :: xs) 2 = some z := by
  have := at_nat (xs := x :: y :: z :: xs) (i := 2) (by simp); simpa using this
@[simp] theorem at_3 {α : Type} (x y z u : α) (xs : List α) : atI (x :: y :: z :: u :: xs) 3 = some u := by
  have := at_nat (xs := x :: y :: z :: u :: xs) (i := 3) (by simp); simpa using this
@[simp] theorem at_4 {α : Type} (x y z u v : α) (xs : List α) : atI (x :: y :: z :: u :: v :: xs) 4 = some v := by
  have := at_nat (xs := x :: y :: z :: u :: v :: xs) (i := 4) (by simp); simpa using this
@[simp] theorem tgt_var (i : Nat) (d : D) (ρ : Env) : tgt (.var i) d ρ = some (ρ.set i (some d)) := by simp only [tgt]
@[simp] theorem tgt_tup (ts : List T) (ds : List D) (ρ : Env) : tgt (.tup ts) (.tup ds) ρ = tgts ts ds ρ := by simp only [tgt]
@[simp] theorem tgts_nil (ρ : Env) : tgts [] [] ρ = some ρ := by simp only [tgts]
@[simp] theorem tgts_cons (t : T) (ts : List T) (d : D) (ds : List D) (ρ : Env) : tgts (t :: ts) (d :: ds) ρ = (tgt t d ρ).bind fun ρ => tgts ts ds ρ := by simp only [tgts]
@[simp] theorem bi_abs (cx : Cx) (c : Bool) (i : Int) : bi cx c .abs [.int i] S = .ok (.int (i.natAbs : Int)) S := by
  show R.ok (D.int (if i < 0 then -i else i)) S = _
  congr 2
  split <;> omega
@[simp] theorem bi_int (cx : Cx) (c : Bool) (i : Int) : bi cx c .int [.int i] S = .ok (.int i) S := rfl
@[simp] theorem bi_len_tup (cx : Cx) (c : Bool) (xs : List D) : bi cx c .len [.tup xs] S = .ok (.int xs.length) S := rfl
@[simp] theorem bi_len_lst (cx : Cx) (c : Bool) (xs : List D) : bi cx c .len [.lst xs] S = .ok (.int xs.length) S := rfl
@[simp] theorem bi_len_scr (cx : Cx) (c : Bool) (xs : List D) : bi cx c .len [.scr xs] S = .ok (.int xs.length) S := rfl
theorem bi_len_ref (cx : Cx) (c : Bool) {l : Nat} {xs : List D} (h : S[l]? = some (.lst xs)) : bi cx c .len [.ref l] S = .ok (.int xs.length) S := by
  show R.of ((match S[l]? with | some (.lst xs) => some (xs.length : Int) | some (.dic ks _) => some (ks.length : Int) | _ => none).map D.int) S = _
  rw [h]; rfl
@[simp] theorem bi_max2 (cx : Cx) (c : Bool) (i j : Int) : bi cx c .max2 [.int i, .int j] S = .ok (.int (max i j)) S := by
  show R.ok (D.int (if i < j then j else i)) S = _
  congr 2
  split <;> omega
@[simp] theorem bi_min2 (cx : Cx) (c : Bool) (i j : Int) : bi cx c .min2 [.int i, .int j] S = .ok (.int (min i j)) S := by
  show R.ok (D.int (if j < i then j else i)) S = _
  congr 2
  split <;> omega
@[simp] theorem isi_int (P : Prog) (i : Int) (ts : List Ty) : isTys P S (.int i) ts = some (ts.any (subK (.ty .int))) := rfl
@[simp] theorem isi_bl (P : Prog) (b : Bool) (ts : List Ty) : isTys P S (.bl b) ts = some (ts.any (subK (.ty .bool))) := rfl
@[simp] theorem isi_tup (P : Prog) (xs : List D) (ts : List Ty) : isTys P S (.tup xs) ts = some (ts.any (subK (.ty .tuple))) := rfl
@[simp] theorem isi_lst (P : Prog) (xs : List D) (ts : List Ty) : isTys P S (.lst xs) ts = some (ts.any (subK (.ty .list))) := rfl
@[simp] theorem isi_str (P : Prog) (xs : List Nat) (ts : List Ty) : isTys P S (.str xs) ts = some (ts.any (subK (.ty .str))) := rfl
@[simp] theorem isi_non (P : Prog) (ts : List Ty) : isTys P S .non ts = some (ts.any (subK .non)) := rfl
@[simp] theorem isn_non (x : D) : cmpop S .isn x .non = some (cNon x) := rfl
@[simp] theorem notn_non (x : D) : cmpop S .notn x .non = some (!cNon x) := rfl
@[simp] theorem cNon_int (i : Int) : cNon (.int i) = false := rfl
@[simp] theorem cNon_bl (i : Bool) : cNon (.bl i) = false := rfl
@[simp] theorem cNon_str (i : List Nat) : cNon (.str i) = false := rfl
@[simp] theorem cNon_tup (i : List D) : cNon (.tup i) = false := rfl
@[simp] theorem cNon_lst (i : List D) : cNon (.lst i) = false := rfl
@[simp] theorem cNon_non : cNon .non = true := rfl
@[simp] theorem mkL_f (xs : List D) : mkL false xs S = .ok (.lst xs) S := rfl
@[simp] theorem mkL_t (xs : List D) : mkL true xs S = .ok (.ref S.length) (S ++ [.lst xs]) := rfl
@[simp] theorem tr_bl (b : Bool) : truth S (.bl b) = some b := rfl
@[simp] theorem tr_int (i : Int) : truth S (.int i) = some (i != 0) := rfl
@[simp] theorem tr_non : truth S .non = some false := rfl
@[simp] theorem tr_lst (xs : List D) : truth S (.lst xs) = some (!xs.isEmpty) := rfl
@[simp] theorem tr_tup (xs : List D) : truth S (.tup xs) = some (!xs.isEmpty) := rfl
@[simp] theorem src_lst (xs : List D) : srcOf S (.lst xs) = some (.vals xs) := rfl
@[simp] theorem src_tup (xs : List D) : srcOf S (.tup xs) = some (.vals xs) := rfl
@[simp] theorem src_scr (xs : List D) : srcOf S (.scr xs) = some (.vals xs) := rfl
end
/-! a def's run -/
def endF (n : Nat) (r : R Fl) : R D := match r with
  | .ok r S' => match r with
    | .rt d => fin n d S'
    | .nx _ => fin n .non S'
    | .xc x _ => finX n x S'
    | _ => .bad
  | _ => .bad
theorem callF_at {P : Prog} {w n f : Nat} {fd : FD} {args : List D} {S : Sto} (h : P.fns[f]? = some fd) (hl : args.length = fd.np) :
    callF P w (n + 1) f args S = endF S.length (sts fd.body ⟨P, callF P w n, w, none⟩ (args.map some ++ List.replicate (fd.nv - args.length) none) S) := by
  unfold callF
  rw [h]
  show (if args.length = fd.np then runF P (callF P w n) w fd args S else .bad) = _
  rw [if_pos hl]
  rfl
@[simp] theorem endF_rt (n : Nat) (d : D) (S : Sto) : endF n (.ok (.rt d) S) = fin n d S := rfl
@[simp] theorem endF_nx (n : Nat) (ρ : Env) (S : Sto) : endF n (.ok (.nx ρ) S) = fin n .non S := rfl
@[simp] theorem endF_xc (n : Nat) (x : Xn) (ρ : Env) (S : Sto) : endF n (.ok (.xc x ρ) S) = finX n x S := rfl
@[simp] theorem endF_ite (n : Nat) (p : Prop) [Decidable p] (a b : R Fl) : endF n (if p then a else b) = if p then endF n a else endF n b := by split <;> rfl
@[simp] theorem fin_int (i : Int) (S : Sto) : fin S.length (.int i) S = .ok (.int i) S := fin_same rfl rfl
@[simp] theorem fin_bl (i : Bool) (S : Sto) : fin S.length (.bl i) S = .ok (.bl i) S := fin_same rfl rfl
@[simp] theorem fin_non (S : Sto) : fin S.length .non S = .ok .non S := fin_same rfl rfl
@[simp] theorem fin_str (s : List Nat) (S : Sto) : fin S.length (.str s) S = .ok (.str s) S := fin_same rfl rfl
@[simp] theorem fin_tup {xs : List D} {S : Sto} (h : lts S.length xs = true) : fin S.length (.tup xs) S = .ok (.tup xs) S := fin_same (by simpa [lt] using h) rfl
@[simp] theorem fin_lst {xs : List D} {S : Sto} (h : lts S.length xs = true) : fin S.length (.lst xs) S = .ok (.lst xs) S := fin_same (by simpa [lt] using h) rfl
@[simp] theorem lts_nil (n : Nat) : lts n [] = true := by simp [lts]
@[simp] theorem lts_cons (n : Nat) (x : D) (xs : List D) : lts n (x :: xs) = (lt n x && lts n xs) := by simp [lts]
@[simp] theorem lt_int (n : Nat) (i : Int) : lt n (.int i) = true := by simp [lt]
@[simp] theorem lt_bl (n : Nat) (i : Bool) : lt n (.bl i) = true := by simp [lt]
@[simp] theorem lt_str (n : Nat) (i : List Nat) : lt n (.str i) = true := by simp [lt]
@[simp] theorem lt_non (n : Nat) : lt n .non = true := by simp [lt]
@[simp] theorem lt_tup (n : Nat) (xs : List D) : lt n (.tup xs) = lts n xs := by simp [lt]
@[simp] theorem lt_lst (n : Nat) (xs : List D) : lt n (.lst xs) = lts n xs := by simp [lt]
@[simp] theorem lt_scr (n : Nat) (xs : List D) : lt n (.scr xs) = lts n xs := by simp [lt]
@[simp] theorem lts_ints (n : Nat) (xs : List Int) : lts n (xs.map .int) = true := by
  induction xs with
  | nil => simp [lts]
  | cons x xs ih => simp [ih]
end Dn
/-! Dn: loops over known values; the functions that all the laws share. -/
namespace Dn
/-- a call's end where the cells ahead of it hold no new cell -/
theorem fin_back {n : Nat} {d : D} {S S' : Sto} (hd : lt n d = true) (ht : S'.take n = S) (h : S.all (LO.lt n) = true) : fin n d S' = .ok d S := by
  unfold fin frz2
  rw [ht, if_pos h, if_pos hd]
/-- a loop by its states -/
theorem forV_run {f : D → Env → Sto → R Fl} : ∀ (xs : List D) (e : Nat → Env) (s : Nat → Sto), (∀ i (h : i < xs.length), f xs[i] (e i) (s i) = .ok (.nx (e (i + 1))) (s (i + 1))) → forV f xs (e 0) (s 0) = .ok (.nx (e xs.length)) (s xs.length)
  | [], e, s, h => rfl
  | x :: xs, e, s, h => by
    have h0 := h 0 (by simp)
    simp only [List.getElem_cons_zero] at h0
    rw [forV, h0]
    simp only [R.bind_ok]
    exact forV_run xs (fun i => e (i + 1)) (fun i => s (i + 1)) fun i hi => by
      have := h (i + 1) (by simp; omega)
      simpa using this
/-- a comprehension that asks nothing of the store -/
theorem colV_pure {f : D → Sto → R (Option D)} {S : Sto} {g : D → Option D} : ∀ xs : List D, (∀ x ∈ xs, f x S = .ok (g x) S) → colV f xs S = .ok (xs.filterMap g) S
  | [], h => rfl
  | x :: xs, h => by
    rw [colV, h x List.mem_cons_self]
    simp only [R.bind_ok]
    rw [colV_pure xs fun y hy => h y (List.mem_cons_of_mem _ hy)]
    simp only [R.bind_ok, List.filterMap_cons]
    cases g x <;> rfl
/-- with states -/
theorem colV_run {f : D → Sto → R (Option D)} : ∀ (xs : List D) (g : Nat → Option D) (s : Nat → Sto), (∀ i (h : i < xs.length), f xs[i] (s i) = .ok (g i) (s (i + 1))) → colV f xs (s 0) = .ok ((List.range xs.length).filterMap g) (s xs.length)
  | [], g, s, h => rfl
  | x :: xs, g, s, h => by
    have h0 := h 0 (by simp)
    simp only [List.getElem_cons_zero] at h0
    rw [colV, h0]
    simp only [R.bind_ok]
    rw [colV_run xs (fun i => g (i + 1)) (fun i => s (i + 1)) fun i hi => by
      have := h (i + 1) (by simp; omega)
      simpa using this]
    simp only [R.bind_ok, List.length_cons, List.range_succ_eq_map, List.filterMap_cons, List.filterMap_map, Function.comp_def, Nat.succ_eq_add_one]
    cases g 0 <;> rfl
/-- over a cell that nothing changes -/
theorem colC_pure {f : D → Sto → R (Option D)} {S : Sto} {l : Nat} {xs : List D} {g : D → Option D} (hl : S[l]? = some (.lst xs)) (h : ∀ x ∈ xs, f x S = .ok (g x) S) : ∀ k, k ≤ xs.length → colC f false l xs.length k S = .ok ((xs.drop (xs.length - k)).filterMap g) S
  | 0, _ => by
    rw [colC, hl]
    simp
  | k + 1, hk => by
    have hi : xs.length - (k + 1) < xs.length := by omega
    rw [colC, hl]
    dsimp only
    rw [List.getElem?_eq_getElem hi]
    dsimp only
    have e : itm false (xs.length - (k + 1)) xs[xs.length - (k + 1)] = xs[xs.length - (k + 1)] := rfl
    rw [e, h _ (List.getElem_mem hi), R.bind_ok, colC_pure hl h k (by omega), R.bind_ok, List.drop_eq_getElem_cons hi, List.filterMap_cons, show xs.length - (k + 1) + 1 = xs.length - k by omega]
    cases g xs[xs.length - (k + 1)] <;> rfl
theorem col_cell {f : D → Sto → R (Option D)} {S : Sto} {l : Nat} {xs : List D} {g : D → Option D} (hl : S[l]? = some (.lst xs)) (h : ∀ x ∈ xs, f x S = .ok (g x) S) : col f (.cell false l xs.length) S = .ok (xs.filterMap g) S := by
  have := colC_pure hl h xs.length (Nat.le_refl _)
  rw [Nat.sub_self, List.drop_zero] at this
  exact this
theorem src_ref {S : Sto} {l : Nat} {xs : List D} (hl : S[l]? = some (.lst xs)) : srcOf S (.ref l) = some (.cell false l xs.length) := by
  show (match S[l]? with | some (.lst xs) => some (Src.cell false l xs.length) | _ => none) = _
  rw [hl]
theorem refL_at {S : Sto} {l : Nat} {xs : List D} (hl : S[l]? = some (.lst xs)) : refL S (.ref l) = some (l, xs) := by
  show (match S[l]? with | some (.lst xs) => some (l, xs) | _ => none) = _
  rw [hl]
theorem line_is : line = 16777216 := rfl
theorem bm_insert {S : Sto} {l : Nat} {xs : List D} {k : Nat} {x : D} (hl : S[l]? = some (.lst xs)) (h : xs.length < 16777216) (hk : k ≤ xs.length) : bm .insert (.ref l) [.int k, x] S = .ok .non (setL S l (xs.take k ++ [x] ++ xs.drop k)) := by
  show bInsert (.ref l) [.int k, x] S = _
  unfold bInsert
  rw [refL_at hl]
  dsimp only
  rw [if_pos ⟨by rw [line_is]; exact h, by omega, by omega⟩]
  rfl
theorem rangeD_get {a b : Int} {i : Nat} (h : i < (rangeD a b).length) : (rangeD a b)[i] = .int (a + (i : Nat)) := by
  unfold rangeD at h ⊢
  simp
theorem rangeD_len (a b : Int) : (rangeD a b).length = (b - a).toNat := by unfold rangeD; simp
@[simp] theorem rng_1 {n : Int} (h1 : -4611686018427387904 ≤ n) (h2 : n ≤ 16777216) : rng .range1 [.int n] = some (rangeD 0 n) := by
  show (if rgOk n && leI n 16777216 then some (rangeD 0 n) else none) = _
  rw [if_pos]
  rw [rgOk_eq, leI_eq]
  simp
  omega
@[simp] theorem rng_2 {a n : Int} (h1 : -4611686018427387904 ≤ a) (h2 : a < 4611686018427387904) (h3 : -4611686018427387904 ≤ n) (h4 : n < 4611686018427387904) (h5 : n - a ≤ 16777216) : rng .range2 [.int a, .int n] = some (rangeD a n) := by
  show (if rgOk a && rgOk n && leI (n - a) 16777216 then some (rangeD a n) else none) = _
  rw [if_pos]
  rw [rgOk_eq, rgOk_eq, leI_eq]
  simp
  omega
@[simp] theorem forS_vals (f : D → Env → Sto → R Fl) (xs : List D) (ρ : Env) (S : Sto) : forS f (.vals xs) ρ S = forV f xs ρ S := rfl
@[simp] theorem col_vals (f : D → Sto → R (Option D)) (xs : List D) (S : Sto) : col f (.vals xs) S = colV f xs S := rfl

/-! ### row[..] of a law -/
def rowD (ns : List Int) (p s c : Int) : List D := [.scr (ns.map .int), .int p, .int s, .int c]
def takenB : List St :=
  [(.ite (.val (.cmp .gt (.idx (.var 0) (.cst (.int 3))) (.cst (.int 0)))) [(.asg (.var 3) (.bin .mod (.bi false .int [(.idx (.var 0) (.cst (.int 3)))]) (.var 1))), (.setI (.var 0) (.cst (.int 3)) (.bin .fdiv (.idx (.var 0) (.cst (.int 3))) (.var 1))), (.ret (.var 3))] []),
   (.setI (.var 0) (.cst (.int 1)) (.bin .add (.idx (.var 0) (.cst (.int 1))) (.cst (.int 1)))),
   (.ite (.val (.cmp .gt (.idx (.var 0) (.cst (.int 1))) (.bi false .len [(.idx (.var 0) (.cst (.int 0)))]))) [(.setI (.var 0) (.cst (.int 2)) (.bin .mod (.bi false .int [(.bin .add (.bin .mul (.idx (.var 0) (.cst (.int 2))) (.cst (.int 48271))) (.cst (.int 11)))]) (.cst (.int 2147483647)))), (.ret (.bin .mod (.bi false .int [(.bin .fdiv (.idx (.var 0) (.cst (.int 2))) (.cst (.int 7)))]) (.var 1)))] []),
   (.asg (.var 2) (.idx (.idx (.var 0) (.cst (.int 0))) (.bin .sub (.idx (.var 0) (.cst (.int 1))) (.cst (.int 1))))),
   (.setI (.var 0) (.cst (.int 2)) (.bin .mod (.bi false .int [(.bin .add (.bin .add (.bin .mul (.idx (.var 0) (.cst (.int 2))) (.cst (.int 48271))) (.var 2)) (.cst (.int 11)))]) (.cst (.int 2147483647)))),
   (.ite (.val (.cmp .ge (.var 2) (.bin .pow (.cst (.int 10)) (.cst (.int 18))))) [(.setI (.var 0) (.cst (.int 3)) (.bin .fdiv (.var 2) (.var 1)))] []),
   (.ret (.bin .mod (.bi false .int [(.var 2)]) (.var 1)))]
@[simp] theorem op_pow18 (S : Sto) : binop S .pow (.int 10) (.int 18) = some (.int 1000000000000000000) := by
  show (if 0 ≤ (18 : Int) ∧ (18 : Int) ≤ 1000000 ∧ (10 : Int).natAbs < 18446744073709551616 then some (D.int (10 ^ (18 : Int).toNat)) else none) = _
  rw [if_pos (by decide)]
  rfl
theorem setI_ref {S : Sto} {l : Nat} {xs : List D} {i : Nat} (v : D) (h : S[l]? = some (.lst xs)) (hi : i < xs.length) : setI S (.ref l) (.int i) v = some (setL S l (xs.set i v)) := by
  show (match S[l]? with | some (.lst xs) => (ixN xs.length i).map fun j => setL S l (xs.set j v) | _ => none) = _
  rw [h]
  have : ixN xs.length (i : Int) = some i := by
    unfold ixN
    rw [if_pos (by omega), if_pos (by omega)]
    rfl
  show (ixN xs.length (i : Int)).map _ = _
  rw [this]
  rfl
theorem setL_get {S : Sto} {l : Nat} {xs ys : List D} (h : S[l]? = some (.lst xs)) : (setL S l ys)[l]? = some (.lst ys) := by
  unfold setL
  rw [List.getElem?_set_self (List.getElem?_eq_some_iff.mp h).1]
theorem setL_set (S : Sto) (l : Nat) (xs ys : List D) : setL (setL S l xs) l ys = setL S l ys := by
  unfold setL; rw [List.set_set]
theorem setL_len (S : Sto) (l : Nat) (xs : List D) : (setL S l xs).length = S.length := by unfold setL; rw [List.length_set]
/-- one number of the script: what it is, and the row behind it -/
theorem run_taken {P : Prog} {w n f l : Nat} {S : Sto} {ns : List Int} {p s c many : Int} (hf : P.fns[f]? = some ⟨2, 4, takenB⟩) (hS : S[l]? = some (.lst (rowD ns p s c))) (hp : 0 ≤ p) (hs : 0 ≤ s ∧ s < 2147483647) (hm : 0 < many) (hm2 : many < 1073741824) :
    ∃ v p' s' c', 0 ≤ v ∧ v < many ∧ 0 ≤ p' ∧ (0 ≤ s' ∧ s' < 2147483647) ∧ callF P w (n + 1) f [.ref l, .int many] S = .ok (.int v) (setL S l (rowD ns p' s' c')) := by
  rw [callF_at hf rfl]
  have g : ∀ {p s c : Int} {T : Sto}, T[l]? = some (.lst (rowD ns p s c)) → getI T (.ref l) (.int 0) = some (.scr (ns.map .int)) ∧ getI T (.ref l) (.int 1) = some (.int p) ∧ getI T (.ref l) (.int 2) = some (.int s) ∧ getI T (.ref l) (.int 3) = some (.int c) := fun {p s c T} h => by
    refine ⟨?_, ?_, ?_, ?_⟩ <;> rw [get_ref _ _ h] <;> simp [rowD]
  have u : ∀ {p s c : Int} {T : Sto} (v : Int), T[l]? = some (.lst (rowD ns p s c)) → setI T (.ref l) (.int 1) (.int v) = some (setL T l (rowD ns v s c)) ∧ setI T (.ref l) (.int 2) (.int v) = some (setL T l (rowD ns p v c)) ∧ setI T (.ref l) (.int 3) (.int v) = some (setL T l (rowD ns p s v)) := fun {p s c T} v h =>
    ⟨setI_ref (i := 1) _ h (by simp [rowD]), setI_ref (i := 2) _ h (by simp [rowD]), setI_ref (i := 3) _ h (by simp [rowD])⟩
  have md : ∀ x : Int, 0 ≤ x % many ∧ x % many < many := fun x => ⟨Int.emod_nonneg _ (by omega), Int.emod_lt_of_pos _ hm⟩
  have ms : ∀ x : Int, 0 ≤ x % 2147483647 ∧ x % 2147483647 < 2147483647 := fun x => ⟨by omega, by omega⟩
  have hn : ∀ {p s c : Int} (v : Int), fin S.length (.int v) (setL S l (rowD ns p s c)) = .ok (.int v) (setL S l (rowD ns p s c)) := fun v => fin_same rfl (setL_len _ _ _)
  obtain ⟨g0, g1, g2, g3⟩ := g hS
  by_cases hc : 0 < c
  · refine ⟨c % many, p, s, c / many, (md c).1, (md c).2, hp, hs, ?_⟩
    simp (disch := first | omega | (simp; done) | fail) [takenB, g3, hc, (u (c / many) hS).2.2, hn]
  · have e1 := (u (p + 1) hS).1
    have S1 := setL_get (ys := rowD ns (p + 1) s c) hS
    obtain ⟨g0', g1', g2', g3'⟩ := g S1
    by_cases hl : (ns.length : Int) < p + 1
    · refine ⟨((s * 48271 + 11) % 2147483647 / 7) % many, p + 1, (s * 48271 + 11) % 2147483647, c, (md _).1, (md _).2, by omega, ms _, ?_⟩
      have e2 := (u ((s * 48271 + 11) % 2147483647) S1).2.1
      have S2 := setL_get (ys := rowD ns (p + 1) ((s * 48271 + 11) % 2147483647) c) S1
      obtain ⟨g0'', g1'', g2'', g3''⟩ := g S2
      rw [setL_set] at e2 S2 g2''
      simp (disch := first | omega | (simp; done) | fail) [takenB, g3, hc, g1, e1, g1', g0', hl, g2', e2, g2'', hn]
    · have hx : atI (ns.map D.int) p = some (.int (ns[p.toNat]'(by omega))) := by
        have := at_nat (xs := ns.map D.int) (i := p.toNat) (by simp; omega)
        rw [show ((p.toNat : Nat) : Int) = p by omega] at this
        simpa using this
      generalize ns[p.toNat]'(by omega) = x at hx
      have e2 := (u ((s * 48271 + x + 11) % 2147483647) S1).2.1
      have S2 := setL_get (ys := rowD ns (p + 1) ((s * 48271 + x + 11) % 2147483647) c) S1
      have e3 := (u (x / many) S2).2.2
      rw [setL_set] at e2
      rw [setL_set] at e3
      rw [setL_set] at e3
      have pp : p + 1 - 1 = p := by omega
      by_cases hb : 1000000000000000000 ≤ x
      · refine ⟨x % many, p + 1, (s * 48271 + x + 11) % 2147483647, x / many, (md _).1, (md _).2, by omega, ms _, ?_⟩
        simp (disch := first | omega | (simp; done) | fail) [takenB, g3, hc, g1, e1, g1', g0', hl, g2', pp, hx, e2, hb, e3, hn]
      · refine ⟨x % many, p + 1, (s * 48271 + x + 11) % 2147483647, c, (md _).1, (md _).2, by omega, ms _, ?_⟩
        simp (disch := first | omega | (simp; done) | fail) [takenB, g3, hc, g1, e1, g1', g0', hl, g2', pp, hx, e2, hb, hn]

/-! ### _law_alike: a value is like itself -/
def alikeB (f : Nat) : List St :=
  [(.ite (.val (.isi (.var 1) [.tuple, .list])) [(.ite (.or [(.not (.val (.isi (.var 0) [.tuple, .list]))), (.val (.cmp .ne (.isi (.var 0) [.list]) (.isi (.var 1) [.list])))]) [(.ret (.cst (.bl false)))] []), (.ite (.val (.cmp .ne (.bi false .len [(.var 0)]) (.bi false .len [(.var 1)]))) [(.ret (.cst (.bl false)))] []), (.ret (.cmp .eq (.comp false [2] (.var 2) (.bi false .range1 [(.bi false .len [(.var 1)])]) (some (.not (.val (.call f [(.idx (.var 0) (.var 2)), (.idx (.var 1) (.var 2))])))) (.var 2)) (.lst false [])))] []),
   (.ite (.or [(.val (.cmp .isn (.var 1) (.cst .non))), (.val (.isi (.var 1) [.str]))]) [(.ret (.and [(.cmp .eq (.var 0) (.var 1)), (.cmp .eq (.isi (.var 0) [.str]) (.isi (.var 1) [.str]))]))] []),
   (.ret (.and [(.isi (.var 0) [.int]), (.cmp .eq (.isi (.var 0) [.bool]) (.isi (.var 1) [.bool])), (.cmp .eq (.var 0) (.var 1))]))]
mutual
/-- plain data, n deep at most, no row longer than a range may be -/
def pln : Nat → D → Bool
  | _, .non => true
  | _, .bl _ => true
  | _, .int _ => true
  | _, .str _ => true
  | 0, .tup _ => false
  | 0, .lst _ => false
  | n + 1, .tup xs => decide (xs.length ≤ 16777216) && plns n xs
  | n + 1, .lst xs => decide (xs.length ≤ 16777216) && plns n xs
  | _, _ => false
def plns : Nat → List D → Bool
  | _, [] => true
  | n, x :: xs => pln n x && plns n xs
end
theorem plns_mem {n : Nat} : ∀ {xs : List D}, plns n xs = true → ∀ x ∈ xs, pln n x = true
  | [], _, x, h => by simp at h
  | y :: ys, h, x, hx => by
    simp only [plns, Bool.and_eq_true] at h
    rcases List.mem_cons.mp hx with rfl | hx
    · exact h.1
    · exact plns_mem h.2 x hx
@[simp] theorem cm_str (S : Sto) (a b : List Nat) : cmpop S .eq (.str a) (.str b) = some (decide (a = b)) := rfl
@[simp] theorem cm_non (S : Sto) : cmpop S .eq .non .non = some true := rfl
@[simp] theorem cm_nil (S : Sto) : cmpop S .eq (.lst []) (.lst []) = some true := rfl
/-- the comprehension of a row like itself is empty -/
theorem alike_row {P : Prog} {w n f : Nat} {S : Sto} {d : D} {xs : List D} (hd : d = .tup xs ∨ d = .lst xs) (ih : ∀ x ∈ xs, callF P w n f [x, x] S = .ok (.bl true) S) :
    colV (cturn ⟨P, callF P w n, w, none⟩ [2] (.var 2) (some (.not (.val (.call f [(.idx (.var 0) (.var 2)), (.idx (.var 1) (.var 2))])))) (.var 2) [some d, some d, none]) (rangeD 0 xs.length) S = .ok [] S := by
  have get : ∀ i : Int, getI S d (.int i) = atI xs i := fun i => by rcases hd with rfl | rfl <;> rfl
  rw [colV_pure (g := fun _ => none)]
  · simp
  · intro x hx
    obtain ⟨i, hi, rfl⟩ := List.getElem_of_mem hx
    rw [rangeD_get]
    rw [rangeD_len] at hi
    have hi' : i < xs.length := by omega
    have e : atI xs (i : Int) = some xs[i] := at_nat hi'
    simp [cturn, wipe, get, e, ih _ (List.getElem_mem hi')]
theorem run_alike {P : Prog} {w f : Nat} {S : Sto} (hf : P.fns[f]? = some ⟨2, 3, alikeB f⟩) : ∀ (n : Nat) (d : D), pln n d = true → ∀ m, callF P w (n + m + 1) f [d, d] S = .ok (.bl true) S := by
  intro n
  induction n with
  | zero =>
    intro d h m
    rw [callF_at hf rfl]
    cases d <;> first | (simp [pln] at h; done) | simp [alikeB, subK]
  | succ n ih =>
    intro d h m
    rw [callF_at hf rfl]
    have row : ∀ xs : List D, (d = .tup xs ∨ d = .lst xs) → plns n xs = true → colV (cturn ⟨P, callF P w (n + 1 + m), w, none⟩ [2] (.var 2) (some (.not (.val (.call f [(.idx (.var 0) (.var 2)), (.idx (.var 1) (.var 2))])))) (.var 2) [some d, some d, none]) (rangeD 0 xs.length) S = .ok [] S := fun xs hd hp =>
      alike_row hd fun x hx => by
        have := ih x (plns_mem hp x hx) m
        rwa [show n + m + 1 = n + 1 + m by omega] at this
    cases d with
    | tup xs =>
      simp only [pln, Bool.and_eq_true, decide_eq_true_eq] at h
      have r1 : rng .range1 [.int xs.length] = some (rangeD 0 xs.length) := rng_1 (by omega) (by omega)
      simp [alikeB, subK, r1, row xs (.inl rfl) h.2]
    | lst xs =>
      simp only [pln, Bool.and_eq_true, decide_eq_true_eq] at h
      have r1 : rng .range1 [.int xs.length] = some (rangeD 0 xs.length) := rng_1 (by omega) (by omega)
      simp [alikeB, subK, r1, row xs (.inr rfl) h.2]
    | _ => first | (simp [pln] at h; done) | simp [alikeB, subK]
end Dn
namespace K10
open Dn -- names
/-- is_whole: 0 value -/
def k10_is_whole : List Dn.St :=
  [(.ret (.and [(.isi (.var 0) [.int]), (.not (.isi (.var 0) [.bool]))]))]
/-- is_row: 0 value -/
def k10_is_row : List Dn.St :=
  [(.ret (.isi (.var 0) [.list, .tuple]))]
/-- reduced: 0 top 1 bottom 2 one 3 other -/
def k10_reduced : List Dn.St :=
  [(.asg (.tup [(.var 2), (.var 3)]) (.tup [(.bi false .abs [(.var 0)]), (.var 1)])),
   (.whl (.val (.cmp .gt (.var 3) (.cst (.int 0)))) [(.asg (.tup [(.var 2), (.var 3)]) (.tup [(.var 3), (.bin .mod (.var 2) (.var 3))]))]),
   (.ret (.ite (.val (.cmp .gt (.var 2) (.cst (.int 0)))) (.tup [(.bin .fdiv (.var 0) (.var 2)), (.bin .fdiv (.var 1) (.var 2))]) (.tup [(.cst (.int 0)), (.cst (.int 1))])))]
/-- is_fraction: 0 value -/
def k10_is_fraction : List Dn.St :=
  [(.ite (.or [(.not (.val (.call 1 [(.var 0)]))), (.val (.cmp .ne (.bi false .len [(.var 0)]) (.cst (.int 2)))), (.not (.val (.call 0 [(.idx (.var 0) (.cst (.int 0)))]))), (.not (.val (.call 0 [(.idx (.var 0) (.cst (.int 1)))]))), (.val (.cmp .lt (.idx (.var 0) (.cst (.int 1))) (.cst (.int 1))))]) [(.ret (.cst (.bl false)))] []),
   (.ret (.cmp .eq (.call 2 [(.idx (.var 0) (.cst (.int 0))), (.idx (.var 0) (.cst (.int 1)))]) (.tup [(.idx (.var 0) (.cst (.int 0))), (.idx (.var 0) (.cst (.int 1)))])))]
/-- want_fraction: 0 value -/
def k10_want_fraction : List Dn.St :=
  [(.ite (.not (.val (.call 3 [(.var 0)]))) [(.rais 1 [(.var 0)])] []),
   (.ret (.bi false .tuple [(.var 0)]))]
/-- plus: 0 one 1 other -/
def k10_plus : List Dn.St :=
  [(.ret (.call 2 [(.bin .add (.bin .mul (.idx (.var 0) (.cst (.int 0))) (.idx (.var 1) (.cst (.int 1)))) (.bin .mul (.idx (.var 1) (.cst (.int 0))) (.idx (.var 0) (.cst (.int 1))))), (.bin .mul (.idx (.var 0) (.cst (.int 1))) (.idx (.var 1) (.cst (.int 1))))]))]
/-- minus: 0 one 1 other -/
def k10_minus : List Dn.St :=
  [(.ret (.call 2 [(.bin .sub (.bin .mul (.idx (.var 0) (.cst (.int 0))) (.idx (.var 1) (.cst (.int 1)))) (.bin .mul (.idx (.var 1) (.cst (.int 0))) (.idx (.var 0) (.cst (.int 1))))), (.bin .mul (.idx (.var 0) (.cst (.int 1))) (.idx (.var 1) (.cst (.int 1))))]))]
/-- times: 0 one 1 other -/
def k10_times : List Dn.St :=
  [(.ret (.call 2 [(.bin .mul (.idx (.var 0) (.cst (.int 0))) (.idx (.var 1) (.cst (.int 0)))), (.bin .mul (.idx (.var 0) (.cst (.int 1))) (.idx (.var 1) (.cst (.int 1))))]))]
/-- over: 0 one 1 other -/
def k10_over : List Dn.St :=
  [(.ret (.call 2 [(.bin .mul (.idx (.var 0) (.cst (.int 0))) (.idx (.var 1) (.cst (.int 1)))), (.bin .mul (.idx (.var 0) (.cst (.int 1))) (.idx (.var 1) (.cst (.int 0))))]))]
/-- is_less: 0 one 1 other -/
def k10_is_less : List Dn.St :=
  [(.ret (.cmp .lt (.bin .mul (.idx (.var 0) (.cst (.int 0))) (.idx (.var 1) (.cst (.int 1)))) (.bin .mul (.idx (.var 1) (.cst (.int 0))) (.idx (.var 0) (.cst (.int 1))))))]
/-- floor_of: 0 one -/
def k10_floor_of : List Dn.St :=
  [(.ret (.bin .fdiv (.idx (.var 0) (.cst (.int 0))) (.idx (.var 0) (.cst (.int 1)))))]
/-- ceiling_of: 0 one -/
def k10_ceiling_of : List Dn.St :=
  [(.ret (.neg (.bin .fdiv (.neg (.idx (.var 0) (.cst (.int 0)))) (.idx (.var 0) (.cst (.int 1))))))]
/-- nearest: 0 one -/
def k10_nearest : List Dn.St :=
  [(.ret (.bin .fdiv (.bin .add (.bin .mul (.cst (.int 2)) (.idx (.var 0) (.cst (.int 0)))) (.idx (.var 0) (.cst (.int 1)))) (.bin .mul (.cst (.int 2)) (.idx (.var 0) (.cst (.int 1))))))]
/-- total: 0 rows 1 found 2 one -/
def k10_total : List Dn.St :=
  [(.asg (.var 1) (.tup [(.cst (.int 0)), (.cst (.int 1))])),
   (.for (.var 2) (.val (.var 0)) [(.asg (.var 1) (.call 5 [(.var 1), (.var 2)]))]),
   (.ret (.var 1))]
/-- median: 0 rows 1 row 2 one 3 place 4 first 5 second 6 other -/
def k10_median : List Dn.St :=
  [(.asg (.var 1) (.lst true [(.idx (.var 0) (.cst (.int 0)))])),
   (.for (.var 2) (.val (.slc false (.var 0) (some (.cst (.int 1))) none)) [(.asg (.var 3) (.bi false .len [(.comp false [6] (.var 6) (.val (.var 1)) (some (.not (.val (.call 9 [(.var 2), (.var 6)])))) (.var 6))])), (.exp (.bm .insert (.var 1) [(.var 3), (.var 2)]))]),
   (.asg (.tup [(.var 4), (.var 5)]) (.tup [(.idx (.var 1) (.bin .fdiv (.bin .sub (.bi false .len [(.var 1)]) (.cst (.int 1))) (.cst (.int 2)))), (.idx (.var 1) (.bin .fdiv (.bi false .len [(.var 1)]) (.cst (.int 2))))])),
   (.ret (.call 7 [(.call 5 [(.var 4), (.var 5)]), (.tup [(.cst (.int 1)), (.cst (.int 2))])]))]
/-- _law_taken: 0 row 1 many 2 cell 3 found -/
def k10__law_taken : List Dn.St :=
  [(.ite (.val (.cmp .gt (.idx (.var 0) (.cst (.int 3))) (.cst (.int 0)))) [(.asg (.var 3) (.bin .mod (.bi false .int [(.idx (.var 0) (.cst (.int 3)))]) (.var 1))), (.setI (.var 0) (.cst (.int 3)) (.bin .fdiv (.idx (.var 0) (.cst (.int 3))) (.var 1))), (.ret (.var 3))] []),
   (.setI (.var 0) (.cst (.int 1)) (.bin .add (.idx (.var 0) (.cst (.int 1))) (.cst (.int 1)))),
   (.ite (.val (.cmp .gt (.idx (.var 0) (.cst (.int 1))) (.bi false .len [(.idx (.var 0) (.cst (.int 0)))]))) [(.setI (.var 0) (.cst (.int 2)) (.bin .mod (.bi false .int [(.bin .add (.bin .mul (.idx (.var 0) (.cst (.int 2))) (.cst (.int 48271))) (.cst (.int 11)))]) (.cst (.int 2147483647)))), (.ret (.bin .mod (.bi false .int [(.bin .fdiv (.idx (.var 0) (.cst (.int 2))) (.cst (.int 7)))]) (.var 1)))] []),
   (.asg (.var 2) (.idx (.idx (.var 0) (.cst (.int 0))) (.bin .sub (.idx (.var 0) (.cst (.int 1))) (.cst (.int 1))))),
   (.setI (.var 0) (.cst (.int 2)) (.bin .mod (.bi false .int [(.bin .add (.bin .add (.bin .mul (.idx (.var 0) (.cst (.int 2))) (.cst (.int 48271))) (.var 2)) (.cst (.int 11)))]) (.cst (.int 2147483647)))),
   (.ite (.val (.cmp .ge (.var 2) (.bin .pow (.cst (.int 10)) (.cst (.int 18))))) [(.setI (.var 0) (.cst (.int 3)) (.bin .fdiv (.var 2) (.var 1)))] []),
   (.ret (.bin .mod (.bi false .int [(.var 2)]) (.var 1)))]
/-- _law_alike: 0 found 1 due 2 k -/
def k10__law_alike : List Dn.St :=
  [(.ite (.val (.isi (.var 1) [.tuple, .list])) [(.ite (.or [(.not (.val (.isi (.var 0) [.tuple, .list]))), (.val (.cmp .ne (.isi (.var 0) [.list]) (.isi (.var 1) [.list])))]) [(.ret (.cst (.bl false)))] []), (.ite (.val (.cmp .ne (.bi false .len [(.var 0)]) (.bi false .len [(.var 1)]))) [(.ret (.cst (.bl false)))] []), (.ret (.cmp .eq (.comp false [2] (.var 2) (.bi false .range1 [(.bi false .len [(.var 1)])]) (some (.not (.val (.call 16 [(.idx (.var 0) (.var 2)), (.idx (.var 1) (.var 2))])))) (.var 2)) (.lst false [])))] []),
   (.ite (.or [(.val (.cmp .isn (.var 1) (.cst .non))), (.val (.isi (.var 1) [.str]))]) [(.ret (.and [(.cmp .eq (.var 0) (.var 1)), (.cmp .eq (.isi (.var 0) [.str]) (.isi (.var 1) [.str]))]))] []),
   (.ret (.and [(.isi (.var 0) [.int]), (.cmp .eq (.isi (.var 0) [.bool]) (.isi (.var 1) [.bool])), (.cmp .eq (.var 0) (.var 1))]))]
/-- _law_truth: 0 found 1 due -/
def k10__law_truth : List Dn.St :=
  [(.ret (.and [(.isi (.var 0) [.bool]), (.cmp .eq (.var 0) (.var 1))]))]
/-- _law_low: 0 top 1 bottom 2 here 3 one -/
def k10__law_low : List Dn.St :=
  [(.asg (.var 2) (.cst (.int 1))),
   (.for (.var 3) (.bi false .range2 [(.cst (.int 1)), (.bin .add (.bi false .int [(.var 1)]) (.cst (.int 1)))]) [(.ite (.and [(.val (.cmp .eq (.bin .mod (.bi false .int [(.var 0)]) (.var 3)) (.cst (.int 0)))), (.val (.cmp .eq (.bin .mod (.bi false .int [(.var 1)]) (.var 3)) (.cst (.int 0))))]) [(.asg (.var 2) (.var 3))] [])]),
   (.ret (.tup [(.bin .fdiv (.bi false .int [(.var 0)]) (.var 2)), (.bin .fdiv (.bi false .int [(.var 1)]) (.var 2))]))]
/-- law: 0 script 1 row 2 wholes 3 best 4 part 5 middle 6 below 7 above 8 value 9 a 10 b 11 c 12 d 13 one 14 other 15 rows 16 whole 17 e 18 k -/
def k10_law : List Dn.St :=
  [(.asg (.var 1) (.lst true [(.var 0), (.cst (.int 0)), (.cst (.int 61)), (.cst (.int 0))])),
   (.asg (.tup [(.var 9), (.var 10), (.var 11), (.var 12)]) (.tup [(.bin .sub (.call 15 [(.var 1), (.cst (.int 121))]) (.cst (.int 60))), (.bin .add (.cst (.int 1)) (.call 15 [(.var 1), (.cst (.int 60))])), (.bin .sub (.call 15 [(.var 1), (.cst (.int 121))]) (.cst (.int 60))), (.bin .add (.cst (.int 1)) (.call 15 [(.var 1), (.cst (.int 60))]))])),
   (.asg (.tup [(.var 13), (.var 14)]) (.tup [(.call 2 [(.var 9), (.var 10)]), (.call 2 [(.var 11), (.var 12)])])),
   (.ite (.or [(.not (.val (.call 16 [(.tup [(.var 13), (.var 14)]), (.tup [(.call 18 [(.var 9), (.var 10)]), (.call 18 [(.var 11), (.var 12)])])]))), (.not (.val (.call 3 [(.var 13)]))), (.val (.call 3 [(.tup [(.bin .mul (.var 9) (.cst (.int 2))), (.bin .mul (.var 10) (.cst (.int 2)))])]))]) [(.ret (.cst (.bl false)))] []),
   (.ite (.not (.val (.call 16 [(.tup [(.call 5 [(.var 13), (.var 14)]), (.call 6 [(.var 13), (.var 14)]), (.call 7 [(.var 13), (.var 14)])]), (.tup [(.call 18 [(.bin .add (.bin .mul (.var 9) (.var 12)) (.bin .mul (.var 11) (.var 10))), (.bin .mul (.var 10) (.var 12))]), (.call 18 [(.bin .sub (.bin .mul (.var 9) (.var 12)) (.bin .mul (.var 11) (.var 10))), (.bin .mul (.var 10) (.var 12))]), (.call 18 [(.bin .mul (.var 9) (.var 11)), (.bin .mul (.var 10) (.var 12))])])]))) [(.ret (.cst (.bl false)))] []),
   (.ite (.or [(.and [(.val (.cmp .gt (.var 11) (.cst (.int 0)))), (.not (.val (.call 16 [(.call 8 [(.var 13), (.var 14)]), (.call 18 [(.bin .mul (.var 9) (.var 12)), (.bin .mul (.var 10) (.var 11))])])))]), (.not (.val (.call 17 [(.call 9 [(.var 13), (.var 14)]), (.cmp .lt (.bin .mul (.var 9) (.var 12)) (.bin .mul (.var 11) (.var 10)))])))]) [(.ret (.cst (.bl false)))] []),
   (.asg (.var 2) (.bi false .range2 [(.neg (.cst (.int 61))), (.cst (.int 62))])),
   (.asg (.tup [(.var 6), (.var 7)]) (.tup [(.bi false .max1 [(.comp false [18] (.var 18) (.val (.var 2)) (some (.val (.cmp .le (.bin .mul (.var 18) (.var 10)) (.var 9)))) (.var 18))]), (.bi false .min1 [(.comp false [18] (.var 18) (.val (.var 2)) (some (.val (.cmp .ge (.bin .mul (.var 18) (.var 10)) (.var 9)))) (.var 18))])])),
   (.asg (.var 3) (.bi false .max1 [(.comp false [18] (.var 18) (.val (.var 2)) (some (.val (.cmp .le (.bin .mul (.bin .sub (.bin .mul (.cst (.int 2)) (.var 18)) (.cst (.int 1))) (.var 10)) (.bin .mul (.cst (.int 2)) (.var 9))))) (.var 18))])),
   (.ite (.not (.val (.call 16 [(.tup [(.call 10 [(.var 13)]), (.call 11 [(.var 13)]), (.call 12 [(.var 13)])]), (.tup [(.var 6), (.var 7), (.var 3)])]))) [(.ret (.cst (.bl false)))] []),
   (.asg (.tup [(.var 15), (.var 16)]) (.tup [(.bin .add (.lst false [(.var 13), (.var 14)]) (.comp false [18] (.var 18) (.bi false .range1 [(.call 15 [(.var 1), (.cst (.int 5))])]) none (.call 2 [(.bin .sub (.call 15 [(.var 1), (.cst (.int 40))]) (.cst (.int 20))), (.bin .add (.cst (.int 1)) (.call 15 [(.var 1), (.cst (.int 6))]))]))), (.tup [(.cst (.int 0)), (.cst (.int 1))])])),
   (.for (.var 4) (.val (.var 15)) [(.asg (.var 16) (.call 18 [(.bin .add (.bin .mul (.idx (.var 16) (.cst (.int 0))) (.idx (.var 4) (.cst (.int 1)))) (.bin .mul (.idx (.var 4) (.cst (.int 0))) (.idx (.var 16) (.cst (.int 1))))), (.bin .mul (.idx (.var 16) (.cst (.int 1))) (.idx (.var 4) (.cst (.int 1))))]))]),
   (.ite (.not (.val (.call 16 [(.call 13 [(.var 15)]), (.var 16)]))) [(.ret (.cst (.bl false)))] []),
   (.asg (.var 5) (.call 14 [(.var 15)])),
   (.asg (.var 6) (.bi false .len [(.comp false [4] (.var 4) (.val (.var 15)) (some (.val (.cmp .lt (.bin .mul (.idx (.var 4) (.cst (.int 0))) (.idx (.var 5) (.cst (.int 1)))) (.bin .mul (.idx (.var 5) (.cst (.int 0))) (.idx (.var 4) (.cst (.int 1))))))) (.cst (.int 1)))])),
   (.asg (.var 7) (.bi false .len [(.comp false [4] (.var 4) (.val (.var 15)) (some (.val (.cmp .gt (.bin .mul (.idx (.var 4) (.cst (.int 0))) (.idx (.var 5) (.cst (.int 1)))) (.bin .mul (.idx (.var 5) (.cst (.int 0))) (.idx (.var 4) (.cst (.int 1))))))) (.cst (.int 1)))])),
   (.ite (.or [(.val (.cmp .gt (.bin .mul (.cst (.int 2)) (.var 6)) (.bi false .len [(.var 15)]))), (.val (.cmp .gt (.bin .mul (.cst (.int 2)) (.var 7)) (.bi false .len [(.var 15)]))), (.and [(.val (.cmp .eq (.bin .mod (.bi false .len [(.var 15)]) (.cst (.int 2))) (.cst (.int 1)))), (.val (.cmp .notin (.var 5) (.var 15)))])]) [(.ret (.cst (.bl false)))] []),
   (.for (.var 8) (.val (.lst false [(.cst .non), (.tup [(.cst (.int 1)), (.cst (.int 0))]), (.tup [(.cst (.int 2)), (.cst (.int 4))]), (.tup [(.cst (.int 0)), (.cst (.int 2))]), (.tup [(.cst (.int 1))]), (.tup [(.cst (.bl true)), (.cst (.int 2))]), (.lst false [(.cst (.int 1)), (.cst (.int 2)), (.cst (.int 3))]), (.cst (.int 5)), (.tup [(.cst (.int 1)), (.neg (.cst (.int 1)))])])) [(.ite (.val (.call 3 [(.var 8)])) [(.ret (.cst (.bl false)))] []), (.tri [(.exp (.call 4 [(.var 8)])), (.ret (.cst (.bl false)))] [(.mk 1 (some 17) [(.ite (.val (.repne (.exf 17 0) (.var 8))) [(.ret (.cst (.bl false)))] [])])])]),
   (.ret (.call 16 [(.call 4 [(.bi false .list [(.var 13)])]), (.var 13)]))]
def k10_prog : Prog where
  fns := [
    { np := 1, nv := 1, body := k10_is_whole },
    { np := 1, nv := 1, body := k10_is_row },
    { np := 2, nv := 4, body := k10_reduced },
    { np := 1, nv := 1, body := k10_is_fraction },
    { np := 1, nv := 1, body := k10_want_fraction },
    { np := 2, nv := 2, body := k10_plus },
    { np := 2, nv := 2, body := k10_minus },
    { np := 2, nv := 2, body := k10_times },
    { np := 2, nv := 2, body := k10_over },
    { np := 2, nv := 2, body := k10_is_less },
    { np := 1, nv := 1, body := k10_floor_of },
    { np := 1, nv := 1, body := k10_ceiling_of },
    { np := 1, nv := 1, body := k10_nearest },
    { np := 1, nv := 3, body := k10_total },
    { np := 1, nv := 7, body := k10_median },
    { np := 2, nv := 4, body := k10__law_taken },
    { np := 2, nv := 3, body := k10__law_alike },
    { np := 2, nv := 2, body := k10__law_truth },
    { np := 2, nv := 4, body := k10__law_low },
    { np := 1, nv := 19, body := k10_law }]
  cls := []
  xcs := [{ ids := [], sup := [0] }, { ids := [0], sup := [1, 0] }]
  globs := []
end K10
open Dn -- names
/-! k10: fractions. -/
namespace K10
variable {w n : Nat} {S : Sto}
/-! ### plain facts about gcd -/
theorem gcd_small {a b : Int} (h : 0 < b) : 0 < (Int.gcd a b : Int) ∧ (Int.gcd a b : Int) ≤ b := by
  have h1 : 0 < Int.gcd a b := Int.gcd_pos_of_ne_zero_right a (by omega)
  have h2 : (Int.gcd a b : Int) ∣ b := Int.gcd_dvd_right ..
  exact ⟨by omega, Int.le_of_dvd h h2⟩
/-- a fraction in lowest terms -/
def low (a b : Int) : Int × Int := (a / (Int.gcd a b), b / (Int.gcd a b))
def fr (p : Int × Int) : D := .tup [.int p.1, .int p.2]
/-! ### the library's functions -/
theorem red_whl {cx : Cx} {A B : Option D} : ∀ (m x y : Nat), y < m → whl (evt cx (.val (.cmp .gt (.var 3) (.cst (.int 0))))) (blkS [(.asg (.tup [(.var 2), (.var 3)]) (.tup [(.var 3), (.bin .mod (.var 2) (.var 3))]))] cx) m [A, B, some (.int x), some (.int y)] S
    = .ok (.nx [A, B, some (.int (Nat.gcd x y : Nat)), some (.int 0)]) S
  | 0, x, y, h => by omega
  | m + 1, x, y, h => by
    by_cases hy0 : y = 0
    · subst hy0
      rw [whl_end (S1 := S) (by simp)]
      simp
    · rw [whl_go (S1 := S) (S2 := S) (ρ' := [A, B, some (.int y), some (.int (x % y : Nat))]) (by simp; omega) (by simp (disch := first | omega | fail) [blkS])]
      have h2 : x % y < y := Nat.mod_lt _ (by omega)
      rw [red_whl m y (x % y) (by omega)]
      have : Nat.gcd y (x % y) = Nat.gcd x y := by rw [Nat.gcd_comm, ← Nat.gcd_rec, Nat.gcd_comm]
      rw [this]
theorem r_red (a b : Int) (h : 0 < b) (h2 : b < 1000000000) (hw : b < w) : callF k10_prog w (n+1) 2 [.int a, .int b] S = .ok (fr (low a b)) S := by
  rw [callF_at rfl rfl]
  unfold low fr
  have ⟨g1, g2⟩ := gcd_small (a := a) h
  obtain ⟨bn, rfl⟩ := Int.eq_ofNat_of_zero_le (Int.le_of_lt h)
  simp (disch := first | omega | fail) [k10_reduced]
  rw [red_whl w _ _ (by omega)]
  have e : Nat.gcd a.natAbs bn = Int.gcd a bn := rfl
  rw [e]
  generalize Int.gcd a bn = g at g1 g2 ⊢
  simp (disch := first | omega | fail)
  rw [if_pos (by omega), fin_tup (by simp)]
theorem r_whole (i : Int) : callF k10_prog w (n+1) 0 [.int i] S = .ok (.bl true) S := by
  rw [callF_at rfl rfl]
  simp [k10_is_whole, subK]
theorem r_wholeT (b : Bool) : callF k10_prog w (n+1) 0 [.bl b] S = .ok (.bl false) S := by
  rw [callF_at rfl rfl]
  simp [k10_is_whole, subK]
theorem r_rowT (xs : List D) : callF k10_prog w (n+1) 1 [.tup xs] S = .ok (.bl true) S := by
  rw [callF_at rfl rfl]
  simp [k10_is_row, subK]
theorem r_rowL (xs : List D) : callF k10_prog w (n+1) 1 [.lst xs] S = .ok (.bl true) S := by
  rw [callF_at rfl rfl]
  simp [k10_is_row, subK]
theorem r_rowN : callF k10_prog w (n+1) 1 [.non] S = .ok (.bl false) S := by
  rw [callF_at rfl rfl]
  simp [k10_is_row, subK]
theorem r_rowI (i : Int) : callF k10_prog w (n+1) 1 [.int i] S = .ok (.bl false) S := by
  rw [callF_at rfl rfl]
  simp [k10_is_row, subK]
theorem cm_frs (p q : Int × Int) : cmpop S .eq (fr p) (.tup [.int q.1, .int q.2]) = some (decide (p = q)) := by
  show eqd (fr p) (fr q) = _
  have : pd 60 (fr p) = true ∧ pd 60 (fr q) = true := by simp [fr, pd, pds]
  unfold eqd
  rw [this.1, this.2]
  simp [fr, eqB, eqBs]
  obtain ⟨a, b⟩ := p
  obtain ⟨c, d⟩ := q
  simp
/-- two numbers as a fraction: lowest terms or not -/
theorem r_isfr (p : Int × Int) (h2 : p.2 < 1000000000) (hw : p.2 < w) (v : D) (hv : v = .tup [.int p.1, .int p.2] ∨ v = .lst [.int p.1, .int p.2]) : callF k10_prog w (n+2) 3 [v] S = .ok (.bl (decide (0 < p.2) && decide (low p.1 p.2 = p))) S := by
  obtain ⟨a, b⟩ := p
  rw [callF_at rfl rfl]
  by_cases hb : b < 1
  · have : decide (0 < b) = false := decide_eq_false (by omega)
    rcases hv with rfl | rfl <;> simp [k10_is_fraction, r_rowT, r_rowL, r_whole, hb, this]
  · have hb' : 0 < b := by omega
    rcases hv with rfl | rfl <;> simp [k10_is_fraction, r_rowT, r_rowL, r_whole, hb, hb', r_red a b hb' h2 hw, cm_frs _ (a, b)]

/-! ### values that are no fraction -/
def bads : List D := [.non, .tup [.int 1, .int 0], .tup [.int 2, .int 4], .tup [.int 0, .int 2], .tup [.int 1], .tup [.bl true, .int 2], .lst [.int 1, .int 2, .int 3], .int 5, .tup [.int 1, .int (-1)]]
theorem r_bad (hw : 4 < w) : ∀ v ∈ bads, callF k10_prog w (n+2) 3 [v] S = .ok (.bl false) S := by
  intro v hv
  have tw : ∀ a b : Int, b < 5 → (decide (0 < b) && decide (low a b = (a, b))) = false → callF k10_prog w (n+2) 3 [.tup [.int a, .int b]] S = .ok (.bl false) S := fun a b hb h => by
    rw [r_isfr (a, b) (by show b < _; omega) (by show b < _; omega) _ (.inl rfl), h]
  simp only [bads, List.mem_cons, List.not_mem_nil, or_false] at hv
  rcases hv with rfl | rfl | rfl | rfl | rfl | rfl | rfl | rfl | rfl
  · rw [callF_at rfl rfl]; simp [k10_is_fraction, r_rowN]
  · exact tw 1 0 (by omega) (by decide)
  · exact tw 2 4 (by omega) (by decide)
  · exact tw 0 2 (by omega) (by decide)
  · rw [callF_at rfl rfl]; simp [k10_is_fraction, r_rowT]
  · rw [callF_at rfl rfl]; simp [k10_is_fraction, r_rowT, r_wholeT]
  · rw [callF_at rfl rfl]; simp [k10_is_fraction, r_rowL]
  · rw [callF_at rfl rfl]; simp [k10_is_fraction, r_rowI]
  · exact tw 1 (-1) (by omega) (by decide)
theorem finX_same {d : Nat} {x : Xn} {S : Sto} (hd : S.length = d) : finX d x S = .exc x S := by
  unfold finX
  rw [← hd, List.take_length]
  split <;> rfl
theorem r_wantX (v : D) (h : callF k10_prog w (n+2) 3 [v] S = .ok (.bl false) S) : callF k10_prog w (n+3) 4 [v] S = .exc ⟨1, [v]⟩ S := by
  rw [callF_at rfl rfl]
  simp [k10_want_fraction, h]
  simp [k10_prog, finX_same]
theorem r_want (v : D) (xs : List D) (hv : v = .tup xs ∨ v = .lst xs) (hl : lts S.length xs = true) (h : callF k10_prog w (n+2) 3 [v] S = .ok (.bl true) S) : callF k10_prog w (n+3) 4 [v] S = .ok (.tup xs) S := by
  rw [callF_at rfl rfl]
  have e : bi ⟨k10_prog, callF k10_prog w (n+2), w, none⟩ false .tuple [v] S = .ok (.tup xs) S := by rcases hv with rfl | rfl <;> rfl
  simp [k10_want_fraction, h, e, hl]
/-! ### arithmetic -/
def plusF (p q : Int × Int) : Int × Int := low (p.1 * q.2 + q.1 * p.2) (p.2 * q.2)
def minusF (p q : Int × Int) : Int × Int := low (p.1 * q.2 - q.1 * p.2) (p.2 * q.2)
def timesF (p q : Int × Int) : Int × Int := low (p.1 * q.1) (p.2 * q.2)
def overF (p q : Int × Int) : Int × Int := low (p.1 * q.2) (p.2 * q.1)
theorem r_plus (p q : Int × Int) (hp : 0 < p.2) (hq : 0 < q.2) (hp2 : p.2 < 1000000000) (hq2 : q.2 < 1000000000) (hb : p.2 * q.2 < 1000000000) (hw : p.2 * q.2 < w) : callF k10_prog w (n+2) 5 [fr p, fr q] S = .ok (fr (plusF p q)) S := by
  obtain ⟨a, b⟩ := p
  obtain ⟨c, d⟩ := q
  rw [callF_at rfl rfl]
  have h0 : 0 < b * d := Int.mul_pos hp hq
  have e := r_red (S := S) (w := w) (n := n) (a * d + c * b) (b * d) h0 hb hw
  dsimp only at *
  simp (disch := first | omega | fail) [k10_plus, fr, e]
  simp [fr, plusF]
theorem r_minus (p q : Int × Int) (hp : 0 < p.2) (hq : 0 < q.2) (hp2 : p.2 < 1000000000) (hq2 : q.2 < 1000000000) (hb : p.2 * q.2 < 1000000000) (hw : p.2 * q.2 < w) : callF k10_prog w (n+2) 6 [fr p, fr q] S = .ok (fr (minusF p q)) S := by
  obtain ⟨a, b⟩ := p
  obtain ⟨c, d⟩ := q
  rw [callF_at rfl rfl]
  have h0 : 0 < b * d := Int.mul_pos hp hq
  have e := r_red (S := S) (w := w) (n := n) (a * d - c * b) (b * d) h0 hb hw
  dsimp only at *
  simp (disch := first | omega | fail) [k10_minus, fr, e]
  simp [fr, minusF]
theorem r_times (p q : Int × Int) (hp : 0 < p.2) (hq : 0 < q.2) (hp2 : p.2 < 1000000000) (hq2 : q.2 < 1000000000) (hn : -1000000000 < q.1 ∧ q.1 < 1000000000) (hb : p.2 * q.2 < 1000000000) (hw : p.2 * q.2 < w) : callF k10_prog w (n+2) 7 [fr p, fr q] S = .ok (fr (timesF p q)) S := by
  obtain ⟨a, b⟩ := p
  obtain ⟨c, d⟩ := q
  rw [callF_at rfl rfl]
  have h0 : 0 < b * d := Int.mul_pos hp hq
  have e := r_red (S := S) (w := w) (n := n) (a * c) (b * d) h0 hb hw
  dsimp only at *
  simp (disch := first | omega | fail) [k10_times, fr, e]
  simp [fr, timesF]
theorem r_over (p q : Int × Int) (hp : 0 < p.2) (hq : 0 < q.1) (hp2 : p.2 < 1000000000) (hq1 : q.1 < 1000000000) (hq2 : 0 < q.2 ∧ q.2 < 1000000000) (hb : p.2 * q.1 < 1000000000) (hw : p.2 * q.1 < w) : callF k10_prog w (n+2) 8 [fr p, fr q] S = .ok (fr (overF p q)) S := by
  obtain ⟨a, b⟩ := p
  obtain ⟨c, d⟩ := q
  rw [callF_at rfl rfl]
  have h0 : 0 < b * c := Int.mul_pos hp hq
  have e := r_red (S := S) (w := w) (n := n) (a * d) (b * c) h0 hb hw
  dsimp only at *
  simp (disch := first | omega | fail) [k10_over, fr, e]
  simp [fr, overF]
/-- p < q -/
def lessF (p q : Int × Int) : Bool := decide (p.1 * q.2 < q.1 * p.2)
theorem r_less (p q : Int × Int) (hp : 0 < p.2) (hq : 0 < q.2) (hp2 : p.2 < 1000000000) (hq2 : q.2 < 1000000000) : callF k10_prog w (n+1) 9 [fr p, fr q] S = .ok (.bl (lessF p q)) S := by
  obtain ⟨a, b⟩ := p
  obtain ⟨c, d⟩ := q
  rw [callF_at rfl rfl]
  dsimp only at *
  simp (disch := first | omega | fail) [k10_is_less, fr, lessF]
theorem r_floor (p : Int × Int) (hp : 0 < p.2) (hp2 : p.2 < 1000000000) : callF k10_prog w (n+1) 10 [fr p] S = .ok (.int (p.1 / p.2)) S := by
  rw [callF_at rfl rfl]
  simp (disch := first | omega | fail) [k10_floor_of, fr]
theorem r_ceil (p : Int × Int) (hp : 0 < p.2) (hp2 : p.2 < 1000000000) : callF k10_prog w (n+1) 11 [fr p] S = .ok (.int (-(-p.1 / p.2))) S := by
  rw [callF_at rfl rfl]
  simp (disch := first | omega | fail) [k10_ceiling_of, fr]
theorem r_near (p : Int × Int) (hp : 0 < p.2) (hp2 : p.2 < 500000000) : callF k10_prog w (n+1) 12 [fr p] S = .ok (.int ((2 * p.1 + p.2) / (2 * p.2))) S := by
  rw [callF_at rfl rfl]
  simp (disch := first | omega | fail) [k10_nearest, fr]
/-! ### sums -/
theorem low_den {a b : Int} (h : 0 < b) : 0 < (low a b).2 ∧ (low a b).2 ≤ b := by
  have ⟨g1, g2⟩ := gcd_small (a := a) h
  have h2 : (Int.gcd a b : Int) ∣ b := Int.gcd_dvd_right ..
  obtain ⟨k, hk⟩ := h2
  unfold low
  dsimp only
  generalize (Int.gcd a b : Int) = g at *
  subst hk
  rw [Int.mul_ediv_cancel_left _ (by omega)]
  have k0 : 0 < k := by
    rcases Int.lt_trichotomy k 0 with z | z | z
    · have := Int.mul_neg_of_pos_of_neg g1 z; omega
    · subst z; omega
    · exact z
  refine ⟨k0, ?_⟩
  have := Int.mul_le_mul_of_nonneg_right (show (1 : Int) ≤ g by omega) (show 0 ≤ k by omega)
  omega
def dens : List (Int × Int) → Int
  | [] => 1
  | p :: ps => p.2 * dens ps
theorem dens_pos : ∀ {ps : List (Int × Int)}, (∀ p ∈ ps, 0 < p.2) → 0 < dens ps
  | [], _ => by decide
  | p :: ps, h => Int.mul_pos (h p List.mem_cons_self) (dens_pos fun q hq => h q (List.mem_cons_of_mem _ hq))
theorem mul_le {a b c : Int} (ha : 0 < a) (h : b ≤ c) : a * b ≤ a * c := Int.mul_le_mul_of_nonneg_left h (by omega)
theorem total_loop {cx : Cx} (hc : ∀ p q : Int × Int, 0 < p.2 → 0 < q.2 → p.2 < 1000000000 → q.2 < 1000000000 → p.2 * q.2 < 1000000000 → p.2 * q.2 < w → cx.call 5 [fr p, fr q] S = .ok (fr (plusF p q)) S) {A : Option D} :
    ∀ (ps : List (Int × Int)) (f : Int × Int) (o : Option D), (∀ p ∈ ps, 0 < p.2) → 0 < f.2 → f.2 * dens ps < 1000000000 → f.2 * dens ps < w →
    ∃ o', forV (turn cx (.var 2) [(.asg (.var 1) (.call 5 [(.var 1), (.var 2)]))]) (ps.map fr) [A, some (fr f), o] S = .ok (.nx [A, some (fr (ps.foldl plusF f)), o']) S
  | [], f, o, _, _, _, _ => ⟨o, rfl⟩
  | p :: ps, f, o, h, hf, hb, hw => by
    have hp := h p List.mem_cons_self
    have hd : 0 < dens ps := dens_pos fun q hq => h q (List.mem_cons_of_mem _ hq)
    have e : f.2 * dens (p :: ps) = f.2 * p.2 * dens ps := by show f.2 * (p.2 * dens ps) = _; rw [Int.mul_assoc]
    rw [e] at hb hw
    have hfp : 0 < f.2 * p.2 := Int.mul_pos hf hp
    have h1 : f.2 * p.2 * 1 ≤ f.2 * p.2 * dens ps := mul_le hfp (by omega)
    have h2 : f.2 * 1 ≤ f.2 * p.2 := mul_le hf (by omega)
    have h3 : p.2 * 1 ≤ p.2 * f.2 := mul_le hp (by omega)
    rw [Int.mul_comm p.2 f.2] at h3
    obtain ⟨l1, l2⟩ := low_den (a := f.1 * p.2 + p.1 * f.2) hfp
    have h4 : (plusF f p).2 * dens ps ≤ f.2 * p.2 * dens ps := Int.mul_le_mul_of_nonneg_right l2 (by omega)
    obtain ⟨o', z⟩ := total_loop hc ps (plusF f p) (some (fr p)) (fun q hq => h q (List.mem_cons_of_mem _ hq)) l1 (by omega) (by omega)
    refine ⟨o', ?_⟩
    rw [List.map_cons, forV]
    have e1 : turn cx (.var 2) [(.asg (.var 1) (.call 5 [(.var 1), (.var 2)]))] (fr p) [A, some (fr f), o] S = .ok (.nx [A, some (fr (plusF f p)), some (fr p)]) S := by
      simp [turn, hc f p hf hp (by omega) (by omega) (by omega) (by omega)]
    rw [e1]
    exact z
theorem r_total (ps : List (Int × Int)) (h : ∀ p ∈ ps, 0 < p.2) (hb : dens ps < 1000000000) (hw : dens ps < w) : callF k10_prog w (n+3) 13 [.lst (ps.map fr)] S = .ok (fr (ps.foldl plusF (0, 1))) S := by
  rw [callF_at rfl rfl]
  obtain ⟨o', z⟩ := total_loop (w := w) (S := S) (cx := ⟨k10_prog, callF k10_prog w (n+2), w, none⟩) (A := some (.lst (ps.map fr))) (fun p q h1 h2 h3 h4 h5 h6 => r_plus p q h1 h2 h3 h4 h5 h6) ps (0, 1) none h (by decide) (by show 1 * _ < _; omega) (by show 1 * _ < _; omega)
  have z' : forV (turn ⟨k10_prog, callF k10_prog w (n+2), w, none⟩ (.var 2) [(.asg (.var 1) (.call 5 [(.var 1), (.var 2)]))]) (ps.map fr) [some (.lst (ps.map fr)), some (.tup [.int 0, .int 1]), none] S = _ := z
  simp [k10_total, z']
  simp [fr]
/-! ### lowest terms, the law's own way -/
/-- the greatest divisor of both up to k, or 1 -/
def hi (a b : Int) : Nat → Int
  | 0 => 1
  | k + 1 => if a % (k + 1 : Nat) = 0 ∧ b % (k + 1 : Nat) = 0 then (k + 1 : Nat) else hi a b k
theorem hi_gcd {a b : Int} (hb : 0 < b) : ∀ k : Nat, Int.gcd a b ≤ k → hi a b k = Int.gcd a b
  | 0, h => by
    have := (gcd_small (a := a) hb).1
    omega
  | k + 1, h => by
    unfold hi
    by_cases e : Int.gcd a b = k + 1
    · rw [if_pos, e]
      have d1 : (Int.gcd a b : Int) ∣ a := Int.gcd_dvd_left ..
      have d2 : (Int.gcd a b : Int) ∣ b := Int.gcd_dvd_right ..
      rw [e] at d1 d2
      exact ⟨Int.emod_eq_zero_of_dvd d1, Int.emod_eq_zero_of_dvd d2⟩
    · rw [if_neg]
      · exact hi_gcd hb k (by omega)
      · rintro ⟨h1, h2⟩
        have d1 := Int.dvd_of_emod_eq_zero h1
        have d2 := Int.dvd_of_emod_eq_zero h2
        have : ((k + 1 : Nat) : Int) ∣ (Int.gcd a b : Int) := Int.dvd_coe_gcd d1 d2
        have := Int.le_of_dvd (gcd_small (a := a) hb).1 this
        omega
theorem low_loop {cx : Cx} (a b : Int) : ∀ (m k : Nat) (o : Option D),
    ∃ o', forV (turn cx (.var 3) [(.ite (.and [(.val (.cmp .eq (.bin .mod (.bi false .int [(.var 0)]) (.var 3)) (.cst (.int 0)))), (.val (.cmp .eq (.bin .mod (.bi false .int [(.var 1)]) (.var 3)) (.cst (.int 0))))]) [(.asg (.var 2) (.var 3))] [])])
      ((List.range' k m).map fun j => .int (1 + (j : Nat))) [some (.int a), some (.int b), some (.int (hi a b k)), o] S = .ok (.nx [some (.int a), some (.int b), some (.int (hi a b (k + m))), o']) S
  | 0, k, o => ⟨o, rfl⟩
  | m + 1, k, o => by
    obtain ⟨o', z⟩ := low_loop (cx := cx) a b m (k + 1) (some (.int (1 + (k : Nat))))
    refine ⟨o', ?_⟩
    rw [List.range'_succ, List.map_cons, forV]
    have e1 : turn cx (.var 3) [(.ite (.and [(.val (.cmp .eq (.bin .mod (.bi false .int [(.var 0)]) (.var 3)) (.cst (.int 0)))), (.val (.cmp .eq (.bin .mod (.bi false .int [(.var 1)]) (.var 3)) (.cst (.int 0))))]) [(.asg (.var 2) (.var 3))] [])] (.int (1 + (k : Nat))) [some (.int a), some (.int b), some (.int (hi a b k)), o] S
        = .ok (.nx [some (.int a), some (.int b), some (.int (hi a b (k + 1))), some (.int (1 + (k : Nat)))]) S := by
      have ek : (1 + (k : Nat) : Int) = ((k + 1 : Nat) : Int) := by omega
      rw [ek, hi]
      by_cases h1 : a % ((k + 1 : Nat) : Int) = 0
      · by_cases h2 : b % ((k + 1 : Nat) : Int) = 0
        · rw [if_pos ⟨h1, h2⟩]
          simp (disch := first | omega | fail) only [turn, tgt_var, List.set, sts_cons, st_ite, evt_and, evtAnd_cons, evt_val, ev_cmp, ev_bin, ev_bi, evs_cons, evs_nil, ev_var, ev_cst, List.getElem?_cons_zero, List.getElem?_cons_succ, R.bind_ok, bi_int, op_mod, R.of_some, cm_eq, tru_bl, h1, h2, decide_true, if_true, evtAnd_one, R.stm_ok, st_asg, sts_nil, thn_nx]
        · rw [if_neg fun z => h2 z.2]
          simp (disch := first | omega | fail) only [turn, tgt_var, List.set, sts_cons, st_ite, evt_and, evtAnd_cons, evt_val, ev_cmp, ev_bin, ev_bi, evs_cons, evs_nil, ev_var, ev_cst, List.getElem?_cons_zero, List.getElem?_cons_succ, R.bind_ok, bi_int, op_mod, R.of_some, cm_eq, tru_bl, h1, h2, decide_true, decide_false, Bool.false_eq_true, if_false, if_true, evtAnd_one, R.stm_ok, st_asg, sts_nil, thn_nx]
      · rw [if_neg fun z => h1 z.1]
        simp (disch := first | omega | fail) only [turn, tgt_var, List.set, sts_cons, st_ite, evt_and, evtAnd_cons, evt_val, ev_cmp, ev_bin, ev_bi, evs_cons, evs_nil, ev_var, ev_cst, List.getElem?_cons_zero, List.getElem?_cons_succ, R.bind_ok, bi_int, op_mod, R.of_some, cm_eq, tru_bl, h1, decide_true, decide_false, Bool.false_eq_true, if_false, if_true, evtAnd_one, R.stm_ok, st_asg, sts_nil, thn_nx]
    rw [e1]
    simp only [R.bind_ok]
    rw [show k + (m + 1) = k + 1 + m by omega]
    exact z
theorem r_low (a b : Int) (h : 0 < b) (h2 : b < 16000000) : callF k10_prog w (n+1) 18 [.int a, .int b] S = .ok (fr (low a b)) S := by
  rw [callF_at rfl rfl]
  have ⟨g1, g2⟩ := gcd_small (a := a) h
  obtain ⟨o', z⟩ := low_loop (S := S) (cx := ⟨k10_prog, callF k10_prog w n, w, none⟩) a b b.toNat 0 none
  have er : rangeD 1 (b + 1) = (List.range' 0 b.toNat).map fun j => .int (1 + (j : Nat)) := by
    unfold rangeD
    rw [show (b + 1 - 1).toNat = b.toNat by omega, List.range_eq_range']
  have eh : hi a b (0 + b.toNat) = Int.gcd a b := hi_gcd h _ (by omega)
  have e0 : hi a b 0 = 1 := rfl
  rw [eh, e0] at z
  have er2 := rng_2 (a := 1) (n := b + 1) (by omega) (by omega) (by omega) (by omega) (by omega)
  rw [er] at er2
  unfold fr low
  generalize (Int.gcd a b : Int) = g at *
  simp (disch := first | omega | fail) [k10__law_low, er2, z]
  exact fin_tup (by simp)
/-! ### the greatest and the least whole numbers -/
theorem intsD_map : ∀ xs : List Int, intsD (xs.map .int) = some xs
  | [] => rfl
  | x :: xs => by rw [List.map_cons, intsD, intsD_map xs]; rfl
theorem maxI_mem : ∀ (b : Int) (xs : List Int), (∀ x ∈ b :: xs, x ≤ maxI b xs) ∧ maxI b xs ∈ b :: xs
  | b, [] => by simp [maxI]
  | b, x :: xs => by
    unfold maxI
    obtain ⟨h1, h2⟩ := maxI_mem (if b < x then x else b) xs
    have hb := h1 _ List.mem_cons_self
    have hb2 : b ≤ (if b < x then x else b) ∧ x ≤ (if b < x then x else b) := by split <;> omega
    refine ⟨fun y hy => ?_, ?_⟩
    · simp only [List.mem_cons] at hy
      rcases hy with rfl | rfl | hy
      · omega
      · omega
      · exact h1 y (List.mem_cons_of_mem _ hy)
    · simp only [List.mem_cons] at h2 ⊢
      rcases h2 with h2 | h2
      · rw [h2]; split <;> simp
      · exact .inr (.inr h2)
theorem minI_mem : ∀ (b : Int) (xs : List Int), (∀ x ∈ b :: xs, minI b xs ≤ x) ∧ minI b xs ∈ b :: xs
  | b, [] => by simp [minI]
  | b, x :: xs => by
    unfold minI
    obtain ⟨h1, h2⟩ := minI_mem (if x < b then x else b) xs
    have hb := h1 _ List.mem_cons_self
    have hb2 : (if x < b then x else b) ≤ b ∧ (if x < b then x else b) ≤ x := by split <;> omega
    refine ⟨fun y hy => ?_, ?_⟩
    · simp only [List.mem_cons] at hy
      rcases hy with rfl | rfl | hy
      · omega
      · omega
      · exact h1 y (List.mem_cons_of_mem _ hy)
    · simp only [List.mem_cons] at h2 ⊢
      rcases h2 with h2 | h2
      · rw [h2]; split <;> simp
      · exact .inr (.inr h2)
theorem max_is (cx : Cx) (c : Bool) {xs : List Int} {m : Int} (hm : m ∈ xs) (h : ∀ x ∈ xs, x ≤ m) : bi cx c .max1 [.lst (xs.map .int)] S = .ok (.int m) S := by
  cases xs with
  | nil => simp at hm
  | cons b xs =>
    have e : fMax S (.lst ((b :: xs).map .int)) = some (.int (maxI b xs)) := by
      show (match intsD ((b :: xs).map D.int) with | some (n :: ns) => some (D.int (maxI n ns)) | _ => none) = _
      rw [intsD_map]
    show R.of (fMax S (.lst ((b :: xs).map .int))) S = _
    rw [e]
    obtain ⟨h1, h2⟩ := maxI_mem b xs
    have := h _ h2
    have := h1 _ hm
    rw [show maxI b xs = m by omega]
    rfl
theorem min_is (cx : Cx) (c : Bool) {xs : List Int} {m : Int} (hm : m ∈ xs) (h : ∀ x ∈ xs, m ≤ x) : bi cx c .min1 [.lst (xs.map .int)] S = .ok (.int m) S := by
  cases xs with
  | nil => simp at hm
  | cons b xs =>
    have e : fMin S (.lst ((b :: xs).map .int)) = some (.int (minI b xs)) := by
      show (match intsD ((b :: xs).map D.int) with | some (n :: ns) => some (D.int (minI n ns)) | _ => none) = _
      rw [intsD_map]
    show R.of (fMin S (.lst ((b :: xs).map .int))) S = _
    rw [e]
    obtain ⟨h1, h2⟩ := minI_mem b xs
    have := h _ h2
    have := h1 _ hm
    rw [show minI b xs = m by omega]
    rfl
/-- range(-61, 62) -/
def whs : List Int := (List.range 123).map fun k => -61 + (k : Nat)
theorem whs_mem {x : Int} : x ∈ whs ↔ -61 ≤ x ∧ x < 62 := by
  unfold whs
  simp only [List.mem_map, List.mem_range]
  constructor
  · rintro ⟨k, hk, rfl⟩; omega
  · intro h
    exact ⟨(x + 61).toNat, by omega, by omega⟩
theorem whs_rg : rng .range2 [.int (-61), .int 62] = some (whs.map .int) := by
  rw [rng_2 (by omega) (by omega) (by omega) (by omega) (by omega)]
  unfold rangeD whs
  simp
/-- [k for k in xs if test k] of ints -/
theorem comp_ints {f : D → Sto → R (Option D)} {xs : List Int} {t : Int → Bool} (h : ∀ x ∈ xs, f (.int x) S = .ok (if t x then some (.int x) else none) S) : colV f (xs.map .int) S = .ok ((xs.filter t).map .int) S := by
  rw [colV_pure (g := fun d => match d with | .int x => if t x then some (.int x) else none | _ => none)]
  · congr 1
    clear h
    induction xs with
    | nil => rfl
    | cons x xs ih =>
      rw [List.map_cons, List.filterMap_cons]
      dsimp only
      cases e : t x with
      | true => rw [List.filter_cons_of_pos e]; simp [ih]
      | false => rw [List.filter_cons_of_neg (by simp [e])]; simp [ih]
  · intro d hd
    obtain ⟨x, hx, rfl⟩ := List.mem_map.mp hd
    exact h x hx
/-! ### the median -/
def Gd (p : Int × Int) : Prop := 0 < p.2 ∧ p.2 < 1000000000
def insK (p : Int × Int) (ps : List (Int × Int)) : List (Int × Int) := ps.take (ps.filter fun o => !lessF p o).length ++ [p] ++ ps.drop (ps.filter fun o => !lessF p o).length
theorem comp_fr {f : D → Sto → R (Option D)} {ps : List (Int × Int)} {t : Int × Int → Bool} {l : Nat} (hl : S[l]? = some (.lst (ps.map fr))) (h : ∀ x ∈ ps, f (fr x) S = .ok (if t x then some (fr x) else none) S) : col f (.cell false l ps.length) S = .ok ((ps.filter t).map fr) S := by
  have := col_cell (f := f) (g := fun d => match d with | .tup [.int a, .int b] => if t (a, b) then some (fr (a, b)) else none | _ => none) hl fun d hd => by
    obtain ⟨x, hx, rfl⟩ := List.mem_map.mp hd
    exact h x hx
  rw [List.length_map] at this
  rw [this]
  congr 1
  clear this hl h
  induction ps with
  | nil => rfl
  | cons x xs ih =>
    obtain ⟨a, b⟩ := x
    rw [List.map_cons, List.filterMap_cons]
    simp only [fr] at ih ⊢
    cases e : t (a, b) with
    | true => rw [List.filter_cons_of_pos e]; simp [ih]; rfl
    | false => rw [List.filter_cons_of_neg (by simp [e])]; simp [ih]
def medB : List Dn.St := [(.asg (.var 3) (.bi false .len [(.comp false [6] (.var 6) (.val (.var 1)) (some (.not (.val (.call 9 [(.var 2), (.var 6)])))) (.var 6))])), (.exp (.bm .insert (.var 1) [(.var 3), (.var 2)]))]
theorem med_turn {cx : Cx} (hc : ∀ p q : Int × Int, 0 < p.2 → 0 < q.2 → p.2 < 1000000000 → q.2 < 1000000000 → ∀ S, cx.call 9 [fr p, fr q] S = .ok (.bl (lessF p q)) S) {A o o' : Option D} {l : Nat} {p : Int × Int} {ps : List (Int × Int)}
    (hl : S[l]? = some (.lst (ps.map fr))) (hp : Gd p) (hs : ∀ q ∈ ps, Gd q) (hn : ps.length < 1000) :
    turn cx (.var 2) medB (fr p) [A, some (.ref l), o, o', none, none, none] S = .ok (.nx [A, some (.ref l), some (fr p), some (.int ((ps.filter fun o => !lessF p o).length : Nat)), none, none, none]) (setL S l ((insK p ps).map fr)) := by
  have c1 : col (cturn cx [6] (.var 6) (some (.not (.val (.call 9 [(.var 2), (.var 6)])))) (.var 6) [A, some (.ref l), some (fr p), o', none, none, none]) (.cell false l ps.length) S = .ok ((ps.filter fun o => !lessF p o).map fr) S :=
    comp_fr hl fun x hx => by
      have hx' := hs x hx
      simp [cturn, wipe, hc p x hp.1 hx'.1 hp.2 hx'.2]
      cases lessF p x <;> rfl
  have sr := src_ref hl
  rw [List.length_map] at sr
  have hk : (ps.filter fun o => !lessF p o).length ≤ ps.length := List.length_filter_le _ _
  have bi1 := bm_insert (x := fr p) (k := (ps.filter fun o => !lessF p o).length) hl (by rw [List.length_map]; omega) (by rw [List.length_map]; exact hk)
  have rl := refL_at hl
  simp [turn, medB, sr, c1, rl, bi1]
  simp [insK]
theorem med_loop {cx : Cx} (hc : ∀ p q : Int × Int, 0 < p.2 → 0 < q.2 → p.2 < 1000000000 → q.2 < 1000000000 → ∀ S, cx.call 9 [fr p, fr q] S = .ok (.bl (lessF p q)) S) {A : Option D} {l : Nat} : ∀ (qs ps : List (Int × Int)) (o o' : Option D) (S : Sto),
    S[l]? = some (.lst (ps.map fr)) → (∀ q ∈ qs, Gd q) → (∀ q ∈ ps, Gd q) → ps.length + qs.length < 1000 →
    ∃ o2 o3, forV (turn cx (.var 2) medB) (qs.map fr) [A, some (.ref l), o, o', none, none, none] S = .ok (.nx [A, some (.ref l), o2, o3, none, none, none]) (setL S l ((qs.foldl (fun r p => insK p r) ps).map fr))
  | [], ps, o, o', S, hl, _, _, _ => ⟨o, o', by
      have e : setL S l (ps.map fr) = S := by
        unfold setL
        obtain ⟨h1, h2⟩ := List.getElem?_eq_some_iff.mp hl
        rw [← h2, List.set_getElem_self]
      show R.ok _ S = R.ok _ (setL S l (ps.map fr))
      rw [e]⟩
  | p :: qs, ps, o, o', S, hl, hq, hp, hn => by
    have hpg := hq p List.mem_cons_self
    rw [List.length_cons] at hn
    have lk : (insK p ps).length = ps.length + 1 := by
      have hk : (ps.filter fun o => !lessF p o).length ≤ ps.length := List.length_filter_le _ _
      simp [insK]
      omega
    have mk : ∀ q ∈ insK p ps, Gd q := fun q hq' => by
      simp only [insK, List.mem_append, List.mem_singleton] at hq'
      rcases hq' with (h | h) | h
      · exact hp q (List.mem_of_mem_take h)
      · rw [h]; exact hpg
      · exact hp q (List.mem_of_mem_drop h)
    obtain ⟨o2, o3, z⟩ := med_loop hc qs (insK p ps) (some (fr p)) (some (.int ((ps.filter fun o => !lessF p o).length : Nat))) (setL S l ((insK p ps).map fr)) (setL_get hl) (fun q h => hq q (List.mem_cons_of_mem _ h)) mk (by omega)
    refine ⟨o2, o3, ?_⟩
    rw [List.map_cons, forV, med_turn hc hl hpg hp (by omega)]
    rw [setL_set] at z
    exact z
theorem r_median (p : Int × Int) (qs : List (Int × Int)) (hg : ∀ q ∈ p :: qs, Gd q) (hn : qs.length < 900) (row : List (Int × Int)) (hrow : row = qs.foldl (fun r p => insK p r) [p]) (f s : Int × Int) (hf : row[(row.length - 1) / 2]? = some f) (hs : row[row.length / 2]? = some s)
    (hb : f.2 * s.2 < 400000000) (hw : f.2 * s.2 * 2 < w) (fg : Gd f) (sg : Gd s) (hnum : -1000000000 < (plusF f s).1 ∧ (plusF f s).1 < 1000000000) :
    S.all (LO.lt S.length) = true → callF k10_prog w (n+4) 14 [.lst ((p :: qs).map fr)] S = .ok (fr (timesF (plusF f s) (1, 2))) S := by
  intro hS
  rw [callF_at rfl rfl]
  have hl : (S ++ [LO.lst [fr p]])[S.length]? = some (.lst ([p].map fr)) := by simp
  obtain ⟨o2, o3, z⟩ := med_loop (cx := ⟨k10_prog, callF k10_prog w (n+3), w, none⟩) (fun p q h1 h2 h3 h4 S => r_less p q h1 h2 h3 h4) (A := some (.lst ((p :: qs).map fr))) qs [p] none none (S ++ [.lst [fr p]]) hl (fun q h => hg q (List.mem_cons_of_mem _ h)) (fun q h => by rw [List.mem_singleton.mp h]; exact hg p List.mem_cons_self) (by show 1 + qs.length < 1000; omega)
  rw [← hrow] at z
  have hl2 : (setL (S ++ [LO.lst [fr p]]) S.length (row.map fr))[S.length]? = some (.lst (row.map fr)) := setL_get hl
  have e0 : setL (S ++ [LO.lst [fr p]]) S.length (row.map fr) = S ++ [.lst (row.map fr)] := by
    unfold setL
    rw [List.set_append_right _ _ (Nat.le_refl _), Nat.sub_self]
    rfl
  rw [e0] at z hl2
  have hd : (p :: qs).map fr = fr p :: qs.map fr := rfl
  have cutE : cut (fr p :: qs.map fr) (some 1) none = qs.map fr := by
    unfold cut sIx
    simp
    rw [List.take_of_length_le (by simp)]
  have len := bi_len_ref (S ++ [.lst (row.map fr)]) ⟨k10_prog, callF k10_prog w (n+3), w, none⟩ false hl2
  rw [List.length_map] at len
  have r1 : 0 < row.length := by
    obtain ⟨h, _⟩ := List.getElem?_eq_some_iff.mp hs
    omega
  have g1 : getI (S ++ [.lst (row.map fr)]) (.ref S.length) (.int (((row.length : Int) - 1) / 2)) = some (fr f) := by
    rw [get_ref _ _ hl2, show (((row.length : Int) - 1) / 2) = (((row.length - 1) / 2 : Nat) : Int) by omega, at_nat (by rw [List.length_map]; omega)]
    obtain ⟨h, h'⟩ := List.getElem?_eq_some_iff.mp hf
    simp [h']
  have g2 : getI (S ++ [.lst (row.map fr)]) (.ref S.length) (.int ((row.length : Int) / 2)) = some (fr s) := by
    rw [get_ref _ _ hl2, show ((row.length : Int) / 2) = ((row.length / 2 : Nat) : Int) by omega, at_nat (by rw [List.length_map]; omega)]
    obtain ⟨h, h'⟩ := List.getElem?_eq_some_iff.mp hs
    simp [h']
  have hfs : 0 < f.2 * s.2 := Int.mul_pos fg.1 sg.1
  obtain ⟨l1, l2⟩ := low_den (a := f.1 * s.2 + s.1 * f.2) hfs
  have pl := fun T : Sto => r_plus (S := T) (w := w) (n := n + 1) f s fg.1 sg.1 fg.2 sg.2 (by omega) (by omega)
  have tm := fun T : Sto => r_times (S := T) (w := w) (n := n + 1) (plusF f s) (1, 2) l1 (by decide) (by show (low _ _).2 < _; omega) (by decide) (by decide) (by show (low _ _).2 * 2 < _; omega) (by show (low _ _).2 * 2 < _; omega)
  have tm' : ∀ T : Sto, callF k10_prog w (n + 3) 7 [fr (plusF f s), .tup [.int 1, .int 2]] T = .ok (fr (timesF (plusF f s) (1, 2))) T := tm
  rw [hd] at z ⊢
  have z' := z
  unfold medB at z'
  have opS : ∀ T : Sto, opSl false (.lst (fr p :: qs.map fr)) (some 1) none T = .ok (.lst (qs.map fr)) T := fun T => by
    show mkL false (cut (fr p :: qs.map fr) (some 1) none) T = _
    rw [cutE]; rfl
  simp (disch := first | omega | fail) [k10_median, opS, z', len, g1, g2, pl, tm']
  exact fin_back (by simp [fr]) (by simp) hS
/-! ### lowest terms: the arithmetic -/
theorem low_spec {a b : Int} (h : 0 < b) : ∃ g : Int, 0 < g ∧ a = g * (low a b).1 ∧ b = g * (low a b).2 ∧ Int.gcd (low a b).1 (low a b).2 = 1 ∧ 0 < (low a b).2 := by
  have ⟨g1, g2⟩ := gcd_small (a := a) h
  refine ⟨Int.gcd a b, g1, ?_, ?_, ?_, (low_den h).1⟩
  · exact (Int.mul_ediv_cancel' (Int.gcd_dvd_left ..)).symm
  · exact (Int.mul_ediv_cancel' (Int.gcd_dvd_right ..)).symm
  · exact Int.gcd_ediv_gcd_ediv_gcd (by omega)
theorem dvd_cop {a b c : Int} (h : Int.gcd a b = 1) (hd : a ∣ b * c) : a ∣ c := by
  rw [← Int.natAbs_dvd_natAbs, Int.natAbs_mul] at hd
  rw [← Int.natAbs_dvd_natAbs]
  exact Nat.Coprime.dvd_of_dvd_mul_left h hd
theorem low_uniq {x y u v : Int} (h1 : Int.gcd x y = 1) (h2 : Int.gcd u v = 1) (hy : 0 < y) (hv : 0 < v) (h : x * v = u * y) : x = u ∧ y = v := by
  have d1 : y ∣ v := dvd_cop (b := x) (by rw [Int.gcd_comm]; exact h1) ⟨u, by rw [h, Int.mul_comm]⟩
  have d2 : v ∣ y := dvd_cop (b := u) (by rw [Int.gcd_comm]; exact h2) ⟨x, by rw [← h, Int.mul_comm]⟩
  have e := Int.dvd_antisymm (by omega) (by omega) d1 d2
  subst e
  exact ⟨Int.eq_of_mul_eq_mul_right (by omega) h, rfl⟩
theorem low_eq {a b c d : Int} (hb : 0 < b) (hd : 0 < d) (h : a * d = c * b) : low a b = low c d := by
  obtain ⟨g, g0, e1, e2, e3, e4⟩ := low_spec (a := a) hb
  obtain ⟨k, k0, f1, f2, f3, f4⟩ := low_spec (a := c) hd
  generalize hp : low a b = p at *
  generalize hq : low c d = q at *
  obtain ⟨x, y⟩ := p
  obtain ⟨u, v⟩ := q
  dsimp only at *
  have : g * k * (x * v) = g * k * (u * y) := by
    subst e1 e2 f1 f2
    clear hp hq
    grind
  have z := Int.eq_of_mul_eq_mul_left (show g * k ≠ 0 by have := Int.mul_pos g0 k0; omega) this
  obtain ⟨h1, h2⟩ := low_uniq e3 f3 e4 f4 z
  rw [h1, h2]
theorem low_val {a b : Int} (h : 0 < b) : (low a b).1 * b = a * (low a b).2 := by
  obtain ⟨g, g0, e1, e2, e3, e4⟩ := low_spec (a := a) h
  generalize low a b = p at *
  obtain ⟨x, y⟩ := p
  dsimp only at *
  subst e1 e2
  grind
theorem low_idem {a b : Int} (h : 0 < b) : low (low a b).1 (low a b).2 = low a b := low_eq (low_den h).1 h (low_val h)
/-- in lowest terms -/
def Lw (p : Int × Int) : Prop := 0 < p.2 ∧ low p.1 p.2 = p
theorem lw_low {a b : Int} (h : 0 < b) : Lw (low a b) := ⟨(low_den h).1, low_idem h⟩
theorem plus_low {a b c d : Int} (hb : 0 < b) (hd : 0 < d) : plusF (low a b) (low c d) = low (a * d + c * b) (b * d) := by
  have v1 := low_val (a := a) hb
  have v2 := low_val (a := c) hd
  have p1 := (low_den (a := a) hb).1
  have p2 := (low_den (a := c) hd).1
  unfold plusF
  generalize low a b = p at *
  generalize low c d = q at *
  exact low_eq (Int.mul_pos p1 p2) (Int.mul_pos hb hd) (by grind)
theorem minus_low {a b c d : Int} (hb : 0 < b) (hd : 0 < d) : minusF (low a b) (low c d) = low (a * d - c * b) (b * d) := by
  have v1 := low_val (a := a) hb
  have v2 := low_val (a := c) hd
  have p1 := (low_den (a := a) hb).1
  have p2 := (low_den (a := c) hd).1
  unfold minusF
  generalize low a b = p at *
  generalize low c d = q at *
  exact low_eq (Int.mul_pos p1 p2) (Int.mul_pos hb hd) (by grind)
theorem times_low {a b c d : Int} (hb : 0 < b) (hd : 0 < d) : timesF (low a b) (low c d) = low (a * c) (b * d) := by
  have v1 := low_val (a := a) hb
  have v2 := low_val (a := c) hd
  have p1 := (low_den (a := a) hb).1
  have p2 := (low_den (a := c) hd).1
  unfold timesF
  generalize low a b = p at *
  generalize low c d = q at *
  exact low_eq (Int.mul_pos p1 p2) (Int.mul_pos hb hd) (by grind)
theorem low_num_pos {c d : Int} (hd : 0 < d) (hc : 0 < c) : 0 < (low c d).1 := by
  obtain ⟨g, g0, e1, e2, e3, e4⟩ := low_spec (a := c) hd
  generalize low c d = q at *
  rcases Int.lt_trichotomy q.1 0 with z | z | z
  · have := Int.mul_neg_of_pos_of_neg g0 z; omega
  · rw [z] at e1; omega
  · exact z
theorem over_low {a b c d : Int} (hb : 0 < b) (hd : 0 < d) (hc : 0 < c) : overF (low a b) (low c d) = low (a * d) (b * c) := by
  have v1 := low_val (a := a) hb
  have v2 := low_val (a := c) hd
  have p1 := (low_den (a := a) hb).1
  have p2 := low_num_pos hd hc
  unfold overF
  generalize low a b = p at *
  generalize low c d = q at *
  exact low_eq (Int.mul_pos p1 p2) (Int.mul_pos hb hc) (by grind)
theorem less_low {a b c d : Int} (hb : 0 < b) (hd : 0 < d) : lessF (low a b) (low c d) = decide (a * d < c * b) := by
  obtain ⟨g, g0, e1, e2, e3, e4⟩ := low_spec (a := a) hb
  obtain ⟨k, k0, f1, f2, f3, f4⟩ := low_spec (a := c) hd
  unfold lessF
  generalize low a b = p at *
  generalize low c d = q at *
  obtain ⟨x, y⟩ := p
  obtain ⟨u, v⟩ := q
  dsimp only at *
  subst e1 e2 f1 f2
  have hgk := Int.mul_pos g0 k0
  have m1 : g * x * (k * v) = g * k * (x * v) := by grind
  have m2 : k * u * (g * y) = g * k * (u * y) := by grind
  rw [m1, m2]
  congr 1
  rw [eq_iff_iff]
  exact (Int.mul_lt_mul_left hgk).symm
theorem floor_low {a b : Int} (hb : 0 < b) : (low a b).1 / (low a b).2 = a / b := by
  obtain ⟨g, g0, e1, e2, e3, e4⟩ := low_spec (a := a) hb
  generalize low a b = p at *
  rw [e1, e2, Int.mul_ediv_mul_of_pos _ _ g0]
theorem ceil_low {a b : Int} (hb : 0 < b) : -(low a b).1 / (low a b).2 = -a / b := by
  obtain ⟨g, g0, e1, e2, e3, e4⟩ := low_spec (a := a) hb
  generalize low a b = p at *
  rw [e1, e2, show -(g * p.1) = g * -p.1 by grind, Int.mul_ediv_mul_of_pos _ _ g0]
theorem near_low {a b : Int} (hb : 0 < b) : (2 * (low a b).1 + (low a b).2) / (2 * (low a b).2) = (2 * a + b) / (2 * b) := by
  obtain ⟨g, g0, e1, e2, e3, e4⟩ := low_spec (a := a) hb
  generalize low a b = p at *
  rw [e1, e2, show 2 * (g * p.1) + g * p.2 = g * (2 * p.1 + p.2) by grind, show 2 * (g * p.2) = g * (2 * p.2) by grind, Int.mul_ediv_mul_of_pos _ _ g0]
theorem low_two {a b : Int} (hb : 0 < b) : low (a * 2) (b * 2) ≠ (a * 2, b * 2) := by
  intro h
  obtain ⟨g, g0, e1, e2, e3, e4⟩ := low_spec (a := a * 2) (b := b * 2) (by omega)
  rw [h] at e3
  have := Int.dvd_coe_gcd (show (2 : Int) ∣ a * 2 from ⟨a, by omega⟩) (show (2 : Int) ∣ b * 2 from ⟨b, by omega⟩)
  dsimp only at e3
  rw [e3] at this
  omega
/-! ### order -/
def leF (p q : Int × Int) : Prop := p.1 * q.2 ≤ q.1 * p.2
theorem less_not {p q : Int × Int} : lessF p q = false ↔ leF q p := by
  unfold lessF leF
  rw [decide_eq_false_iff_not]
  omega
theorem less_iff {p q : Int × Int} : lessF p q = true ↔ ¬ leF q p := by
  unfold lessF leF
  rw [decide_eq_true_eq]
  omega
theorem leF_trans {p q r : Int × Int} (hp : 0 < p.2) (hq : 0 < q.2) (hr : 0 < r.2) (h1 : leF p q) (h2 : leF q r) : leF p r := by
  unfold leF at *
  have a1 := Int.mul_le_mul_of_nonneg_right h1 (Int.le_of_lt hr)
  have a2 := Int.mul_le_mul_of_nonneg_right h2 (Int.le_of_lt hp)
  refine Int.le_of_mul_le_mul_left (a := q.2) ?_ hq
  have e1 : q.2 * (p.1 * r.2) = p.1 * q.2 * r.2 := by grind
  have e2 : q.1 * p.2 * r.2 = q.1 * r.2 * p.2 := by grind
  have e3 : q.2 * (r.1 * p.2) = r.1 * q.2 * p.2 := by grind
  omega
theorem leF_total (p q : Int × Int) : leF p q ∨ leF q p := by
  unfold leF
  omega
theorem insK_low {p o : Int × Int} {r : List (Int × Int)} (h : lessF p o = false) : insK p (o :: r) = o :: insK p r := by
  unfold insK
  rw [List.filter_cons_of_pos (by simp [h])]
  simp
theorem insK_high {p o : Int × Int} {r : List (Int × Int)} (h : lessF p o = true) (hr : ∀ x ∈ r, lessF p x = true) : insK p (o :: r) = p :: o :: r := by
  unfold insK
  have : (o :: r).filter (fun o => !lessF p o) = [] := by
    rw [List.filter_eq_nil_iff]
    intro x hx
    rcases List.mem_cons.mp hx with rfl | hx
    · simp [h]
    · simp [hr x hx]
  rw [this]
  rfl
theorem insK_perm (p : Int × Int) (r : List (Int × Int)) : (insK p r).Perm (p :: r) := by
  unfold insK
  generalize (r.filter fun o => !lessF p o).length = k
  have h1 : (r.take k ++ [p] ++ r.drop k).Perm (p :: (r.take k ++ r.drop k)) := by
    rw [List.append_assoc]
    exact List.perm_middle
  rwa [List.take_append_drop] at h1
theorem insK_sorted {p : Int × Int} (hp : 0 < p.2) : ∀ {r : List (Int × Int)}, (∀ x ∈ r, 0 < x.2) → r.Pairwise leF → (insK p r).Pairwise leF
  | [], _, _ => List.pairwise_singleton _ _
  | o :: r, hd, hs => by
    obtain ⟨s1, s2⟩ := List.pairwise_cons.mp hs
    have ho := hd o List.mem_cons_self
    cases h : lessF p o with
    | false =>
      rw [insK_low h]
      refine List.pairwise_cons.mpr ⟨fun x hx => ?_, insK_sorted hp (fun x hx => hd x (List.mem_cons_of_mem _ hx)) s2⟩
      rcases List.mem_cons.mp ((insK_perm p r).mem_iff.mp hx) with rfl | hx
      · exact less_not.mp h
      · exact s1 x hx
    | true =>
      have hpo : leF p o := (leF_total p o).resolve_right (less_iff.mp h)
      rw [insK_high h fun x hx => less_iff.mpr fun z => less_iff.mp h (leF_trans ho (hd x (List.mem_cons_of_mem _ hx)) hp (s1 x hx) z)]
      refine List.pairwise_cons.mpr ⟨fun x hx => ?_, hs⟩
      rcases List.mem_cons.mp hx with rfl | hx
      · exact hpo
      · exact leF_trans hp ho (hd x (List.mem_cons_of_mem _ hx)) hpo (s1 x hx)
theorem row_perm : ∀ (qs r : List (Int × Int)), (qs.foldl (fun r p => insK p r) r).Perm (r ++ qs)
  | [], r => by rw [List.append_nil]; exact List.Perm.refl _
  | q :: qs, r => by
    have h1 := row_perm qs (insK q r)
    have h2 : (insK q r ++ qs).Perm ((q :: r) ++ qs) := (insK_perm q r).append_right _
    exact (h1.trans h2).trans List.perm_middle.symm
theorem row_sorted : ∀ (qs r : List (Int × Int)), (∀ x ∈ r ++ qs, 0 < x.2) → r.Pairwise leF → (qs.foldl (fun r p => insK p r) r).Pairwise leF
  | [], r, _, h => h
  | q :: qs, r, hd, h => by
    have hq := hd q (by simp)
    refine row_sorted qs (insK q r) (fun x hx => ?_) (insK_sorted hq (fun x hx => hd x (by simp [hx])) h)
    rcases List.mem_append.mp hx with hx | hx
    · rcases List.mem_cons.mp ((insK_perm q r).mem_iff.mp hx) with rfl | hx
      · exact hq
      · exact hd x (by simp [hx])
    · exact hd x (by simp [hx])
/-- how many lie below, above a value between the two in the middle -/
theorem count_below {row : List (Int × Int)} {m s : Int × Int} {h : Nat} (hs : row.Pairwise leF) (hd : ∀ x ∈ row, 0 < x.2) (hm : 0 < m.2) (e : row[h]? = some s) (hms : leF m s) : (row.filter fun x => lessF x m).length ≤ h := by
  obtain ⟨hl, e'⟩ := List.getElem?_eq_some_iff.mp e
  have sp : row = row.take h ++ row.drop h := (List.take_append_drop h row).symm
  have dz : (row.drop h).filter (fun x => lessF x m) = [] := by
    rw [List.filter_eq_nil_iff]
    intro x hx
    have : leF s x := by
      obtain ⟨j, hj, rfl⟩ := List.getElem_of_mem hx
      rw [List.getElem_drop]
      by_cases hj0 : j = 0
      · subst hj0
        simp only [Nat.add_zero]
        rw [e']
        exact Int.le_refl _
      · rw [← e']
        exact List.pairwise_iff_getElem.mp hs h (h + j) hl (by rw [List.length_drop] at hj; omega) (by omega)
    have hx' := hd x (List.mem_of_mem_drop hx)
    have := leF_trans hm (hd s (by rw [← e']; exact List.getElem_mem hl)) hx' hms this
    rw [less_not.mpr this]
    decide
  rw [sp, List.filter_append, dz, List.append_nil]
  refine Nat.le_trans (List.length_filter_le _ _) ?_
  rw [List.length_take]
  omega
theorem count_above {row : List (Int × Int)} {m f : Int × Int} {h : Nat} (hs : row.Pairwise leF) (hd : ∀ x ∈ row, 0 < x.2) (hm : 0 < m.2) (e : row[h]? = some f) (hmf : leF f m) : (row.filter fun x => lessF m x).length + h + 1 ≤ row.length := by
  obtain ⟨hl, e'⟩ := List.getElem?_eq_some_iff.mp e
  have sp : row = row.take (h + 1) ++ row.drop (h + 1) := (List.take_append_drop (h + 1) row).symm
  have dz : (row.take (h + 1)).filter (fun x => lessF m x) = [] := by
    rw [List.filter_eq_nil_iff]
    intro x hx
    have : leF x f := by
      obtain ⟨j, hj, rfl⟩ := List.getElem_of_mem hx
      rw [List.getElem_take]
      rw [List.length_take] at hj
      by_cases hj0 : j = h
      · subst hj0
        rw [e']
        exact Int.le_refl _
      · rw [← e']
        exact List.pairwise_iff_getElem.mp hs j h (by omega) hl (by omega)
    have hx' := hd x (List.mem_of_mem_take hx)
    have := leF_trans hx' (hd f (by rw [← e']; exact List.getElem_mem hl)) hm this hmf
    rw [less_not.mpr this]
    decide
  have : (row.filter fun x => lessF m x).length = ((row.drop (h + 1)).filter fun x => lessF m x).length := by
    conv => lhs; rw [sp, List.filter_append, dz, List.nil_append]
  rw [this]
  have := List.length_filter_le (fun x => lessF m x) (row.drop (h + 1))
  rw [List.length_drop] at this
  omega
/-- the middle of two -/
theorem mid_low {f s : Int × Int} (hf : 0 < f.2) (hs : 0 < s.2) (h : leF f s) : 0 < (timesF (plusF f s) (1, 2)).2 ∧ leF f (timesF (plusF f s) (1, 2)) ∧ leF (timesF (plusF f s) (1, 2)) s := by
  have hfs := Int.mul_pos hf hs
  have v1 := low_val (a := f.1 * s.2 + s.1 * f.2) hfs
  have p1 := (low_den (a := f.1 * s.2 + s.1 * f.2) hfs).1
  have e1 : plusF f s = low (f.1 * s.2 + s.1 * f.2) (f.2 * s.2) := rfl
  rw [← e1] at v1 p1
  have hd2 : 0 < (plusF f s).2 * 2 := by omega
  have v2 := low_val (a := (plusF f s).1 * 1) hd2
  have p2 := (low_den (a := (plusF f s).1 * 1) hd2).1
  have e2 : timesF (plusF f s) (1, 2) = low ((plusF f s).1 * 1) ((plusF f s).2 * 2) := rfl
  rw [← e2] at v2 p2
  generalize timesF (plusF f s) (1, 2) = m at *
  generalize plusF f s = q at *
  unfold leF at *
  refine ⟨p2, ?_, ?_⟩
  · -- 2 f1 s2 ≤ f1 s2 + s1 f2
    have a1 := Int.mul_le_mul_of_nonneg_right h (Int.le_of_lt (Int.mul_pos p1 p2))
    refine Int.le_of_mul_le_mul_left (a := q.2 * 2 * s.2) ?_ (Int.mul_pos hd2 hs)
    have b1 : q.2 * 2 * s.2 * (f.1 * m.2) = f.1 * s.2 * (q.2 * m.2) + f.1 * s.2 * (q.2 * m.2) := by grind
    have b2 : q.2 * 2 * s.2 * (m.1 * f.2) = (f.1 * s.2 + s.1 * f.2) * (q.2 * m.2) := by grind
    rw [b1, b2, Int.add_mul]
    omega
  · have a1 := Int.mul_le_mul_of_nonneg_right h (Int.le_of_lt (Int.mul_pos p1 p2))
    refine Int.le_of_mul_le_mul_left (a := q.2 * 2 * f.2) ?_ (Int.mul_pos hd2 hf)
    have b1 : q.2 * 2 * f.2 * (m.1 * s.2) = (f.1 * s.2 + s.1 * f.2) * (q.2 * m.2) := by grind
    have b2 : q.2 * 2 * f.2 * (s.1 * m.2) = s.1 * f.2 * (q.2 * m.2) + s.1 * f.2 * (q.2 * m.2) := by grind
    rw [b1, b2, Int.add_mul]
    omega
theorem mid_self {f : Int × Int} (h : Lw f) : timesF (plusF f f) (1, 2) = f := by
  obtain ⟨hf, hl⟩ := h
  have hfs := Int.mul_pos hf hf
  have v1 := low_val (a := f.1 * f.2 + f.1 * f.2) hfs
  have p1 := (low_den (a := f.1 * f.2 + f.1 * f.2) hfs).1
  have e1 : plusF f f = low (f.1 * f.2 + f.1 * f.2) (f.2 * f.2) := rfl
  rw [← e1] at v1 p1
  have e2 : timesF (plusF f f) (1, 2) = low ((plusF f f).1 * 1) ((plusF f f).2 * 2) := rfl
  rw [e2]
  generalize plusF f f = q at *
  have c : q.1 * 1 * f.2 = f.1 * (q.2 * 2) := by
    refine Int.eq_of_mul_eq_mul_left (show f.2 ≠ 0 by omega) ?_
    grind
  rw [low_eq (show 0 < q.2 * 2 by omega) hf c, hl]
/-! ### the law -/
theorem tk {ns : List Int} {p s c : Int} (many : Int) (hp : 0 ≤ p) (hs : 0 ≤ s ∧ s < 2147483647) (hm : 0 < many) (hm2 : many < 1073741824) :
    ∃ v p' s' c', 0 ≤ v ∧ v < many ∧ 0 ≤ p' ∧ (0 ≤ s' ∧ s' < 2147483647) ∧ callF k10_prog w (n + 1) 15 [.ref 0, .int many] [.lst (rowD ns p s c)] = .ok (.int v) [.lst (rowD ns p' s' c')] :=
  run_taken (P := k10_prog) (w := w) (n := n) (f := 15) (l := 0) (S := [.lst (rowD ns p s c)]) rfl rfl hp hs hm hm2
theorem stp {s : Dn.St} {ss : List Dn.St} {cx : Cx} {ρ ρ' : Env} {S S' : Sto} (h : st s cx ρ S = .ok (.nx ρ') S') : sts (s :: ss) cx ρ S = sts ss cx ρ' S' := by
  rw [sts_cons, h]; rfl
/-- one more fraction of the script -/
theorem rows_loop {ns : List Int} (hw : 1000 < w) (hc : ∀ (p s c many : Int), 0 ≤ p → (0 ≤ s ∧ s < 2147483647) → 0 < many → many < 1073741824 → ∃ v p' s' c', 0 ≤ v ∧ v < many ∧ 0 ≤ p' ∧ (0 ≤ s' ∧ s' < 2147483647) ∧ callF k10_prog w (n + 3) 15 [.ref 0, .int many] [.lst (rowD ns p s c)] = .ok (.int v) [.lst (rowD ns p' s' c')])
    {a0 a2 a3 a4 a5 a6 a7 a8 a9 a10 a11 a12 a13 a14 a15 a16 a17 a18 : Option D} : ∀ (xs : List D) (p s c : Int), 0 ≤ p → (0 ≤ s ∧ s < 2147483647) →
    ∃ (fs : List (Int × Int)) (p' s' c' : Int), fs.length = xs.length ∧ (∀ f ∈ fs, Lw f ∧ f.2 ≤ 6 ∧ -60 ≤ f.1 ∧ f.1 ≤ 60) ∧ colV (cturn ⟨k10_prog, callF k10_prog w (n+3), w, none⟩ [18] (.var 18) none (.call 2 [(.bin .sub (.call 15 [(.var 1), (.cst (.int 40))]) (.cst (.int 20))), (.bin .add (.cst (.int 1)) (.call 15 [(.var 1), (.cst (.int 6))]))])
      [a0, some (.ref 0), a2, a3, a4, a5, a6, a7, a8, a9, a10, a11, a12, a13, a14, a15, a16, a17, a18]) xs [.lst (rowD ns p s c)] = .ok (fs.map fr) [.lst (rowD ns p' s' c')]
  | [], p, s, c, hp, hs => ⟨[], p, s, c, rfl, fun _ h => by simp at h, rfl⟩
  | x :: xs, p, s, c, hp, hs => by
    obtain ⟨v, p1, s1, c1, v0, v1, hp1, hs1, e1⟩ := hc p s c 40 hp hs (by decide) (by decide)
    obtain ⟨u, p2, s2, c2, u0, u1, hp2, hs2, e2⟩ := hc p1 s1 c1 6 hp1 hs1 (by decide) (by decide)
    obtain ⟨fs, p3, s3, c3, hl, hf, e3⟩ := rows_loop hw hc xs p2 s2 c2 hp2 hs2
    refine ⟨low (v - 20) (1 + u) :: fs, p3, s3, c3, by simp [hl], fun f hm => ?_, ?_⟩
    · rcases List.mem_cons.mp hm with rfl | hm
      · obtain ⟨d1, d2⟩ := low_den (a := v - 20) (b := 1 + u) (by omega)
        obtain ⟨g, g0, q1, q2, q3, q4⟩ := low_spec (a := v - 20) (b := 1 + u) (by omega)
        refine ⟨lw_low (by omega), by omega, ?_⟩
        generalize (low (v - 20) (1 + u)).1 = z at *
        by_cases hz : 0 ≤ z
        · have := Int.mul_le_mul_of_nonneg_right (show (1 : Int) ≤ g by omega) hz
          omega
        · have := Int.mul_le_mul_of_nonpos_right (show (1 : Int) ≤ g by omega) (show z ≤ 0 by omega)
          omega
      · exact hf f hm
    · have e4 := r_red (S := [LO.lst (rowD ns p2 s2 c2)]) (w := w) (n := n + 2) (v - 20) (1 + u) (by omega) (by omega) (by omega)
      rw [colV]
      have : cturn ⟨k10_prog, callF k10_prog w (n+3), w, none⟩ [18] (.var 18) none (.call 2 [(.bin .sub (.call 15 [(.var 1), (.cst (.int 40))]) (.cst (.int 20))), (.bin .add (.cst (.int 1)) (.call 15 [(.var 1), (.cst (.int 6))]))])
          [a0, some (.ref 0), a2, a3, a4, a5, a6, a7, a8, a9, a10, a11, a12, a13, a14, a15, a16, a17, a18] x [.lst (rowD ns p s c)] = .ok (some (fr (low (v - 20) (1 + u)))) [.lst (rowD ns p2 s2 c2)] := by
        simp [cturn, wipe, e1, e2, e4]
      rw [this, R.bind_ok, e3]
      rfl
/-- the law's own sum -/
theorem whole_loop {cx : Cx} (hc : ∀ a b : Int, 0 < b → b < 16000000 → cx.call 18 [.int a, .int b] S = .ok (fr (low a b)) S) {a0 a1 a2 a3 a5 a6 a7 a8 a9 a10 a11 a12 a13 a14 a15 a17 a18 : Option D} :
    ∀ (ps : List (Int × Int)) (f : Int × Int) (o : Option D), (∀ p ∈ ps, 0 < p.2) → 0 < f.2 → f.2 * dens ps < 16000000 →
    ∃ o', forV (turn cx (.var 4) [(.asg (.var 16) (.call 18 [(.bin .add (.bin .mul (.idx (.var 16) (.cst (.int 0))) (.idx (.var 4) (.cst (.int 1)))) (.bin .mul (.idx (.var 4) (.cst (.int 0))) (.idx (.var 16) (.cst (.int 1))))), (.bin .mul (.idx (.var 16) (.cst (.int 1))) (.idx (.var 4) (.cst (.int 1))))]))]) (ps.map fr)
      [a0, a1, a2, a3, o, a5, a6, a7, a8, a9, a10, a11, a12, a13, a14, a15, some (fr f), a17, a18] S = .ok (.nx [a0, a1, a2, a3, o', a5, a6, a7, a8, a9, a10, a11, a12, a13, a14, a15, some (fr (ps.foldl plusF f)), a17, a18]) S
  | [], f, o, _, _, _ => ⟨o, rfl⟩
  | p :: ps, f, o, h, hf, hb => by
    have hp := h p List.mem_cons_self
    have hd : 0 < dens ps := dens_pos fun q hq => h q (List.mem_cons_of_mem _ hq)
    have e : f.2 * dens (p :: ps) = f.2 * p.2 * dens ps := by show f.2 * (p.2 * dens ps) = _; rw [Int.mul_assoc]
    rw [e] at hb
    have hfp : 0 < f.2 * p.2 := Int.mul_pos hf hp
    have h1 : f.2 * p.2 * 1 ≤ f.2 * p.2 * dens ps := mul_le hfp (by omega)
    have h2 : f.2 * 1 ≤ f.2 * p.2 := mul_le hf (by omega)
    have h3 : p.2 * 1 ≤ p.2 * f.2 := mul_le hp (by omega)
    rw [Int.mul_comm p.2 f.2] at h3
    obtain ⟨l1, l2⟩ := low_den (a := f.1 * p.2 + p.1 * f.2) hfp
    have h4 : (plusF f p).2 * dens ps ≤ f.2 * p.2 * dens ps := Int.mul_le_mul_of_nonneg_right l2 (by omega)
    obtain ⟨o', z⟩ := whole_loop hc ps (plusF f p) (some (fr p)) (fun q hq => h q (List.mem_cons_of_mem _ hq)) l1 (by omega)
    refine ⟨o', ?_⟩
    rw [List.map_cons, forV]
    have e2 := hc (f.1 * p.2 + p.1 * f.2) (f.2 * p.2) hfp (by omega)
    have e1 : turn cx (.var 4) [(.asg (.var 16) (.call 18 [(.bin .add (.bin .mul (.idx (.var 16) (.cst (.int 0))) (.idx (.var 4) (.cst (.int 1)))) (.bin .mul (.idx (.var 4) (.cst (.int 0))) (.idx (.var 16) (.cst (.int 1))))), (.bin .mul (.idx (.var 16) (.cst (.int 1))) (.idx (.var 4) (.cst (.int 1))))]))] (fr p)
        [a0, a1, a2, a3, o, a5, a6, a7, a8, a9, a10, a11, a12, a13, a14, a15, some (fr f), a17, a18] S = .ok (.nx [a0, a1, a2, a3, some (fr p), a5, a6, a7, a8, a9, a10, a11, a12, a13, a14, a15, some (fr (plusF f p)), a17, a18]) S := by
      have g0 : ∀ q : Int × Int, getI S (fr q) (.int 0) = some (.int q.1) := fun q => by simp [fr]
      have g1 : ∀ q : Int × Int, getI S (fr q) (.int 1) = some (.int q.2) := fun q => by simp [fr]
      simp (disch := first | omega | fail) [turn, g0, g1, e2, plusF]
    rw [e1]
    exact z
theorem comp_one {f : D → Sto → R (Option D)} {ps : List (Int × Int)} {t : Int × Int → Bool} (h : ∀ x ∈ ps, f (fr x) S = .ok (if t x then some (.int 1) else none) S) : colV f (ps.map fr) S = .ok ((ps.filter t).map fun _ => .int 1) S := by
  rw [colV_pure (g := fun d => match d with | .tup [.int a, .int b] => if t (a, b) then some (.int 1) else none | _ => none) _ fun d hd => by
    obtain ⟨x, hx, rfl⟩ := List.mem_map.mp hd
    exact h x hx]
  congr 1
  clear h
  induction ps with
  | nil => rfl
  | cons x xs ih =>
    obtain ⟨a, b⟩ := x
    rw [List.map_cons, List.filterMap_cons]
    simp only [fr] at ih ⊢
    cases e : t (a, b) with
    | true => rw [List.filter_cons_of_pos e]; simp [ih]
    | false => rw [List.filter_cons_of_neg (by simp [e])]; simp [ih]
theorem eqB_fr (p q : Int × Int) : eqB (fr p) (fr q) = decide (p = q) := by
  obtain ⟨a, b⟩ := p
  obtain ⟨c, d⟩ := q
  simp [fr, eqB, eqBs]
theorem pd_fr (p : Int × Int) : pd 60 (fr p) = true := by simp [fr, pd, pds]
theorem pds_fr : ∀ ps : List (Int × Int), pds 60 (ps.map fr) = true
  | [] => by simp [pds]
  | p :: ps => by simp [pds, pd_fr, pds_fr ps]
theorem inv_fr (m : Int × Int) (ps : List (Int × Int)) : inv (fr m) (ps.map fr) = some (decide (m ∈ ps)) := by
  unfold inv
  rw [pd_fr, pds_fr, if_pos (by rfl)]
  congr 1
  induction ps with
  | nil => rfl
  | cons p ps ih =>
    rw [List.map_cons, List.any_cons, ih, eqB_fr]
    by_cases h : m = p
    · simp [h]
    · have : ¬ p = m := fun z => h z.symm
      simp [h, this]
end K10
open Dn -- names
/-! k10: the law. -/
namespace K10
variable {w m : Nat}
/-- [None, (1, 0), ..]: none of them is a fraction, each is refused as it stands -/
theorem bad_loop {n : Nat} {S : Sto} (hw : 4 < w) {a0 a1 a2 a3 a4 a5 a6 a7 a9 a10 a11 a12 a13 a14 a15 a16 a18 : Option D} : ∀ (vs : List D), (∀ v ∈ vs, v ∈ bads) → ∀ o : Option D,
    ∃ o', forV (turn ⟨k10_prog, callF k10_prog w (n + 3), w, none⟩ (.var 8) [(.ite (.val (.call 3 [(.var 8)])) [(.ret (.cst (.bl false)))] []), (.tri [(.exp (.call 4 [(.var 8)])), (.ret (.cst (.bl false)))] [(.mk 1 (some 17) [(.ite (.val (.repne (.exf 17 0) (.var 8))) [(.ret (.cst (.bl false)))] [])])])]) vs
      [a0, a1, a2, a3, a4, a5, a6, a7, o, a9, a10, a11, a12, a13, a14, a15, a16, none, a18] S = .ok (.nx [a0, a1, a2, a3, a4, a5, a6, a7, o', a9, a10, a11, a12, a13, a14, a15, a16, none, a18]) S
  | [], _, o => ⟨o, rfl⟩
  | v :: vs, h, o => by
    have hv := h v List.mem_cons_self
    obtain ⟨o', z⟩ := bad_loop hw (n := n) (S := S) vs (fun u hu => h u (List.mem_cons_of_mem _ hu)) (some v)
    refine ⟨o', ?_⟩
    rw [forV]
    have f1 : callF k10_prog w (n + 3) 3 [v] S = .ok (.bl false) S := r_bad (n := n + 1) hw v hv
    have f2 : callF k10_prog w (n + 3) 4 [v] S = .exc ⟨1, [v]⟩ S := r_wantX v (r_bad (n := n) hw v hv)
    have f3 : rdOf S v = v ∧ reprOk v = true ∧ same v v = true := by
      simp only [bads, List.mem_cons, List.not_mem_nil, or_false] at hv
      rcases hv with rfl | rfl | rfl | rfl | rfl | rfl | rfl | rfl | rfl <;> exact ⟨rfl, by decide, by decide⟩
    have f4 : k10_prog.xcs[1]? = some ⟨[0], [1, 0]⟩ := rfl
    have e1 : turn ⟨k10_prog, callF k10_prog w (n + 3), w, none⟩ (.var 8) [(.ite (.val (.call 3 [(.var 8)])) [(.ret (.cst (.bl false)))] []), (.tri [(.exp (.call 4 [(.var 8)])), (.ret (.cst (.bl false)))] [(.mk 1 (some 17) [(.ite (.val (.repne (.exf 17 0) (.var 8))) [(.ret (.cst (.bl false)))] [])])])] v
      [a0, a1, a2, a3, a4, a5, a6, a7, o, a9, a10, a11, a12, a13, a14, a15, a16, none, a18] S = .ok (.nx [a0, a1, a2, a3, a4, a5, a6, a7, some v, a9, a10, a11, a12, a13, a14, a15, a16, none, a18]) S := by
      simp [turn, f1, f2]
      rw [han_cons (xd := ⟨[0], [1, 0]⟩) (h := f4)]
      simp [f4, getId, f3.1, f3.2.1, f3.2.2]
    rw [e1]
    exact z
theorem law_true (ns : List Int) (hw : 100000000 < w) : ∃ S', callF k10_prog w (m + 10) 19 [.scr (ns.map .int)] [] = .ok (.bl true) S' := by
  have T := fun (p s c many : Int) (h1 : 0 ≤ p) (h2 : 0 ≤ s ∧ s < 2147483647) (h3 : 0 < many) (h4 : many < 1073741824) => tk (w := w) (n := m + 8) (ns := ns) (p := p) (s := s) (c := c) many h1 h2 h3 h4
  have T' : ∀ (p s c many : Int), 0 ≤ p → (0 ≤ s ∧ s < 2147483647) → 0 < many → many < 1073741824 → ∃ v p' s' c', 0 ≤ v ∧ v < many ∧ 0 ≤ p' ∧ (0 ≤ s' ∧ s' < 2147483647) ∧ callF k10_prog w (m + 9) 15 [.ref 0, .int many] [.lst (rowD ns p s c)] = .ok (.int v) [.lst (rowD ns p' s' c')] := T
  have low' : ∀ (S : Sto) (a b : Int), 0 < b → b < 16000000 → callF k10_prog w (m + 9) 18 [.int a, .int b] S = .ok (fr (low a b)) S := fun S a b => r_low (n := m + 8) a b
  have red' : ∀ (S : Sto) (a b : Int), 0 < b → b < 10000000 → callF k10_prog w (m + 9) 2 [.int a, .int b] S = .ok (fr (low a b)) S := fun S a b h1 h2 => r_red (n := m + 8) a b h1 (by omega) (by omega)
  have alike : ∀ (S : Sto) (d : D), pln 3 d = true → callF k10_prog w (m + 9) 16 [d, d] S = .ok (.bl true) S := fun S d h => by
    have := run_alike (P := k10_prog) (w := w) (f := 16) (S := S) rfl 3 d h (m + 5)
    rwa [show 3 + (m + 5) + 1 = m + 9 by omega] at this
  rw [callF_at rfl rfl]
  show ∃ S', endF 0 (sts k10_law ⟨k10_prog, callF k10_prog w (m + 9), w, none⟩ _ []) = _
  obtain ⟨v1, p1, s1, c1, v1a, v1b, hp1, hs1, e1⟩ := T' 0 61 0 121 (by decide) (by decide) (by decide) (by decide)
  obtain ⟨v2, p2, s2, c2, v2a, v2b, hp2, hs2, e2⟩ := T' p1 s1 c1 60 hp1 hs1 (by decide) (by decide)
  obtain ⟨v3, p3, s3, c3, v3a, v3b, hp3, hs3, e3⟩ := T' p2 s2 c2 121 hp2 hs2 (by decide) (by decide)
  obtain ⟨v4, p4, s4, c4, v4a, v4b, hp4, hs4, e4⟩ := T' p3 s3 c3 60 hp3 hs3 (by decide) (by decide)
  unfold k10_law
  -- row
  rw [stp (ρ' := [some (.scr (ns.map .int)), some (.ref 0), none, none, none, none, none, none, none, none, none, none, none, none, none, none, none, none, none]) (S' := [.lst (rowD ns 0 61 0)]) (by simp; rfl)]
  -- a, b, c, d
  rw [stp (ρ' := [some (.scr (ns.map .int)), some (.ref 0), none, none, none, none, none, none, none, some (.int (v1 - 60)), some (.int (1 + v2)), some (.int (v3 - 60)), some (.int (1 + v4)), none, none, none, none, none, none]) (S' := [.lst (rowD ns p4 s4 c4)]) (by simp [e1, e2, e3, e4])]
  obtain ⟨a, ha⟩ : ∃ a, a = v1 - 60 := ⟨_, rfl⟩
  obtain ⟨b, hb⟩ : ∃ b, b = 1 + v2 := ⟨_, rfl⟩
  obtain ⟨c, hc⟩ : ∃ c, c = v3 - 60 := ⟨_, rfl⟩
  obtain ⟨d, hd⟩ : ∃ d, d = 1 + v4 := ⟨_, rfl⟩
  rw [← ha, ← hb, ← hc, ← hd]
  have a1 : -60 ≤ a ∧ a ≤ 60 := by omega
  have b1 : 0 < b ∧ b ≤ 60 := by omega
  have c1' : -60 ≤ c ∧ c ≤ 60 := by omega
  have d1 : 0 < d ∧ d ≤ 60 := by omega
  clear ha hb hc hd e1 e2 e3 e4 v1a v1b v2a v2b v3a v3b v4a v4b
  generalize hS : ([.lst (rowD ns p4 s4 c4)] : Sto) = S4
  -- one, other
  rw [stp (ρ' := [some (.scr (ns.map .int)), some (.ref 0), none, none, none, none, none, none, none, some (.int a), some (.int b), some (.int c), some (.int d), some (fr (low a b)), some (fr (low c d)), none, none, none, none]) (S' := S4) (by simp (disch := first | omega | fail) [red'])]
  obtain ⟨dA, dB⟩ := low_den (a := a) b1.1
  obtain ⟨dC, dD⟩ := low_den (a := c) d1.1
  have pfr : ∀ p : Int × Int, pln 2 (fr p) = true := fun p => by simp [fr, pln, plns]
  have gd1 : Gd (low a b) := ⟨dA, by omega⟩
  have gd2 : Gd (low c d) := ⟨dC, by omega⟩
  have isf1 := fun S => r_isfr (S := S) (w := w) (n := m + 7) (low a b) (by omega) (by omega) (fr (low a b)) (.inl rfl)
  have isf2 := fun S => r_isfr (S := S) (w := w) (n := m + 7) (a * 2, b * 2) (by show b * 2 < _; omega) (by show b * 2 < _; omega) (.tup [.int (a * 2), .int (b * 2)]) (.inl rfl)
  rw [decide_eq_true (low_idem b1.1), decide_eq_true dA] at isf1
  rw [decide_eq_false (low_two b1.1), Bool.and_false] at isf2
  have al1 := fun S => alike S (.tup [fr (low a b), fr (low c d)]) (by simp [pln, plns, pfr])
  have isf1' : ∀ S, callF k10_prog w (m + 9) 3 [fr (low a b)] S = .ok (.bl true) S := isf1
  have isf2' : ∀ S, callF k10_prog w (m + 9) 3 [.tup [.int (a * 2), .int (b * 2)]] S = .ok (.bl false) S := isf2
  rw [stp (ρ' := [some (.scr (ns.map .int)), some (.ref 0), none, none, none, none, none, none, none, some (.int a), some (.int b), some (.int c), some (.int d), some (fr (low a b)), some (fr (low c d)), none, none, none, none]) (S' := S4) (by simp (disch := first | omega | fail) [low', al1, isf1', isf2'])]
  -- sums, differences, products
  have bd0 : 0 < b * d := Int.mul_pos b1.1 d1.1
  have bd1 : b * d ≤ 3600 := by
    have h1 := Int.mul_le_mul_of_nonneg_right b1.2 (show 0 ≤ d by omega)
    have h2 := d1.2
    omega
  have dd0 : 0 < (low a b).2 * (low c d).2 := Int.mul_pos dA dC
  have dd1 : (low a b).2 * (low c d).2 ≤ 3600 := by
    have h1 := Int.mul_le_mul_of_nonneg_right (show (low a b).2 ≤ 60 by omega) (show 0 ≤ (low c d).2 by omega)
    omega
  have num : ∀ {x y : Int}, 0 < y → -60 ≤ x ∧ x ≤ 60 → -60 ≤ (low x y).1 ∧ (low x y).1 ≤ 60 := fun {x y} hy hx => by
    obtain ⟨g, g0, q1, q2, q3, q4⟩ := low_spec (a := x) hy
    generalize (low x y).1 = z at *
    by_cases hz : 0 ≤ z
    · have := Int.mul_le_mul_of_nonneg_right (show (1 : Int) ≤ g by omega) hz
      omega
    · have := Int.mul_le_mul_of_nonpos_right (show (1 : Int) ≤ g by omega) (show z ≤ 0 by omega)
      omega
  have nA := num b1.1 a1
  have nC := num d1.1 c1'
  have pl : ∀ S, callF k10_prog w (m + 9) 5 [fr (low a b), fr (low c d)] S = .ok (fr (low (a * d + c * b) (b * d))) S := fun S => by
    rw [← plus_low b1.1 d1.1]
    exact r_plus (n := m + 7) _ _ dA dC (by omega) (by omega) (by omega) (by omega)
  have mi : ∀ S, callF k10_prog w (m + 9) 6 [fr (low a b), fr (low c d)] S = .ok (fr (low (a * d - c * b) (b * d))) S := fun S => by
    rw [← minus_low b1.1 d1.1]
    exact r_minus (n := m + 7) _ _ dA dC (by omega) (by omega) (by omega) (by omega)
  have ti : ∀ S, callF k10_prog w (m + 9) 7 [fr (low a b), fr (low c d)] S = .ok (fr (low (a * c) (b * d))) S := fun S => by
    rw [← times_low b1.1 d1.1]
    exact r_times (n := m + 7) _ _ dA dC (by omega) (by omega) (by omega) (by omega) (by omega)
  have ls : ∀ S, callF k10_prog w (m + 9) 9 [fr (low a b), fr (low c d)] S = .ok (.bl (decide (a * d < c * b))) S := fun S => by
    rw [← less_low b1.1 d1.1]
    exact r_less (n := m + 8) _ _ dA dC (by omega) (by omega)
  have al2 := fun S => alike S (.tup [fr (low (a * d + c * b) (b * d)), fr (low (a * d - c * b) (b * d)), fr (low (a * c) (b * d))]) (by simp [pln, plns, pfr])
  rw [stp (ρ' := [some (.scr (ns.map .int)), some (.ref 0), none, none, none, none, none, none, none, some (.int a), some (.int b), some (.int c), some (.int d), some (fr (low a b)), some (fr (low c d)), none, none, none, none]) (S' := S4) (by simp (disch := first | omega | fail) [low', al2, pl, mi, ti])]
  have tru' : ∀ (S : Sto) (x : Bool), callF k10_prog w (m + 9) 17 [.bl x, .bl x] S = .ok (.bl true) S := fun S x => by
    rw [callF_at rfl rfl]
    simp [k10__law_truth, subK]
  have step6 : st (.ite (.or [(.and [(.val (.cmp .gt (.var 11) (.cst (.int 0)))), (.not (.val (.call 16 [(.call 8 [(.var 13), (.var 14)]), (.call 18 [(.bin .mul (.var 9) (.var 12)), (.bin .mul (.var 10) (.var 11))])])))]), (.not (.val (.call 17 [(.call 9 [(.var 13), (.var 14)]), (.cmp .lt (.bin .mul (.var 9) (.var 12)) (.bin .mul (.var 11) (.var 10)))])))]) [(.ret (.cst (.bl false)))] []) ⟨k10_prog, callF k10_prog w (m + 9), w, none⟩ [some (.scr (ns.map .int)), some (.ref 0), none, none, none, none, none, none, none, some (.int a), some (.int b), some (.int c), some (.int d), some (fr (low a b)), some (fr (low c d)), none, none, none, none] S4 = .ok (.nx [some (.scr (ns.map .int)), some (.ref 0), none, none, none, none, none, none, none, some (.int a), some (.int b), some (.int c), some (.int d), some (fr (low a b)), some (fr (low c d)), none, none, none, none]) S4 := by
    by_cases hc0 : 0 < c
    · have bc0 : 0 < b * c := Int.mul_pos b1.1 hc0
      have bc1 : b * c ≤ 3600 := by
        have h1 := Int.mul_le_mul_of_nonneg_right b1.2 (show 0 ≤ c by omega)
        omega
      have np := low_num_pos d1.1 hc0
      have h2 : (low a b).2 * (low c d).1 ≤ 3600 := by
        have h1 := Int.mul_le_mul_of_nonneg_right (show (low a b).2 ≤ 60 by omega) (show 0 ≤ (low c d).1 by omega)
        omega
      have ov : ∀ S, callF k10_prog w (m + 9) 8 [fr (low a b), fr (low c d)] S = .ok (fr (low (a * d) (b * c))) S := fun S => by
        rw [← over_low b1.1 d1.1 hc0]
        exact r_over (n := m + 7) _ _ dA np (by omega) (by omega) ⟨dC, by omega⟩ (by omega) (by omega)
      have al3 := fun S => alike S (fr (low (a * d) (b * c))) (by simp [fr, pln, plns])
      simp (disch := first | omega | fail) [low', al3, ov, ls, tru', hc0]
    · simp (disch := first | omega | fail) [ls, tru', hc0]
  rw [stp step6]
  -- floor, ceiling, nearest
  have brg : ∀ (cx : Cx) (S : Sto), bi cx false .range2 [.int (-61), .int 62] S = .ok (.lst (whs.map .int)) S := fun cx S => by
    show (match rng .range2 [.int (-61), .int 62] with | some xs => mkL false xs S | none => .bad) = _
    rw [whs_rg]
    rfl
  rw [stp (ρ' := [some (.scr (ns.map .int)), some (.ref 0), some (.lst (whs.map .int)), none, none, none, none, none, none, some (.int a), some (.int b), some (.int c), some (.int d), some (fr (low a b)), some (fr (low c d)), none, none, none, none]) (S' := S4) (by simp [brg])]
  have q1 : -60 ≤ a / b ∧ a / b ≤ 60 := by
    constructor
    · exact (Int.le_ediv_iff_mul_le b1.1).mpr (by omega)
    · have := Int.ediv_mul_le a (show b ≠ 0 by omega)
      have h2 : (a / b) ≤ 60 := by
        rcases Int.lt_or_le 60 (a / b) with z | z
        · have := Int.mul_le_mul_of_nonneg_left (show (1 : Int) ≤ b by omega) (show 0 ≤ a / b by omega)
          omega
        · exact z
      exact h2
  have q2 : -60 ≤ -a / b ∧ -a / b ≤ 60 := by
    constructor
    · exact (Int.le_ediv_iff_mul_le b1.1).mpr (by omega)
    · have := Int.ediv_mul_le (-a) (show b ≠ 0 by omega)
      rcases Int.lt_or_le 60 (-a / b) with z | z
      · have := Int.mul_le_mul_of_nonneg_left (show (1 : Int) ≤ b by omega) (show 0 ≤ -a / b by omega)
        omega
      · exact z
  have q3 : -60 ≤ (2 * a + b) / (2 * b) ∧ (2 * a + b) / (2 * b) ≤ 61 := by
    constructor
    · exact (Int.le_ediv_iff_mul_le (by omega)).mpr (by omega)
    · have := Int.ediv_mul_le (2 * a + b) (show 2 * b ≠ 0 by omega)
      rcases Int.lt_or_le 61 ((2 * a + b) / (2 * b)) with z | z
      · have := Int.mul_le_mul_of_nonneg_right (show (62 : Int) ≤ (2 * a + b) / (2 * b) by omega) (show 0 ≤ 2 * b by omega)
        omega
      · exact z
  have mx1 : ∀ (cx : Cx) S, bi cx false .max1 [.lst ((whs.filter fun k => decide (k * b ≤ a)).map .int)] S = .ok (.int (a / b)) S := fun cx S => by
    refine max_is cx false ?_ fun x hx => ?_
    · rw [List.mem_filter, whs_mem, decide_eq_true_eq]
      exact ⟨by omega, Int.ediv_mul_le a (by omega)⟩
    · rw [List.mem_filter, decide_eq_true_eq] at hx
      exact (Int.le_ediv_iff_mul_le b1.1).mpr hx.2
  have mn1 : ∀ (cx : Cx) S, bi cx false .min1 [.lst ((whs.filter fun k => decide (a ≤ k * b)).map .int)] S = .ok (.int (-(-a / b))) S := fun cx S => by
    refine min_is cx false ?_ fun x hx => ?_
    · rw [List.mem_filter, whs_mem, decide_eq_true_eq]
      have := Int.ediv_mul_le (-a) (show b ≠ 0 by omega)
      have e : -(-a / b) * b = -(-a / b * b) := by rw [Int.neg_mul]
      exact ⟨by omega, by omega⟩
    · rw [List.mem_filter, decide_eq_true_eq] at hx
      have e : -x * b = -(x * b) := Int.neg_mul ..
      have := (Int.le_ediv_iff_mul_le b1.1 (a := -x) (b := -a)).mpr (by omega)
      omega
  have mx2 : ∀ (cx : Cx) S, bi cx false .max1 [.lst ((whs.filter fun k => decide ((2 * k - 1) * b ≤ 2 * a)).map .int)] S = .ok (.int ((2 * a + b) / (2 * b))) S := fun cx S => by
    refine max_is cx false ?_ fun x hx => ?_
    · rw [List.mem_filter, whs_mem, decide_eq_true_eq]
      have := Int.ediv_mul_le (2 * a + b) (show 2 * b ≠ 0 by omega)
      have e : (2 * ((2 * a + b) / (2 * b)) - 1) * b = (2 * a + b) / (2 * b) * (2 * b) - b := by grind
      exact ⟨by omega, by omega⟩
    · rw [List.mem_filter, decide_eq_true_eq] at hx
      have e : (2 * x - 1) * b = x * (2 * b) - b := by grind
      exact (Int.le_ediv_iff_mul_le (by omega)).mpr (by omega)
  have cp1 : colV (cturn ⟨k10_prog, callF k10_prog w (m + 9), w, none⟩ [18] (.var 18) (some (.val (.cmp .le (.bin .mul (.var 18) (.var 10)) (.var 9)))) (.var 18) [some (.scr (ns.map .int)), some (.ref 0), some (.lst (whs.map .int)), none, none, none, none, none, none, some (.int a), some (.int b), some (.int c), some (.int d), some (fr (low a b)), some (fr (low c d)), none, none, none, none]) (whs.map .int) S4 = .ok ((whs.filter fun k => decide (k * b ≤ a)).map .int) S4 := comp_ints fun x hx => by
    have := whs_mem.mp hx
    simp (disch := first | omega | fail) [cturn, wipe]
    by_cases h : x * b ≤ a <;> simp [h]
  have cp2 : colV (cturn ⟨k10_prog, callF k10_prog w (m + 9), w, none⟩ [18] (.var 18) (some (.val (.cmp .ge (.bin .mul (.var 18) (.var 10)) (.var 9)))) (.var 18) [some (.scr (ns.map .int)), some (.ref 0), some (.lst (whs.map .int)), none, none, none, none, none, none, some (.int a), some (.int b), some (.int c), some (.int d), some (fr (low a b)), some (fr (low c d)), none, none, none, none]) (whs.map .int) S4 = .ok ((whs.filter fun k => decide (a ≤ k * b)).map .int) S4 := comp_ints fun x hx => by
    have := whs_mem.mp hx
    simp (disch := first | omega | fail) [cturn, wipe]
    by_cases h : a ≤ x * b <;> simp [h]
  rw [stp (ρ' := [some (.scr (ns.map .int)), some (.ref 0), some (.lst (whs.map .int)), none, none, none, some (.int (a / b)), some (.int (-(-a / b))), none, some (.int a), some (.int b), some (.int c), some (.int d), some (fr (low a b)), some (fr (low c d)), none, none, none, none]) (S' := S4) (by simp [cp1, cp2, mx1, mn1])]
  have cp3 : colV (cturn ⟨k10_prog, callF k10_prog w (m + 9), w, none⟩ [18] (.var 18) (some (.val (.cmp .le (.bin .mul (.bin .sub (.bin .mul (.cst (.int 2)) (.var 18)) (.cst (.int 1))) (.var 10)) (.bin .mul (.cst (.int 2)) (.var 9))))) (.var 18) [some (.scr (ns.map .int)), some (.ref 0), some (.lst (whs.map .int)), none, none, none, some (.int (a / b)), some (.int (-(-a / b))), none, some (.int a), some (.int b), some (.int c), some (.int d), some (fr (low a b)), some (fr (low c d)), none, none, none, none]) (whs.map .int) S4 = .ok ((whs.filter fun k => decide ((2 * k - 1) * b ≤ 2 * a)).map .int) S4 := comp_ints fun x hx => by
    have := whs_mem.mp hx
    simp (disch := first | omega | fail) [cturn, wipe]
    by_cases h : (2 * x - 1) * b ≤ 2 * a <;> simp [h]
  rw [stp (ρ' := [some (.scr (ns.map .int)), some (.ref 0), some (.lst (whs.map .int)), some (.int ((2 * a + b) / (2 * b))), none, none, some (.int (a / b)), some (.int (-(-a / b))), none, some (.int a), some (.int b), some (.int c), some (.int d), some (fr (low a b)), some (fr (low c d)), none, none, none, none]) (S' := S4) (by simp [cp3, mx2])]
  have fl : ∀ S, callF k10_prog w (m + 9) 10 [fr (low a b)] S = .ok (.int (a / b)) S := fun S => by
    rw [r_floor (n := m + 8) _ dA (by omega), floor_low b1.1]
  have ce : ∀ S, callF k10_prog w (m + 9) 11 [fr (low a b)] S = .ok (.int (-(-a / b))) S := fun S => by
    rw [r_ceil (n := m + 8) _ dA (by omega), ceil_low b1.1]
  have ne : ∀ S, callF k10_prog w (m + 9) 12 [fr (low a b)] S = .ok (.int ((2 * a + b) / (2 * b))) S := fun S => by
    rw [r_near (n := m + 8) _ dA (by omega), near_low b1.1]
  have al4 := fun S => alike S (.tup [.int (a / b), .int (-(-a / b)), .int ((2 * a + b) / (2 * b))]) (by simp [pln, plns])
  rw [stp (ρ' := [some (.scr (ns.map .int)), some (.ref 0), some (.lst (whs.map .int)), some (.int ((2 * a + b) / (2 * b))), none, none, some (.int (a / b)), some (.int (-(-a / b))), none, some (.int a), some (.int b), some (.int c), some (.int d), some (fr (low a b)), some (fr (low c d)), none, none, none, none]) (S' := S4) (by simp (disch := first | omega | fail) [fl, ce, ne, al4])]
  -- the rows
  subst hS
  obtain ⟨v5, p5, s5, c5, v5a, v5b, hp5, hs5, e5⟩ := T' p4 s4 c4 5 hp4 hs4 (by decide) (by decide)
  obtain ⟨fs, p6, s6, c6, hl, hf, e6⟩ := rows_loop (w := w) (n := m + 6) (by omega) T' (a0 := some (.scr (ns.map .int))) (a2 := some (.lst (whs.map .int))) (a3 := some (.int ((2 * a + b) / (2 * b)))) (a4 := none) (a5 := none) (a6 := some (.int (a / b))) (a7 := some (.int (-(-a / b)))) (a8 := none)
    (a9 := some (.int a)) (a10 := some (.int b)) (a11 := some (.int c)) (a12 := some (.int d)) (a13 := some (fr (low a b))) (a14 := some (fr (low c d))) (a15 := none) (a16 := none) (a17 := none) (a18 := none) (rangeD 0 v5) p5 s5 c5 hp5 hs5
  rw [rangeD_len] at hl
  obtain ⟨ps, hps⟩ : ∃ ps, ps = low a b :: low c d :: fs := ⟨_, rfl⟩
  have r5 := rng_1 (n := v5) (by omega) (by omega)
  have add2 : ∀ S : Sto, binop S .add (.lst [fr (low a b), fr (low c d)]) (.lst (fs.map fr)) = some (.lst (ps.map fr)) := fun S => by
    show (if [fr (low a b), fr (low c d)].length + (fs.map fr).length ≤ line then some (D.lst ([fr (low a b), fr (low c d)] ++ fs.map fr)) else none) = _
    rw [if_pos (by rw [List.length_map, line_is]; show 2 + fs.length ≤ _; omega), hps]
    rfl
  have fr01 : (.tup [.int 0, .int 1] : D) = fr (0, 1) := rfl
  have e6' : colV (cturn ⟨k10_prog, callF k10_prog w (m + 9), w, none⟩ [18] (.var 18) none (.call 2 [(.bin .sub (.call 15 [(.var 1), (.cst (.int 40))]) (.cst (.int 20))), (.bin .add (.cst (.int 1)) (.call 15 [(.var 1), (.cst (.int 6))]))]) [some (.scr (ns.map .int)), some (.ref 0), some (.lst (whs.map .int)), some (.int ((2 * a + b) / (2 * b))), none, none, some (.int (a / b)), some (.int (-(-a / b))), none, some (.int a), some (.int b), some (.int c), some (.int d), some (fr (low a b)), some (fr (low c d)), none, none, none, none]) (rangeD 0 v5) [.lst (rowD ns p5 s5 c5)] = .ok (fs.map fr) [.lst (rowD ns p6 s6 c6)] := e6
  rw [stp (ρ' := [some (.scr (ns.map .int)), some (.ref 0), some (.lst (whs.map .int)), some (.int ((2 * a + b) / (2 * b))), none, none, some (.int (a / b)), some (.int (-(-a / b))), none, some (.int a), some (.int b), some (.int c), some (.int d), some (fr (low a b)), some (fr (low c d)), some (.lst (ps.map fr)), some (fr (0, 1)), none, none]) (S' := [.lst (rowD ns p6 s6 c6)]) (by simp [e5, r5, e6', add2, fr01])]
  have lw : ∀ p ∈ ps, Lw p ∧ p.2 ≤ 60 ∧ -60 ≤ p.1 ∧ p.1 ≤ 60 := fun p hp => by
    rw [hps] at hp
    simp only [List.mem_cons] at hp
    rcases hp with rfl | rfl | hp
    · exact ⟨lw_low b1.1, by omega, nA⟩
    · exact ⟨lw_low d1.1, by omega, nC⟩
    · have := hf p hp
      exact ⟨this.1, by omega, this.2.2⟩
  have lps : ps.length ≤ 6 ∧ 2 ≤ ps.length := by
    rw [hps]
    simp only [List.length_cons]
    omega
  have pos : ∀ p ∈ ps, 0 < p.2 := fun p hp => (lw p hp).1.1
  have dfs : ∀ fs : List (Int × Int), (∀ f ∈ fs, 0 < f.2 ∧ f.2 ≤ 6) → dens fs ≤ 6 ^ fs.length ∧ 0 < dens fs := fun fs => by
    induction fs with
    | nil => intro _; exact ⟨by decide, by decide⟩
    | cons f fs ih =>
      intro h
      obtain ⟨i1, i2⟩ := ih fun g hg => h g (List.mem_cons_of_mem _ hg)
      obtain ⟨h1, h2⟩ := h f List.mem_cons_self
      have z := Int.mul_le_mul_of_nonneg_right h2 (Int.le_of_lt i2)
      refine ⟨?_, Int.mul_pos h1 i2⟩
      show f.2 * dens fs ≤ 6 ^ (fs.length + 1)
      rw [Int.pow_succ]
      omega
  have dps : dens ps ≤ 4665600 := by
    obtain ⟨i1, i2⟩ := dfs fs fun f h => ⟨(hf f h).1.1, (hf f h).2.1⟩
    have i3 : dens fs ≤ 1296 := by
      have h5 : fs.length ≤ 4 := by omega
      have : ∀ k : Nat, k ≤ 4 → (6 : Int) ^ k ≤ 1296 := by decide
      have := this fs.length h5
      omega
    rw [hps]
    show (low a b).2 * ((low c d).2 * dens fs) ≤ _
    have z1 : (low c d).2 * dens fs ≤ 60 * 1296 := by
      have := Int.mul_le_mul_of_nonneg_right (show (low c d).2 ≤ 60 by omega) (Int.le_of_lt i2)
      omega
    have z2 := Int.mul_le_mul_of_nonneg_right (show (low a b).2 ≤ 60 by omega) (Int.le_of_lt (Int.mul_pos dC i2))
    omega
  generalize hS5 : ([.lst (rowD ns p6 s6 c6)] : Sto) = S5
  have wS5 : S5.all (LO.lt S5.length) = true := by
    subst hS5
    simp [LO.lt, rowD]
  -- the sums
  obtain ⟨o1, wl⟩ := whole_loop (S := S5) (cx := ⟨k10_prog, callF k10_prog w (m + 9), w, none⟩) (low' S5) (a0 := some (.scr (ns.map .int))) (a1 := some (.ref 0)) (a2 := some (.lst (whs.map .int))) (a3 := some (.int ((2 * a + b) / (2 * b)))) (a5 := none) (a6 := some (.int (a / b))) (a7 := some (.int (-(-a / b)))) (a8 := none)
    (a9 := some (.int a)) (a10 := some (.int b)) (a11 := some (.int c)) (a12 := some (.int d)) (a13 := some (fr (low a b))) (a14 := some (fr (low c d))) (a15 := some (.lst (ps.map fr))) (a17 := none) (a18 := none) ps (0, 1) none pos (by decide) (by show 1 * _ < _; omega)
  have tot : callF k10_prog w (m + 9) 13 [.lst (ps.map fr)] S5 = .ok (fr (ps.foldl plusF (0, 1))) S5 := r_total (n := m + 6) ps pos (by omega) (by omega)
  generalize ps.foldl plusF (0, 1) = W at wl tot
  rw [stp (ρ' := [some (.scr (ns.map .int)), some (.ref 0), some (.lst (whs.map .int)), some (.int ((2 * a + b) / (2 * b))), o1, none, some (.int (a / b)), some (.int (-(-a / b))), none, some (.int a), some (.int b), some (.int c), some (.int d), some (fr (low a b)), some (fr (low c d)), some (.lst (ps.map fr)), some (fr W), none, none]) (S' := S5) (by simp [wl])]
  have al5 := alike S5 (fr W) (by simp [fr, pln, plns])
  rw [stp (ρ' := [some (.scr (ns.map .int)), some (.ref 0), some (.lst (whs.map .int)), some (.int ((2 * a + b) / (2 * b))), o1, none, some (.int (a / b)), some (.int (-(-a / b))), none, some (.int a), some (.int b), some (.int c), some (.int d), some (fr (low a b)), some (fr (low c d)), some (.lst (ps.map fr)), some (fr W), none, none]) (S' := S5) (by simp [tot, al5])]
  -- the median
  obtain ⟨row, hrow⟩ : ∃ row, row = (low c d :: fs).foldl (fun r p => insK p r) [low a b] := ⟨_, rfl⟩
  have rp : row.Perm ps := by
    rw [hrow, hps]
    exact row_perm _ _
  have rl : row.length = ps.length := rp.length_eq
  have rpos : ∀ x ∈ row, 0 < x.2 := fun x hx => pos x (rp.mem_iff.mp hx)
  have rs : row.Pairwise leF := by
    rw [hrow]
    refine row_sorted _ _ (fun x hx => pos x ?_) (List.pairwise_singleton _ _)
    rw [hps]
    exact hx
  obtain ⟨f, hf1⟩ : ∃ f, row[(row.length - 1) / 2]? = some f := ⟨_, List.getElem?_eq_getElem (by omega)⟩
  obtain ⟨g, hg1⟩ : ∃ g, row[row.length / 2]? = some g := ⟨_, List.getElem?_eq_getElem (by omega)⟩
  have fm := lw f (rp.mem_iff.mp (List.mem_of_getElem? hf1))
  have gm := lw g (rp.mem_iff.mp (List.mem_of_getElem? hg1))
  have fgl : leF f g := by
    obtain ⟨h1, h2⟩ := List.getElem?_eq_some_iff.mp hf1
    obtain ⟨h3, h4⟩ := List.getElem?_eq_some_iff.mp hg1
    by_cases e : (row.length - 1) / 2 = row.length / 2
    · have : f = g := by rw [← h2, ← h4]; congr 1
      rw [this]
      exact Int.le_refl _
    · rw [← h2, ← h4]
      exact List.pairwise_iff_getElem.mp rs _ _ h1 h3 (by omega)
  have fg2 : f.2 * g.2 ≤ 3600 := by
    have h1 := Int.mul_le_mul_of_nonneg_right fm.2.1 (show 0 ≤ g.2 by have := gm.1.1; omega)
    omega
  have fg0 : 0 < f.2 * g.2 := Int.mul_pos fm.1.1 gm.1.1
  have hnum : -1000000000 < (plusF f g).1 ∧ (plusF f g).1 < 1000000000 := by
    obtain ⟨k, k0, q1, q2, q3, q4⟩ := low_spec (a := f.1 * g.2 + g.1 * f.2) fg0
    have e1 : plusF f g = low (f.1 * g.2 + g.1 * f.2) (f.2 * g.2) := rfl
    rw [e1]
    have m1 := Int.mul_le_mul_of_nonneg_right fm.2.2.2 (show 0 ≤ g.2 by have := gm.1.1; omega)
    have m2 := Int.mul_le_mul_of_nonneg_right fm.2.2.1 (show 0 ≤ g.2 by have := gm.1.1; omega)
    have m3 := Int.mul_le_mul_of_nonneg_right gm.2.2.2 (show 0 ≤ f.2 by have := fm.1.1; omega)
    have m4 := Int.mul_le_mul_of_nonneg_right gm.2.2.1 (show 0 ≤ f.2 by have := fm.1.1; omega)
    have b1 := fm.2.1
    have b2 := gm.2.1
    generalize (low (f.1 * g.2 + g.1 * f.2) (f.2 * g.2)).1 = z at *
    by_cases hz : 0 ≤ z
    · have := Int.mul_le_mul_of_nonneg_right (show (1 : Int) ≤ k by omega) hz
      omega
    · have := Int.mul_le_mul_of_nonpos_right (show (1 : Int) ≤ k by omega) (show z ≤ 0 by omega)
      omega
  have med : callF k10_prog w (m + 9) 14 [.lst (ps.map fr)] S5 = .ok (fr (timesF (plusF f g) (1, 2))) S5 := by
    have := r_median (w := w) (n := m + 5) (S := S5) (low a b) (low c d :: fs) (fun q hq => by
      rw [← hps] at hq
      have := lw q hq
      exact ⟨this.1.1, by omega⟩) (by rw [List.length_cons]; omega) row hrow f g hf1 hg1 (by omega) (by omega) ⟨fm.1.1, by have := fm.2.1; omega⟩ ⟨gm.1.1, by have := gm.2.1; omega⟩ hnum wS5
    rw [← hps] at this
    exact this
  obtain ⟨mp, mf, mg⟩ := mid_low fm.1.1 gm.1.1 fgl
  have mself : row.length % 2 = 1 → timesF (plusF f g) (1, 2) ∈ ps := fun ho => by
    have e : (row.length - 1) / 2 = row.length / 2 := by omega
    rw [e, hg1] at hf1
    cases hf1
    rw [mid_self gm.1]
    exact rp.mem_iff.mp (List.mem_of_getElem? hg1)
  have mden : (timesF (plusF f g) (1, 2)).2 < 1000000000 := by
    have h1 := (low_den (a := f.1 * g.2 + g.1 * f.2) fg0)
    have h2 := (low_den (a := (plusF f g).1 * 1) (b := (plusF f g).2 * 2) (by show 0 < (low _ _).2 * 2; omega)).2
    show (low ((plusF f g).1 * 1) ((plusF f g).2 * 2)).2 < _
    have h3 : (plusF f g).2 = (low (f.1 * g.2 + g.1 * f.2) (f.2 * g.2)).2 := rfl
    omega
  generalize timesF (plusF f g) (1, 2) = M at *
  rw [stp (ρ' := [some (.scr (ns.map .int)), some (.ref 0), some (.lst (whs.map .int)), some (.int ((2 * a + b) / (2 * b))), o1, some (fr M), some (.int (a / b)), some (.int (-(-a / b))), none, some (.int a), some (.int b), some (.int c), some (.int d), some (fr (low a b)), some (fr (low c d)), some (.lst (ps.map fr)), some (fr W), none, none]) (S' := S5) (by simp [med])]
  have g0 : ∀ q : Int × Int, getI S5 (fr q) (.int 0) = some (.int q.1) := fun q => by simp [fr]
  have g1 : ∀ q : Int × Int, getI S5 (fr q) (.int 1) = some (.int q.2) := fun q => by simp [fr]
  have cb : colV (cturn ⟨k10_prog, callF k10_prog w (m + 9), w, none⟩ [4] (.var 4) (some (.val (.cmp .lt (.bin .mul (.idx (.var 4) (.cst (.int 0))) (.idx (.var 5) (.cst (.int 1)))) (.bin .mul (.idx (.var 5) (.cst (.int 0))) (.idx (.var 4) (.cst (.int 1))))))) (.cst (.int 1)) [some (.scr (ns.map .int)), some (.ref 0), some (.lst (whs.map .int)), some (.int ((2 * a + b) / (2 * b))), o1, some (fr M), some (.int (a / b)), some (.int (-(-a / b))), none, some (.int a), some (.int b), some (.int c), some (.int d), some (fr (low a b)), some (fr (low c d)), some (.lst (ps.map fr)), some (fr W), none, none]) (ps.map fr) S5 = .ok ((ps.filter fun x => lessF x M).map fun _ => .int 1) S5 := comp_one fun x hx => by
    have hx' := lw x hx
    have := hx'.1.1
    simp (disch := first | omega | fail) [cturn, wipe, g0, g1, lessF]
    by_cases h : x.1 * M.2 < M.1 * x.2 <;> simp [h]
  rw [stp (ρ' := [some (.scr (ns.map .int)), some (.ref 0), some (.lst (whs.map .int)), some (.int ((2 * a + b) / (2 * b))), o1, some (fr M), some (.int ((ps.filter fun x => lessF x M).length : Nat)), some (.int (-(-a / b))), none, some (.int a), some (.int b), some (.int c), some (.int d), some (fr (low a b)), some (fr (low c d)), some (.lst (ps.map fr)), some (fr W), none, none]) (S' := S5) (by simp [cb])]
  have ca : colV (cturn ⟨k10_prog, callF k10_prog w (m + 9), w, none⟩ [4] (.var 4) (some (.val (.cmp .gt (.bin .mul (.idx (.var 4) (.cst (.int 0))) (.idx (.var 5) (.cst (.int 1)))) (.bin .mul (.idx (.var 5) (.cst (.int 0))) (.idx (.var 4) (.cst (.int 1))))))) (.cst (.int 1)) [some (.scr (ns.map .int)), some (.ref 0), some (.lst (whs.map .int)), some (.int ((2 * a + b) / (2 * b))), o1, some (fr M), some (.int ((ps.filter fun x => lessF x M).length : Nat)), some (.int (-(-a / b))), none, some (.int a), some (.int b), some (.int c), some (.int d), some (fr (low a b)), some (fr (low c d)), some (.lst (ps.map fr)), some (fr W), none, none]) (ps.map fr) S5 = .ok ((ps.filter fun x => lessF M x).map fun _ => .int 1) S5 := comp_one fun x hx => by
    have hx' := lw x hx
    have := hx'.1.1
    simp (disch := first | omega | fail) [cturn, wipe, g0, g1, lessF]
    by_cases h : M.1 * x.2 < x.1 * M.2 <;> simp [h]
  rw [stp (ρ' := [some (.scr (ns.map .int)), some (.ref 0), some (.lst (whs.map .int)), some (.int ((2 * a + b) / (2 * b))), o1, some (fr M), some (.int ((ps.filter fun x => lessF x M).length : Nat)), some (.int ((ps.filter fun x => lessF M x).length : Nat)), none, some (.int a), some (.int b), some (.int c), some (.int d), some (fr (low a b)), some (fr (low c d)), some (.lst (ps.map fr)), some (fr W), none, none]) (S' := S5) (by simp [ca])]
  have nb : 2 * (ps.filter fun x => lessF x M).length ≤ ps.length := by
    have := count_below rs rpos mp hg1 mg
    rw [(rp.filter _).length_eq] at this
    omega
  have na : 2 * (ps.filter fun x => lessF M x).length ≤ ps.length := by
    have := count_above rs rpos mp hf1 mf
    rw [(rp.filter _).length_eq] at this
    omega
  have nin : cmpop S5 .notin (fr M) (.lst (ps.map fr)) = some (!decide (M ∈ ps)) := by
    show (inv (rdOf S5 (fr M)) (ps.map fr)).map (!·) = _
    have : rdOf S5 (fr M) = fr M := rfl
    rw [this, inv_fr]
    rfl
  have st17 : st (.ite (.or [(.val (.cmp .gt (.bin .mul (.cst (.int 2)) (.var 6)) (.bi false .len [(.var 15)]))), (.val (.cmp .gt (.bin .mul (.cst (.int 2)) (.var 7)) (.bi false .len [(.var 15)]))), (.and [(.val (.cmp .eq (.bin .mod (.bi false .len [(.var 15)]) (.cst (.int 2))) (.cst (.int 1)))), (.val (.cmp .notin (.var 5) (.var 15)))])]) [(.ret (.cst (.bl false)))] []) ⟨k10_prog, callF k10_prog w (m + 9), w, none⟩ [some (.scr (ns.map .int)), some (.ref 0), some (.lst (whs.map .int)), some (.int ((2 * a + b) / (2 * b))), o1, some (fr M), some (.int ((ps.filter fun x => lessF x M).length : Nat)), some (.int ((ps.filter fun x => lessF M x).length : Nat)), none, some (.int a), some (.int b), some (.int c), some (.int d), some (fr (low a b)), some (fr (low c d)), some (.lst (ps.map fr)), some (fr W), none, none] S5 = .ok (.nx [some (.scr (ns.map .int)), some (.ref 0), some (.lst (whs.map .int)), some (.int ((2 * a + b) / (2 * b))), o1, some (fr M), some (.int ((ps.filter fun x => lessF x M).length : Nat)), some (.int ((ps.filter fun x => lessF M x).length : Nat)), none, some (.int a), some (.int b), some (.int c), some (.int d), some (fr (low a b)), some (fr (low c d)), some (.lst (ps.map fr)), some (fr W), none, none]) S5 := by
    have n1 : ¬ ((ps.length : Int) < 2 * ((ps.filter fun x => lessF x M).length : Nat)) := by omega
    have n2 : ¬ ((ps.length : Int) < 2 * ((ps.filter fun x => lessF M x).length : Nat)) := by omega
    by_cases ho : (ps.length : Int) % 2 = 1
    · have hin := mself (by omega)
      simp (disch := first | omega | fail) [n1, n2, ho, nin, hin]
    · simp (disch := first | omega | fail) [n1, n2, ho]
  rw [stp st17]
  -- what is no fraction
  obtain ⟨ov, ew⟩ := bad_loop (w := w) (n := m + 6) (S := S5) (by omega) (a0 := some (.scr (ns.map .int))) (a1 := some (.ref 0)) (a2 := some (.lst (whs.map .int))) (a3 := some (.int ((2 * a + b) / (2 * b)))) (a4 := o1) (a5 := some (fr M)) (a6 := some (.int ((ps.filter fun x => lessF x M).length : Nat))) (a7 := some (.int ((ps.filter fun x => lessF M x).length : Nat)))
    (a9 := some (.int a)) (a10 := some (.int b)) (a11 := some (.int c)) (a12 := some (.int d)) (a13 := some (fr (low a b))) (a14 := some (fr (low c d))) (a15 := some (.lst (ps.map fr))) (a16 := some (fr W)) (a18 := none) bads (fun v h => h) none
  unfold bads at ew
  rw [stp (ρ' := [some (.scr (ns.map .int)), some (.ref 0), some (.lst (whs.map .int)), some (.int ((2 * a + b) / (2 * b))), o1, some (fr M), some (.int ((ps.filter fun x => lessF x M).length : Nat)), some (.int ((ps.filter fun x => lessF M x).length : Nat)), ov, some (.int a), some (.int b), some (.int c), some (.int d), some (fr (low a b)), some (fr (low c d)), some (.lst (ps.map fr)), some (fr W), none, none]) (S' := S5) (by simp; simp [ew])]
  have isl := r_isfr (S := S5) (w := w) (n := m + 6) (low a b) (by omega) (by omega) (.lst [.int (low a b).1, .int (low a b).2]) (.inr rfl)
  rw [decide_eq_true (low_idem b1.1), decide_eq_true dA] at isl
  have wl : callF k10_prog w (m + 9) 4 [.lst [.int (low a b).1, .int (low a b).2]] S5 = .ok (fr (low a b)) S5 := r_want (n := m + 6) _ [.int (low a b).1, .int (low a b).2] (.inr rfl) (by simp) isl
  have bl : ∀ cx : Cx, bi cx false .list [fr (low a b)] S5 = .ok (.lst [.int (low a b).1, .int (low a b).2]) S5 := fun cx => rfl
  have al6 := alike S5 (fr (low a b)) (by simp [fr, pln, plns])
  refine ⟨[], ?_⟩
  simp [bl, wl, al6]
  exact fin_back rfl (by simp) rfl
end K10
namespace K10
open PySem L2 Dn PyProof.Rows PySem.Spec -- names
def top (i : Nat) : Stmt := PySem.Challenge.pw_warnedbanks_k10_whole_fractions.main.body.getD i (.Pass ⟨0, 0, 0, 0⟩)
abbrev s0 : Stmt := top 4
abbrev N0 : List Str := ["value"]
abbrev s1 : Stmt := top 5
abbrev N1 : List Str := ["value"]
abbrev s2 : Stmt := top 7
abbrev N2 : List Str := ["top", "bottom", "one", "other"]
abbrev s3 : Stmt := top 8
abbrev N3 : List Str := ["value"]
abbrev s4 : Stmt := top 9
abbrev N4 : List Str := ["value"]
abbrev s5 : Stmt := top 10
abbrev N5 : List Str := ["one", "other"]
abbrev s6 : Stmt := top 11
abbrev N6 : List Str := ["one", "other"]
abbrev s7 : Stmt := top 12
abbrev N7 : List Str := ["one", "other"]
abbrev s8 : Stmt := top 13
abbrev N8 : List Str := ["one", "other"]
abbrev s9 : Stmt := top 14
abbrev N9 : List Str := ["one", "other"]
abbrev s10 : Stmt := top 15
abbrev N10 : List Str := ["one"]
abbrev s11 : Stmt := top 16
abbrev N11 : List Str := ["one"]
abbrev s12 : Stmt := top 17
abbrev N12 : List Str := ["one"]
abbrev s13 : Stmt := top 18
abbrev N13 : List Str := ["rows", "found", "one"]
abbrev s14 : Stmt := top 19
abbrev N14 : List Str := ["rows", "row", "one", "place", "first", "second", "other"]
abbrev s15 : Stmt := top 21
abbrev N15 : List Str := ["row", "many", "cell", "found"]
abbrev s16 : Stmt := top 22
abbrev N16 : List Str := ["found", "due", "k"]
abbrev s17 : Stmt := top 23
abbrev N17 : List Str := ["found", "due"]
abbrev s18 : Stmt := top 24
abbrev N18 : List Str := ["top", "bottom", "here", "one"]
abbrev s19 : Stmt := top 25
abbrev N19 : List Str := ["script", "row", "wholes", "best", "part", "middle", "below", "above", "value", "a", "b", "c", "d", "one", "other", "rows", "whole", "e", "k"]
structure Lf (prog : Program) (t : Tb) (mg : Str → Option Value) (fi : Nat → Option Fi) : Prop where
  b_isinstance : mg ("isinstance" : Str) = none
  b_bool : mg ("bool" : Str) = none
  b_int : mg ("int" : Str) = none
  b_tuple : mg ("tuple" : Str) = none
  b_list : mg ("list" : Str) = none
  b_abs : mg ("abs" : Str) = none
  b_len : mg ("len" : Str) = none
  b_str : mg ("str" : Str) = none
  b_range : mg ("range" : Str) = none
  b_repr : mg ("repr" : Str) = none
  b_max : mg ("max" : Str) = none
  b_min : mg ("min" : Str) = none
  c_0 : Cal t.K t.fa mg fi 0 "is_whole"
  c_1 : Cal t.K t.fa mg fi 1 "is_row"
  c_2 : Cal t.K t.fa mg fi 2 "reduced"
  c_3 : Cal t.K t.fa mg fi 3 "is_fraction"
  c_4 : Cal t.K t.fa mg fi 4 "want_fraction"
  c_5 : Cal t.K t.fa mg fi 5 "plus"
  c_6 : Cal t.K t.fa mg fi 6 "minus"
  c_7 : Cal t.K t.fa mg fi 7 "times"
  c_8 : Cal t.K t.fa mg fi 8 "over"
  c_9 : Cal t.K t.fa mg fi 9 "is_less"
  c_10 : Cal t.K t.fa mg fi 10 "floor_of"
  c_11 : Cal t.K t.fa mg fi 11 "ceiling_of"
  c_12 : Cal t.K t.fa mg fi 12 "nearest"
  c_13 : Cal t.K t.fa mg fi 13 "total"
  c_14 : Cal t.K t.fa mg fi 14 "median"
  c_15 : Cal t.K t.fa mg fi 15 "_law_taken"
  c_16 : Cal t.K t.fa mg fi 16 "_law_alike"
  c_17 : Cal t.K t.fa mg fi 17 "_law_truth"
  c_18 : Cal t.K t.fa mg fi 18 "_law_low"
  x_1 : XF prog t mg 1 "BadNumber" 0
  xg_1 : mg ("BadNumber" : Str) = some (.ref (t.xa 1))
  n_0 : t.nm 0 = ("value" : Str)
  cf : CFs t k10_prog
  xa : ∀ c xd, k10_prog.xcs[c]? = some xd → XA t c xd
  em : Exm t k10_prog
variable {prog : Program} {t : Tb} {mg : Str → Option Value} {fi : Nat → Option Fi} {k : Nat} {W : Wi} {X : L2.Cx} {call : Nat → List D → Sto → R D} {wf : Nat}
theorem g0_isinstance : (defScope s0).names.lookup ("isinstance" : Str) = some .globalImplicit := by kernel_rfl
theorem g0_value : (defScope s0).names.lookup ("value" : Str) = some .local := by kernel_rfl
theorem g0_bool : (defScope s0).names.lookup ("bool" : Str) = some .globalImplicit := by kernel_rfl
theorem g0_int : (defScope s0).names.lookup ("int" : Str) = some .globalImplicit := by kernel_rfl
theorem b0 (L : Lf prog t mg fi) (hp : X.prog = prog) (h : Fs t ⟨k10_prog, call, wf, none⟩ N0 (defScope s0) mg W fi k X) : VSs t ⟨k10_prog, call, wf, none⟩ W X (defBody s0) k10_is_whole :=
  (ss_cons (s_ret (r_and (r_isi1 h.toFe L.cf.xi g0_isinstance L.b_isinstance (r_var h.toFe rfl (.inl g0_value)) (p_ty h.toFe g0_int L.b_int (by decide +kernel) (by decide +kernel) (by decide +kernel)) (nocl rfl) rfl rfl rfl) (r_and1 (r_not (r_isi1 h.toFe L.cf.xi g0_isinstance L.b_isinstance (r_var h.toFe rfl (.inl g0_value)) (p_ty h.toFe g0_bool L.b_bool (by decide +kernel) (by decide +kernel) (by decide +kernel)) (nocl rfl) rfl rfl rfl)))))
  ss_nil)
theorem g1_tuple : (defScope s1).names.lookup ("tuple" : Str) = some .globalImplicit := by kernel_rfl
theorem g1_list : (defScope s1).names.lookup ("list" : Str) = some .globalImplicit := by kernel_rfl
theorem g1_isinstance : (defScope s1).names.lookup ("isinstance" : Str) = some .globalImplicit := by kernel_rfl
theorem g1_value : (defScope s1).names.lookup ("value" : Str) = some .local := by kernel_rfl
theorem b1 (L : Lf prog t mg fi) (hp : X.prog = prog) (h : Fs t ⟨k10_prog, call, wf, none⟩ N1 (defScope s1) mg W fi k X) : VSs t ⟨k10_prog, call, wf, none⟩ W X (defBody s1) k10_is_row :=
  (ss_cons (s_ret (r_isiT h.toFe L.cf.xi g1_isinstance L.b_isinstance (r_var h.toFe rfl (.inl g1_value)) (pa_cs (p_ty h.toFe g1_list L.b_list (by decide +kernel) (by decide +kernel) (by decide +kernel)) (pa_cs (p_ty h.toFe g1_tuple L.b_tuple (by decide +kernel) (by decide +kernel) (by decide +kernel)) pa_cs0 rfl) rfl) (by decide) (nocls rfl) rfl rfl rfl))
  ss_nil)
theorem g2_one : (defScope s2).names.lookup ("one" : Str) = some .local := by kernel_rfl
theorem g2_bottom : (defScope s2).names.lookup ("bottom" : Str) = some .local := by kernel_rfl
theorem g2_top : (defScope s2).names.lookup ("top" : Str) = some .local := by kernel_rfl
theorem g2_other : (defScope s2).names.lookup ("other" : Str) = some .local := by kernel_rfl
theorem g2_abs : (defScope s2).names.lookup ("abs" : Str) = some .globalImplicit := by kernel_rfl
theorem b2 (L : Lf prog t mg fi) (hp : X.prog = prog) (h : Fs t ⟨k10_prog, call, wf, none⟩ N2 (defScope s2) mg W fi k X) : VSs t ⟨k10_prog, call, wf, none⟩ W X (defBody s2) k10_reduced :=
  (ss_cons (s_par2B h.toFe h.toFc.calm rfl rfl (by decide) g2_one g2_other (r_cons (r_biB h.toFe (c_abs _ _) g2_abs L.b_abs (by decide +kernel) (r_cons (r_var h.toFe rfl (.inl g2_top)) r_nil rfl) (by decide +kernel) (by decide +kernel) rfl rfl) (r_cons (r_var h.toFe rfl (.inl g2_bottom)) r_nil rfl) rfl) rfl rfl)
  (ss_cons (s_whl h.own (t_cmp h.toFe .gt (r_var h.toFe rfl (.inl g2_other)) r_int rfl) (ss_cons (s_par2B h.toFe h.toFc.calm rfl rfl (by decide) g2_one g2_other (r_cons (r_var h.toFe rfl (.inl g2_other)) (r_cons (r_bin h.toFe .mod (r_var h.toFe rfl (.inl g2_one)) (r_var h.toFe rfl (.inl g2_other))) r_nil rfl) rfl) rfl rfl)
  ss_nil))
  (ss_cons (s_ret (r_ite (t_cmp h.toFe .gt (r_var h.toFe rfl (.inl g2_one)) r_int rfl) (r_tup (r_cons (r_bin h.toFe .fdiv (r_var h.toFe rfl (.inl g2_top)) (r_var h.toFe rfl (.inl g2_one))) (r_cons (r_bin h.toFe .fdiv (r_var h.toFe rfl (.inl g2_bottom)) (r_var h.toFe rfl (.inl g2_one))) r_nil rfl) rfl) (by decide)) (r_tup (r_cons r_int (r_cons r_int r_nil rfl) rfl) (by decide))))
  ss_nil)))
theorem g3_reduced : (defScope s3).names.lookup ("reduced" : Str) = some .globalImplicit := by kernel_rfl
theorem g3_value : (defScope s3).names.lookup ("value" : Str) = some .local := by kernel_rfl
theorem g3_is_whole : (defScope s3).names.lookup ("is_whole" : Str) = some .globalImplicit := by kernel_rfl
theorem g3_len : (defScope s3).names.lookup ("len" : Str) = some .globalImplicit := by kernel_rfl
theorem g3_is_row : (defScope s3).names.lookup ("is_row" : Str) = some .globalImplicit := by kernel_rfl
theorem b3 (L : Lf prog t mg fi) (hp : X.prog = prog) (h : Fs t ⟨k10_prog, call, wf, none⟩ N3 (defScope s3) mg W fi k X) : VSs t ⟨k10_prog, call, wf, none⟩ W X (defBody s3) k10_is_fraction :=
  (ss_cons (s_ite (t_w (w_or (t_not (t_val h.toFe (r_callF h.toFc L.c_1 g3_is_row (r_cons (r_var h.toFe rfl (.inl g3_value)) r_nil rfl) rfl rfl) (fun _ => rfl))) (w_or (t_cmp h.toFe .ne (r_biB h.toFe (c_len h.toFe.kk _ _) g3_len L.b_len (by decide +kernel) (r_cons (r_var h.toFe rfl (.inl g3_value)) r_nil rfl) (by decide +kernel) (by decide +kernel) rfl rfl) r_int rfl) (w_or (t_not (t_val h.toFe (r_callF h.toFc L.c_0 g3_is_whole (r_cons (r_idx h.toFe (r_var h.toFe rfl (.inl g3_value)) r_int (fun _ _ => rfl)) r_nil rfl) rfl rfl) (fun _ => rfl))) (w_or (t_not (t_val h.toFe (r_callF h.toFc L.c_0 g3_is_whole (r_cons (r_idx h.toFe (r_var h.toFe rfl (.inl g3_value)) r_int (fun _ _ => rfl)) r_nil rfl) rfl rfl) (fun _ => rfl))) (w_or1 (t_cmp h.toFe .lt (r_idx h.toFe (r_var h.toFe rfl (.inl g3_value)) r_int (fun _ _ => rfl)) r_int rfl))))))) (ss_cons (s_ret r_bl)
  ss_nil) ss_nil)
  (ss_cons (s_ret (r_cmp h.toFe .eq (r_callF h.toFc L.c_2 g3_reduced (r_cons (r_idx h.toFe (r_var h.toFe rfl (.inl g3_value)) r_int (fun _ _ => rfl)) (r_cons (r_idx h.toFe (r_var h.toFe rfl (.inl g3_value)) r_int (fun _ _ => rfl)) r_nil rfl) rfl) rfl rfl) (r_tup (r_cons (r_idx h.toFe (r_var h.toFe rfl (.inl g3_value)) r_int (fun _ _ => rfl)) (r_cons (r_idx h.toFe (r_var h.toFe rfl (.inl g3_value)) r_int (fun _ _ => rfl)) r_nil rfl) rfl) (by decide)) rfl))
  ss_nil))
theorem g4_tuple : (defScope s4).names.lookup ("tuple" : Str) = some .globalImplicit := by kernel_rfl
theorem g4_value : (defScope s4).names.lookup ("value" : Str) = some .local := by kernel_rfl
theorem g4_is_fraction : (defScope s4).names.lookup ("is_fraction" : Str) = some .globalImplicit := by kernel_rfl
theorem g4_BadNumber : (defScope s4).names.lookup ("BadNumber" : Str) = some .globalImplicit := by kernel_rfl
theorem b4 (L : Lf prog t mg fi) (hp : X.prog = prog) (h : Fs t ⟨k10_prog, call, wf, none⟩ N4 (defScope s4) mg W fi k X) : VSs t ⟨k10_prog, call, wf, none⟩ W X (defBody s4) k10_want_fraction :=
  (ss_cons (s_ite (t_not (t_val h.toFe (r_callF h.toFc L.c_3 g4_is_fraction (r_cons (r_var h.toFe rfl (.inl g4_value)) r_nil rfl) rfl rfl) (fun _ => rfl))) (ss_cons (s_raisX h hp L.x_1 rfl (r_var h.toFe rfl (.inl g4_value)) g4_BadNumber rfl)
  ss_nil) ss_nil)
  (ss_cons (s_ret (r_biT h.toFe (c_tuple h.toFe.kk _ _) g4_tuple L.b_tuple (by decide +kernel) (r_cons (r_var h.toFe rfl (.inl g4_value)) r_nil rfl) (by decide +kernel) (by decide +kernel) rfl rfl))
  ss_nil))
theorem g5_reduced : (defScope s5).names.lookup ("reduced" : Str) = some .globalImplicit := by kernel_rfl
theorem g5_one : (defScope s5).names.lookup ("one" : Str) = some .local := by kernel_rfl
theorem g5_other : (defScope s5).names.lookup ("other" : Str) = some .local := by kernel_rfl
theorem b5 (L : Lf prog t mg fi) (hp : X.prog = prog) (h : Fs t ⟨k10_prog, call, wf, none⟩ N5 (defScope s5) mg W fi k X) : VSs t ⟨k10_prog, call, wf, none⟩ W X (defBody s5) k10_plus :=
  (ss_cons (s_ret (r_callF h.toFc L.c_2 g5_reduced (r_cons (r_bin h.toFe .add (r_bin h.toFe .mul (r_idx h.toFe (r_var h.toFe rfl (.inl g5_one)) r_int (fun _ _ => rfl)) (r_idx h.toFe (r_var h.toFe rfl (.inl g5_other)) r_int (fun _ _ => rfl))) (r_bin h.toFe .mul (r_idx h.toFe (r_var h.toFe rfl (.inl g5_other)) r_int (fun _ _ => rfl)) (r_idx h.toFe (r_var h.toFe rfl (.inl g5_one)) r_int (fun _ _ => rfl)))) (r_cons (r_bin h.toFe .mul (r_idx h.toFe (r_var h.toFe rfl (.inl g5_one)) r_int (fun _ _ => rfl)) (r_idx h.toFe (r_var h.toFe rfl (.inl g5_other)) r_int (fun _ _ => rfl))) r_nil rfl) rfl) rfl rfl))
  ss_nil)
theorem g6_reduced : (defScope s6).names.lookup ("reduced" : Str) = some .globalImplicit := by kernel_rfl
theorem g6_one : (defScope s6).names.lookup ("one" : Str) = some .local := by kernel_rfl
theorem g6_other : (defScope s6).names.lookup ("other" : Str) = some .local := by kernel_rfl
theorem b6 (L : Lf prog t mg fi) (hp : X.prog = prog) (h : Fs t ⟨k10_prog, call, wf, none⟩ N6 (defScope s6) mg W fi k X) : VSs t ⟨k10_prog, call, wf, none⟩ W X (defBody s6) k10_minus :=
  (ss_cons (s_ret (r_callF h.toFc L.c_2 g6_reduced (r_cons (r_bin h.toFe .sub (r_bin h.toFe .mul (r_idx h.toFe (r_var h.toFe rfl (.inl g6_one)) r_int (fun _ _ => rfl)) (r_idx h.toFe (r_var h.toFe rfl (.inl g6_other)) r_int (fun _ _ => rfl))) (r_bin h.toFe .mul (r_idx h.toFe (r_var h.toFe rfl (.inl g6_other)) r_int (fun _ _ => rfl)) (r_idx h.toFe (r_var h.toFe rfl (.inl g6_one)) r_int (fun _ _ => rfl)))) (r_cons (r_bin h.toFe .mul (r_idx h.toFe (r_var h.toFe rfl (.inl g6_one)) r_int (fun _ _ => rfl)) (r_idx h.toFe (r_var h.toFe rfl (.inl g6_other)) r_int (fun _ _ => rfl))) r_nil rfl) rfl) rfl rfl))
  ss_nil)
theorem g7_reduced : (defScope s7).names.lookup ("reduced" : Str) = some .globalImplicit := by kernel_rfl
theorem g7_one : (defScope s7).names.lookup ("one" : Str) = some .local := by kernel_rfl
theorem g7_other : (defScope s7).names.lookup ("other" : Str) = some .local := by kernel_rfl
theorem b7 (L : Lf prog t mg fi) (hp : X.prog = prog) (h : Fs t ⟨k10_prog, call, wf, none⟩ N7 (defScope s7) mg W fi k X) : VSs t ⟨k10_prog, call, wf, none⟩ W X (defBody s7) k10_times :=
  (ss_cons (s_ret (r_callF h.toFc L.c_2 g7_reduced (r_cons (r_bin h.toFe .mul (r_idx h.toFe (r_var h.toFe rfl (.inl g7_one)) r_int (fun _ _ => rfl)) (r_idx h.toFe (r_var h.toFe rfl (.inl g7_other)) r_int (fun _ _ => rfl))) (r_cons (r_bin h.toFe .mul (r_idx h.toFe (r_var h.toFe rfl (.inl g7_one)) r_int (fun _ _ => rfl)) (r_idx h.toFe (r_var h.toFe rfl (.inl g7_other)) r_int (fun _ _ => rfl))) r_nil rfl) rfl) rfl rfl))
  ss_nil)
theorem g8_reduced : (defScope s8).names.lookup ("reduced" : Str) = some .globalImplicit := by kernel_rfl
theorem g8_one : (defScope s8).names.lookup ("one" : Str) = some .local := by kernel_rfl
theorem g8_other : (defScope s8).names.lookup ("other" : Str) = some .local := by kernel_rfl
theorem b8 (L : Lf prog t mg fi) (hp : X.prog = prog) (h : Fs t ⟨k10_prog, call, wf, none⟩ N8 (defScope s8) mg W fi k X) : VSs t ⟨k10_prog, call, wf, none⟩ W X (defBody s8) k10_over :=
  (ss_cons (s_ret (r_callF h.toFc L.c_2 g8_reduced (r_cons (r_bin h.toFe .mul (r_idx h.toFe (r_var h.toFe rfl (.inl g8_one)) r_int (fun _ _ => rfl)) (r_idx h.toFe (r_var h.toFe rfl (.inl g8_other)) r_int (fun _ _ => rfl))) (r_cons (r_bin h.toFe .mul (r_idx h.toFe (r_var h.toFe rfl (.inl g8_one)) r_int (fun _ _ => rfl)) (r_idx h.toFe (r_var h.toFe rfl (.inl g8_other)) r_int (fun _ _ => rfl))) r_nil rfl) rfl) rfl rfl))
  ss_nil)
theorem g9_one : (defScope s9).names.lookup ("one" : Str) = some .local := by kernel_rfl
theorem g9_other : (defScope s9).names.lookup ("other" : Str) = some .local := by kernel_rfl
theorem b9 (L : Lf prog t mg fi) (hp : X.prog = prog) (h : Fs t ⟨k10_prog, call, wf, none⟩ N9 (defScope s9) mg W fi k X) : VSs t ⟨k10_prog, call, wf, none⟩ W X (defBody s9) k10_is_less :=
  (ss_cons (s_ret (r_cmp h.toFe .lt (r_bin h.toFe .mul (r_idx h.toFe (r_var h.toFe rfl (.inl g9_one)) r_int (fun _ _ => rfl)) (r_idx h.toFe (r_var h.toFe rfl (.inl g9_other)) r_int (fun _ _ => rfl))) (r_bin h.toFe .mul (r_idx h.toFe (r_var h.toFe rfl (.inl g9_other)) r_int (fun _ _ => rfl)) (r_idx h.toFe (r_var h.toFe rfl (.inl g9_one)) r_int (fun _ _ => rfl))) rfl))
  ss_nil)
theorem g10_one : (defScope s10).names.lookup ("one" : Str) = some .local := by kernel_rfl
theorem b10 (L : Lf prog t mg fi) (hp : X.prog = prog) (h : Fs t ⟨k10_prog, call, wf, none⟩ N10 (defScope s10) mg W fi k X) : VSs t ⟨k10_prog, call, wf, none⟩ W X (defBody s10) k10_floor_of :=
  (ss_cons (s_ret (r_bin h.toFe .fdiv (r_idx h.toFe (r_var h.toFe rfl (.inl g10_one)) r_int (fun _ _ => rfl)) (r_idx h.toFe (r_var h.toFe rfl (.inl g10_one)) r_int (fun _ _ => rfl))))
  ss_nil)
theorem g11_one : (defScope s11).names.lookup ("one" : Str) = some .local := by kernel_rfl
theorem b11 (L : Lf prog t mg fi) (hp : X.prog = prog) (h : Fs t ⟨k10_prog, call, wf, none⟩ N11 (defScope s11) mg W fi k X) : VSs t ⟨k10_prog, call, wf, none⟩ W X (defBody s11) k10_ceiling_of :=
  (ss_cons (s_ret (r_neg (r_bin h.toFe .fdiv (r_neg (r_idx h.toFe (r_var h.toFe rfl (.inl g11_one)) r_int (fun _ _ => rfl))) (r_idx h.toFe (r_var h.toFe rfl (.inl g11_one)) r_int (fun _ _ => rfl)))))
  ss_nil)
theorem g12_one : (defScope s12).names.lookup ("one" : Str) = some .local := by kernel_rfl
theorem b12 (L : Lf prog t mg fi) (hp : X.prog = prog) (h : Fs t ⟨k10_prog, call, wf, none⟩ N12 (defScope s12) mg W fi k X) : VSs t ⟨k10_prog, call, wf, none⟩ W X (defBody s12) k10_nearest :=
  (ss_cons (s_ret (r_bin h.toFe .fdiv (r_bin h.toFe .add (r_bin h.toFe .mul r_int (r_idx h.toFe (r_var h.toFe rfl (.inl g12_one)) r_int (fun _ _ => rfl))) (r_idx h.toFe (r_var h.toFe rfl (.inl g12_one)) r_int (fun _ _ => rfl))) (r_bin h.toFe .mul r_int (r_idx h.toFe (r_var h.toFe rfl (.inl g12_one)) r_int (fun _ _ => rfl)))))
  ss_nil)
theorem g13_found : (defScope s13).names.lookup ("found" : Str) = some .local := by kernel_rfl
theorem g13_rows : (defScope s13).names.lookup ("rows" : Str) = some .local := by kernel_rfl
theorem g13_one : (defScope s13).names.lookup ("one" : Str) = some .local := by kernel_rfl
theorem g13_plus : (defScope s13).names.lookup ("plus" : Str) = some .globalImplicit := by kernel_rfl
theorem b13 (L : Lf prog t mg fi) (hp : X.prog = prog) (h : Fs t ⟨k10_prog, call, wf, none⟩ N13 (defScope s13) mg W fi k X) : VSs t ⟨k10_prog, call, wf, none⟩ W X (defBody s13) k10_total :=
  (ss_cons (s_set h.toFe rfl (.inl g13_found) (.inr g13_found) (r_tup (r_cons r_int (r_cons r_int r_nil rfl) rfl) (by decide)) rfl)
  (ss_cons (s_for h.toFe h.own h.toFc.calm (i_val h.toFe (r_var h.toFe rfl (.inl g13_rows))) (g_name h.toFe rfl (.inl g13_one) (.inr g13_one)) (ss_cons (s_set h.toFe rfl (.inl g13_found) (.inr g13_found) (r_callF h.toFc L.c_5 g13_plus (r_cons (r_var h.toFe rfl (.inl g13_found)) (r_cons (r_var h.toFe rfl (.inl g13_one)) r_nil rfl) rfl) rfl rfl) rfl)
  ss_nil) (fun _ => rfl))
  (ss_cons (s_ret (r_var h.toFe rfl (.inl g13_found)))
  ss_nil)))
theorem g14_times : (defScope s14).names.lookup ("times" : Str) = some .globalImplicit := by kernel_rfl
theorem g14_plus : (defScope s14).names.lookup ("plus" : Str) = some .globalImplicit := by kernel_rfl
theorem g14_second : (defScope s14).names.lookup ("second" : Str) = some .local := by kernel_rfl
theorem g14_first : (defScope s14).names.lookup ("first" : Str) = some .local := by kernel_rfl
theorem g14_row : (defScope s14).names.lookup ("row" : Str) = some .local := by kernel_rfl
theorem g14_len : (defScope s14).names.lookup ("len" : Str) = some .globalImplicit := by kernel_rfl
theorem g14_rows : (defScope s14).names.lookup ("rows" : Str) = some .local := by kernel_rfl
theorem g14_one : (defScope s14).names.lookup ("one" : Str) = some .cell := by kernel_rfl
theorem g14_place : (defScope s14).names.lookup ("place" : Str) = some .local := by kernel_rfl
theorem b14 (L : Lf prog t mg fi) (hp : X.prog = prog) (h : Fs t ⟨k10_prog, call, wf, none⟩ N14 (defScope s14) mg W fi k X) : VSs t ⟨k10_prog, call, wf, none⟩ W X (defBody s14) k10_median :=
  (ss_cons (s_set h.toFe rfl (.inl g14_row) (.inr g14_row) (r_lst (r_cons (r_idx h.toFe (r_var h.toFe rfl (.inl g14_rows)) r_int (fun _ _ => rfl)) r_nil rfl) (by decide)) rfl)
  (ss_cons (s_for h.toFe h.own h.toFc.calm (i_val h.toFe (r_slc h.toFe _ (r_var h.toFe rfl (.inl g14_rows)) (v_some r_int) v_none)) (g_name h.toFe rfl (.inr g14_one) (.inl (by rw [h.fna]))) (ss_cons (s_set h.toFe rfl (.inl g14_place) (.inr g14_place) (r_biB h.toFe (c_len h.toFe.kk _ _) g14_len L.b_len (by decide +kernel) (r_cons (r_compB h.toFc [(("other" : Str), 6)] rfl ⟨rfl, (by decide +kernel), (by decide +kernel), (by decide +kernel), (by decide +kernel)⟩ (i_val h.toFe (r_var h.toFe rfl (.inl g14_row))) (fun xi2 X2 h2 => ⟨(g_name h2.toFe rfl (.inl (by kernel_rfl)) (.inr (by kernel_rfl))), (ts_one (t_not (t_val h2.toFe (r_callF h2 L.c_9 (by kernel_rfl) (r_cons (r_var h2.toFe rfl (.inr (.inl (by kernel_rfl)))) (r_cons (r_var h2.toFe rfl (.inl (by kernel_rfl))) r_nil rfl) rfl) rfl rfl) (fun _ => rfl)))), (r_var h2.toFe rfl (.inl (by kernel_rfl)))⟩) (by decide +kernel) (fun _ => rfl)) r_nil rfl) (by decide +kernel) (by decide +kernel) rfl rfl) rfl)
  (ss_cons (s_exp (r_bm h.toFe (m := .insert) (f := bInsert) (fun _ _ _ => rfl) bInsert_nox PySem.F.slot_list_insert PySem.F.type_list_insert m_insert (r_var h.toFe rfl (.inl g14_row)) (r_cons (r_var h.toFe rfl (.inl g14_place)) (r_cons (r_var h.toFe rfl (.inr (.inl g14_one))) r_nil rfl) rfl) rfl rfl rfl rfl rfl) rfl)
  ss_nil)) (fun _ => rfl))
  (ss_cons (s_par2B h.toFe h.toFc.calm rfl rfl (by decide) g14_first g14_second (r_cons (r_idx h.toFe (r_var h.toFe rfl (.inl g14_row)) (r_bin h.toFe .fdiv (r_bin h.toFe .sub (r_biB h.toFe (c_len h.toFe.kk _ _) g14_len L.b_len (by decide +kernel) (r_cons (r_var h.toFe rfl (.inl g14_row)) r_nil rfl) (by decide +kernel) (by decide +kernel) rfl rfl) r_int) r_int) (fun _ _ => rfl)) (r_cons (r_idx h.toFe (r_var h.toFe rfl (.inl g14_row)) (r_bin h.toFe .fdiv (r_biB h.toFe (c_len h.toFe.kk _ _) g14_len L.b_len (by decide +kernel) (r_cons (r_var h.toFe rfl (.inl g14_row)) r_nil rfl) (by decide +kernel) (by decide +kernel) rfl rfl) r_int) (fun _ _ => rfl)) r_nil rfl) rfl) rfl rfl)
  (ss_cons (s_ret (r_callF h.toFc L.c_7 g14_times (r_cons (r_callF h.toFc L.c_5 g14_plus (r_cons (r_var h.toFe rfl (.inl g14_first)) (r_cons (r_var h.toFe rfl (.inl g14_second)) r_nil rfl) rfl) rfl rfl) (r_cons (r_tup (r_cons r_int (r_cons r_int r_nil rfl) rfl) (by decide)) r_nil rfl) rfl) rfl rfl))
  ss_nil))))
theorem g15_int : (defScope s15).names.lookup ("int" : Str) = some .globalImplicit := by kernel_rfl
theorem g15_cell : (defScope s15).names.lookup ("cell" : Str) = some .local := by kernel_rfl
theorem g15_many : (defScope s15).names.lookup ("many" : Str) = some .local := by kernel_rfl
theorem g15_row : (defScope s15).names.lookup ("row" : Str) = some .local := by kernel_rfl
theorem g15_len : (defScope s15).names.lookup ("len" : Str) = some .globalImplicit := by kernel_rfl
theorem g15_found : (defScope s15).names.lookup ("found" : Str) = some .local := by kernel_rfl
theorem b15 (L : Lf prog t mg fi) (hp : X.prog = prog) (h : Fs t ⟨k10_prog, call, wf, none⟩ N15 (defScope s15) mg W fi k X) : VSs t ⟨k10_prog, call, wf, none⟩ W X (defBody s15) k10__law_taken :=
  (ss_cons (s_ite (t_cmp h.toFe .gt (r_idx h.toFe (r_var h.toFe rfl (.inl g15_row)) r_int (fun _ _ => rfl)) r_int rfl) (ss_cons (s_set h.toFe rfl (.inl g15_found) (.inr g15_found) (r_bin h.toFe .mod (r_biT h.toFe (c_int _ _) g15_int L.b_int (by decide +kernel) (r_cons (r_idx h.toFe (r_var h.toFe rfl (.inl g15_row)) r_int (fun _ _ => rfl)) r_nil rfl) (by decide +kernel) (by decide +kernel) rfl rfl) (r_var h.toFe rfl (.inl g15_many))) rfl)
  (ss_cons (s_setI (r_var h.toFe rfl (.inl g15_row)) r_int (r_bin h.toFe .fdiv (r_idx h.toFe (r_var h.toFe rfl (.inl g15_row)) r_int (fun _ _ => rfl)) (r_var h.toFe rfl (.inl g15_many))) rfl rfl rfl (fun _ => rfl))
  (ss_cons (s_ret (r_var h.toFe rfl (.inl g15_found)))
  ss_nil))) ss_nil)
  (ss_cons (s_setI (r_var h.toFe rfl (.inl g15_row)) r_int (r_bin h.toFe .add (r_idx h.toFe (r_var h.toFe rfl (.inl g15_row)) r_int (fun _ _ => rfl)) r_int) rfl rfl rfl (fun _ => rfl))
  (ss_cons (s_ite (t_cmp h.toFe .gt (r_idx h.toFe (r_var h.toFe rfl (.inl g15_row)) r_int (fun _ _ => rfl)) (r_biB h.toFe (c_len h.toFe.kk _ _) g15_len L.b_len (by decide +kernel) (r_cons (r_idx h.toFe (r_var h.toFe rfl (.inl g15_row)) r_int (fun _ _ => rfl)) r_nil rfl) (by decide +kernel) (by decide +kernel) rfl rfl) rfl) (ss_cons (s_setI (r_var h.toFe rfl (.inl g15_row)) r_int (r_bin h.toFe .mod (r_biT h.toFe (c_int _ _) g15_int L.b_int (by decide +kernel) (r_cons (r_bin h.toFe .add (r_bin h.toFe .mul (r_idx h.toFe (r_var h.toFe rfl (.inl g15_row)) r_int (fun _ _ => rfl)) r_int) r_int) r_nil rfl) (by decide +kernel) (by decide +kernel) rfl rfl) r_int) rfl rfl rfl (fun _ => rfl))
  (ss_cons (s_ret (r_bin h.toFe .mod (r_biT h.toFe (c_int _ _) g15_int L.b_int (by decide +kernel) (r_cons (r_bin h.toFe .fdiv (r_idx h.toFe (r_var h.toFe rfl (.inl g15_row)) r_int (fun _ _ => rfl)) r_int) r_nil rfl) (by decide +kernel) (by decide +kernel) rfl rfl) (r_var h.toFe rfl (.inl g15_many))))
  ss_nil)) ss_nil)
  (ss_cons (s_set h.toFe rfl (.inl g15_cell) (.inr g15_cell) (r_idx h.toFe (r_idx h.toFe (r_var h.toFe rfl (.inl g15_row)) r_int (fun _ _ => rfl)) (r_bin h.toFe .sub (r_idx h.toFe (r_var h.toFe rfl (.inl g15_row)) r_int (fun _ _ => rfl)) r_int) (fun _ _ => rfl)) rfl)
  (ss_cons (s_setI (r_var h.toFe rfl (.inl g15_row)) r_int (r_bin h.toFe .mod (r_biT h.toFe (c_int _ _) g15_int L.b_int (by decide +kernel) (r_cons (r_bin h.toFe .add (r_bin h.toFe .add (r_bin h.toFe .mul (r_idx h.toFe (r_var h.toFe rfl (.inl g15_row)) r_int (fun _ _ => rfl)) r_int) (r_var h.toFe rfl (.inl g15_cell))) r_int) r_nil rfl) (by decide +kernel) (by decide +kernel) rfl rfl) r_int) rfl rfl rfl (fun _ => rfl))
  (ss_cons (s_ite (t_cmp h.toFe .ge (r_var h.toFe rfl (.inl g15_cell)) (r_bin h.toFe .pow r_int r_int) rfl) (ss_cons (s_setI (r_var h.toFe rfl (.inl g15_row)) r_int (r_bin h.toFe .fdiv (r_var h.toFe rfl (.inl g15_cell)) (r_var h.toFe rfl (.inl g15_many))) rfl rfl rfl (fun _ => rfl))
  ss_nil) ss_nil)
  (ss_cons (s_ret (r_bin h.toFe .mod (r_biT h.toFe (c_int _ _) g15_int L.b_int (by decide +kernel) (r_cons (r_var h.toFe rfl (.inl g15_cell)) r_nil rfl) (by decide +kernel) (by decide +kernel) rfl rfl) (r_var h.toFe rfl (.inl g15_many))))
  ss_nil)))))))
theorem g16_found : (defScope s16).names.lookup ("found" : Str) = some .cell := by kernel_rfl
theorem g16_due : (defScope s16).names.lookup ("due" : Str) = some .cell := by kernel_rfl
theorem g16_isinstance : (defScope s16).names.lookup ("isinstance" : Str) = some .globalImplicit := by kernel_rfl
theorem g16_bool : (defScope s16).names.lookup ("bool" : Str) = some .globalImplicit := by kernel_rfl
theorem g16_int : (defScope s16).names.lookup ("int" : Str) = some .globalImplicit := by kernel_rfl
theorem g16_str : (defScope s16).names.lookup ("str" : Str) = some .globalImplicit := by kernel_rfl
theorem g16_list : (defScope s16).names.lookup ("list" : Str) = some .globalImplicit := by kernel_rfl
theorem g16_tuple : (defScope s16).names.lookup ("tuple" : Str) = some .globalImplicit := by kernel_rfl
theorem g16_range : (defScope s16).names.lookup ("range" : Str) = some .globalImplicit := by kernel_rfl
theorem g16_len : (defScope s16).names.lookup ("len" : Str) = some .globalImplicit := by kernel_rfl
theorem b16 (L : Lf prog t mg fi) (hp : X.prog = prog) (h : Fs t ⟨k10_prog, call, wf, none⟩ N16 (defScope s16) mg W fi k X) : VSs t ⟨k10_prog, call, wf, none⟩ W X (defBody s16) k10__law_alike :=
  (ss_cons (s_ite (t_val h.toFe (r_isiT h.toFe L.cf.xi g16_isinstance L.b_isinstance (r_var h.toFe rfl (.inr (.inl g16_due))) (pa_cs (p_ty h.toFe g16_tuple L.b_tuple (by decide +kernel) (by decide +kernel) (by decide +kernel)) (pa_cs (p_ty h.toFe g16_list L.b_list (by decide +kernel) (by decide +kernel) (by decide +kernel)) pa_cs0 rfl) rfl) (by decide) (nocls rfl) rfl rfl rfl) (fun _ => rfl)) (ss_cons (s_ite (t_w (w_or (t_not (t_val h.toFe (r_isiT h.toFe L.cf.xi g16_isinstance L.b_isinstance (r_var h.toFe rfl (.inr (.inl g16_found))) (pa_cs (p_ty h.toFe g16_tuple L.b_tuple (by decide +kernel) (by decide +kernel) (by decide +kernel)) (pa_cs (p_ty h.toFe g16_list L.b_list (by decide +kernel) (by decide +kernel) (by decide +kernel)) pa_cs0 rfl) rfl) (by decide) (nocls rfl) rfl rfl rfl) (fun _ => rfl))) (w_or1 (t_cmp h.toFe .ne (r_isi1 h.toFe L.cf.xi g16_isinstance L.b_isinstance (r_var h.toFe rfl (.inr (.inl g16_found))) (p_ty h.toFe g16_list L.b_list (by decide +kernel) (by decide +kernel) (by decide +kernel)) (nocl rfl) rfl rfl rfl) (r_isi1 h.toFe L.cf.xi g16_isinstance L.b_isinstance (r_var h.toFe rfl (.inr (.inl g16_due))) (p_ty h.toFe g16_list L.b_list (by decide +kernel) (by decide +kernel) (by decide +kernel)) (nocl rfl) rfl rfl rfl) rfl)))) (ss_cons (s_ret r_bl)
  ss_nil) ss_nil)
  (ss_cons (s_ite (t_cmp h.toFe .ne (r_biB h.toFe (c_len h.toFe.kk _ _) g16_len L.b_len (by decide +kernel) (r_cons (r_var h.toFe rfl (.inr (.inl g16_found))) r_nil rfl) (by decide +kernel) (by decide +kernel) rfl rfl) (r_biB h.toFe (c_len h.toFe.kk _ _) g16_len L.b_len (by decide +kernel) (r_cons (r_var h.toFe rfl (.inr (.inl g16_due))) r_nil rfl) (by decide +kernel) (by decide +kernel) rfl rfl) rfl) (ss_cons (s_ret r_bl)
  ss_nil) ss_nil)
  (ss_cons (s_ret (r_cmp h.toFe .eq (r_compB h.toFc [(("k" : Str), 2)] rfl ⟨rfl, (by decide +kernel), (by decide +kernel), (by decide +kernel), (by decide +kernel)⟩ (i_range1 h.toFe g16_range L.b_range (r_cons (r_biB h.toFe (c_len h.toFe.kk _ _) g16_len L.b_len (by decide +kernel) (r_cons (r_var h.toFe rfl (.inr (.inl g16_due))) r_nil rfl) (by decide +kernel) (by decide +kernel) rfl rfl) r_nil rfl) rfl) (fun xi4 X4 h4 => ⟨(g_name h4.toFe rfl (.inl (by kernel_rfl)) (.inr (by kernel_rfl))), (ts_one (t_not (t_val h4.toFe (r_callF h4 L.c_16 (by kernel_rfl) (r_cons (r_idx h4.toFe (r_var h4.toFe rfl (.inr (.inl (by kernel_rfl)))) (r_var h4.toFe rfl (.inl (by kernel_rfl))) (fun _ _ => rfl)) (r_cons (r_idx h4.toFe (r_var h4.toFe rfl (.inr (.inl (by kernel_rfl)))) (r_var h4.toFe rfl (.inl (by kernel_rfl))) (fun _ _ => rfl)) r_nil rfl) rfl) rfl rfl) (fun _ => rfl)))), (r_var h4.toFe rfl (.inl (by kernel_rfl)))⟩) (by decide +kernel) (fun _ => rfl)) (r_lst r_nil (by decide)) rfl))
  ss_nil))) ss_nil)
  (ss_cons (s_ite (t_w (w_or (t_cmp h.toFe .isn (r_var h.toFe rfl (.inr (.inl g16_due))) r_non rfl) (w_or1 (t_val h.toFe (r_isi1 h.toFe L.cf.xi g16_isinstance L.b_isinstance (r_var h.toFe rfl (.inr (.inl g16_due))) (p_ty h.toFe g16_str L.b_str (by decide +kernel) (by decide +kernel) (by decide +kernel)) (nocl rfl) rfl rfl rfl) (fun _ => rfl))))) (ss_cons (s_ret (r_and (r_cmp h.toFe .eq (r_var h.toFe rfl (.inr (.inl g16_found))) (r_var h.toFe rfl (.inr (.inl g16_due))) rfl) (r_and1 (r_cmp h.toFe .eq (r_isi1 h.toFe L.cf.xi g16_isinstance L.b_isinstance (r_var h.toFe rfl (.inr (.inl g16_found))) (p_ty h.toFe g16_str L.b_str (by decide +kernel) (by decide +kernel) (by decide +kernel)) (nocl rfl) rfl rfl rfl) (r_isi1 h.toFe L.cf.xi g16_isinstance L.b_isinstance (r_var h.toFe rfl (.inr (.inl g16_due))) (p_ty h.toFe g16_str L.b_str (by decide +kernel) (by decide +kernel) (by decide +kernel)) (nocl rfl) rfl rfl rfl) rfl))))
  ss_nil) ss_nil)
  (ss_cons (s_ret (r_and (r_isi1 h.toFe L.cf.xi g16_isinstance L.b_isinstance (r_var h.toFe rfl (.inr (.inl g16_found))) (p_ty h.toFe g16_int L.b_int (by decide +kernel) (by decide +kernel) (by decide +kernel)) (nocl rfl) rfl rfl rfl) (r_and (r_cmp h.toFe .eq (r_isi1 h.toFe L.cf.xi g16_isinstance L.b_isinstance (r_var h.toFe rfl (.inr (.inl g16_found))) (p_ty h.toFe g16_bool L.b_bool (by decide +kernel) (by decide +kernel) (by decide +kernel)) (nocl rfl) rfl rfl rfl) (r_isi1 h.toFe L.cf.xi g16_isinstance L.b_isinstance (r_var h.toFe rfl (.inr (.inl g16_due))) (p_ty h.toFe g16_bool L.b_bool (by decide +kernel) (by decide +kernel) (by decide +kernel)) (nocl rfl) rfl rfl rfl) rfl) (r_and1 (r_cmp h.toFe .eq (r_var h.toFe rfl (.inr (.inl g16_found))) (r_var h.toFe rfl (.inr (.inl g16_due))) rfl)))))
  ss_nil)))
theorem g17_found : (defScope s17).names.lookup ("found" : Str) = some .local := by kernel_rfl
theorem g17_due : (defScope s17).names.lookup ("due" : Str) = some .local := by kernel_rfl
theorem g17_isinstance : (defScope s17).names.lookup ("isinstance" : Str) = some .globalImplicit := by kernel_rfl
theorem g17_bool : (defScope s17).names.lookup ("bool" : Str) = some .globalImplicit := by kernel_rfl
theorem b17 (L : Lf prog t mg fi) (hp : X.prog = prog) (h : Fs t ⟨k10_prog, call, wf, none⟩ N17 (defScope s17) mg W fi k X) : VSs t ⟨k10_prog, call, wf, none⟩ W X (defBody s17) k10__law_truth :=
  (ss_cons (s_ret (r_and (r_isi1 h.toFe L.cf.xi g17_isinstance L.b_isinstance (r_var h.toFe rfl (.inl g17_found)) (p_ty h.toFe g17_bool L.b_bool (by decide +kernel) (by decide +kernel) (by decide +kernel)) (nocl rfl) rfl rfl rfl) (r_and1 (r_cmp h.toFe .eq (r_var h.toFe rfl (.inl g17_found)) (r_var h.toFe rfl (.inl g17_due)) rfl))))
  ss_nil)
theorem g18_int : (defScope s18).names.lookup ("int" : Str) = some .globalImplicit := by kernel_rfl
theorem g18_bottom : (defScope s18).names.lookup ("bottom" : Str) = some .local := by kernel_rfl
theorem g18_here : (defScope s18).names.lookup ("here" : Str) = some .local := by kernel_rfl
theorem g18_top : (defScope s18).names.lookup ("top" : Str) = some .local := by kernel_rfl
theorem g18_range : (defScope s18).names.lookup ("range" : Str) = some .globalImplicit := by kernel_rfl
theorem g18_one : (defScope s18).names.lookup ("one" : Str) = some .local := by kernel_rfl
theorem b18 (L : Lf prog t mg fi) (hp : X.prog = prog) (h : Fs t ⟨k10_prog, call, wf, none⟩ N18 (defScope s18) mg W fi k X) : VSs t ⟨k10_prog, call, wf, none⟩ W X (defBody s18) k10__law_low :=
  (ss_cons (s_set h.toFe rfl (.inl g18_here) (.inr g18_here) r_int rfl)
  (ss_cons (s_for h.toFe h.own h.toFc.calm (i_range2 h.toFe g18_range L.b_range (r_cons r_int (r_cons (r_bin h.toFe .add (r_biT h.toFe (c_int _ _) g18_int L.b_int (by decide +kernel) (r_cons (r_var h.toFe rfl (.inl g18_bottom)) r_nil rfl) (by decide +kernel) (by decide +kernel) rfl rfl) r_int) r_nil rfl) rfl) rfl rfl) (g_name h.toFe rfl (.inl g18_one) (.inr g18_one)) (ss_cons (s_ite (t_w (w_and (t_cmp h.toFe .eq (r_bin h.toFe .mod (r_biT h.toFe (c_int _ _) g18_int L.b_int (by decide +kernel) (r_cons (r_var h.toFe rfl (.inl g18_top)) r_nil rfl) (by decide +kernel) (by decide +kernel) rfl rfl) (r_var h.toFe rfl (.inl g18_one))) r_int rfl) (w_and1 (t_cmp h.toFe .eq (r_bin h.toFe .mod (r_biT h.toFe (c_int _ _) g18_int L.b_int (by decide +kernel) (r_cons (r_var h.toFe rfl (.inl g18_bottom)) r_nil rfl) (by decide +kernel) (by decide +kernel) rfl rfl) (r_var h.toFe rfl (.inl g18_one))) r_int rfl)))) (ss_cons (s_set h.toFe rfl (.inl g18_here) (.inr g18_here) (r_var h.toFe rfl (.inl g18_one)) rfl)
  ss_nil) ss_nil)
  ss_nil) (fun _ => rfl))
  (ss_cons (s_ret (r_tup (r_cons (r_bin h.toFe .fdiv (r_biT h.toFe (c_int _ _) g18_int L.b_int (by decide +kernel) (r_cons (r_var h.toFe rfl (.inl g18_top)) r_nil rfl) (by decide +kernel) (by decide +kernel) rfl rfl) (r_var h.toFe rfl (.inl g18_here))) (r_cons (r_bin h.toFe .fdiv (r_biT h.toFe (c_int _ _) g18_int L.b_int (by decide +kernel) (r_cons (r_var h.toFe rfl (.inl g18_bottom)) r_nil rfl) (by decide +kernel) (by decide +kernel) rfl rfl) (r_var h.toFe rfl (.inl g18_here))) r_nil rfl) rfl) (by decide)))
  ss_nil)))
theorem g19__law_alike : (defScope s19).names.lookup ("_law_alike" : Str) = some .globalImplicit := by kernel_rfl
theorem g19_one : (defScope s19).names.lookup ("one" : Str) = some .local := by kernel_rfl
theorem g19_want_fraction : (defScope s19).names.lookup ("want_fraction" : Str) = some .globalImplicit := by kernel_rfl
theorem g19_list : (defScope s19).names.lookup ("list" : Str) = some .globalImplicit := by kernel_rfl
theorem g19_value : (defScope s19).names.lookup ("value" : Str) = some .local := by kernel_rfl
theorem g19_repr : (defScope s19).names.lookup ("repr" : Str) = some .globalImplicit := by kernel_rfl
theorem g19_e : (defScope s19).names.lookup ("e" : Str) = some .local := by kernel_rfl
theorem g19_BadNumber : (defScope s19).names.lookup ("BadNumber" : Str) = some .globalImplicit := by kernel_rfl
theorem g19_is_fraction : (defScope s19).names.lookup ("is_fraction" : Str) = some .globalImplicit := by kernel_rfl
theorem g19_middle : (defScope s19).names.lookup ("middle" : Str) = some .cell := by kernel_rfl
theorem g19_rows : (defScope s19).names.lookup ("rows" : Str) = some .local := by kernel_rfl
theorem g19_len : (defScope s19).names.lookup ("len" : Str) = some .globalImplicit := by kernel_rfl
theorem g19_above : (defScope s19).names.lookup ("above" : Str) = some .local := by kernel_rfl
theorem g19_below : (defScope s19).names.lookup ("below" : Str) = some .local := by kernel_rfl
theorem g19_median : (defScope s19).names.lookup ("median" : Str) = some .globalImplicit := by kernel_rfl
theorem g19_whole : (defScope s19).names.lookup ("whole" : Str) = some .local := by kernel_rfl
theorem g19_total : (defScope s19).names.lookup ("total" : Str) = some .globalImplicit := by kernel_rfl
theorem g19_part : (defScope s19).names.lookup ("part" : Str) = some .local := by kernel_rfl
theorem g19__law_low : (defScope s19).names.lookup ("_law_low" : Str) = some .globalImplicit := by kernel_rfl
theorem g19_other : (defScope s19).names.lookup ("other" : Str) = some .local := by kernel_rfl
theorem g19_range : (defScope s19).names.lookup ("range" : Str) = some .globalImplicit := by kernel_rfl
theorem g19__law_taken : (defScope s19).names.lookup ("_law_taken" : Str) = some .globalImplicit := by kernel_rfl
theorem g19_row : (defScope s19).names.lookup ("row" : Str) = some .cell := by kernel_rfl
theorem g19_best : (defScope s19).names.lookup ("best" : Str) = some .local := by kernel_rfl
theorem g19_nearest : (defScope s19).names.lookup ("nearest" : Str) = some .globalImplicit := by kernel_rfl
theorem g19_ceiling_of : (defScope s19).names.lookup ("ceiling_of" : Str) = some .globalImplicit := by kernel_rfl
theorem g19_floor_of : (defScope s19).names.lookup ("floor_of" : Str) = some .globalImplicit := by kernel_rfl
theorem g19_max : (defScope s19).names.lookup ("max" : Str) = some .globalImplicit := by kernel_rfl
theorem g19_wholes : (defScope s19).names.lookup ("wholes" : Str) = some .local := by kernel_rfl
theorem g19_min : (defScope s19).names.lookup ("min" : Str) = some .globalImplicit := by kernel_rfl
theorem g19__law_truth : (defScope s19).names.lookup ("_law_truth" : Str) = some .globalImplicit := by kernel_rfl
theorem g19_a : (defScope s19).names.lookup ("a" : Str) = some .cell := by kernel_rfl
theorem g19_d : (defScope s19).names.lookup ("d" : Str) = some .local := by kernel_rfl
theorem g19_c : (defScope s19).names.lookup ("c" : Str) = some .local := by kernel_rfl
theorem g19_b : (defScope s19).names.lookup ("b" : Str) = some .cell := by kernel_rfl
theorem g19_is_less : (defScope s19).names.lookup ("is_less" : Str) = some .globalImplicit := by kernel_rfl
theorem g19_over : (defScope s19).names.lookup ("over" : Str) = some .globalImplicit := by kernel_rfl
theorem g19_times : (defScope s19).names.lookup ("times" : Str) = some .globalImplicit := by kernel_rfl
theorem g19_minus : (defScope s19).names.lookup ("minus" : Str) = some .globalImplicit := by kernel_rfl
theorem g19_plus : (defScope s19).names.lookup ("plus" : Str) = some .globalImplicit := by kernel_rfl
theorem g19_reduced : (defScope s19).names.lookup ("reduced" : Str) = some .globalImplicit := by kernel_rfl
theorem g19_script : (defScope s19).names.lookup ("script" : Str) = some .local := by kernel_rfl
theorem b19 (L : Lf prog t mg fi) (hp : X.prog = prog) (h : Fs t ⟨k10_prog, call, wf, none⟩ N19 (defScope s19) mg W fi k X) : VSs t ⟨k10_prog, call, wf, none⟩ W X (defBody s19) k10_law :=
  (ss_cons (s_set h.toFe rfl (.inr g19_row) (.inl (by rw [h.fna])) (r_lst (r_cons (r_var h.toFe rfl (.inl g19_script)) (r_cons r_int (r_cons r_int (r_cons r_int r_nil rfl) rfl) rfl) rfl) (by decide)) rfl)
  (ss_cons (s_asgB h.toFe (r_tup (r_cons (r_bin h.toFe .sub (r_callF h.toFc L.c_15 g19__law_taken (r_cons (r_var h.toFe rfl (.inr (.inl g19_row))) (r_cons r_int r_nil rfl) rfl) rfl rfl) r_int) (r_cons (r_bin h.toFe .add r_int (r_callF h.toFc L.c_15 g19__law_taken (r_cons (r_var h.toFe rfl (.inr (.inl g19_row))) (r_cons r_int r_nil rfl) rfl) rfl rfl)) (r_cons (r_bin h.toFe .sub (r_callF h.toFc L.c_15 g19__law_taken (r_cons (r_var h.toFe rfl (.inr (.inl g19_row))) (r_cons r_int r_nil rfl) rfl) rfl rfl) r_int) (r_cons (r_bin h.toFe .add r_int (r_callF h.toFc L.c_15 g19__law_taken (r_cons (r_var h.toFe rfl (.inr (.inl g19_row))) (r_cons r_int r_nil rfl) rfl) rfl rfl)) r_nil rfl) rfl) rfl) rfl) (by decide)) (g_tup h.toFc.calm h.toFe.kk (gs_cons (g_name h.toFe rfl (.inr g19_a) (.inl (by rw [h.fna]))) (gs_cons (g_name h.toFe rfl (.inr g19_b) (.inl (by rw [h.fna]))) (gs_cons (g_name h.toFe rfl (.inl g19_c) (.inr g19_c)) (gs_cons (g_name h.toFe rfl (.inl g19_d) (.inr g19_d)) gs_nil rfl) rfl) rfl) rfl) (n := 0) rfl rfl) rfl rfl rfl)
  (ss_cons (s_par2B h.toFe h.toFc.calm rfl rfl (by decide) g19_one g19_other (r_cons (r_callF h.toFc L.c_2 g19_reduced (r_cons (r_var h.toFe rfl (.inr (.inl g19_a))) (r_cons (r_var h.toFe rfl (.inr (.inl g19_b))) r_nil rfl) rfl) rfl rfl) (r_cons (r_callF h.toFc L.c_2 g19_reduced (r_cons (r_var h.toFe rfl (.inl g19_c)) (r_cons (r_var h.toFe rfl (.inl g19_d)) r_nil rfl) rfl) rfl rfl) r_nil rfl) rfl) rfl rfl)
  (ss_cons (s_ite (t_w (w_or (t_not (t_val h.toFe (r_callF h.toFc L.c_16 g19__law_alike (r_cons (r_tup (r_cons (r_var h.toFe rfl (.inl g19_one)) (r_cons (r_var h.toFe rfl (.inl g19_other)) r_nil rfl) rfl) (by decide)) (r_cons (r_tup (r_cons (r_callF h.toFc L.c_18 g19__law_low (r_cons (r_var h.toFe rfl (.inr (.inl g19_a))) (r_cons (r_var h.toFe rfl (.inr (.inl g19_b))) r_nil rfl) rfl) rfl rfl) (r_cons (r_callF h.toFc L.c_18 g19__law_low (r_cons (r_var h.toFe rfl (.inl g19_c)) (r_cons (r_var h.toFe rfl (.inl g19_d)) r_nil rfl) rfl) rfl rfl) r_nil rfl) rfl) (by decide)) r_nil rfl) rfl) rfl rfl) (fun _ => rfl))) (w_or (t_not (t_val h.toFe (r_callF h.toFc L.c_3 g19_is_fraction (r_cons (r_var h.toFe rfl (.inl g19_one)) r_nil rfl) rfl rfl) (fun _ => rfl))) (w_or1 (t_val h.toFe (r_callF h.toFc L.c_3 g19_is_fraction (r_cons (r_tup (r_cons (r_bin h.toFe .mul (r_var h.toFe rfl (.inr (.inl g19_a))) r_int) (r_cons (r_bin h.toFe .mul (r_var h.toFe rfl (.inr (.inl g19_b))) r_int) r_nil rfl) rfl) (by decide)) r_nil rfl) rfl rfl) (fun _ => rfl)))))) (ss_cons (s_ret r_bl)
  ss_nil) ss_nil)
  (ss_cons (s_ite (t_not (t_val h.toFe (r_callF h.toFc L.c_16 g19__law_alike (r_cons (r_tup (r_cons (r_callF h.toFc L.c_5 g19_plus (r_cons (r_var h.toFe rfl (.inl g19_one)) (r_cons (r_var h.toFe rfl (.inl g19_other)) r_nil rfl) rfl) rfl rfl) (r_cons (r_callF h.toFc L.c_6 g19_minus (r_cons (r_var h.toFe rfl (.inl g19_one)) (r_cons (r_var h.toFe rfl (.inl g19_other)) r_nil rfl) rfl) rfl rfl) (r_cons (r_callF h.toFc L.c_7 g19_times (r_cons (r_var h.toFe rfl (.inl g19_one)) (r_cons (r_var h.toFe rfl (.inl g19_other)) r_nil rfl) rfl) rfl rfl) r_nil rfl) rfl) rfl) (by decide)) (r_cons (r_tup (r_cons (r_callF h.toFc L.c_18 g19__law_low (r_cons (r_bin h.toFe .add (r_bin h.toFe .mul (r_var h.toFe rfl (.inr (.inl g19_a))) (r_var h.toFe rfl (.inl g19_d))) (r_bin h.toFe .mul (r_var h.toFe rfl (.inl g19_c)) (r_var h.toFe rfl (.inr (.inl g19_b))))) (r_cons (r_bin h.toFe .mul (r_var h.toFe rfl (.inr (.inl g19_b))) (r_var h.toFe rfl (.inl g19_d))) r_nil rfl) rfl) rfl rfl) (r_cons (r_callF h.toFc L.c_18 g19__law_low (r_cons (r_bin h.toFe .sub (r_bin h.toFe .mul (r_var h.toFe rfl (.inr (.inl g19_a))) (r_var h.toFe rfl (.inl g19_d))) (r_bin h.toFe .mul (r_var h.toFe rfl (.inl g19_c)) (r_var h.toFe rfl (.inr (.inl g19_b))))) (r_cons (r_bin h.toFe .mul (r_var h.toFe rfl (.inr (.inl g19_b))) (r_var h.toFe rfl (.inl g19_d))) r_nil rfl) rfl) rfl rfl) (r_cons (r_callF h.toFc L.c_18 g19__law_low (r_cons (r_bin h.toFe .mul (r_var h.toFe rfl (.inr (.inl g19_a))) (r_var h.toFe rfl (.inl g19_c))) (r_cons (r_bin h.toFe .mul (r_var h.toFe rfl (.inr (.inl g19_b))) (r_var h.toFe rfl (.inl g19_d))) r_nil rfl) rfl) rfl rfl) r_nil rfl) rfl) rfl) (by decide)) r_nil rfl) rfl) rfl rfl) (fun _ => rfl))) (ss_cons (s_ret r_bl)
  ss_nil) ss_nil)
  (ss_cons (s_ite (t_w (w_or (t_w (w_and (t_cmp h.toFe .gt (r_var h.toFe rfl (.inl g19_c)) r_int rfl) (w_and1 (t_not (t_val h.toFe (r_callF h.toFc L.c_16 g19__law_alike (r_cons (r_callF h.toFc L.c_8 g19_over (r_cons (r_var h.toFe rfl (.inl g19_one)) (r_cons (r_var h.toFe rfl (.inl g19_other)) r_nil rfl) rfl) rfl rfl) (r_cons (r_callF h.toFc L.c_18 g19__law_low (r_cons (r_bin h.toFe .mul (r_var h.toFe rfl (.inr (.inl g19_a))) (r_var h.toFe rfl (.inl g19_d))) (r_cons (r_bin h.toFe .mul (r_var h.toFe rfl (.inr (.inl g19_b))) (r_var h.toFe rfl (.inl g19_c))) r_nil rfl) rfl) rfl rfl) r_nil rfl) rfl) rfl rfl) (fun _ => rfl)))))) (w_or1 (t_not (t_val h.toFe (r_callF h.toFc L.c_17 g19__law_truth (r_cons (r_callF h.toFc L.c_9 g19_is_less (r_cons (r_var h.toFe rfl (.inl g19_one)) (r_cons (r_var h.toFe rfl (.inl g19_other)) r_nil rfl) rfl) rfl rfl) (r_cons (r_cmp h.toFe .lt (r_bin h.toFe .mul (r_var h.toFe rfl (.inr (.inl g19_a))) (r_var h.toFe rfl (.inl g19_d))) (r_bin h.toFe .mul (r_var h.toFe rfl (.inl g19_c)) (r_var h.toFe rfl (.inr (.inl g19_b)))) rfl) r_nil rfl) rfl) rfl rfl) (fun _ => rfl)))))) (ss_cons (s_ret r_bl)
  ss_nil) ss_nil)
  (ss_cons (s_set h.toFe rfl (.inl g19_wholes) (.inr g19_wholes) (r_listRg2 h.toFc g19_list L.b_list g19_range L.b_range (r_neg r_int) r_int rfl rfl rfl rfl) rfl)
  (ss_cons (s_par2B h.toFe h.toFc.calm rfl rfl (by decide) g19_below g19_above (r_cons (r_biB h.toFe (c_max1 h.toFe.kk h.toFc.calm _ _) g19_max L.b_max (by decide +kernel) (r_cons (r_compB h.toFc [(("k" : Str), 18)] rfl ⟨rfl, (by decide +kernel), (by decide +kernel), (by decide +kernel), (by decide +kernel)⟩ (i_val h.toFe (r_var h.toFe rfl (.inl g19_wholes))) (fun xi18 X18 h18 => ⟨(g_name h18.toFe rfl (.inl (by kernel_rfl)) (.inr (by kernel_rfl))), (ts_one (t_cmp h18.toFe .le (r_bin h18.toFe .mul (r_var h18.toFe rfl (.inl (by kernel_rfl))) (r_var h18.toFe rfl (.inr (.inl (by kernel_rfl))))) (r_var h18.toFe rfl (.inr (.inl (by kernel_rfl)))) rfl)), (r_var h18.toFe rfl (.inl (by kernel_rfl)))⟩) (by decide +kernel) (fun _ => rfl)) r_nil rfl) (by decide +kernel) (by decide +kernel) rfl rfl) (r_cons (r_biB h.toFe (c_min1 h.toFe.kk h.toFc.calm _ _) g19_min L.b_min (by decide +kernel) (r_cons (r_compB h.toFc [(("k" : Str), 18)] rfl ⟨rfl, (by decide +kernel), (by decide +kernel), (by decide +kernel), (by decide +kernel)⟩ (i_val h.toFe (r_var h.toFe rfl (.inl g19_wholes))) (fun xi16 X16 h16 => ⟨(g_name h16.toFe rfl (.inl (by kernel_rfl)) (.inr (by kernel_rfl))), (ts_one (t_cmp h16.toFe .ge (r_bin h16.toFe .mul (r_var h16.toFe rfl (.inl (by kernel_rfl))) (r_var h16.toFe rfl (.inr (.inl (by kernel_rfl))))) (r_var h16.toFe rfl (.inr (.inl (by kernel_rfl)))) rfl)), (r_var h16.toFe rfl (.inl (by kernel_rfl)))⟩) (by decide +kernel) (fun _ => rfl)) r_nil rfl) (by decide +kernel) (by decide +kernel) rfl rfl) r_nil rfl) rfl) rfl rfl)
  (ss_cons (s_set h.toFe rfl (.inl g19_best) (.inr g19_best) (r_biB h.toFe (c_max1 h.toFe.kk h.toFc.calm _ _) g19_max L.b_max (by decide +kernel) (r_cons (r_compB h.toFc [(("k" : Str), 18)] rfl ⟨rfl, (by decide +kernel), (by decide +kernel), (by decide +kernel), (by decide +kernel)⟩ (i_val h.toFe (r_var h.toFe rfl (.inl g19_wholes))) (fun xi14 X14 h14 => ⟨(g_name h14.toFe rfl (.inl (by kernel_rfl)) (.inr (by kernel_rfl))), (ts_one (t_cmp h14.toFe .le (r_bin h14.toFe .mul (r_bin h14.toFe .sub (r_bin h14.toFe .mul r_int (r_var h14.toFe rfl (.inl (by kernel_rfl)))) r_int) (r_var h14.toFe rfl (.inr (.inl (by kernel_rfl))))) (r_bin h14.toFe .mul r_int (r_var h14.toFe rfl (.inr (.inl (by kernel_rfl))))) rfl)), (r_var h14.toFe rfl (.inl (by kernel_rfl)))⟩) (by decide +kernel) (fun _ => rfl)) r_nil rfl) (by decide +kernel) (by decide +kernel) rfl rfl) rfl)
  (ss_cons (s_ite (t_not (t_val h.toFe (r_callF h.toFc L.c_16 g19__law_alike (r_cons (r_tup (r_cons (r_callF h.toFc L.c_10 g19_floor_of (r_cons (r_var h.toFe rfl (.inl g19_one)) r_nil rfl) rfl rfl) (r_cons (r_callF h.toFc L.c_11 g19_ceiling_of (r_cons (r_var h.toFe rfl (.inl g19_one)) r_nil rfl) rfl rfl) (r_cons (r_callF h.toFc L.c_12 g19_nearest (r_cons (r_var h.toFe rfl (.inl g19_one)) r_nil rfl) rfl rfl) r_nil rfl) rfl) rfl) (by decide)) (r_cons (r_tup (r_cons (r_var h.toFe rfl (.inl g19_below)) (r_cons (r_var h.toFe rfl (.inl g19_above)) (r_cons (r_var h.toFe rfl (.inl g19_best)) r_nil rfl) rfl) rfl) (by decide)) r_nil rfl) rfl) rfl rfl) (fun _ => rfl))) (ss_cons (s_ret r_bl)
  ss_nil) ss_nil)
  (ss_cons (s_par2B h.toFe h.toFc.calm rfl rfl (by decide) g19_rows g19_whole (r_cons (r_bin h.toFe .add (r_lst (r_cons (r_var h.toFe rfl (.inl g19_one)) (r_cons (r_var h.toFe rfl (.inl g19_other)) r_nil rfl) rfl) (by decide)) (r_compB h.toFc [(("k" : Str), 18)] rfl ⟨rfl, (by decide +kernel), (by decide +kernel), (by decide +kernel), (by decide +kernel)⟩ (i_range1 h.toFe g19_range L.b_range (r_cons (r_callF h.toFc L.c_15 g19__law_taken (r_cons (r_var h.toFe rfl (.inr (.inl g19_row))) (r_cons r_int r_nil rfl) rfl) rfl rfl) r_nil rfl) rfl) (fun xi12 X12 h12 => ⟨(g_name h12.toFe rfl (.inl (by kernel_rfl)) (.inr (by kernel_rfl))), ts_nil, (r_callF h12 L.c_2 (by kernel_rfl) (r_cons (r_bin h12.toFe .sub (r_callF h12 L.c_15 (by kernel_rfl) (r_cons (r_var h12.toFe rfl (.inr (.inl (by kernel_rfl)))) (r_cons r_int r_nil rfl) rfl) rfl rfl) r_int) (r_cons (r_bin h12.toFe .add r_int (r_callF h12 L.c_15 (by kernel_rfl) (r_cons (r_var h12.toFe rfl (.inr (.inl (by kernel_rfl)))) (r_cons r_int r_nil rfl) rfl) rfl rfl)) r_nil rfl) rfl) rfl rfl)⟩) (by decide +kernel) (fun _ => rfl))) (r_cons (r_tup (r_cons r_int (r_cons r_int r_nil rfl) rfl) (by decide)) r_nil rfl) rfl) rfl rfl)
  (ss_cons (s_for h.toFe h.own h.toFc.calm (i_val h.toFe (r_var h.toFe rfl (.inl g19_rows))) (g_name h.toFe rfl (.inl g19_part) (.inr g19_part)) (ss_cons (s_set h.toFe rfl (.inl g19_whole) (.inr g19_whole) (r_callF h.toFc L.c_18 g19__law_low (r_cons (r_bin h.toFe .add (r_bin h.toFe .mul (r_idx h.toFe (r_var h.toFe rfl (.inl g19_whole)) r_int (fun _ _ => rfl)) (r_idx h.toFe (r_var h.toFe rfl (.inl g19_part)) r_int (fun _ _ => rfl))) (r_bin h.toFe .mul (r_idx h.toFe (r_var h.toFe rfl (.inl g19_part)) r_int (fun _ _ => rfl)) (r_idx h.toFe (r_var h.toFe rfl (.inl g19_whole)) r_int (fun _ _ => rfl)))) (r_cons (r_bin h.toFe .mul (r_idx h.toFe (r_var h.toFe rfl (.inl g19_whole)) r_int (fun _ _ => rfl)) (r_idx h.toFe (r_var h.toFe rfl (.inl g19_part)) r_int (fun _ _ => rfl))) r_nil rfl) rfl) rfl rfl) rfl)
  ss_nil) (fun _ => rfl))
  (ss_cons (s_ite (t_not (t_val h.toFe (r_callF h.toFc L.c_16 g19__law_alike (r_cons (r_callF h.toFc L.c_13 g19_total (r_cons (r_var h.toFe rfl (.inl g19_rows)) r_nil rfl) rfl rfl) (r_cons (r_var h.toFe rfl (.inl g19_whole)) r_nil rfl) rfl) rfl rfl) (fun _ => rfl))) (ss_cons (s_ret r_bl)
  ss_nil) ss_nil)
  (ss_cons (s_set h.toFe rfl (.inr g19_middle) (.inl (by rw [h.fna])) (r_callF h.toFc L.c_14 g19_median (r_cons (r_var h.toFe rfl (.inl g19_rows)) r_nil rfl) rfl rfl) rfl)
  (ss_cons (s_set h.toFe rfl (.inl g19_below) (.inr g19_below) (r_biB h.toFe (c_len h.toFe.kk _ _) g19_len L.b_len (by decide +kernel) (r_cons (r_compB h.toFc [(("part" : Str), 4)] rfl ⟨rfl, (by decide +kernel), (by decide +kernel), (by decide +kernel), (by decide +kernel)⟩ (i_val h.toFe (r_var h.toFe rfl (.inl g19_rows))) (fun xi10 X10 h10 => ⟨(g_name h10.toFe rfl (.inl (by kernel_rfl)) (.inr (by kernel_rfl))), (ts_one (t_cmp h10.toFe .lt (r_bin h10.toFe .mul (r_idx h10.toFe (r_var h10.toFe rfl (.inl (by kernel_rfl))) r_int (fun _ _ => rfl)) (r_idx h10.toFe (r_var h10.toFe rfl (.inr (.inl (by kernel_rfl)))) r_int (fun _ _ => rfl))) (r_bin h10.toFe .mul (r_idx h10.toFe (r_var h10.toFe rfl (.inr (.inl (by kernel_rfl)))) r_int (fun _ _ => rfl)) (r_idx h10.toFe (r_var h10.toFe rfl (.inl (by kernel_rfl))) r_int (fun _ _ => rfl))) rfl)), r_int⟩) (by decide +kernel) (fun _ => rfl)) r_nil rfl) (by decide +kernel) (by decide +kernel) rfl rfl) rfl)
  (ss_cons (s_set h.toFe rfl (.inl g19_above) (.inr g19_above) (r_biB h.toFe (c_len h.toFe.kk _ _) g19_len L.b_len (by decide +kernel) (r_cons (r_compB h.toFc [(("part" : Str), 4)] rfl ⟨rfl, (by decide +kernel), (by decide +kernel), (by decide +kernel), (by decide +kernel)⟩ (i_val h.toFe (r_var h.toFe rfl (.inl g19_rows))) (fun xi8 X8 h8 => ⟨(g_name h8.toFe rfl (.inl (by kernel_rfl)) (.inr (by kernel_rfl))), (ts_one (t_cmp h8.toFe .gt (r_bin h8.toFe .mul (r_idx h8.toFe (r_var h8.toFe rfl (.inl (by kernel_rfl))) r_int (fun _ _ => rfl)) (r_idx h8.toFe (r_var h8.toFe rfl (.inr (.inl (by kernel_rfl)))) r_int (fun _ _ => rfl))) (r_bin h8.toFe .mul (r_idx h8.toFe (r_var h8.toFe rfl (.inr (.inl (by kernel_rfl)))) r_int (fun _ _ => rfl)) (r_idx h8.toFe (r_var h8.toFe rfl (.inl (by kernel_rfl))) r_int (fun _ _ => rfl))) rfl)), r_int⟩) (by decide +kernel) (fun _ => rfl)) r_nil rfl) (by decide +kernel) (by decide +kernel) rfl rfl) rfl)
  (ss_cons (s_ite (t_w (w_or (t_cmp h.toFe .gt (r_bin h.toFe .mul r_int (r_var h.toFe rfl (.inl g19_below))) (r_biB h.toFe (c_len h.toFe.kk _ _) g19_len L.b_len (by decide +kernel) (r_cons (r_var h.toFe rfl (.inl g19_rows)) r_nil rfl) (by decide +kernel) (by decide +kernel) rfl rfl) rfl) (w_or (t_cmp h.toFe .gt (r_bin h.toFe .mul r_int (r_var h.toFe rfl (.inl g19_above))) (r_biB h.toFe (c_len h.toFe.kk _ _) g19_len L.b_len (by decide +kernel) (r_cons (r_var h.toFe rfl (.inl g19_rows)) r_nil rfl) (by decide +kernel) (by decide +kernel) rfl rfl) rfl) (w_or1 (t_w (w_and (t_cmp h.toFe .eq (r_bin h.toFe .mod (r_biB h.toFe (c_len h.toFe.kk _ _) g19_len L.b_len (by decide +kernel) (r_cons (r_var h.toFe rfl (.inl g19_rows)) r_nil rfl) (by decide +kernel) (by decide +kernel) rfl rfl) r_int) r_int rfl) (w_and1 (t_cmp h.toFe .notin (r_var h.toFe rfl (.inr (.inl g19_middle))) (r_var h.toFe rfl (.inl g19_rows)) rfl)))))))) (ss_cons (s_ret r_bl)
  ss_nil) ss_nil)
  (ss_cons (s_for h.toFe h.own h.toFc.calm (i_val h.toFe (r_lst (r_cons r_non (r_cons (r_tup (r_cons r_int (r_cons r_int r_nil rfl) rfl) (by decide)) (r_cons (r_tup (r_cons r_int (r_cons r_int r_nil rfl) rfl) (by decide)) (r_cons (r_tup (r_cons r_int (r_cons r_int r_nil rfl) rfl) (by decide)) (r_cons (r_tup (r_cons r_int r_nil rfl) (by decide)) (r_cons (r_tup (r_cons r_bl (r_cons r_int r_nil rfl) rfl) (by decide)) (r_cons (r_lst (r_cons r_int (r_cons r_int (r_cons r_int r_nil rfl) rfl) rfl) (by decide)) (r_cons r_int (r_cons (r_tup (r_cons r_int (r_cons (r_neg r_int) r_nil rfl) rfl) (by decide)) r_nil rfl) rfl) rfl) rfl) rfl) rfl) rfl) rfl) rfl) (by decide))) (g_name h.toFe rfl (.inl g19_value) (.inr g19_value)) (ss_cons (s_ite (t_val h.toFe (r_callF h.toFc L.c_3 g19_is_fraction (r_cons (r_var h.toFe rfl (.inl g19_value)) r_nil rfl) rfl rfl) (fun _ => rfl)) (ss_cons (s_ret r_bl)
  ss_nil) ss_nil)
  (ss_cons (s_triB h L.em (fun W1 X1 hp h5 => (ss_cons (s_exp (r_callF h5.toFc L.c_4 g19_want_fraction (r_cons (r_var h5.toFe rfl (.inl g19_value)) r_nil rfl) rfl rfl) rfl)
  (ss_cons (s_ret r_bl)
  ss_nil))) (hk_named h L.xg_1 g19_BadNumber (by decide +kernel) rfl g19_e (by exact Nat.le_of_ble_eq_true rfl) (fun x6 c6 d6 a6 oe6 pn6 z6 f6 h6 => (ss_cons (s_ite (r_repne h6 g19_repr L.b_repr (r_exf (cu := ⟨x6, c6, d6, 17, a6⟩) h.toFe L.xa rfl (.inl g19_e) (by decide +kernel) L.n_0 z6 f6 rfl) (r_var h6 rfl (.inl g19_value)) rfl rfl) (ss_cons (s_ret r_bl)
  ss_nil) ss_nil)
  ss_nil)) hk_nil))
  ss_nil)) (fun _ => rfl))
  (ss_cons (s_ret (r_callF h.toFc L.c_16 g19__law_alike (r_cons (r_callF h.toFc L.c_4 g19_want_fraction (r_cons (r_biT h.toFe (c_list h.toFe.kk _ _) g19_list L.b_list (by decide +kernel) (r_cons (r_var h.toFe rfl (.inl g19_one)) r_nil rfl) (by decide +kernel) (by decide +kernel) rfl rfl) r_nil rfl) rfl rfl) (r_cons (r_var h.toFe rfl (.inl g19_one)) r_nil rfl) rfl) rfl rfl))
  ss_nil)))))))))))))))))))
end K10
namespace K10
open PySem L2 Dn PyProof.Rows PySem.Spec -- names
open PySem.W PySem.Calls PySem.HandSPX -- names
abbrev names : List Str := [("value" : Str)]
theorem all_mk {prog : Program} {w : World} {K : PySem.W.Frag} {h : Heap} {mg : Str → Option Value} {fa : Addr} {wf n : Nat} (X : K.In h) (G : h.Ns mainGlobals mg) (hfa : mg "law" = some (.ref fa)) (math : ∀ ns : List Int, ns.length ≤ 63 → ∃ S', callF k10_prog wf n 19 [.scr (ns.map .int)] [] = .ok (.bl true) S')
    {f0 : Addr} {od0 an0 : Option Addr} {sl0 : Array (Option Value)} {oc0 kV0 dc0 pm0 cd0 ct0 : Value}
    {f1 : Addr} {od1 an1 : Option Addr} {sl1 : Array (Option Value)} {oc1 kV1 dc1 pm1 cd1 ct1 : Value}
    {f2 : Addr} {od2 an2 : Option Addr} {sl2 : Array (Option Value)} {oc2 kV2 dc2 pm2 cd2 ct2 : Value}
    {f3 : Addr} {od3 an3 : Option Addr} {sl3 : Array (Option Value)} {oc3 kV3 dc3 pm3 cd3 ct3 : Value}
    {f4 : Addr} {od4 an4 : Option Addr} {sl4 : Array (Option Value)} {oc4 kV4 dc4 pm4 cd4 ct4 : Value}
    {f5 : Addr} {od5 an5 : Option Addr} {sl5 : Array (Option Value)} {oc5 kV5 dc5 pm5 cd5 ct5 : Value}
    {f6 : Addr} {od6 an6 : Option Addr} {sl6 : Array (Option Value)} {oc6 kV6 dc6 pm6 cd6 ct6 : Value}
    {f7 : Addr} {od7 an7 : Option Addr} {sl7 : Array (Option Value)} {oc7 kV7 dc7 pm7 cd7 ct7 : Value}
    {f8 : Addr} {od8 an8 : Option Addr} {sl8 : Array (Option Value)} {oc8 kV8 dc8 pm8 cd8 ct8 : Value}
    {f9 : Addr} {od9 an9 : Option Addr} {sl9 : Array (Option Value)} {oc9 kV9 dc9 pm9 cd9 ct9 : Value}
    {f10 : Addr} {od10 an10 : Option Addr} {sl10 : Array (Option Value)} {oc10 kV10 dc10 pm10 cd10 ct10 : Value}
    {f11 : Addr} {od11 an11 : Option Addr} {sl11 : Array (Option Value)} {oc11 kV11 dc11 pm11 cd11 ct11 : Value}
    {f12 : Addr} {od12 an12 : Option Addr} {sl12 : Array (Option Value)} {oc12 kV12 dc12 pm12 cd12 ct12 : Value}
    {f13 : Addr} {od13 an13 : Option Addr} {sl13 : Array (Option Value)} {oc13 kV13 dc13 pm13 cd13 ct13 : Value}
    {f14 : Addr} {od14 an14 : Option Addr} {sl14 : Array (Option Value)} {oc14 kV14 dc14 pm14 cd14 ct14 : Value}
    {f15 : Addr} {od15 an15 : Option Addr} {sl15 : Array (Option Value)} {oc15 kV15 dc15 pm15 cd15 ct15 : Value}
    {f16 : Addr} {od16 an16 : Option Addr} {sl16 : Array (Option Value)} {oc16 kV16 dc16 pm16 cd16 ct16 : Value}
    {f17 : Addr} {od17 an17 : Option Addr} {sl17 : Array (Option Value)} {oc17 kV17 dc17 pm17 cd17 ct17 : Value}
    {f18 : Addr} {od18 an18 : Option Addr} {sl18 : Array (Option Value)} {oc18 kV18 dc18 pm18 cd18 ct18 : Value}
    {f19 : Addr} {od19 an19 : Option Addr} {sl19 : Array (Option Value)} {oc19 kV19 dc19 pm19 cd19 ct19 : Value}
    {C0 : Addr}
    {C1 : Addr}
    {nm1 q1 : Str} {NN1 : Addr} {bs1 bm1 : List Value} {sn1 : List Str} {sub1 : List Value} {ab1 : Bool} {col1 : Option Bool} {dd1 : Option Addr} {kk0_1 kk1_1 kk2_1 kk3_1 kk5_1 : Option Value} {fI1 : Addr}
    {eoc1 : Value} {eod1 : Option Addr} {edoc1 epm1 : Value} {ean1 : Option Addr} {ecda1 : Addr} {ect1 : Value} {eosl1 : Array (Option Value)} {ecc1 : Addr} {ccl1 ecl1 : Value} {ecdd1 ecld1 : Option Addr} {eccs1 ecsl1 : Array (Option Value)} {evs1 : Array Value} {file1 : Str} {etf1 : Tok}
    (a0 : PySem.W.nsIn K mainGlobals "is_whole" = some (some (.ref f0)))
    (l0 : K.lookup f0 = some ⟨oc0, od0, .func (PySem.W.fnOf "is_whole" "is_whole" (defArgs s0) (defBody s0) (defScope s0) .none kV0 dc0 pm0 an0 cd0 ct0), sl0⟩)
    (d0 : PySem.W.codeIn K cd0 "is_whole" = true)
    (k0 : PySem.W.keepIn K (.ref f0) = true)
    (a1 : PySem.W.nsIn K mainGlobals "is_row" = some (some (.ref f1)))
    (l1 : K.lookup f1 = some ⟨oc1, od1, .func (PySem.W.fnOf "is_row" "is_row" (defArgs s1) (defBody s1) (defScope s1) .none kV1 dc1 pm1 an1 cd1 ct1), sl1⟩)
    (d1 : PySem.W.codeIn K cd1 "is_row" = true)
    (k1 : PySem.W.keepIn K (.ref f1) = true)
    (a2 : PySem.W.nsIn K mainGlobals "reduced" = some (some (.ref f2)))
    (l2 : K.lookup f2 = some ⟨oc2, od2, .func (PySem.W.fnOf "reduced" "reduced" (defArgs s2) (defBody s2) (defScope s2) .none kV2 dc2 pm2 an2 cd2 ct2), sl2⟩)
    (d2 : PySem.W.codeIn K cd2 "reduced" = true)
    (k2 : PySem.W.keepIn K (.ref f2) = true)
    (a3 : PySem.W.nsIn K mainGlobals "is_fraction" = some (some (.ref f3)))
    (l3 : K.lookup f3 = some ⟨oc3, od3, .func (PySem.W.fnOf "is_fraction" "is_fraction" (defArgs s3) (defBody s3) (defScope s3) .none kV3 dc3 pm3 an3 cd3 ct3), sl3⟩)
    (d3 : PySem.W.codeIn K cd3 "is_fraction" = true)
    (k3 : PySem.W.keepIn K (.ref f3) = true)
    (a4 : PySem.W.nsIn K mainGlobals "want_fraction" = some (some (.ref f4)))
    (l4 : K.lookup f4 = some ⟨oc4, od4, .func (PySem.W.fnOf "want_fraction" "want_fraction" (defArgs s4) (defBody s4) (defScope s4) .none kV4 dc4 pm4 an4 cd4 ct4), sl4⟩)
    (d4 : PySem.W.codeIn K cd4 "want_fraction" = true)
    (k4 : PySem.W.keepIn K (.ref f4) = true)
    (a5 : PySem.W.nsIn K mainGlobals "plus" = some (some (.ref f5)))
    (l5 : K.lookup f5 = some ⟨oc5, od5, .func (PySem.W.fnOf "plus" "plus" (defArgs s5) (defBody s5) (defScope s5) .none kV5 dc5 pm5 an5 cd5 ct5), sl5⟩)
    (d5 : PySem.W.codeIn K cd5 "plus" = true)
    (k5 : PySem.W.keepIn K (.ref f5) = true)
    (a6 : PySem.W.nsIn K mainGlobals "minus" = some (some (.ref f6)))
    (l6 : K.lookup f6 = some ⟨oc6, od6, .func (PySem.W.fnOf "minus" "minus" (defArgs s6) (defBody s6) (defScope s6) .none kV6 dc6 pm6 an6 cd6 ct6), sl6⟩)
    (d6 : PySem.W.codeIn K cd6 "minus" = true)
    (k6 : PySem.W.keepIn K (.ref f6) = true)
    (a7 : PySem.W.nsIn K mainGlobals "times" = some (some (.ref f7)))
    (l7 : K.lookup f7 = some ⟨oc7, od7, .func (PySem.W.fnOf "times" "times" (defArgs s7) (defBody s7) (defScope s7) .none kV7 dc7 pm7 an7 cd7 ct7), sl7⟩)
    (d7 : PySem.W.codeIn K cd7 "times" = true)
    (k7 : PySem.W.keepIn K (.ref f7) = true)
    (a8 : PySem.W.nsIn K mainGlobals "over" = some (some (.ref f8)))
    (l8 : K.lookup f8 = some ⟨oc8, od8, .func (PySem.W.fnOf "over" "over" (defArgs s8) (defBody s8) (defScope s8) .none kV8 dc8 pm8 an8 cd8 ct8), sl8⟩)
    (d8 : PySem.W.codeIn K cd8 "over" = true)
    (k8 : PySem.W.keepIn K (.ref f8) = true)
    (a9 : PySem.W.nsIn K mainGlobals "is_less" = some (some (.ref f9)))
    (l9 : K.lookup f9 = some ⟨oc9, od9, .func (PySem.W.fnOf "is_less" "is_less" (defArgs s9) (defBody s9) (defScope s9) .none kV9 dc9 pm9 an9 cd9 ct9), sl9⟩)
    (d9 : PySem.W.codeIn K cd9 "is_less" = true)
    (k9 : PySem.W.keepIn K (.ref f9) = true)
    (a10 : PySem.W.nsIn K mainGlobals "floor_of" = some (some (.ref f10)))
    (l10 : K.lookup f10 = some ⟨oc10, od10, .func (PySem.W.fnOf "floor_of" "floor_of" (defArgs s10) (defBody s10) (defScope s10) .none kV10 dc10 pm10 an10 cd10 ct10), sl10⟩)
    (d10 : PySem.W.codeIn K cd10 "floor_of" = true)
    (k10 : PySem.W.keepIn K (.ref f10) = true)
    (a11 : PySem.W.nsIn K mainGlobals "ceiling_of" = some (some (.ref f11)))
    (l11 : K.lookup f11 = some ⟨oc11, od11, .func (PySem.W.fnOf "ceiling_of" "ceiling_of" (defArgs s11) (defBody s11) (defScope s11) .none kV11 dc11 pm11 an11 cd11 ct11), sl11⟩)
    (d11 : PySem.W.codeIn K cd11 "ceiling_of" = true)
    (k11 : PySem.W.keepIn K (.ref f11) = true)
    (a12 : PySem.W.nsIn K mainGlobals "nearest" = some (some (.ref f12)))
    (l12 : K.lookup f12 = some ⟨oc12, od12, .func (PySem.W.fnOf "nearest" "nearest" (defArgs s12) (defBody s12) (defScope s12) .none kV12 dc12 pm12 an12 cd12 ct12), sl12⟩)
    (d12 : PySem.W.codeIn K cd12 "nearest" = true)
    (k12 : PySem.W.keepIn K (.ref f12) = true)
    (a13 : PySem.W.nsIn K mainGlobals "total" = some (some (.ref f13)))
    (l13 : K.lookup f13 = some ⟨oc13, od13, .func (PySem.W.fnOf "total" "total" (defArgs s13) (defBody s13) (defScope s13) .none kV13 dc13 pm13 an13 cd13 ct13), sl13⟩)
    (d13 : PySem.W.codeIn K cd13 "total" = true)
    (k13 : PySem.W.keepIn K (.ref f13) = true)
    (a14 : PySem.W.nsIn K mainGlobals "median" = some (some (.ref f14)))
    (l14 : K.lookup f14 = some ⟨oc14, od14, .func (PySem.W.fnOf "median" "median" (defArgs s14) (defBody s14) (defScope s14) .none kV14 dc14 pm14 an14 cd14 ct14), sl14⟩)
    (d14 : PySem.W.codeIn K cd14 "median" = true)
    (k14 : PySem.W.keepIn K (.ref f14) = true)
    (a15 : PySem.W.nsIn K mainGlobals "_law_taken" = some (some (.ref f15)))
    (l15 : K.lookup f15 = some ⟨oc15, od15, .func (PySem.W.fnOf "_law_taken" "_law_taken" (defArgs s15) (defBody s15) (defScope s15) .none kV15 dc15 pm15 an15 cd15 ct15), sl15⟩)
    (d15 : PySem.W.codeIn K cd15 "_law_taken" = true)
    (k15 : PySem.W.keepIn K (.ref f15) = true)
    (a16 : PySem.W.nsIn K mainGlobals "_law_alike" = some (some (.ref f16)))
    (l16 : K.lookup f16 = some ⟨oc16, od16, .func (PySem.W.fnOf "_law_alike" "_law_alike" (defArgs s16) (defBody s16) (defScope s16) .none kV16 dc16 pm16 an16 cd16 ct16), sl16⟩)
    (d16 : PySem.W.codeIn K cd16 "_law_alike" = true)
    (k16 : PySem.W.keepIn K (.ref f16) = true)
    (a17 : PySem.W.nsIn K mainGlobals "_law_truth" = some (some (.ref f17)))
    (l17 : K.lookup f17 = some ⟨oc17, od17, .func (PySem.W.fnOf "_law_truth" "_law_truth" (defArgs s17) (defBody s17) (defScope s17) .none kV17 dc17 pm17 an17 cd17 ct17), sl17⟩)
    (d17 : PySem.W.codeIn K cd17 "_law_truth" = true)
    (k17 : PySem.W.keepIn K (.ref f17) = true)
    (a18 : PySem.W.nsIn K mainGlobals "_law_low" = some (some (.ref f18)))
    (l18 : K.lookup f18 = some ⟨oc18, od18, .func (PySem.W.fnOf "_law_low" "_law_low" (defArgs s18) (defBody s18) (defScope s18) .none kV18 dc18 pm18 an18 cd18 ct18), sl18⟩)
    (d18 : PySem.W.codeIn K cd18 "_law_low" = true)
    (k18 : PySem.W.keepIn K (.ref f18) = true)
    (a19 : PySem.W.nsIn K mainGlobals "law" = some (some (.ref f19)))
    (l19 : K.lookup f19 = some ⟨oc19, od19, .func (PySem.W.fnOf "law" "law" (defArgs s19) (defBody s19) (defScope s19) .none kV19 dc19 pm19 an19 cd19 ct19), sl19⟩)
    (d19 : PySem.W.codeIn K cd19 "law" = true)
    (k19 : PySem.W.keepIn K (.ref f19) = true)
    (z_isinstance : PySem.W.nsIn K mainGlobals "isinstance" = some none)
    (z_bool : PySem.W.nsIn K mainGlobals "bool" = some none)
    (z_int : PySem.W.nsIn K mainGlobals "int" = some none)
    (z_tuple : PySem.W.nsIn K mainGlobals "tuple" = some none)
    (z_list : PySem.W.nsIn K mainGlobals "list" = some none)
    (z_abs : PySem.W.nsIn K mainGlobals "abs" = some none)
    (z_len : PySem.W.nsIn K mainGlobals "len" = some none)
    (z_str : PySem.W.nsIn K mainGlobals "str" = some none)
    (z_range : PySem.W.nsIn K mainGlobals "range" = some none)
    (z_repr : PySem.W.nsIn K mainGlobals "repr" = some none)
    (z_max : PySem.W.nsIn K mainGlobals "max" = some none)
    (z_min : PySem.W.nsIn K mainGlobals "min" = some none)
    (z_super : PySem.W.nsIn K mainGlobals "super" = some none)
    (xa0 : PySem.W.nsIn K mainGlobals "FloodError" = some (some (.ref C0)))
    (xga0 : PySem.W.findIn K (.ref C0) "__getattribute__" = some (some (.builtin "BaseException.__getattribute__")))
    (xgg0 : PySem.W.findIn K (.ref C0) "__getattr__" = some none)
    (xex0 : PySem.W.subIn K (.ref C0) (.type "BaseException") = some true)
    (xhd0 : PySem.W.hasDictIn K C0 = true)
    (xic0 : PySem.W.isClsIn K C0 = true)
    (xty0 : PySem.W.typeIn K (.ref C0) = some (.type "type"))
    (xa1 : PySem.W.nsIn K mainGlobals "BadNumber" = some (some (.ref C1)))
    (xga1 : PySem.W.findIn K (.ref C1) "__getattribute__" = some (some (.builtin "BaseException.__getattribute__")))
    (xgg1 : PySem.W.findIn K (.ref C1) "__getattr__" = some none)
    (xex1 : PySem.W.subIn K (.ref C1) (.type "BaseException") = some true)
    (xhd1 : PySem.W.hasDictIn K C1 = true)
    (xic1 : PySem.W.isClsIn K C1 = true)
    (xty1 : PySem.W.typeIn K (.ref C1) = some (.type "type"))
    (xno1_0 : PySem.W.findIn K (.ref C1) "value" = some none)
    (xs0_0 : PySem.W.subIn K (.ref C0) (.ref C0) = some true)
    (xs0_1 : PySem.W.subIn K (.ref C0) (.ref C1) = some false)
    (xs1_0 : PySem.W.subIn K (.ref C1) (.ref C0) = some true)
    (xs1_1 : PySem.W.subIn K (.ref C1) (.ref C1) = some true)
    (ec1 : K.lookup C1 = some (excClassObj nm1 q1 C1 NN1 bs1 bm1 true sn1 sub1 ab1 col1 dd1 kk0_1 kk1_1 kk2_1 kk3_1 kk5_1 "ValueError.__new__"))
    (er1 : refsVE bm1 = true)
    (el1 : PySem.W.clsIn K C1 = some { name := nm1, bases := bs1, mro := .ref C1 :: bm1, ns := NN1, qualname := q1, hasDict := true, slotNames := sn1, subclasses := sub1, abstract := ab1, collection := col1, hasDel := false })
    (esa1 : PySem.W.findIn K (.ref C1) "__setattr__" = some (some (.builtin "object.__setattr__")))
    (ei1 : PySem.W.findIn K (.ref C1) "__init__" = some (some (.ref fI1)))
    (et1 : PySem.W.typeIn K (.ref fI1) = some (.type "function"))
    (ek1 : PySem.W.keepIn K (.ref C1) = true)
    (ev1 : PySem.W.subIn K (.ref C1) (.type "ValueError") = some true)
    (em1 : PySem.W.mroIn K C1 (.ref C1) = some true)
    (es1 : PySem.W.ks_superIn K C1 C1 "__init__" = some (some (.builtin "ValueError.__init__")))
    (fl1 : K.lookup fI1 = some ⟨eoc1, eod1, .func (ksFn "__init__" "BadNumber.__init__" (DnX.eArg "value" ⟨6, 17, 6, 21⟩ ⟨6, 23, 6, 28⟩) (DnX.eBody "value" ⟨7, 8, 7, 13⟩ ⟨7, 8, 7, 15⟩ ⟨7, 8, 7, 24⟩ ⟨7, 25, 7, 30⟩ ⟨7, 8, 7, 31⟩ ⟨7, 8, 7, 31⟩ ⟨8, 8, 8, 12⟩ ⟨8, 8, 8, 18⟩ ⟨8, 21, 8, 26⟩ ⟨8, 8, 8, 26⟩) (DnX.eScope "value") .none .none edoc1 epm1 ean1 (.ref ecda1) ect1 ecc1), eosl1⟩)
    (fc1 : PySem.W.codeIn K (.ref ecda1) "BadNumber.__init__" = true)
    (fd1 : K.lookup ecda1 = some ⟨ccl1, ecdd1, .fields evs1, eccs1⟩)
    (fv1 : evs1[2]? = some (.str file1 etf1))
    (ff1 : ((prog.main.file : Str) == file1) = true)
    (fx1 : K.lookup ecc1 = some ⟨ecl1, ecld1, .cell (some (.ref C1)), ecsl1⟩)
    (op : PySem.W.nsIn K cStatics "thirdparty.any" = some none)
    (tp : (prog.main.scope.names.lookup ("super" : Str)).isSome = false) :
    ∃ fd : FuncData, (∀ (s : Shared) (v : Value), BindsTo s fd ⟨[v], []⟩ [("script", v)]) ∧ ∀ base : Heap, K.In base → base.Ns mainGlobals mg → FnG prog w K mg base (2 * n) fa fd ["script"] (spLaw K) := by
  have e := hfa.symm.trans (PySem.W.mg_of X G a19)
  have e2 : f19 = fa := by injection e with e; injection e with e; exact e.symm
  subst e2
  have F0 := fun_mk (st := s0) l0 d0 k0
  have F1 := fun_mk (st := s1) l1 d1 k1
  have F2 := fun_mk (st := s2) l2 d2 k2
  have F3 := fun_mk (st := s3) l3 d3 k3
  have F4 := fun_mk (st := s4) l4 d4 k4
  have F5 := fun_mk (st := s5) l5 d5 k5
  have F6 := fun_mk (st := s6) l6 d6 k6
  have F7 := fun_mk (st := s7) l7 d7 k7
  have F8 := fun_mk (st := s8) l8 d8 k8
  have F9 := fun_mk (st := s9) l9 d9 k9
  have F10 := fun_mk (st := s10) l10 d10 k10
  have F11 := fun_mk (st := s11) l11 d11 k11
  have F12 := fun_mk (st := s12) l12 d12 k12
  have F13 := fun_mk (st := s13) l13 d13 k13
  have F14 := fun_mk (st := s14) l14 d14 k14
  have F15 := fun_mk (st := s15) l15 d15 k15
  have F16 := fun_mk (st := s16) l16 d16 k16
  have F17 := fun_mk (st := s17) l17 d17 k17
  have F18 := fun_mk (st := s18) l18 d18 k18
  have F19 := fun_mk (st := s19) l19 d19 k19
  have B0 := F0.binds (ps := ["value"]) fun _ _ _ _ _ _ us hl => match us, hl with | [_], _ => rfl
  have B1 := F1.binds (ps := ["value"]) fun _ _ _ _ _ _ us hl => match us, hl with | [_], _ => rfl
  have B2 := F2.binds (ps := ["top", "bottom"]) fun _ _ _ _ _ _ us hl => match us, hl with | [_, _], _ => rfl
  have B3 := F3.binds (ps := ["value"]) fun _ _ _ _ _ _ us hl => match us, hl with | [_], _ => rfl
  have B4 := F4.binds (ps := ["value"]) fun _ _ _ _ _ _ us hl => match us, hl with | [_], _ => rfl
  have B5 := F5.binds (ps := ["one", "other"]) fun _ _ _ _ _ _ us hl => match us, hl with | [_, _], _ => rfl
  have B6 := F6.binds (ps := ["one", "other"]) fun _ _ _ _ _ _ us hl => match us, hl with | [_, _], _ => rfl
  have B7 := F7.binds (ps := ["one", "other"]) fun _ _ _ _ _ _ us hl => match us, hl with | [_, _], _ => rfl
  have B8 := F8.binds (ps := ["one", "other"]) fun _ _ _ _ _ _ us hl => match us, hl with | [_, _], _ => rfl
  have B9 := F9.binds (ps := ["one", "other"]) fun _ _ _ _ _ _ us hl => match us, hl with | [_, _], _ => rfl
  have B10 := F10.binds (ps := ["one"]) fun _ _ _ _ _ _ us hl => match us, hl with | [_], _ => rfl
  have B11 := F11.binds (ps := ["one"]) fun _ _ _ _ _ _ us hl => match us, hl with | [_], _ => rfl
  have B12 := F12.binds (ps := ["one"]) fun _ _ _ _ _ _ us hl => match us, hl with | [_], _ => rfl
  have B13 := F13.binds (ps := ["rows"]) fun _ _ _ _ _ _ us hl => match us, hl with | [_], _ => rfl
  have B14 := F14.binds (ps := ["rows"]) fun _ _ _ _ _ _ us hl => match us, hl with | [_], _ => rfl
  have B15 := F15.binds (ps := ["row", "many"]) fun _ _ _ _ _ _ us hl => match us, hl with | [_, _], _ => rfl
  have B16 := F16.binds (ps := ["found", "due"]) fun _ _ _ _ _ _ us hl => match us, hl with | [_, _], _ => rfl
  have B17 := F17.binds (ps := ["found", "due"]) fun _ _ _ _ _ _ us hl => match us, hl with | [_, _], _ => rfl
  have B18 := F18.binds (ps := ["top", "bottom"]) fun _ _ _ _ _ _ us hl => match us, hl with | [_, _], _ => rfl
  have B19 := F19.binds (ps := ["script"]) fun _ _ _ _ _ _ us hl => match us, hl with | [_], _ => rfl
  let i0 : Fi := ⟨f0, "is_whole", PySem.W.fnOf "is_whole" "is_whole" (defArgs s0) (defBody s0) (defScope s0) .none kV0 dc0 pm0 an0 cd0 ct0, ["value"]⟩
  let i1 : Fi := ⟨f1, "is_row", PySem.W.fnOf "is_row" "is_row" (defArgs s1) (defBody s1) (defScope s1) .none kV1 dc1 pm1 an1 cd1 ct1, ["value"]⟩
  let i2 : Fi := ⟨f2, "reduced", PySem.W.fnOf "reduced" "reduced" (defArgs s2) (defBody s2) (defScope s2) .none kV2 dc2 pm2 an2 cd2 ct2, ["top", "bottom"]⟩
  let i3 : Fi := ⟨f3, "is_fraction", PySem.W.fnOf "is_fraction" "is_fraction" (defArgs s3) (defBody s3) (defScope s3) .none kV3 dc3 pm3 an3 cd3 ct3, ["value"]⟩
  let i4 : Fi := ⟨f4, "want_fraction", PySem.W.fnOf "want_fraction" "want_fraction" (defArgs s4) (defBody s4) (defScope s4) .none kV4 dc4 pm4 an4 cd4 ct4, ["value"]⟩
  let i5 : Fi := ⟨f5, "plus", PySem.W.fnOf "plus" "plus" (defArgs s5) (defBody s5) (defScope s5) .none kV5 dc5 pm5 an5 cd5 ct5, ["one", "other"]⟩
  let i6 : Fi := ⟨f6, "minus", PySem.W.fnOf "minus" "minus" (defArgs s6) (defBody s6) (defScope s6) .none kV6 dc6 pm6 an6 cd6 ct6, ["one", "other"]⟩
  let i7 : Fi := ⟨f7, "times", PySem.W.fnOf "times" "times" (defArgs s7) (defBody s7) (defScope s7) .none kV7 dc7 pm7 an7 cd7 ct7, ["one", "other"]⟩
  let i8 : Fi := ⟨f8, "over", PySem.W.fnOf "over" "over" (defArgs s8) (defBody s8) (defScope s8) .none kV8 dc8 pm8 an8 cd8 ct8, ["one", "other"]⟩
  let i9 : Fi := ⟨f9, "is_less", PySem.W.fnOf "is_less" "is_less" (defArgs s9) (defBody s9) (defScope s9) .none kV9 dc9 pm9 an9 cd9 ct9, ["one", "other"]⟩
  let i10 : Fi := ⟨f10, "floor_of", PySem.W.fnOf "floor_of" "floor_of" (defArgs s10) (defBody s10) (defScope s10) .none kV10 dc10 pm10 an10 cd10 ct10, ["one"]⟩
  let i11 : Fi := ⟨f11, "ceiling_of", PySem.W.fnOf "ceiling_of" "ceiling_of" (defArgs s11) (defBody s11) (defScope s11) .none kV11 dc11 pm11 an11 cd11 ct11, ["one"]⟩
  let i12 : Fi := ⟨f12, "nearest", PySem.W.fnOf "nearest" "nearest" (defArgs s12) (defBody s12) (defScope s12) .none kV12 dc12 pm12 an12 cd12 ct12, ["one"]⟩
  let i13 : Fi := ⟨f13, "total", PySem.W.fnOf "total" "total" (defArgs s13) (defBody s13) (defScope s13) .none kV13 dc13 pm13 an13 cd13 ct13, ["rows"]⟩
  let i14 : Fi := ⟨f14, "median", PySem.W.fnOf "median" "median" (defArgs s14) (defBody s14) (defScope s14) .none kV14 dc14 pm14 an14 cd14 ct14, ["rows"]⟩
  let i15 : Fi := ⟨f15, "_law_taken", PySem.W.fnOf "_law_taken" "_law_taken" (defArgs s15) (defBody s15) (defScope s15) .none kV15 dc15 pm15 an15 cd15 ct15, ["row", "many"]⟩
  let i16 : Fi := ⟨f16, "_law_alike", PySem.W.fnOf "_law_alike" "_law_alike" (defArgs s16) (defBody s16) (defScope s16) .none kV16 dc16 pm16 an16 cd16 ct16, ["found", "due"]⟩
  let i17 : Fi := ⟨f17, "_law_truth", PySem.W.fnOf "_law_truth" "_law_truth" (defArgs s17) (defBody s17) (defScope s17) .none kV17 dc17 pm17 an17 cd17 ct17, ["found", "due"]⟩
  let i18 : Fi := ⟨f18, "_law_low", PySem.W.fnOf "_law_low" "_law_low" (defArgs s18) (defBody s18) (defScope s18) .none kV18 dc18 pm18 an18 cd18 ct18, ["top", "bottom"]⟩
  let i19 : Fi := ⟨f19, "law", PySem.W.fnOf "law" "law" (defArgs s19) (defBody s19) (defScope s19) .none kV19 dc19 pm19 an19 cd19 ct19, ["script"]⟩
  let fi := fiOf [i0, i1, i2, i3, i4, i5, i6, i7, i8, i9, i10, i11, i12, i13, i14, i15, i16, i17, i18, i19]
  let t := mkTb K [f0, f1, f2, f3, f4, f5, f6, f7, f8, f9, f10, f11, f12, f13, f14, f15, f16, f17, f18, f19] [] [C0, C1] names [[], [0]] []
  have hK : K = t.K := rfl
  have inj : ∀ i j, t.nm i = t.nm j → i = j := nmOf_inj (by decide +kernel) (by decide +kernel)
  have sc0 : FnScope N0 ["value"] (defScope s0) := ⟨rfl, rfl, rfl, by decide +kernel, rfl, by decide +kernel, by decide +kernel⟩
  have sc1 : FnScope N1 ["value"] (defScope s1) := ⟨rfl, rfl, rfl, by decide +kernel, rfl, by decide +kernel, by decide +kernel⟩
  have sc2 : FnScope N2 ["top", "bottom"] (defScope s2) := ⟨rfl, rfl, rfl, by decide +kernel, rfl, by decide +kernel, by decide +kernel⟩
  have sc3 : FnScope N3 ["value"] (defScope s3) := ⟨rfl, rfl, rfl, by decide +kernel, rfl, by decide +kernel, by decide +kernel⟩
  have sc4 : FnScope N4 ["value"] (defScope s4) := ⟨rfl, rfl, rfl, by decide +kernel, rfl, by decide +kernel, by decide +kernel⟩
  have sc5 : FnScope N5 ["one", "other"] (defScope s5) := ⟨rfl, rfl, rfl, by decide +kernel, rfl, by decide +kernel, by decide +kernel⟩
  have sc6 : FnScope N6 ["one", "other"] (defScope s6) := ⟨rfl, rfl, rfl, by decide +kernel, rfl, by decide +kernel, by decide +kernel⟩
  have sc7 : FnScope N7 ["one", "other"] (defScope s7) := ⟨rfl, rfl, rfl, by decide +kernel, rfl, by decide +kernel, by decide +kernel⟩
  have sc8 : FnScope N8 ["one", "other"] (defScope s8) := ⟨rfl, rfl, rfl, by decide +kernel, rfl, by decide +kernel, by decide +kernel⟩
  have sc9 : FnScope N9 ["one", "other"] (defScope s9) := ⟨rfl, rfl, rfl, by decide +kernel, rfl, by decide +kernel, by decide +kernel⟩
  have sc10 : FnScope N10 ["one"] (defScope s10) := ⟨rfl, rfl, rfl, by decide +kernel, rfl, by decide +kernel, by decide +kernel⟩
  have sc11 : FnScope N11 ["one"] (defScope s11) := ⟨rfl, rfl, rfl, by decide +kernel, rfl, by decide +kernel, by decide +kernel⟩
  have sc12 : FnScope N12 ["one"] (defScope s12) := ⟨rfl, rfl, rfl, by decide +kernel, rfl, by decide +kernel, by decide +kernel⟩
  have sc13 : FnScope N13 ["rows"] (defScope s13) := ⟨rfl, rfl, rfl, by decide +kernel, rfl, by decide +kernel, by decide +kernel⟩
  have sc14 : FnScope N14 ["rows"] (defScope s14) := ⟨rfl, rfl, rfl, by decide +kernel, rfl, by decide +kernel, by decide +kernel⟩
  have sc15 : FnScope N15 ["row", "many"] (defScope s15) := ⟨rfl, rfl, rfl, by decide +kernel, rfl, by decide +kernel, by decide +kernel⟩
  have sc16 : FnScope N16 ["found", "due"] (defScope s16) := ⟨rfl, rfl, rfl, by decide +kernel, rfl, by decide +kernel, by decide +kernel⟩
  have sc17 : FnScope N17 ["found", "due"] (defScope s17) := ⟨rfl, rfl, rfl, by decide +kernel, rfl, by decide +kernel, by decide +kernel⟩
  have sc18 : FnScope N18 ["top", "bottom"] (defScope s18) := ⟨rfl, rfl, rfl, by decide +kernel, rfl, by decide +kernel, by decide +kernel⟩
  have sc19 : FnScope N19 ["script"] (defScope s19) := ⟨rfl, rfl, rfl, by decide +kernel, rfl, by decide +kernel, by decide +kernel⟩
  have bds : ∀ f i, fi f = some i → Binds K i.fd i.ps [] := AllI.all ⟨B0, B1, B2, B3, B4, B5, B6, B7, B8, B9, B10, B11, B12, B13, B14, B15, B16, B17, B18, B19, trivial⟩
  have E1 : DnX.ETxt prog K C1 fI1 ("value" : Str) := { cls := ⟨_, _, _, _, _, _, _, _, _, _, _, _, _, _, _, ec1, er1, el1⟩, sa := esa1, ga := xga1, gg := xgg1, noN := xno1_0, iC := ei1, tC := et1, kC := ek1, exC := xex1, veC := ev1, tyC := xty1, hdC := xhd1, mr := em1, si := es1, op := op, top := tp, f1 := by decide +kernel, f2 := by decide +kernel, f3 := by decide +kernel, f4 := by decide +kernel, fn := ⟨_, _, _, _, _, _, _, _, _, _, _, _, _, _, _, _, _, _, _, _, _, _, _, _, _, _, _, _, _, _, _, fl1, fc1, fd1, fv1, ff1, fx1, fun _ _ => rfl, fun env => ⟨_, rfl⟩⟩ }
  have L : ∀ xi : List Addr, Lf prog { t with xi := xi } mg fi := fun xi => {
    b_isinstance := PySem.W.mg_none_of X G z_isinstance,
    b_bool := PySem.W.mg_none_of X G z_bool,
    b_int := PySem.W.mg_none_of X G z_int,
    b_tuple := PySem.W.mg_none_of X G z_tuple,
    b_list := PySem.W.mg_none_of X G z_list,
    b_abs := PySem.W.mg_none_of X G z_abs,
    b_len := PySem.W.mg_none_of X G z_len,
    b_str := PySem.W.mg_none_of X G z_str,
    b_range := PySem.W.mg_none_of X G z_range,
    b_repr := PySem.W.mg_none_of X G z_repr,
    b_max := PySem.W.mg_none_of X G z_max,
    b_min := PySem.W.mg_none_of X G z_min,
    c_0 := ⟨i0, rfl, rfl, rfl, ⟨PySem.W.mg_of X G a0, k0, by show (("is_whole" : Str) == ("__debug__" : Str)) = false; decide +kernel⟩⟩,
    c_1 := ⟨i1, rfl, rfl, rfl, ⟨PySem.W.mg_of X G a1, k1, by show (("is_row" : Str) == ("__debug__" : Str)) = false; decide +kernel⟩⟩,
    c_2 := ⟨i2, rfl, rfl, rfl, ⟨PySem.W.mg_of X G a2, k2, by show (("reduced" : Str) == ("__debug__" : Str)) = false; decide +kernel⟩⟩,
    c_3 := ⟨i3, rfl, rfl, rfl, ⟨PySem.W.mg_of X G a3, k3, by show (("is_fraction" : Str) == ("__debug__" : Str)) = false; decide +kernel⟩⟩,
    c_4 := ⟨i4, rfl, rfl, rfl, ⟨PySem.W.mg_of X G a4, k4, by show (("want_fraction" : Str) == ("__debug__" : Str)) = false; decide +kernel⟩⟩,
    c_5 := ⟨i5, rfl, rfl, rfl, ⟨PySem.W.mg_of X G a5, k5, by show (("plus" : Str) == ("__debug__" : Str)) = false; decide +kernel⟩⟩,
    c_6 := ⟨i6, rfl, rfl, rfl, ⟨PySem.W.mg_of X G a6, k6, by show (("minus" : Str) == ("__debug__" : Str)) = false; decide +kernel⟩⟩,
    c_7 := ⟨i7, rfl, rfl, rfl, ⟨PySem.W.mg_of X G a7, k7, by show (("times" : Str) == ("__debug__" : Str)) = false; decide +kernel⟩⟩,
    c_8 := ⟨i8, rfl, rfl, rfl, ⟨PySem.W.mg_of X G a8, k8, by show (("over" : Str) == ("__debug__" : Str)) = false; decide +kernel⟩⟩,
    c_9 := ⟨i9, rfl, rfl, rfl, ⟨PySem.W.mg_of X G a9, k9, by show (("is_less" : Str) == ("__debug__" : Str)) = false; decide +kernel⟩⟩,
    c_10 := ⟨i10, rfl, rfl, rfl, ⟨PySem.W.mg_of X G a10, k10, by show (("floor_of" : Str) == ("__debug__" : Str)) = false; decide +kernel⟩⟩,
    c_11 := ⟨i11, rfl, rfl, rfl, ⟨PySem.W.mg_of X G a11, k11, by show (("ceiling_of" : Str) == ("__debug__" : Str)) = false; decide +kernel⟩⟩,
    c_12 := ⟨i12, rfl, rfl, rfl, ⟨PySem.W.mg_of X G a12, k12, by show (("nearest" : Str) == ("__debug__" : Str)) = false; decide +kernel⟩⟩,
    c_13 := ⟨i13, rfl, rfl, rfl, ⟨PySem.W.mg_of X G a13, k13, by show (("total" : Str) == ("__debug__" : Str)) = false; decide +kernel⟩⟩,
    c_14 := ⟨i14, rfl, rfl, rfl, ⟨PySem.W.mg_of X G a14, k14, by show (("median" : Str) == ("__debug__" : Str)) = false; decide +kernel⟩⟩,
    c_15 := ⟨i15, rfl, rfl, rfl, ⟨PySem.W.mg_of X G a15, k15, by show (("_law_taken" : Str) == ("__debug__" : Str)) = false; decide +kernel⟩⟩,
    c_16 := ⟨i16, rfl, rfl, rfl, ⟨PySem.W.mg_of X G a16, k16, by show (("_law_alike" : Str) == ("__debug__" : Str)) = false; decide +kernel⟩⟩,
    c_17 := ⟨i17, rfl, rfl, rfl, ⟨PySem.W.mg_of X G a17, k17, by show (("_law_truth" : Str) == ("__debug__" : Str)) = false; decide +kernel⟩⟩,
    c_18 := ⟨i18, rfl, rfl, rfl, ⟨PySem.W.mg_of X G a18, k18, by show (("_law_low" : Str) == ("__debug__" : Str)) = false; decide +kernel⟩⟩,
    x_1 := ⟨⟨fI1, E1⟩, rfl, PySem.W.mg_of X G xa1, PySem.W.mg_none_of X G z_super, by decide +kernel⟩,
    xg_1 := PySem.W.mg_of X G xa1,
    n_0 := rfl,
    cf := fun c cd e => by simp [k10_prog] at e,
    xa := fun c xd e => match c, xd, e with | 0, _, e => by cases e; exact ⟨rfl, xga0, xgg0, xex0, xhd0, fun f hf => by rcases hf⟩ | 1, _, e => by cases e; exact ⟨rfl, xga1, xgg1, xex1, xhd1, fun f hf => by rcases List.mem_singleton.mp hf with rfl; exact xno1_0⟩ | k + 2, _, e => by simp [k10_prog] at e,
    em := fun c1 xd c2 e => match c1, xd, e with | 0, _, e => by cases e; exact fun h => (match c2, h with | 0, _ => exm_of xex0 xex0 xic0 xty0 xs0_0 | 1, _ => exm_of xex0 xex1 xic1 xty1 xs0_1 | k + 2, h => absurd h (by show ¬ _ < 2; omega)) | 1, _, e => by cases e; exact fun h => (match c2, h with | 0, _ => exm_of xex1 xex0 xic0 xty0 xs1_0 | 1, _ => exm_of xex1 xex1 xic1 xty1 xs1_1 | k + 2, h => absurd h (by show ¬ _ < 2; omega)) | k + 2, _, e => by simp [k10_prog] at e }
  have all : ∀ base : Heap, ∀ n f i, fi f = some i → FnG prog w K mg base (2 * n) (t.fa f) i.fd i.ps (spC t (callF k10_prog wf n) f) := fun base => all_fn fun n k fns => AllI.all ⟨
    one_fn (N := N0) rfl F0 sc0 rfl rfl hK inj bds (fun xi _ _ _ _ hp h => b0 (L xi) hp h) fns,
    one_fn (N := N1) rfl F1 sc1 rfl rfl hK inj bds (fun xi _ _ _ _ hp h => b1 (L xi) hp h) fns,
    one_fn (N := N2) rfl F2 sc2 rfl rfl hK inj bds (fun xi _ _ _ _ hp h => b2 (L xi) hp h) fns,
    one_fn (N := N3) rfl F3 sc3 rfl rfl hK inj bds (fun xi _ _ _ _ hp h => b3 (L xi) hp h) fns,
    one_fn (N := N4) rfl F4 sc4 rfl rfl hK inj bds (fun xi _ _ _ _ hp h => b4 (L xi) hp h) fns,
    one_fn (N := N5) rfl F5 sc5 rfl rfl hK inj bds (fun xi _ _ _ _ hp h => b5 (L xi) hp h) fns,
    one_fn (N := N6) rfl F6 sc6 rfl rfl hK inj bds (fun xi _ _ _ _ hp h => b6 (L xi) hp h) fns,
    one_fn (N := N7) rfl F7 sc7 rfl rfl hK inj bds (fun xi _ _ _ _ hp h => b7 (L xi) hp h) fns,
    one_fn (N := N8) rfl F8 sc8 rfl rfl hK inj bds (fun xi _ _ _ _ hp h => b8 (L xi) hp h) fns,
    one_fn (N := N9) rfl F9 sc9 rfl rfl hK inj bds (fun xi _ _ _ _ hp h => b9 (L xi) hp h) fns,
    one_fn (N := N10) rfl F10 sc10 rfl rfl hK inj bds (fun xi _ _ _ _ hp h => b10 (L xi) hp h) fns,
    one_fn (N := N11) rfl F11 sc11 rfl rfl hK inj bds (fun xi _ _ _ _ hp h => b11 (L xi) hp h) fns,
    one_fn (N := N12) rfl F12 sc12 rfl rfl hK inj bds (fun xi _ _ _ _ hp h => b12 (L xi) hp h) fns,
    one_fn (N := N13) rfl F13 sc13 rfl rfl hK inj bds (fun xi _ _ _ _ hp h => b13 (L xi) hp h) fns,
    one_fn (N := N14) rfl F14 sc14 rfl rfl hK inj bds (fun xi _ _ _ _ hp h => b14 (L xi) hp h) fns,
    one_fn (N := N15) rfl F15 sc15 rfl rfl hK inj bds (fun xi _ _ _ _ hp h => b15 (L xi) hp h) fns,
    one_fn (N := N16) rfl F16 sc16 rfl rfl hK inj bds (fun xi _ _ _ _ hp h => b16 (L xi) hp h) fns,
    one_fn (N := N17) rfl F17 sc17 rfl rfl hK inj bds (fun xi _ _ _ _ hp h => b17 (L xi) hp h) fns,
    one_fn (N := N18) rfl F18 sc18 rfl rfl hK inj bds (fun xi _ _ _ _ hp h => b18 (L xi) hp h) fns,
    one_fn (N := N19) rfl F19 sc19 rfl rfl hK inj bds (fun xi _ _ _ _ hp h => b19 (L xi) hp h) fns, trivial⟩
  exact ⟨PySem.W.fnOf "law" "law" (defArgs s19) (defBody s19) (defScope s19) .none kV19 dc19 pm19 an19 cd19 ct19, fun s v => .of_eq rfl, fun base _ _ => law_fn (all base n 19 i19 rfl) hK rfl math⟩
end K10
namespace K10
open PySem L2 Dn PyProof.Rows PySem.Spec -- names
open PySem.W PySem.Calls PySem.HandSPX -- names
theorem math : ∀ ns : List Int, ns.length ≤ 63 → ∃ S', callF k10_prog 1000000000000 30 19 [.scr (ns.map .int)] [] = .ok (.bl true) S' := fun ns _ => law_true (m := 20) ns (by decide)
end K10
open K10 PySem L2 Dn PyProof.Rows PySem.Spec PySem.W PySem.Calls PySem.HandSPX -- names
theorem PySem.Challenge.cw_warnedbanks_k10_whole_fractions_holds : PySem.Challenge.rw_warnedbanks_k10_whole_fractions.Holds := by
  w_on; o_law; k_head; (case hw => w_witness2)
  k_fill
  refine walkG (l := PySem.Challenge.rw_warnedbanks_k10_whole_fractions) (n := 63) (k := 2 * 30) (x := "script") (sp := fun w => spLaw _) rfl (by decide) rfl ⟨⟨rfl, by decide, by decide⟩, rfl⟩ (fun w h Y => PySem.W.kIn_of Y) ?F (fun w H a ns hl hO hS => ⟨a, ns, rfl, hl, hO, hS, fun _ => rfl⟩)
  case F =>
    intro w mg fa h KX G hmg
    refine' all_mk KX G hmg math ?a0 ?l0 ?d0 ?k0 ?a1 ?l1 ?d1 ?k1 ?a2 ?l2 ?d2 ?k2 ?a3 ?l3 ?d3 ?k3 ?a4 ?l4 ?d4 ?k4 ?a5 ?l5 ?d5 ?k5 ?a6 ?l6 ?d6 ?k6 ?a7 ?l7 ?d7 ?k7 ?a8 ?l8 ?d8 ?k8 ?a9 ?l9 ?d9 ?k9 ?a10 ?l10 ?d10 ?k10 ?a11 ?l11 ?d11 ?k11 ?a12 ?l12 ?d12 ?k12 ?a13 ?l13 ?d13 ?k13 ?a14 ?l14 ?d14 ?k14 ?a15 ?l15 ?d15 ?k15 ?a16 ?l16 ?d16 ?k16 ?a17 ?l17 ?d17 ?k17 ?a18 ?l18 ?d18 ?k18 ?a19 ?l19 ?d19 ?k19 ?z_isinstance ?z_bool ?z_int ?z_tuple ?z_list ?z_abs ?z_len ?z_str ?z_range ?z_repr ?z_max ?z_min ?z_super ?xa0 ?xga0 ?xgg0 ?xex0 ?xhd0 ?xic0 ?xty0 ?xa1 ?xga1 ?xgg1 ?xex1 ?xhd1 ?xic1 ?xty1 ?xno1_0 ?xs0_0 ?xs0_1 ?xs1_0 ?xs1_1 ?ec1 ?er1 ?el1 ?esa1 ?ei1 ?et1 ?ek1 ?ev1 ?em1 ?es1 ?fl1 ?fc1 ?fd1 ?fv1 ?ff1 ?fx1 ?op ?tp
    (case a0 => k_is)
    (case l0 => k_is)
    (case d0 => k_is)
    (case k0 => k_is)
    (case a1 => k_is)
    (case l1 => k_is)
    (case d1 => k_is)
    (case k1 => k_is)
    (case a2 => k_is)
    (case l2 => k_is)
    (case d2 => k_is)
    (case k2 => k_is)
    (case a3 => k_is)
    (case l3 => k_is)
    (case d3 => k_is)
    (case k3 => k_is)
    (case a4 => k_is)
    (case l4 => k_is)
    (case d4 => k_is)
    (case k4 => k_is)
    (case a5 => k_is)
    (case l5 => k_is)
    (case d5 => k_is)
    (case k5 => k_is)
    (case a6 => k_is)
    (case l6 => k_is)
    (case d6 => k_is)
    (case k6 => k_is)
    (case a7 => k_is)
    (case l7 => k_is)
    (case d7 => k_is)
    (case k7 => k_is)
    (case a8 => k_is)
    (case l8 => k_is)
    (case d8 => k_is)
    (case k8 => k_is)
    (case a9 => k_is)
    (case l9 => k_is)
    (case d9 => k_is)
    (case k9 => k_is)
    (case a10 => k_is)
    (case l10 => k_is)
    (case d10 => k_is)
    (case k10 => k_is)
    (case a11 => k_is)
    (case l11 => k_is)
    (case d11 => k_is)
    (case k11 => k_is)
    (case a12 => k_is)
    (case l12 => k_is)
    (case d12 => k_is)
    (case k12 => k_is)
    (case a13 => k_is)
    (case l13 => k_is)
    (case d13 => k_is)
    (case k13 => k_is)
    (case a14 => k_is)
    (case l14 => k_is)
    (case d14 => k_is)
    (case k14 => k_is)
    (case a15 => k_is)
    (case l15 => k_is)
    (case d15 => k_is)
    (case k15 => k_is)
    (case a16 => k_is)
    (case l16 => k_is)
    (case d16 => k_is)
    (case k16 => k_is)
    (case a17 => k_is)
    (case l17 => k_is)
    (case d17 => k_is)
    (case k17 => k_is)
    (case a18 => k_is)
    (case l18 => k_is)
    (case d18 => k_is)
    (case k18 => k_is)
    (case a19 => k_is)
    (case l19 => k_is)
    (case d19 => k_is)
    (case k19 => k_is)
    (case z_isinstance => k_is)
    (case z_bool => k_is)
    (case z_int => k_is)
    (case z_tuple => k_is)
    (case z_list => k_is)
    (case z_abs => k_is)
    (case z_len => k_is)
    (case z_str => k_is)
    (case z_range => k_is)
    (case z_repr => k_is)
    (case z_max => k_is)
    (case z_min => k_is)
    (case z_super => k_is)
    (case xa0 => k_is)
    (case xga0 => k_is)
    (case xgg0 => k_is)
    (case xex0 => k_is)
    (case xhd0 => k_is)
    (case xic0 => k_is)
    (case xty0 => k_is)
    (case xa1 => k_is)
    (case xga1 => k_is)
    (case xgg1 => k_is)
    (case xex1 => k_is)
    (case xhd1 => k_is)
    (case xic1 => k_is)
    (case xty1 => k_is)
    (case xno1_0 => k_is)
    (case xs0_0 => first | rfl | k_is)
    (case xs0_1 => first | rfl | k_is)
    (case xs1_0 => first | rfl | k_is)
    (case xs1_1 => first | rfl | k_is)
    (case ec1 => k_is)
    (case er1 => decide +kernel)
    (case el1 => k_is)
    (case esa1 => k_is)
    (case ei1 => k_is)
    (case et1 => k_is)
    (case ek1 => k_is)
    (case ev1 => k_is)
    (case em1 => k_is)
    (case es1 => kernel_rfl)
    (case fl1 => k_is)
    (case fc1 => k_is)
    (case fd1 => k_is)
    (case fv1 => rfl)
    (case ff1 => decide +kernel)
    (case fx1 => k_is)
    (case op => k_is)
    (case tp => decide +kernel)
