import PyProof.Rows.All
import Wide.All
import OpenK.AllK
import Wide.FinOn
import HandS.ForMost
import HandS.Exc
import HandS.CallSlots
import HandS.Wide
import HandS.TupAny
import HandS.TupMul
import HandS.Deep
import KE.DataCmp
import KE.DataMinMax
import KE.SortData
import HandS.ExcOwn
import HandS.IsInst
import HandS.Conv
import HandS.SortInts
import HandS.RaiseMore
import KE.KTupSum
import HandS.Rev
import HandS.Style
import HandS.More
import HandS.Text
import HandS.ExcValue
import HandS.SetFor
import HandS.Strs
import HandS.OwnEq
import HandS.Codes
import HandS.Iter
import HandS.Zip
import HandS.Comp
import KE.KFromBytes
import KE.KExcSuper
import HandS.Base
import HandS.Call
import HandS.ExcSuper
import HandS.ForSpec
import HandS.TryMany
import HandS.Ends
import HandS.Words
import KE.GoesEnum
import KE.GoesMore
import PyProof.Draws
import PySem.Challenge.RW_warnedbanks_k21_whole_years
set_option Elab.async false
set_option linter.all false
set_option maxRecDepth 100000 -- deep
set_option maxHeartbeats 0 -- no line
/-! Dn: plain data, a small tree form of the programs, and what they evaluate to. No Python machine in sight. -/
namespace Dn

inductive D where
  | non | bl (b : Bool) | int (i : Int) | str (s : List Nat) | fn (f : Nat)
  | tup (xs : List D) | lst (xs : List D) | dic (ks vs : List D)
  | scr (xs : List D)
  | ins (c : Nat) (ids : List Nat) (vs : List D)
  | ref (l : Nat)
  deriving Inhabited, Repr

inductive LO where
  | lst (xs : List D) | dic (ks vs : List D) | ins (c : Nat) (ids : List Nat) (vs : List D)
  deriving Inhabited, Repr

abbrev Sto := List LO
abbrev Env := List (Option D)

structure Xn where
  c : Nat
  fs : List D
  deriving Inhabited, Repr

inductive R (α : Type) where
  | bad | ok (a : α) (S : Sto) | exc (x : Xn) (S : Sto)
  deriving Inhabited, Repr

def R.bind {α β : Type} (r : R α) (f : α → Sto → R β) : R β :=
  match r with
  | .bad => .bad
  | .ok a S => f a S
  | .exc x S => .exc x S
@[simp] theorem R.bind_ok {α β : Type} (a : α) (S : Sto) (f : α → Sto → R β) : (R.ok a S).bind f = f a S := rfl
@[simp] theorem R.bind_bad {α β : Type} (f : α → Sto → R β) : (R.bad : R α).bind f = .bad := rfl
@[simp] theorem R.bind_exc {α β : Type} (x : Xn) (S : Sto) (f : α → Sto → R β) : (R.exc x S : R α).bind f = .exc x S := rfl

/-- an option, as a result -/
def R.of {α : Type} (o : Option α) (S : Sto) : R α := match o with | some a => .ok a S | none => .bad
@[simp] theorem R.of_some {α : Type} (a : α) (S : Sto) : R.of (some a) S = .ok a S := rfl
@[simp] theorem R.of_none {α : Type} (S : Sto) : (R.of none S : R α) = .bad := rfl

/-- the end of a statement; xc: an exception is in the air, the names as they stand -/
inductive Fl where
  | nx (ρ : Env) | rt (d : D) | bk (ρ : Env) | ct (ρ : Env) | xc (x : Xn) (ρ : Env)
  deriving Inhabited, Repr

/-- an expression within a statement -/
def R.stm {α : Type} (r : R α) (ρ : Env) (f : α → Sto → R Fl) : R Fl :=
  match r with
  | .bad => .bad
  | .ok a S => f a S
  | .exc x S => .ok (.xc x ρ) S
@[simp] theorem R.stm_ok {α : Type} (a : α) (S : Sto) (ρ : Env) (f : α → Sto → R Fl) : (R.ok a S).stm ρ f = f a S := rfl
@[simp] theorem R.stm_bad {α : Type} (ρ : Env) (f : α → Sto → R Fl) : (R.bad : R α).stm ρ f = .bad := rfl
@[simp] theorem R.stm_exc {α : Type} (x : Xn) (S : Sto) (ρ : Env) (f : α → Sto → R Fl) : (R.exc x S : R α).stm ρ f = .ok (.xc x ρ) S := rfl

/-! ### the tree form -/
inductive Bo where | add | sub | mul | fdiv | mod | pow
  deriving DecidableEq, Repr
inductive Co where | eq | ne | lt | le | gt | ge | inn | notin | isn | notn
  deriving DecidableEq, Repr
inductive Ty where | int | bool | str | list | tuple | dict | cls (c : Nat)
  deriving DecidableEq, Repr
/-- built-in functions -/
inductive Bi where
  | len | int | tuple | list | abs | max1 | min1 | max2 | min2 | sum | all | any | sorted | sset | str | lset | dict | range1 | range2 | repr | sum2 | range3
  deriving DecidableEq, Repr
/-- methods of built-in types -/
inductive Bm where
  | append | extend | insert | pop | index | count | join | split | get1 | get2
  deriving DecidableEq, Repr
/-- targets of a for or an assignment -/
inductive T where
  | var (i : Nat) | tup (ts : List T)
  deriving Inhabited, Repr

mutual
inductive E where
  | var (i : Nat)
  | cst (d : D)
  | glob (g : Nat)
  | tup (es : List E)
  | lst (cell : Bool) (es : List E)
  | dic (cell : Bool) (ks vs : List E)
  | bin (o : Bo) (a b : E)
  | neg (a : E)
  | cmp (o : Co) (a b : E)
  | cmpo (o : Co) (a b : E)
  | chain (o p : Co) (a b c : E)
  | and (es : List E)
  | or (es : List E)
  | not (a : E)
  | ite (t : Te) (a b : E)
  | idx (a i : E)
  | slc (cell : Bool) (a : E) (lo hi : Option E)
  | rev (a : E)
  | fld (f : Nat) (a : E)
  | call (f : Nat) (args : List E)
  | calv (i : Nat) (args : List E)
  | meth (m : Nat) (o : E) (args : List E)
  | mk (c : Nat) (args : List E)
  | bi (cell : Bool) (b : Bi) (args : List E)
  | bm (m : Bm) (o : E) (args : List E)
  | isi (a : E) (ts : List Ty)
  | comp (cell : Bool) (own : List Nat) (t : T) (it : E) (cond : Option Te) (elt : E)
  | enum (a : E)
  | zip (a b : E)
  | items (a : E)
  | values (a : E)
  | val (a : E)
  | exf (i f : Nat)
  | fstr (es : List E)
  | repne (a b : E)
  | leno (a : E)
/-- a test -/
inductive Te where
  | val (a : E)
  | and (ts : List Te)
  | or (ts : List Te)
  | not (t : Te)
end
instance : Inhabited E := ⟨.tup []⟩
instance : Inhabited Te := ⟨.and []⟩
mutual
inductive St where
  | asg (t : T) (e : E)
  | setI (o i e : E)
  | setF (o : E) (f : Nat) (e : E)
  | aug (i : Nat) (o : Bo) (e : E)
  | augI (a i : E) (o : Bo) (e : E)
  | augF (a : E) (f : Nat) (o : Bo) (e : E)
  | exp (e : E)
  | ite (t : Te) (a b : List St)
  | whl (t : Te) (b : List St)
  | for (t : T) (it : E) (b : List St)
  | ret (e : E)
  | retN
  | rais (c : Nat) (args : List E)
  | tri (b : List St) (hs : List Hd)
  | pass | brk | cnt
inductive Hd where
  | mk (c : Nat) (x : Option Nat) (b : List St)
end
instance : Inhabited St := ⟨.pass⟩

structure FD where
  np : Nat
  nv : Nat
  body : List St
  deriving Inhabited
structure CD where
  init : Nat
  meths : List (Nat × Nat)
  fields : List Nat := []
  cell : Bool := false
  eq : Option Nat := none
  len : Option Nat := none
  deriving Inhabited
/-- an exception class: its field names, the exception classes that it is under, itself too -/
structure XD where
  ids : List Nat
  sup : List Nat
  deriving Inhabited
structure Prog where
  fns : List FD
  cls : List CD
  xcs : List XD
  globs : List D
  deriving Inhabited
structure Cx where
  P : Prog
  call : Nat → List D → Sto → R D
  w : Nat
  cur : Option Xn

/-! ### operations on data -/
abbrev line : Nat := 16777216

/-- the items of a list or a tuple -/
def seqOf (S : Sto) : D → Option (List D)
  | .lst xs => some xs
  | .scr xs => some xs
  | .tup xs => some xs
  | .ref l => match S[l]? with
    | some (.lst xs) => some xs
    | _ => none
  | _ => none
/-- the pairs of a dict -/
def dicOf (S : Sto) : D → Option (List D × List D)
  | .dic ks vs => some (ks, vs)
  | .ref l => match S[l]? with
    | some (.dic ks vs) => some (ks, vs)
    | _ => none
  | _ => none
/-- the items of a list, not of a tuple -/
def lstOf (S : Sto) : D → Option (List D)
  | .lst xs => some xs
  | .ref l => match S[l]? with
    | some (.lst xs) => some xs
    | _ => none
  | _ => none

mutual
/-- == of plain data -/
def eqB (a b : D) : Bool :=
  match a with
  | .non => match b with
    | .non => true
    | _ => false
  | .bl x => match b with
    | .bl y => x == y
    | .int j => decide ((if x then 1 else 0) = j)
    | _ => false
  | .int i => match b with
    | .bl y => decide (i = (if y then 1 else 0))
    | .int j => decide (i = j)
    | _ => false
  | .str x => match b with
    | .str y => decide (x = y)
    | _ => false
  | .tup xs => match b with
    | .tup ys => eqBs xs ys
    | _ => false
  | .lst xs => match b with
    | .lst ys => eqBs xs ys
    | _ => false
  | _ => false
def eqBs (xs ys : List D) : Bool :=
  match xs with
  | [] => match ys with
    | [] => true
    | _ => false
  | x :: xs => match ys with
    | y :: ys => eqB x y && eqBs xs ys
    | [] => false
end
mutual
/-- none, boolsD, intsD, texts, tuples and lists of such, n deep at most -/
def pd (n : Nat) : D → Bool
  | .non => true
  | .bl _ => true
  | .int _ => true
  | .str _ => true
  | .tup xs => match n with
    | 0 => false
    | n + 1 => pds n xs
  | .lst xs => match n with
    | 0 => false
    | n + 1 => pds n xs
  | _ => false
def pds (n : Nat) : List D → Bool
  | [] => true
  | x :: xs => pd n x && pds n xs
end
/-- == of plain data that are not deep -/
def eqd (a b : D) : Option Bool := if pd 60 a && pd 60 b then some (eqB a b) else none
/-- a list cell read as a value, one level -/
def rdOf (S : Sto) : D → D
  | .ref l => match S[l]? with
    | some (.lst xs) => .lst xs
    | some (.dic ks vs) => .dic ks vs
    | some (.ins c ids vs) => .ins c ids vs
    | none => .ref l
  | d => d

mutual
/-- the two can be compared, place by place -/
def alk : D → D → Bool
  | .non, .non => true
  | .bl _, .bl _ => true
  | .int _, .int _ => true
  | .str _, .str _ => true
  | .lst xs, .lst ys => alks xs ys
  | .tup xs, .tup ys => alks xs ys
  | _, _ => false
def alks : List D → List D → Bool
  | x :: xs, y :: ys => alk x y && alks xs ys
  | [], _ => true
  | _ :: _, [] => true
end
mutual
/-- < of data that can be compared -/
def ltB : D → D → Bool
  | .bl x, .bl y => !x && y
  | .int i, .int j => decide (i < j)
  | .str x, .str y => decide (x < y)
  | .lst xs, .lst ys => ltBs xs ys
  | .tup xs, .tup ys => ltBs xs ys
  | _, _ => false
def ltBs : List D → List D → Bool
  | [], [] => false
  | [], _ :: _ => true
  | _ :: _, [] => false
  | x :: xs, y :: ys => if eqB x y then ltBs xs ys else ltB x y
end
def isNon : D → Bool
  | .non => true
  | _ => false
/-- all of them can be compared -/
def alkAll (xs : List D) : Bool := (xs.all fun x => xs.all fun y => alk x y) && xs.all fun x => !isNon x
/-- what a sort takes: tuples that are not empty, or no tuples -/
def isT1 : D → Bool
  | .tup (_ :: _) => true
  | _ => false
def isT0 : D → Bool
  | .tup _ => true
  | _ => false
def srtOk (xs : List D) : Bool := xs.all isT1 || xs.all fun x => !isT0 x
def maxB (x : D) (xs : List D) : D := xs.foldl (fun a y => if ltB a y then y else a) x
def minB (x : D) (xs : List D) : D := xs.foldl (fun a y => if ltB y a then y else a) x
def sortB (xs : List D) : List D := xs.mergeSort fun a b => !ltB b a

/-- x in xs -/
def inv (x : D) (xs : List D) : Option Bool := if pd 60 x && pds 60 xs then some (xs.any fun y => eqB y x) else none
/-- the first place of x -/
def idxv (x : D) : List D → Option Nat
  | [] => none
  | y :: ys => (eqd y x).bind fun b => if b then some 0 else (idxv x ys).map (· + 1)
def cntv (x : D) : List D → Option Nat
  | [] => some 0
  | y :: ys => (eqd y x).bind fun b => (cntv x ys).map fun n => if b then n + 1 else n
/-- the place of a key -/
def keyv (x : D) : List D → Option (Option Nat)
  | [] => some none
  | y :: ys => (eqd y x).bind fun b => if b then some (some 0) else (keyv x ys).map fun o => o.map (· + 1)

def ixN (n : Nat) (i : Int) : Option Nat := if 0 ≤ i then (if i < n then some i.toNat else none) else if -(n : Int) ≤ i then some (i + n).toNat else none
def atI {α : Type} (xs : List α) (i : Int) : Option α := (ixN xs.length i).bind fun j => xs[j]?
/-- a slice's end: n the length, d what stands where it is left out -/
def sIx (n d : Nat) : Option Int → Nat
  | none => d
  | some v => if v < 0 then (v + n).toNat else min v.toNat n
def cut {α : Type} (xs : List α) (lo hi : Option Int) : List α := (xs.drop (sIx xs.length 0 lo)).take (sIx xs.length xs.length hi - sIx xs.length 0 lo)

/-- i ≤ n, a test that stops early where i is not known -/
def leI (i : Int) (n : Nat) : Bool := match i with
  | .ofNat m => Nat.ble m n
  | .negSucc _ => true
/-- -n ≤ i -/
def geI (n : Nat) (i : Int) : Bool := match i with
  | .ofNat _ => true
  | .negSucc m => Nat.ble (m + 1) n
theorem leI_eq (i : Int) (n : Nat) : leI i n = decide (i ≤ (n : Int)) := by
  cases i with
  | ofNat m =>
    show Nat.ble m n = _
    rw [Bool.eq_iff_iff, Nat.ble_eq, decide_eq_true_eq]
    show m ≤ n ↔ ((m : Int) ≤ n)
    omega
  | negSucc m =>
    show true = _
    symm
    rw [decide_eq_true_eq]
    omega
theorem geI_eq (i : Int) (n : Nat) : geI n i = decide (-(n : Int) ≤ i) := by
  cases i with
  | ofNat m =>
    show true = _
    symm
    rw [decide_eq_true_eq]
    show -(n : Int) ≤ (m : Int)
    omega
  | negSucc m =>
    show Nat.ble (m + 1) n = _
    rw [Bool.eq_iff_iff, Nat.ble_eq, decide_eq_true_eq]
    omega
theorem of_leI {i : Int} {n : Nat} (h : leI i n = true) : i ≤ (n : Int) := by rw [leI_eq] at h; exact of_decide_eq_true h
theorem of_geI {i : Int} {n : Nat} (h : geI n i = true) : -(n : Int) ≤ i := by rw [geI_eq] at h; exact of_decide_eq_true h
theorem leI_of {i : Int} {n : Nat} (h : i ≤ (n : Int)) : leI i n = true := by rw [leI_eq]; exact decide_eq_true h
theorem geI_of {i : Int} {n : Nat} (h : -(n : Int) ≤ i) : geI n i = true := by rw [geI_eq]; exact decide_eq_true h
def mulOk (i j : Int) : Bool := (geI 18446744073709551615 i && leI i 18446744073709551615) || (geI 18446744073709551615 j && leI j 18446744073709551615) || decide (i.natAbs.log2 + j.natAbs.log2 < 1000000)
theorem mulOk_eq (i j : Int) : mulOk i j = (decide (-18446744073709551616 < i ∧ i < 18446744073709551616) || decide (-18446744073709551616 < j ∧ j < 18446744073709551616) || decide (i.natAbs.log2 + j.natAbs.log2 < 1000000)) := by
  have one : ∀ i : Int, (geI 18446744073709551615 i && leI i 18446744073709551615) = decide (-18446744073709551616 < i ∧ i < 18446744073709551616) := fun i => by
    rw [geI_eq, leI_eq, Bool.eq_iff_iff, Bool.and_eq_true, decide_eq_true_eq, decide_eq_true_eq, decide_eq_true_eq]
    omega
  unfold mulOk
  rw [one, one]
def divOk (j : Int) : Bool := decide (0 < j) && (leI j 1073741823 || decide (j.natAbs.log2 < 9000))
theorem divOk_eq (j : Int) : divOk j = (decide (0 < j) && (decide (j < 1073741824) || decide (j.natAbs.log2 < 9000))) := by
  have one : leI j 1073741823 = decide (j < 1073741824) := by
    rw [leI_eq, Bool.eq_iff_iff, decide_eq_true_eq, decide_eq_true_eq]
    omega
  unfold divOk
  rw [one]

def bAdd (S : Sto) (x y : D) : Option D :=
  match x, y with
  | .int i, .int j => some (.int (i + j))
  | .str a, .str b => if a.length + b.length ≤ line then some (.str (a ++ b)) else none
  | .tup a, .tup b => if a.length + b.length ≤ line then some (.tup (a ++ b)) else none
  | a, b => match lstOf S a, lstOf S b with
    | some xs, some ys => if xs.length + ys.length ≤ line then some (.lst (xs ++ ys)) else none
    | _, _ => none
def bSub (x y : D) : Option D :=
  match x, y with
  | .int i, .int j => some (.int (i - j))
  | _, _ => none
def bMul (S : Sto) (x y : D) : Option D :=
  match x, y with
  | .int i, .int j => if mulOk i j then some (.int (i * j)) else none
  | .tup a, .int k => if a ≠ [] ∧ a.length ≤ 1000 ∧ 2 ≤ k ∧ k ≤ 1000 then some (.tup (List.replicate k.toNat a).flatten) else none
  | a, .int k => match lstOf S a with
    | some xs => if xs.length * k.toNat ≤ line ∧ k < 9223372036854775808 ∧ -9223372036854775808 ≤ k then some (.lst (List.replicate k.toNat xs).flatten) else none
    | none => none
  | _, _ => none
def bDiv (x y : D) : Option D :=
  match x, y with
  | .int i, .int j => if divOk j then some (.int (i / j)) else none
  | _, _ => none
def bMod (x y : D) : Option D :=
  match x, y with
  | .int i, .int j => if 0 < j then some (.int (i % j)) else none
  | _, _ => none
def bPow (x y : D) : Option D :=
  match x, y with
  | .int i, .int j => if 0 ≤ j ∧ j ≤ 1000000 ∧ i.natAbs < 18446744073709551616 then some (.int (i ^ j.toNat)) else none
  | _, _ => none
def binop (S : Sto) (o : Bo) (x y : D) : Option D :=
  match o with
  | .add => bAdd S x y
  | .sub => bSub x y
  | .mul => bMul S x y
  | .fdiv => bDiv x y
  | .mod => bMod x y
  | .pow => bPow x y

def intsD : List D → Option (List Int)
  | [] => some []
  | .int i :: r => (intsD r).map (i :: ·)
  | _ => none
def boolsD : List D → Option (List Bool)
  | [] => some []
  | .bl i :: r => (boolsD r).map (i :: ·)
  | _ => none
def strsD : List D → Option (List (List Nat))
  | [] => some []
  | .str i :: r => (strsD r).map (i :: ·)
  | _ => none

def lexI : List Int → List Int → Bool
  | [], [] => false
  | [], _ :: _ => true
  | _ :: _, [] => false
  | x :: xs, y :: ys => if x = y then lexI xs ys else decide (x < y)
def cLt (x y : D) : Option Bool :=
  match x, y with
  | .int i, .int j => some (decide (i < j))
  | .str i, .str j => some (decide (i < j))
  | .tup xs, .tup ys => if pd 60 (.tup xs) && pd 60 (.tup ys) && alk (.tup xs) (.tup ys) then some (ltBs xs ys) else none
  | _, _ => none
def cLe (x y : D) : Option Bool :=
  match x, y with
  | .int i, .int j => some (decide (i ≤ j))
  | .str i, .str j => some (decide (i ≤ j))
  | .tup xs, .tup ys => if pd 60 (.tup xs) && pd 60 (.tup ys) && alk (.tup ys) (.tup xs) then some (!ltBs ys xs) else none
  | _, _ => none
def cIn (S : Sto) (x y : D) : Option Bool :=
  match y with
  | .str s => match x with
    | .str [c] => some (decide (c ∈ s))
    | _ => none
  | y => (seqOf S y).bind fun xs => inv (rdOf S x) xs
def cNon (x : D) : Bool :=
  match x with
  | .non => true
  | _ => false
/-- a comparison's answer; == and != of instances are not here -/
def cmpop (S : Sto) (o : Co) (x y : D) : Option Bool :=
  match o with
  | .eq => eqd (rdOf S x) (rdOf S y)
  | .ne => (eqd (rdOf S x) (rdOf S y)).map (!·)
  | .lt => cLt x y
  | .gt => cLt y x
  | .le => cLe x y
  | .ge => cLe y x
  | .inn => cIn S x y
  | .notin => (cIn S x y).map (!·)
  | .isn => if cNon y then some (cNon x) else none
  | .notn => if cNon y then some (!cNon x) else none

/-- the truth of a value -/
def truth (S : Sto) : D → Option Bool
  | .bl b => some b
  | .non => some false
  | .int i => some (i != 0)
  | .str s => if s.length ≤ line then some (!s.isEmpty) else none
  | .tup xs => some (!xs.isEmpty)
  | .lst xs => some (!xs.isEmpty)
  | .ref l => match S[l]? with
    | some (.lst xs) => some (!xs.isEmpty)
    | _ => none
  | _ => none

/-- the kind of a value: none, or a type -/
inductive Kd where
  | non | ty (t : Ty)
  deriving DecidableEq
def kdOf (P : Prog) (S : Sto) (d : D) : Option Kd :=
  match d with
  | .non => some .non
  | .bl _ => some (.ty .bool)
  | .int _ => some (.ty .int)
  | .str _ => some (.ty .str)
  | .tup _ => some (.ty .tuple)
  | .lst _ => some (.ty .list)
  | .scr _ => some (.ty .list)
  | .dic _ _ => some (.ty .dict)
  | .ins c _ _ => if c < P.cls.length then some (.ty (.cls c)) else none
  | .ref l => match S[l]? with
    | some (.lst _) => some (.ty .list)
    | some (.dic _ _) => some (.ty .dict)
    | some (.ins c _ _) => if c < P.cls.length then some (.ty (.cls c)) else none
    | none => none
  | .fn _ => none
def subK (k : Kd) (t : Ty) : Bool :=
  match k with
  | .non => false
  | .ty .bool => decide (t = .bool) || decide (t = .int)
  | .ty a => decide (a = t)
def isTys (P : Prog) (S : Sto) (d : D) (ts : List Ty) : Option Bool := (kdOf P S d).map fun k => ts.any (subK k)

/-- each once -/
def onlyv : List D → Option (List D)
  | [] => some []
  | x :: xs => (onlyv xs).bind fun r => (inv x r).map fun b => if b then r else x :: r

def intStr (i : Int) : List Nat := (toString i).toList.map Char.toNat

mutual
/-- no cell from n on -/
def lt (n : Nat) : D → Bool
  | .tup xs => lts n xs
  | .lst xs => lts n xs
  | .scr xs => lts n xs
  | .dic ks vs => lts n ks && lts n vs
  | .ins _ _ vs => lts n vs
  | .ref l => decide (l < n)
  | _ => true
def lts (n : Nat) : List D → Bool
  | [] => true
  | x :: xs => lt n x && lts n xs
end
def LO.lt (n : Nat) : LO → Bool
  | .lst xs => lts n xs
  | .dic ks vs => lts n ks && lts n vs
  | .ins _ _ vs => lts n vs

/-- a new cell's list as a value -/
def frz1 (S : Sto) (n : Nat) (d : D) : Option D :=
  if lt n d then some d else match d with
  | .ref l => match S[l]? with
    | some (.lst xs) => if lts n xs then some (.lst xs) else none
    | some (.dic ks vs) => if lts n ks && lts n vs then some (.dic ks vs) else none
    | _ => none
  | _ => none
def frz1s (S : Sto) (n : Nat) : List D → Option (List D)
  | [] => some []
  | x :: xs => (frz1 S n x).bind fun y => (frz1s S n xs).map (y :: ·)
def frz2 (S : Sto) (n : Nat) (d : D) : Option D :=
  if lt n d then some d else match d with
  | .ref l => match S[l]? with
    | some (.lst xs) => (frz1s S n xs).map .lst
    | some (.dic ks vs) => if lts n ks then (frz1s S n vs).map (.dic ks) else none
    | _ => none
  | .tup xs => (frz1s S n xs).map .tup
  | _ => none

/-- a call's end: n the cells ahead of it -/
def fin (n : Nat) (d : D) (S : Sto) : R D :=
  if (S.take n).all (LO.lt n) then
    match frz2 S n d with
    | some e => .ok e (S.take n)
    | none => .ok d S
  else .ok d S
def finX (n : Nat) (x : Xn) (S : Sto) : R D :=
  if (S.take n).all (LO.lt n) && lts n x.fs then .exc x (S.take n) else .exc x S

def setL (S : Sto) (l : Nat) (xs : List D) : Sto := S.set l (.lst xs)

/-- putF of ids -/
def putId (f : Nat) (v : D) : List Nat → List D → List Nat × List D
  | i :: is, x :: xs => if i = f then (i :: is, v :: xs) else let r := putId f v is xs; (i :: r.1, x :: r.2)
  | _, _ => ([f], [v])
def getId (f : Nat) : List Nat → List D → Option D
  | i :: is, x :: xs => if i = f then some x else getId f is xs
  | _, _ => none

/-- a list that a built-in makes: a value, or a cell of its own -/
def mkL (cell : Bool) (xs : List D) (S : Sto) : R D := if cell then .ok (.ref S.length) (S ++ [.lst xs]) else .ok (.lst xs) S
def mkD (cell : Bool) (ks vs : List D) (S : Sto) : R D := if cell then .ok (.ref S.length) (S ++ [.dic ks vs]) else .ok (.dic ks vs) S

/-- x[l:h] -/
def opSl (cell : Bool) (x : D) (l h : Option Int) (S : Sto) : R D :=
  match x with
  | .str s => if s.length ≤ line then .ok (.str (cut s l h)) S else .bad
  | .tup xs => .ok (.tup (cut xs l h)) S
  | x => match lstOf S x with
    | some xs => mkL cell (cut xs l h) S
    | none => .bad
/-- d[k] = v, the pairs -/
def putK (k v : D) (ks vs : List D) : Option (List D × List D) :=
  (keyv k ks).map fun o => match o with
    | some j => (ks, vs.set j v)
    | none => (ks ++ [k], vs ++ [v])
def pairsD : List D → Option (List D × List D)
  | [] => some ([], [])
  | .tup [k, v] :: r => (pairsD r).map fun p => (k :: p.1, v :: p.2)
  | _ => none
def mergeD : List D → List D → List D × List D → Option (List D × List D)
  | k :: ks, v :: vs, p => (putK k v p.1 p.2).bind (mergeD ks vs)
  | _, _, p => some p

def digits (s : List Nat) : Bool := !s.isEmpty && s.all fun c => decide (48 ≤ c) && decide (c ≤ 57)
def numOf (s : List Nat) : Int := s.foldl (fun (a : Int) (c : Nat) => a * 10 + ((c : Int) - 48)) 0

def joinS (sep : List Nat) : List (List Nat) → List Nat
  | [] => []
  | [x] => x
  | x :: xs => x ++ sep ++ joinS sep xs
/-- text.split(one sign) -/
def splitS (c : Nat) : List Nat → List (List Nat)
  | [] => [[]]
  | x :: xs => if x = c then [] :: splitS c xs else match splitS c xs with
    | [] => [[x]]
    | w :: ws => (x :: w) :: ws

def rangeD (lo hi : Int) : List D := (List.range (hi - lo).toNat).map fun k => .int (lo + (k : Nat))
def rangeD3 (lo hi st : Int) : List D := (List.range (((hi - lo) + st - 1) / st).toNat).map fun k => .int (lo + (k : Nat) * st)
def rgOk (i : Int) : Bool := geI 4611686018427387904 i && leI i 4611686018427387903
theorem rgOk_eq (i : Int) : rgOk i = decide (-4611686018427387904 ≤ i ∧ i < 4611686018427387904) := by
  unfold rgOk
  rw [geI_eq, leI_eq, Bool.eq_iff_iff, Bool.and_eq_true, decide_eq_true_eq, decide_eq_true_eq, decide_eq_true_eq]
  omega

def fLen (S : Sto) (d : D) : Option Int :=
  match d with
  | .str s => if s.length ≤ line then some s.length else none
  | .dic ks _ => some ks.length
  | .ref l => match S[l]? with
    | some (.lst xs) => some xs.length
    | some (.dic ks _) => some ks.length
    | _ => none
  | d => (seqOf S d).map fun xs => (xs.length : Int)
def fInt (d : D) : Option Int :=
  match d with
  | .int i => some i
  | .bl b => some (if b then 1 else 0)
  | _ => none
def allInt : List D → Bool
  | [] => true
  | .int _ :: r => allInt r
  | _ => false
def maxI : Int → List Int → Int
  | b, [] => b
  | b, x :: xs => maxI (if b < x then x else b) xs
def minI : Int → List Int → Int
  | b, [] => b
  | b, x :: xs => minI (if x < b then x else b) xs
/-- a sequence, not a tuple -/
def lsqOf (S : Sto) (d : D) : Option (List D) :=
  match d with
  | .tup _ => none
  | d => seqOf S d
def fMax (S : Sto) (d : D) : Option D :=
  match seqOf S d with
  | some (x :: xs) => if pds 60 (x :: xs) && alkAll (x :: xs) then some (maxB x xs) else none
  | _ => none
def fMin (S : Sto) (d : D) : Option D :=
  match seqOf S d with
  | some (x :: xs) => if pds 60 (x :: xs) && alkAll (x :: xs) then some (minB x xs) else none
  | _ => none
def f2 (f : Int → Int → Int) (ds : List D) : Option D :=
  match ds with
  | [.int i, .int j] => some (.int (f i j))
  | _ => none
def max2 (i j : Int) : Int := if i < j then j else i
def min2 (i j : Int) : Int := if j < i then j else i
def f1 (f : D → Option D) (ds : List D) : Option D :=
  match ds with
  | [d] => f d
  | _ => none
def l1 (cell : Bool) (f : D → Option (List D)) (ds : List D) (S : Sto) : R D :=
  match ds with
  | [d] => match f d with
    | some xs => mkL cell xs S
    | none => .bad
  | _ => .bad
def fStr (d : D) : Option D :=
  match d with
  | .int i => if i.natAbs.log2 < 1900 then some (.str (intStr i)) else none
  | _ => none
def fSorted (S : Sto) (d : D) : Option (List D) :=
  match seqOf S d with
  | some xs => if pds 60 xs && alkAll xs && srtOk xs then some (sortB xs) else none
  | none => none
/-- in order, each once -/
def insU (x : Int) : List Int → List Int
  | [] => [x]
  | y :: ys => if x < y then x :: y :: ys else if x = y then y :: ys else y :: insU x ys
def usort : List Int → List Int
  | [] => []
  | x :: xs => insU x (usort xs)
/-- sorted(set(x)): ints -/
def fSset (S : Sto) (d : D) : Option (List D) :=
  ((seqOf S d).bind intsD).bind fun ns => if ns.length < 64 then some ((usort ns).map .int) else none
/-- what a range walks -/
def rng (b : Bi) (ds : List D) : Option (List D) :=
  match b with
  | .range1 => match ds with
    | [.int n] => if rgOk n && leI n 16777216 then some (rangeD 0 n) else none
    | _ => none
  | .range2 => match ds with
    | [.int a, .int n] => if rgOk a && rgOk n && leI (n - a) 16777216 then some (rangeD a n) else none
    | _ => none
  | .range3 => match ds with
    | [.int a, .int n, .int st] => if rgOk a && rgOk n && decide (0 < st) && leI st 999999 && leI (n - a) 16777216 then some (rangeD3 a n st) else none
    | _ => none
  | _ => none
def bi (cx : Cx) (cell : Bool) (b : Bi) (ds : List D) (S : Sto) : R D :=
  match b with
  | .len => R.of (f1 (fun d => (fLen S d).map .int) ds) S
  | .int => R.of (f1 (fun d => (fInt d).map .int) ds) S
  | .tuple => R.of (f1 (fun d => (seqOf S d).map .tup) ds) S
  | .list => l1 cell (seqOf S) ds S
  | .abs => R.of (f1 (fun d => match d with | .int i => some (.int (if i < 0 then -i else i)) | _ => none) ds) S
  | .max1 => R.of (f1 (fMax S) ds) S
  | .min1 => R.of (f1 (fMin S) ds) S
  | .max2 => R.of (f2 max2 ds) S
  | .min2 => R.of (f2 min2 ds) S
  | .sum => R.of (f1 (fun d => ((seqOf S d).bind intsD).map fun ns => .int ns.sum) ds) S
  | .all => R.of (f1 (fun d => ((lsqOf S d).bind boolsD).map fun bs => .bl (bs.all id)) ds) S
  | .any => R.of (f1 (fun d => ((lsqOf S d).bind boolsD).map fun bs => .bl (bs.any id)) ds) S
  | .sorted => l1 cell (fSorted S) ds S
  | .sset => l1 cell (fSset S) ds S
  | .str => R.of (f1 fStr ds) S
  | .range1 => match rng .range1 ds with
    | some xs => mkL cell xs S
    | none => .bad
  | .range2 => match rng .range2 ds with
    | some xs => mkL cell xs S
    | none => .bad
  | .range3 => match rng .range3 ds with
    | some xs => mkL cell xs S
    | none => .bad
  | _ => .bad

/-- a list that may be changed: its cell, its items -/
def refL (S : Sto) (o : D) : Option (Nat × List D) :=
  match o with
  | .ref l => match S[l]? with
    | some (.lst xs) => some (l, xs)
    | _ => none
  | _ => none
def bAppend (o : D) (args : List D) (S : Sto) : R D :=
  match refL S o with
  | some p => match args with
    | [x] => if p.2.length < line then .ok .non (setL S p.1 (p.2 ++ [x])) else .bad
    | _ => .bad
  | none => .bad
def bExtend (o : D) (args : List D) (S : Sto) : R D :=
  match refL S o with
  | some p => match args with
    | [y] => match refL S y with
      | some q => if p.2.length + q.2.length ≤ line then .ok .non (setL S p.1 (p.2 ++ q.2)) else .bad
      | none => match y with
        | .lst ys => if p.2.length + ys.length ≤ line then .ok .non (setL S p.1 (p.2 ++ ys)) else .bad
        | _ => .bad
    | _ => .bad
  | none => .bad
def bInsert (o : D) (args : List D) (S : Sto) : R D :=
  match refL S o with
  | some p => match args with
    | [.int i, x] => if p.2.length < line ∧ 0 ≤ i ∧ i < 9223372036854775808 then .ok .non (setL S p.1 (p.2.take i.toNat ++ [x] ++ p.2.drop i.toNat)) else .bad
    | _ => .bad
  | none => .bad
def bPop (o : D) (args : List D) (S : Sto) : R D :=
  match refL S o with
  | some p => match args with
    | [] => match p.2[p.2.length - 1]? with
      | some y => .ok y (setL S p.1 p.2.dropLast)
      | none => .bad
    | _ => .bad
  | none => .bad
def bm (m : Bm) (o : D) (args : List D) (S : Sto) : R D :=
  match m with
  | .append => bAppend o args S
  | .extend => bExtend o args S
  | .insert => bInsert o args S
  | .pop => bPop o args S
  | _ => .bad

/-- o[i] -/
def getI (S : Sto) (o i : D) : Option D :=
  match o, i with
  | .str s, .int i => if s.length ≤ line then (atI s i).map fun c => .str [c] else none
  | .dic ks vs, k => none
  | .ref l, k => match S[l]? with
    | some (.dic ks vs) => none
    | some (.lst xs) => match k with
      | .int i => atI xs i
      | _ => none
    | _ => none
  | o, .int i => (seqOf S o).bind fun xs => atI xs i
  | _, _ => none
def setI (S : Sto) (o i v : D) : Option Sto :=
  match o with
  | .ref l => match S[l]? with
    | some (.lst xs) => match i with
      | .int i => (ixN xs.length i).map fun j => setL S l (xs.set j v)
      | _ => none
    | _ => none
  | _ => none
def hasF (P : Prog) (c f : Nat) : Bool :=
  match P.cls[c]? with
  | some cd => cd.fields.contains f
  | none => false
def getF (P : Prog) (S : Sto) (o : D) (f : Nat) : Option D :=
  match o with
  | .ins c ids vs => if hasF P c f then getId f ids vs else none
  | .ref l => match S[l]? with
    | some (.ins c ids vs) => if hasF P c f then getId f ids vs else none
    | _ => none
  | _ => none
def setF (P : Prog) (S : Sto) (o : D) (f : Nat) (v : D) : Option Sto :=
  match o with
  | .ref l => match S[l]? with
    | some (.ins c ids vs) => if hasF P c f && decide (ids.length < 1000) then some (S.set l (.ins c (putId f v ids vs).1 (putId f v ids vs).2)) else none
    | _ => none
  | _ => none
def clsOf (S : Sto) (o : D) : Option Nat :=
  match o with
  | .ins c _ _ => some c
  | .ref l => match S[l]? with
    | some (.ins c _ _) => some c
    | _ => none
  | _ => none
def methOf (P : Prog) (S : Sto) (o : D) (m : Nat) : Option Nat := (clsOf S o).bind fun c => (P.cls[c]?).bind fun cd => cd.meths.lookup m
/-- no field has the method's name -/
def freeOf (S : Sto) (o : D) (m : Nat) : Bool :=
  match o with
  | .ins _ ids _ => !ids.contains m
  | .ref l => match S[l]? with
    | some (.ins _ ids _) => !ids.contains m
    | _ => false
  | _ => false
/-- C(..) -/
def mkC (cx : Cx) (c : Nat) (args : List D) (S : Sto) : R D :=
  match cx.P.cls[c]? with
  | none => .bad
  | some cd => match cx.call cd.init (.ref S.length :: args) (S ++ [.ins c [] []]) with
    | .bad => .bad
    | .exc x S' => finX S.length x S'
    | .ok r S' => match r with
      | .non => if cd.cell then .ok (.ref S.length) S' else match S'[S.length]? with
        | some (.ins c' ids vs) => if lts S.length vs && (S'.take S.length).all (LO.lt S.length) then .ok (.ins c' ids vs) (S'.take S.length) else .bad
        | _ => .bad
      | _ => .bad
/-- the slots of a comprehension's own names forgotten -/
def wipe (ρ : Env) : List Nat → Env
  | [] => ρ
  | v :: vs => (wipe ρ vs).set v none

mutual
def tgt (t : T) (d : D) (ρ : Env) : Option Env :=
  match t with
  | .var i => some (ρ.set i (some d))
  | .tup ts => match d with
    | .tup ds => tgts ts ds ρ
    | _ => none
def tgts (ts : List T) (ds : List D) (ρ : Env) : Option Env :=
  match ts with
  | [] => match ds with
    | [] => some ρ
    | _ => none
  | t :: ts => match ds with
    | d :: ds => (tgt t d ρ).bind fun ρ => tgts ts ds ρ
    | [] => none
end

/-- what a loop walks: values, or a cell with so many items (en: each with its place) -/
inductive Src where
  | vals (xs : List D) | cell (en : Bool) (l n : Nat)
/-- the item of a cell's turn -/
def itm (en : Bool) (i : Nat) (x : D) : D := if en then .tup [.int i, x] else x
def enumD (k : Nat) : List D → List D
  | [] => []
  | x :: xs => .tup [.int k, x] :: enumD (k + 1) xs
def zipD : List D → List D → List D
  | x :: xs, y :: ys => .tup [x, y] :: zipD xs ys
  | _, _ => []
def consO (o : Option D) (ys : List D) : List D := match o with
  | some y => y :: ys
  | none => ys
/-- a comprehension over values: f gives the element, or none where the test fails -/
def colV (f : D → Sto → R (Option D)) : List D → Sto → R (List D)
  | [], S => .ok [] S
  | x :: xs, S => (f x S).bind fun o S => (colV f xs S).bind fun ys S => .ok (consO o ys) S
/-- over a cell: item n - k is read at its turn; the list must be as long at the end -/
def colC (f : D → Sto → R (Option D)) (en : Bool) (l n : Nat) : Nat → Sto → R (List D)
  | 0, S => match S[l]? with
    | some (.lst xs) => if xs.length = n then .ok [] S else .bad
    | _ => .bad
  | k + 1, S => match S[l]? with
    | some (.lst xs) => match xs[n - (k + 1)]? with
      | some x => (f (itm en (n - (k + 1)) x) S).bind fun o S => (colC f en l n k S).bind fun ys S => .ok (consO o ys) S
      | none => .bad
    | _ => .bad
def col (f : D → Sto → R (Option D)) (s : Src) (S : Sto) : R (List D) :=
  match s with
  | .vals xs => colV f xs S
  | .cell en l n => colC f en l n n S

def forV (f : D → Env → Sto → R Fl) : List D → Env → Sto → R Fl
  | [], ρ, S => .ok (.nx ρ) S
  | x :: xs, ρ, S => (f x ρ S).bind fun r S => match r with
    | .nx ρ => forV f xs ρ S
    | .ct ρ => forV f xs ρ S
    | .bk ρ => .ok (.nx ρ) S
    | .rt d => .ok (.rt d) S
    | .xc x ρ => .ok (.xc x ρ) S
def forC (f : D → Env → Sto → R Fl) (en : Bool) (l n : Nat) : Nat → Env → Sto → R Fl
  | 0, ρ, S => match S[l]? with
    | some (.lst xs) => if xs.length = n then .ok (.nx ρ) S else .bad
    | _ => .bad
  | k + 1, ρ, S => match S[l]? with
    | some (.lst xs) => match xs[n - (k + 1)]? with
      | some x => (f (itm en (n - (k + 1)) x) ρ S).bind fun r S => match r with
        | .nx ρ => forC f en l n k ρ S
        | .ct ρ => forC f en l n k ρ S
        | .bk ρ => .ok (.nx ρ) S
        | .rt d => .ok (.rt d) S
        | .xc x ρ => .ok (.xc x ρ) S
      | none => .bad
    | _ => .bad
def forS (f : D → Env → Sto → R Fl) (s : Src) (ρ : Env) (S : Sto) : R Fl :=
  match s with
  | .vals xs => forV f xs ρ S
  | .cell en l n => forC f en l n n ρ S
def whl (t : Env → Sto → R Bool) (b : Env → Sto → R Fl) : Nat → Env → Sto → R Fl
  | 0, _, _ => .bad
  | n + 1, ρ, S => (t ρ S).stm ρ fun c S => if c then (b ρ S).bind fun r S => match r with
    | .nx ρ => whl t b n ρ S
    | .ct ρ => whl t b n ρ S
    | .bk ρ => .ok (.nx ρ) S
    | .rt d => .ok (.rt d) S
    | .xc x ρ => .ok (.xc x ρ) S
    else .ok (.nx ρ) S

/-- what stands to be walked, of a value -/
def srcOf (S : Sto) : D → Option Src
  | .lst xs => some (.vals xs)
  | .scr xs => some (.vals xs)
  | .tup xs => some (.vals xs)
  | .str s => if s.length ≤ line then some (.vals (s.map fun c => .str [c])) else none
  | .ref l => match S[l]? with
    | some (.lst xs) => some (.cell false l xs.length)
    | _ => none
  | _ => none

/-- enumerate of a list; zip of two lists, of two tuples -/
def enumOf (S : Sto) (x : D) : Option Src :=
  match x with
  | .str _ => none
  | x => (srcOf S x).map fun s => match s with
    | .vals xs => .vals (enumD 0 xs)
    | .cell _ l n => .cell true l n
def zipOf (S : Sto) (x y : D) : Option Src :=
  match x, y with
  | .tup xs, .tup ys => some (.vals (zipD xs ys))
  | .tup _, _ => none
  | _, .tup _ => none
  | .ref _, _ => none
  | _, .ref _ => none
  | x, y => (seqOf S x).bind fun xs => (seqOf S y).map fun ys => .vals (zipD xs ys)
/-- the clause's name holds no value of ours -/
def unO (n : Option Nat) (ρ : Env) : Env := match n with
  | some i => ρ.set i none
  | none => ρ

/-- == and != of instances go by the class's own def -/
def cmpx (cx : Cx) (o : Co) (x y : D) (S : Sto) : R Bool :=
  match clsOf S x with
  | some c => match (cx.P.cls[c]?).bind (·.eq) with
    | some f => if (kdOf cx.P S y).isNone then .bad else match o with
      | .eq => (cx.call f [x, y] S).bind fun r S => match r with
        | .bl b => .ok b S
        | _ => .bad
      | .ne => (cx.call f [x, y] S).bind fun r S => match r with
        | .bl b => .ok (!b) S
        | _ => .bad
      | .isn => R.of (cmpop S o x y) S
      | .notn => R.of (cmpop S o x y) S
      | _ => .bad
    | none => match o with
      | .isn => R.of (cmpop S o x y) S
      | .notn => R.of (cmpop S o x y) S
      | _ => .bad
  | none => R.of (cmpop S o x y) S
/-- an exception out of a comprehension is not served -/
def R.nox {α : Type} : R α → R α
  | .ok a S => .ok a S
  | _ => .bad
@[simp] theorem R.nox_ok {α : Type} (a : α) (S : Sto) : (R.ok a S).nox = .ok a S := rfl
def fstrs : List D → Option (List Nat)
  | [] => some []
  | .str s :: r => (fstrs r).map (s ++ ·)
  | .int i :: r => if i.natAbs.log2 < 1900 then (fstrs r).map (intStr i ++ ·) else none
  | _ => none
mutual
/-- the very same plain data -/
def same : D → D → Bool
  | .non, .non => true
  | .bl a, .bl b => a == b
  | .int a, .int b => a == b
  | .str a, .str b => a == b
  | .tup a, .tup b => sames a b
  | .lst a, .lst b => sames a b
  | _, _ => false
def sames : List D → List D → Bool
  | [], [] => true
  | a :: as, b :: bs => same a b && sames as bs
  | _, _ => false
end
mutual
/-- what repr is known to show -/
def shw : D → Bool
  | .int i => decide (i.natAbs.log2 < 1920)
  | .tup xs => shws xs
  | .lst xs => shws xs
  | _ => true
def shws : List D → Bool
  | [] => true
  | x :: xs => shw x && shws xs
end
mutual
def blk : D → Nat
  | .str s => s.length
  | .tup xs => blks xs
  | .lst xs => blks xs
  | _ => 0
def blks : List D → Nat
  | [] => 0
  | x :: xs => blk x + 1 + blks xs
end
def reprOk (d : D) : Bool := pd 60 d && shw d && decide (blk d ≤ 8000)
/-- the truth of a value that comes -/
def tru (r : R D) : R Bool := r.bind fun x S => R.of (truth S x) S

/-! ### evaluation -/
mutual
def ev (cx : Cx) : E → Env → Sto → R D
  | .var i, ρ, S => match ρ[i]? with
    | some (some d) => .ok d S
    | _ => .bad
  | .cst d, _, S => .ok d S
  | .glob g, _, S => R.of cx.P.globs[g]? S
  | .tup es, ρ, S => (evs cx es ρ S).bind fun ds S => .ok (.tup ds) S
  | .lst cell es, ρ, S => (evs cx es ρ S).bind fun ds S => mkL cell ds S
  | .dic cell ks vs, ρ, S => (evs cx ks ρ S).bind fun ks S => (evs cx vs ρ S).bind fun vs S => match mergeD ks vs ([], []) with
    | some p => mkD cell p.1 p.2 S
    | none => .bad
  | .bin o a b, ρ, S => (ev cx a ρ S).bind fun x S => (ev cx b ρ S).bind fun y S => R.of (binop S o x y) S
  | .neg a, ρ, S => (ev cx a ρ S).bind fun x S => match x with
    | .int i => .ok (.int (-i)) S
    | _ => .bad
  | .cmp o a b, ρ, S => (ev cx a ρ S).bind fun x S => (ev cx b ρ S).bind fun y S => (R.of (cmpop S o x y) S).bind fun c S => .ok (.bl c) S
  | .cmpo o a b, ρ, S => (ev cx a ρ S).bind fun x S => (ev cx b ρ S).bind fun y S => (cmpx cx o x y S).bind fun c S => .ok (.bl c) S
  | .chain o p a b c, ρ, S => (ev cx a ρ S).bind fun x S => (ev cx b ρ S).bind fun y S => (R.of (cmpop S o x y) S).bind fun t S =>
      if t then (ev cx c ρ S).bind fun z S => (R.of (cmpop S p y z) S).bind fun t S => .ok (.bl t) S else .ok (.bl false) S
  | .and es, ρ, S => evAnd cx es ρ S
  | .or es, ρ, S => evOr cx es ρ S
  | .not a, ρ, S => (ev cx a ρ S).bind fun x S => match x with
    | .bl b => .ok (.bl (!b)) S
    | _ => .bad
  | .ite t a b, ρ, S => (evt cx t ρ S).bind fun c S => if c then ev cx a ρ S else ev cx b ρ S
  | .idx a i, ρ, S => (ev cx a ρ S).bind fun x S => (ev cx i ρ S).bind fun y S => R.of (getI S x y) S
  | .slc cell a lo hi, ρ, S => (ev cx a ρ S).bind fun x S => (evo cx lo ρ S).bind fun l S => (evo cx hi ρ S).bind fun h S => opSl cell x l h S
  | .rev a, ρ, S => (ev cx a ρ S).bind fun x S => match lsqOf S x with
    | some xs => .ok (.lst xs.reverse) S
    | none => .bad
  | .fld f a, ρ, S => (ev cx a ρ S).bind fun x S => R.of (getF cx.P S x f) S
  | .call f args, ρ, S => (evs cx args ρ S).bind fun ds S => cx.call f ds S
  | .calv i args, ρ, S => match ρ[i]? with
    | some (some (.fn f)) => if f < cx.P.fns.length then (evs cx args ρ S).bind fun ds S => cx.call f ds S else .bad
    | _ => .bad
  | .meth m o args, ρ, S => (ev cx o ρ S).bind fun x S => match methOf cx.P S x m with
    | some f => if freeOf S x m then (evs cx args ρ S).bind fun ds S => cx.call f (x :: ds) S else .bad
    | none => .bad
  | .mk c args, ρ, S => (evs cx args ρ S).bind fun ds S => mkC cx c ds S
  | .bi cell b args, ρ, S => (evs cx args ρ S).bind fun ds S => bi cx cell b ds S
  | .bm m o args, ρ, S => (ev cx o ρ S).bind fun x S => if (refL S x).isSome then (evs cx args ρ S).bind fun ds S => bm m x ds S else .bad
  | .isi a ts, ρ, S => (ev cx a ρ S).bind fun x S => (R.of (isTys cx.P S x ts) S).bind fun b S => .ok (.bl b) S
  | .comp cell own t it cond elt, ρ, S => (src cx it ρ S).bind fun s S =>
      (col (fun x S => match tgt t x (wipe ρ own) with
        | none => .bad
        | some ρ' => (evc cx cond ρ' S).bind fun c S => if c then (ev cx elt ρ' S).bind fun y S => .ok (some y) S else .ok none S) s S).nox.bind fun ys S => mkL cell ys S
  | .enum _, _, _ => .bad
  | .zip _ _, _, _ => .bad
  | .items _, _, _ => .bad
  | .values a, ρ, S => (ev cx a ρ S).bind fun x S => match dicOf S x with
    | some (_, vs) => .ok (.lst vs) S
    | none => .bad
  | .val _, _, _ => .bad
  | .exf i f, ρ, S => match ρ[i]? with
    | some none => match cx.cur with
      | some x => match cx.P.xcs[x.c]? with
        | some xd => R.of (getId f xd.ids x.fs) S
        | none => .bad
      | none => .bad
    | _ => .bad
  | .fstr es, ρ, S => (evs cx es ρ S).bind fun ds S => match fstrs ds with
    | some s => if s.length ≤ line then .ok (.str s) S else .bad
    | none => .bad
  | .repne a b, ρ, S => (ev cx a ρ S).bind fun x S1 => if reprOk (rdOf S1 x) then (ev cx b ρ S1).bind fun y S => if same (rdOf S1 x) (rdOf S y) then .ok (.bl false) S else .bad else .bad
  | .leno a, ρ, S => (ev cx a ρ S).bind fun x S => match clsOf S x with
    | some c => match (cx.P.cls[c]?).bind (·.len) with
      | some f => (cx.call f [x] S).bind fun r S => match r with
        | .int n => if 0 ≤ n ∧ n < 9223372036854775808 then .ok (.int n) S else .bad
        | _ => .bad
      | none => .bad
    | none => .bad
def evs (cx : Cx) : List E → Env → Sto → R (List D)
  | [], _, S => .ok [] S
  | e :: es, ρ, S => (ev cx e ρ S).bind fun d S => (evs cx es ρ S).bind fun ds S => .ok (d :: ds) S
def evAnd (cx : Cx) : List E → Env → Sto → R D
  | [], _, _ => .bad
  | e :: es, ρ, S => match es with
    | [] => ev cx e ρ S
    | _ :: _ => (ev cx e ρ S).bind fun x S => match x with
      | .bl b => if b then evAnd cx es ρ S else .ok (.bl false) S
      | _ => .bad
def evOr (cx : Cx) : List E → Env → Sto → R D
  | [], _, _ => .bad
  | e :: es, ρ, S => match es with
    | [] => ev cx e ρ S
    | _ :: _ => (ev cx e ρ S).bind fun x S => match x with
      | .bl b => if b then .ok (.bl true) S else evOr cx es ρ S
      | _ => .bad
def evo (cx : Cx) : Option E → Env → Sto → R (Option Int)
  | none, _, S => .ok none S
  | some e, ρ, S => (ev cx e ρ S).bind fun x S => match x with
    | .int i => .ok (some i) S
    | _ => .bad
def evc (cx : Cx) : Option Te → Env → Sto → R Bool
  | none, _, S => .ok true S
  | some e, ρ, S => evt cx e ρ S
def evt (cx : Cx) : Te → Env → Sto → R Bool
  | .val e, ρ, S => tru (ev cx e ρ S)
  | .and ts, ρ, S => evtAnd cx ts ρ S
  | .or ts, ρ, S => evtOr cx ts ρ S
  | .not t, ρ, S => (evt cx t ρ S).bind fun b S => .ok (!b) S
def evtAnd (cx : Cx) : List Te → Env → Sto → R Bool
  | [], _, _ => .bad
  | e :: es, ρ, S => match es with
    | [] => evt cx e ρ S
    | _ :: _ => (evt cx e ρ S).bind fun b S => if b then evtAnd cx es ρ S else .ok false S
def evtOr (cx : Cx) : List Te → Env → Sto → R Bool
  | [], _, _ => .bad
  | e :: es, ρ, S => match es with
    | [] => evt cx e ρ S
    | _ :: _ => (evt cx e ρ S).bind fun b S => if b then .ok true S else evtOr cx es ρ S
def src (cx : Cx) : E → Env → Sto → R Src
  | .enum a, ρ, S => (ev cx a ρ S).bind fun x S => R.of (enumOf S x) S
  | .zip a b, ρ, S => (ev cx a ρ S).bind fun x S => (ev cx b ρ S).bind fun y S => R.of (zipOf S x y) S
  | .bi _ b args, ρ, S => (evs cx args ρ S).bind fun ds S => R.of ((rng b ds).map .vals) S
  | .val a, ρ, S => (ev cx a ρ S).bind fun x S => R.of (srcOf S x) S
  | _, _, _ => .bad
end

/-- op= of ints -/
def augop (S : Sto) (o : Bo) (x y : D) : Option D :=
  match x, y with
  | .int _, .int _ => binop S o x y
  | _, _ => none

mutual
def st : St → Cx → Env → Sto → R Fl
  | .asg t e, cx, ρ, S => (ev cx e ρ S).stm ρ fun d S => match tgt t d ρ with
    | some ρ' => .ok (.nx ρ') S
    | none => .bad
  | .setI o i e, cx, ρ, S => (ev cx e ρ S).stm ρ fun v S => (ev cx o ρ S).stm ρ fun x S => (ev cx i ρ S).stm ρ fun y S => match setI S x y v with
    | some S' => .ok (.nx ρ) S'
    | none => .bad
  | .setF o f e, cx, ρ, S => (ev cx e ρ S).stm ρ fun v S => (ev cx o ρ S).stm ρ fun x S => match setF cx.P S x f v with
    | some S' => .ok (.nx ρ) S'
    | none => .bad
  | .aug i o e, cx, ρ, S => match ρ[i]? with
    | some (some x) => (ev cx e ρ S).stm ρ fun y S => match augop S o x y with
      | some z => .ok (.nx (ρ.set i (some z))) S
      | none => .bad
    | _ => .bad
  | .augI a i o e, cx, ρ, S => (ev cx a ρ S).stm ρ fun x S => (ev cx i ρ S).stm ρ fun y S => match getI S x y with
    | some u => (ev cx e ρ S).stm ρ fun z S => match augop S o u z with
      | some w => match setI S x y w with
        | some S' => .ok (.nx ρ) S'
        | none => .bad
      | none => .bad
    | none => .bad
  | .augF a f o e, cx, ρ, S => (ev cx a ρ S).stm ρ fun x S => match getF cx.P S x f with
    | some u => (ev cx e ρ S).stm ρ fun z S => match augop S o u z with
      | some w => match setF cx.P S x f w with
        | some S' => .ok (.nx ρ) S'
        | none => .bad
      | none => .bad
    | none => .bad
  | .exp e, cx, ρ, S => (ev cx e ρ S).stm ρ fun _ S => .ok (.nx ρ) S
  | .ite t a b, cx, ρ, S => (evt cx t ρ S).stm ρ fun c S => if c then sts a cx ρ S else sts b cx ρ S
  | .whl t b, cx, ρ, S => whl (fun ρ S => evt cx t ρ S) (fun ρ S => sts b cx ρ S) cx.w ρ S
  | .for t it b, cx, ρ, S => (src cx it ρ S).stm ρ fun s S => forS (fun x ρ S => match tgt t x ρ with
    | none => .bad
    | some ρ => sts b cx ρ S) s ρ S
  | .ret e, cx, ρ, S => (ev cx e ρ S).stm ρ fun d S => .ok (.rt d) S
  | .retN, _, _, S => .ok (.rt .non) S
  | .rais c args, cx, ρ, S => (evs cx args ρ S).stm ρ fun ds S => match cx.P.xcs[c]? with
    | some xd => if ds.length = xd.ids.length then .ok (.xc ⟨c, ds⟩ ρ) S else .bad
    | none => .bad
  | .tri b hs, cx, ρ, S => (sts b cx ρ S).bind fun r S => match r with
    | .xc x ρ' => han hs cx x ρ' S
    | r => .ok r S
  | .pass, _, ρ, S => .ok (.nx ρ) S
  | .brk, _, ρ, S => .ok (.bk ρ) S
  | .cnt, _, ρ, S => .ok (.ct ρ) S
def sts : List St → Cx → Env → Sto → R Fl
  | [], _, ρ, S => .ok (.nx ρ) S
  | s :: ss, cx, ρ, S => (st s cx ρ S).bind fun r S => match r with
    | .nx ρ => sts ss cx ρ S
    | r => .ok r S
def han : List Hd → Cx → Xn → Env → Sto → R Fl
  | [], _, x, ρ, S => .ok (.xc x ρ) S
  | .mk c n b :: hs, cx, x, ρ, S => match cx.P.xcs[x.c]? with
    | none => .bad
    | some xd => if xd.sup.contains c then
        (sts b { cx with cur := some x } (unO n ρ) S).bind fun r S => match r with
        | .nx ρ => .ok (.nx (unO n ρ)) S
        | .bk ρ => .ok (.bk (unO n ρ)) S
        | .ct ρ => .ok (.ct (unO n ρ)) S
        | .rt d => .ok (.rt d) S
        | .xc _ _ => .bad
      else han hs cx x ρ S
end

/-- a def's body at its arguments -/
def runF (P : Prog) (call : Nat → List D → Sto → R D) (w : Nat) (f : FD) (args : List D) (S : Sto) : R D :=
  match sts f.body ⟨P, call, w, none⟩ (args.map some ++ List.replicate (f.nv - args.length) none) S with
  | .ok r S' => match r with
    | .rt d => fin S.length d S'
    | .nx _ => fin S.length .non S'
    | .xc x _ => finX S.length x S'
    | _ => .bad
  | _ => .bad
/-- a call of the f-th def, n levels deep at most -/
def callF (P : Prog) (w : Nat) : Nat → Nat → List D → Sto → R D
  | 0, _, _, _ => .bad
  | n + 1, f, args, S => match P.fns[f]? with
    | none => .bad
    | some fd => if args.length = fd.np then runF P (callF P w n) w fd args S else .bad
end Dn
/-! Dn: how the plain data stand in the layer's heap. -/
namespace Dn
open PySem L2 -- names

/-- where the program's own things stand -/
structure Tb where
  K : PySem.W.Frag
  fa : Nat → Addr
  ca : Nat → Addr
  xa : Nat → Addr
  nm : Nat → Str
  /-- the fields of the exception classes -/
  ids : Nat → List Nat
  /-- lists that are being made: no value lies there -/
  xi : List Addr
abbrev Tb.hide (t : Tb) (p : Addr) : Tb := { t with xi := p :: t.xi }

/-- a list, a tuple at a that no one changes any more -/
def FzL (t : Tb) (μ : List Addr) (H : Hp) (a : Addr) (vs : List V) : Prop := (a ∉ μ ∧ a ∉ t.xi ∧ vs.length ≤ sizeLine) ∧ H a = some (.lst vs)
def FzS (t : Tb) (μ : List Addr) (H : Hp) (a : Addr) (vs : List V) : Prop := ((a ∉ μ ∧ a ∉ t.xi ∧ vs.length ≤ sizeLine) ∧ Rd H a (.lst vs)) ∨ SqL t.K (fun _ => none) a vs
def FzT (t : Tb) (μ : List Addr) (H : Hp) (a : Addr) (vs : List V) : Prop := ((a ∉ μ ∧ a ∉ t.xi ∧ vs.length ≤ sizeLine) ∧ Rd H a (.tup vs)) ∨ SqT t.K (fun _ => none) a vs
def keyD : D → Option Key
  | .int i => some (.inl i)
  | .str s => some (.inr ⟨s.toArray⟩)
  | _ => none
def KeysD : List D → List Key → Prop
  | [], ks => ks = []
  | d :: ds, ks => ∃ k kr, ks = k :: kr ∧ keyD d = some k ∧ KeysD ds kr
def fsOf (t : Tb) (ids : List Nat) (vs : List V) : List (Str × V) := (ids.map t.nm).zip vs

mutual
def RD (t : Tb) (μ : List Addr) (H : Hp) (d : D) (v : V) : Prop :=
  match d with
  | .non => v = .non
  | .bl b => v = .bl b
  | .int i => v = .int i
  | .str s => v = .str ⟨s.toArray⟩ ∧ (∀ c ∈ s, c < 1114112)
  | .fn f => v = .ref (t.fa f)
  | .scr ds => ∃ a vs, v = .ref a ∧ FzS t μ H a vs ∧ RDs t μ H ds vs
  | .tup ds => ∃ a vs, v = .ref a ∧ FzT t μ H a vs ∧ RDs t μ H ds vs
  | .lst ds => ∃ a vs, v = .ref a ∧ FzL t μ H a vs ∧ RDs t μ H ds vs
  | .dic ks ds => ∃ a kvs, v = .ref a ∧ (a ∉ μ ∧ a ∉ t.xi) ∧ Rd H a (.dK kvs) ∧ KeysD ks (kvs.map (·.1)) ∧ RDs t μ H ds (kvs.map (·.2))
  | .ins c ids ds => ∃ a dx vs, v = .ref a ∧ (a ∉ μ ∧ a ∉ t.xi) ∧ H a = some (.ins (t.ca c) dx (fsOf t ids vs)) ∧ ids.length = ds.length ∧ RDs t μ H ds vs
  | .ref l => ∃ a, μ[l]? = some a ∧ v = .ref a
def RDs (t : Tb) (μ : List Addr) (H : Hp) (ds : List D) (vs : List V) : Prop :=
  match ds with
  | [] => vs = []
  | d :: ds => ∃ v vr, vs = v :: vr ∧ RD t μ H d v ∧ RDs t μ H ds vr
end

/-- a cell -/
def RO (t : Tb) (μ : List Addr) (H : Hp) (o : LO) (a : Addr) : Prop :=
  match o with
  | .lst ds => ∃ vs, H a = some (.lst vs) ∧ RDs t μ H ds vs
  | .dic ks ds => ∃ kvs, H a = some (.dK kvs) ∧ KeysD ks (kvs.map (·.1)) ∧ RDs t μ H ds (kvs.map (·.2))
  | .ins c ids ds => ∃ dx vs, H a = some (.ins (t.ca c) dx (fsOf t ids vs)) ∧ ids.length = ds.length ∧ RDs t μ H ds vs
def okLen (o : LO) : Prop :=
  match o with
  | .lst ds => ds.length ≤ sizeLine
  | _ => True
structure RS (t : Tb) (μ : List Addr) (S : Sto) (H : Hp) : Prop where
  len : μ.length = S.length
  nd : μ.Nodup
  get : ∀ (l : Nat) (o : LO) (a : Addr), S[l]? = some o → μ[l]? = some a → RO t μ H o a
  hid : ∀ a, a ∈ t.xi → ∃ o, H a = some o
  dis : ∀ a, a ∈ μ → a ∉ t.xi
  lens : ∀ o, o ∈ S → okLen o
/-- what may have come behind: cells may be new and may have changed, all else stands -/
structure Ext (μ : List Addr) (H : Hp) (μ' : List Addr) (H' : Hp) : Prop where
  pre : μ <+: μ'
  keep : ∀ a o, H a = some o → a ∉ μ → H' a = some o
  new : ∀ a, a ∈ μ' → a ∈ μ ∨ H a = none

section
variable {t : Tb} {μ μ' μ1 : List Addr} {H H' H1 : Hp} {S : Sto}
theorem Ext.refl : Ext μ H μ H := ⟨List.prefix_refl _, fun _ _ h _ => h, fun _ h => .inl h⟩
theorem Ext.trans (e : Ext μ H μ1 H1) (f : Ext μ1 H1 μ' H') : Ext μ H μ' H' where
  pre := e.pre.trans f.pre
  keep := fun a o h n => f.keep a o (e.keep a o h n) fun hm => (e.new a hm).elim n fun z => by rw [z] at h; cases h
  new := fun a hm => by
    rcases f.new a hm with h | h
    · exact e.new a h
    · by_cases hm' : a ∈ μ
      · exact .inl hm'
      · cases q : H a with
        | none => exact .inr rfl
        | some o => rw [e.keep a o q hm'] at h; cases h
theorem Ext.notin (e : Ext μ H μ' H') {a : Addr} {o : HO} (h : H a = some o) (n : a ∉ μ) : a ∉ μ' := fun hm => (e.new a hm).elim n fun z => by rw [z] at h; cases h
theorem Ext.rd (e : Ext μ H μ' H') {a : Addr} {u : HO} (n : a ∉ μ) (h : Rd H a u) : Rd H' a u ∧ a ∉ μ' := by
  rcases h with h | ⟨o, h⟩
  · exact ⟨.inl (e.keep a _ h n), e.notin h n⟩
  · exact ⟨.inr ⟨o, e.keep a _ h n⟩, e.notin h n⟩
/-- a cell that stands keeps its address -/
theorem Ext.at (e : Ext μ H μ' H') {l : Nat} {a : Addr} (h : μ[l]? = some a) : μ'[l]? = some a := by
  obtain ⟨r, rfl⟩ := e.pre
  rw [List.getElem?_append_left (List.getElem?_eq_some_iff.mp h).1]
  exact h
theorem FzL.ext (e : Ext μ H μ' H') {a : Addr} {vs : List V} (h : FzL t μ H a vs) : FzL t μ' H' a vs := ⟨⟨e.notin h.2 h.1.1, h.1.2⟩, e.keep a _ h.2 h.1.1⟩
theorem FzS.ext (e : Ext μ H μ' H') {a : Addr} {vs : List V} (h : FzS t μ H a vs) : FzS t μ' H' a vs := by
  rcases h with ⟨n, h⟩ | h
  · exact .inl ⟨⟨(e.rd n.1 h).2, n.2⟩, (e.rd n.1 h).1⟩
  · exact .inr h
theorem FzT.ext (e : Ext μ H μ' H') {a : Addr} {vs : List V} (h : FzT t μ H a vs) : FzT t μ' H' a vs := by
  rcases h with ⟨n, h⟩ | h
  · exact .inl ⟨⟨(e.rd n.1 h).2, n.2⟩, (e.rd n.1 h).1⟩
  · exact .inr h
theorem FzS.len {a : Addr} {vs : List V} (h : FzS t μ H a vs) : vs.length ≤ sizeLine := by
  rcases h with ⟨n, _⟩ | h
  · exact n.2.2
  · rcases h with h | ⟨o, its, n, _, _, _, _, hz, r⟩
    · rcases h with h | ⟨_, h⟩ <;> cases h
    · rw [r.length, Array.length_toList]; exact hz
theorem FzT.len {a : Addr} {vs : List V} (h : FzT t μ H a vs) : vs.length ≤ sizeLine := by
  rcases h with ⟨n, _⟩ | h
  · exact n.2.2
  · rcases h with h | ⟨o, its, n, _, _, _, hz, r⟩
    · rcases h with h | ⟨_, h⟩ <;> cases h
    · rw [r.length, Array.length_toList]; exact hz
theorem FzS.seq {a : Addr} {vs : List V} (h : FzS t μ H a vs) : SqL t.K H a vs := by
  rcases h with ⟨_, h⟩ | h
  · exact .inl h
  · rcases h with h | h
    · rcases h with h | ⟨_, h⟩ <;> cases h
    · exact .inr h
theorem FzT.seq {a : Addr} {vs : List V} (h : FzT t μ H a vs) : SqT t.K H a vs := by
  rcases h with ⟨_, h⟩ | h
  · exact .inl h
  · rcases h with h | h
    · rcases h with h | ⟨_, h⟩ <;> cases h
    · exact .inr h
/-- p hidden: behind its making -/
theorem FzL.hide {p : Addr} (hp : H p = none) {a : Addr} {vs : List V} (h : FzL t μ H a vs) : FzL (t.hide p) μ H a vs :=
  ⟨⟨h.1.1, fun z => (List.mem_cons.mp z).elim (fun z => by have := h.2; rw [z, hp] at this; cases this) h.1.2.1, h.1.2.2⟩, h.2⟩
theorem Rd.some {a : Addr} {u : HO} (h : Rd H a u) : H a ≠ none := fun z => by
  rcases h with h | ⟨_, h⟩ <;> rw [z] at h <;> cases h
theorem FzS.hide {p : Addr} (hp : H p = none) {a : Addr} {vs : List V} (h : FzS t μ H a vs) : FzS (t.hide p) μ H a vs := by
  rcases h with ⟨n, h⟩ | h
  · exact .inl ⟨⟨n.1, fun z => (List.mem_cons.mp z).elim (fun z => Rd.some h (by rw [z, hp])) n.2.1, n.2.2⟩, h⟩
  · exact .inr h
theorem FzT.hide {p : Addr} (hp : H p = none) {a : Addr} {vs : List V} (h : FzT t μ H a vs) : FzT (t.hide p) μ H a vs := by
  rcases h with ⟨n, h⟩ | h
  · exact .inl ⟨⟨n.1, fun z => (List.mem_cons.mp z).elim (fun z => Rd.some h (by rw [z, hp])) n.2.1, n.2.2⟩, h⟩
  · exact .inr h
theorem FzL.show {p : Addr} {a : Addr} {vs : List V} (h : FzL (t.hide p) μ H a vs) : FzL t μ H a vs := ⟨⟨h.1.1, fun z => h.1.2.1 (List.mem_cons_of_mem _ z), h.1.2.2⟩, h.2⟩
theorem FzS.show {p : Addr} {a : Addr} {vs : List V} (h : FzS (t.hide p) μ H a vs) : FzS t μ H a vs := by
  rcases h with ⟨n, h⟩ | h
  · exact .inl ⟨⟨n.1, fun z => n.2.1 (List.mem_cons_of_mem _ z), n.2.2⟩, h⟩
  · exact .inr h
theorem FzT.show {p : Addr} {a : Addr} {vs : List V} (h : FzT (t.hide p) μ H a vs) : FzT t μ H a vs := by
  rcases h with ⟨n, h⟩ | h
  · exact .inl ⟨⟨n.1, fun z => n.2.1 (List.mem_cons_of_mem _ z), n.2.2⟩, h⟩
  · exact .inr h
mutual
theorem RD.ext (e : Ext μ H μ' H') : ∀ (d : D) {v : V}, RD t μ H d v → RD t μ' H' d v
  | .non, _, h => h
  | .bl _, _, h => h
  | .int _, _, h => h
  | .str _, _, h => h
  | .fn _, _, h => h
  | .tup ds, _, h => by
    obtain ⟨a, vs, rfl, f, r⟩ := h
    exact ⟨a, vs, rfl, f.ext e, RDs.ext e ds r⟩
  | .lst ds, _, h => by
    obtain ⟨a, vs, rfl, f, r⟩ := h
    exact ⟨a, vs, rfl, f.ext e, RDs.ext e ds r⟩
  | .scr ds, _, h => by
    obtain ⟨a, vs, rfl, f, r⟩ := h
    exact ⟨a, vs, rfl, f.ext e, RDs.ext e ds r⟩
  | .dic ks ds, _, h => by
    obtain ⟨a, kvs, rfl, n, f, k, r⟩ := h
    exact ⟨a, kvs, rfl, ⟨(e.rd n.1 f).2, n.2⟩, (e.rd n.1 f).1, k, RDs.ext e ds r⟩
  | .ins c ids ds, _, h => by
    obtain ⟨a, dx, vs, rfl, n, f, k, r⟩ := h
    exact ⟨a, dx, vs, rfl, ⟨e.notin f n.1, n.2⟩, e.keep a _ f n.1, k, RDs.ext e ds r⟩
  | .ref l, _, h => by
    obtain ⟨a, h, rfl⟩ := h
    exact ⟨a, e.at h, rfl⟩
theorem RDs.ext (e : Ext μ H μ' H') : ∀ (ds : List D) {vs : List V}, RDs t μ H ds vs → RDs t μ' H' ds vs
  | [], _, h => h
  | d :: ds, _, h => by
    obtain ⟨v, vr, rfl, h1, h2⟩ := h
    exact ⟨v, vr, rfl, RD.ext e d h1, RDs.ext e ds h2⟩
end
mutual
theorem RD.hide {p : Addr} (hp : H p = none) : ∀ (d : D) {v : V}, RD t μ H d v → RD (t.hide p) μ H d v
  | .non, _, h => h
  | .bl _, _, h => h
  | .int _, _, h => h
  | .str _, _, h => h
  | .fn _, _, h => h
  | .tup ds, _, h => by
    obtain ⟨a, vs, rfl, f, r⟩ := h
    exact ⟨a, vs, rfl, f.hide hp, RDs.hide hp ds r⟩
  | .lst ds, _, h => by
    obtain ⟨a, vs, rfl, f, r⟩ := h
    exact ⟨a, vs, rfl, f.hide hp, RDs.hide hp ds r⟩
  | .scr ds, _, h => by
    obtain ⟨a, vs, rfl, f, r⟩ := h
    exact ⟨a, vs, rfl, f.hide hp, RDs.hide hp ds r⟩
  | .dic ks ds, _, h => by
    obtain ⟨a, kvs, rfl, n, f, k, r⟩ := h
    exact ⟨a, kvs, rfl, ⟨n.1, fun z => (List.mem_cons.mp z).elim (fun z => Rd.some f (by rw [z, hp])) n.2⟩, f, k, RDs.hide hp ds r⟩
  | .ins c ids ds, _, h => by
    obtain ⟨a, dx, vs, rfl, n, f, k, r⟩ := h
    exact ⟨a, dx, vs, rfl, ⟨n.1, fun z => (List.mem_cons.mp z).elim (fun z => by rw [z, hp] at f; cases f) n.2⟩, f, k, RDs.hide hp ds r⟩
  | .ref l, _, h => h
theorem RDs.hide {p : Addr} (hp : H p = none) : ∀ (ds : List D) {vs : List V}, RDs t μ H ds vs → RDs (t.hide p) μ H ds vs
  | [], _, h => h
  | d :: ds, _, h => by
    obtain ⟨v, vr, rfl, h1, h2⟩ := h
    exact ⟨v, vr, rfl, RD.hide hp d h1, RDs.hide hp ds h2⟩
end
mutual
theorem RD.show {p : Addr} : ∀ (d : D) {v : V}, RD (t.hide p) μ H d v → RD t μ H d v
  | .non, _, h => h
  | .bl _, _, h => h
  | .int _, _, h => h
  | .str _, _, h => h
  | .fn _, _, h => h
  | .tup ds, _, h => by
    obtain ⟨a, vs, rfl, f, r⟩ := h
    exact ⟨a, vs, rfl, f.show, RDs.show ds r⟩
  | .lst ds, _, h => by
    obtain ⟨a, vs, rfl, f, r⟩ := h
    exact ⟨a, vs, rfl, f.show, RDs.show ds r⟩
  | .scr ds, _, h => by
    obtain ⟨a, vs, rfl, f, r⟩ := h
    exact ⟨a, vs, rfl, f.show, RDs.show ds r⟩
  | .dic ks ds, _, h => by
    obtain ⟨a, kvs, rfl, n, f, k, r⟩ := h
    exact ⟨a, kvs, rfl, ⟨n.1, fun z => n.2 (List.mem_cons_of_mem _ z)⟩, f, k, RDs.show ds r⟩
  | .ins c ids ds, _, h => by
    obtain ⟨a, dx, vs, rfl, n, f, k, r⟩ := h
    exact ⟨a, dx, vs, rfl, ⟨n.1, fun z => n.2 (List.mem_cons_of_mem _ z)⟩, f, k, RDs.show ds r⟩
  | .ref l, _, h => h
theorem RDs.show {p : Addr} : ∀ (ds : List D) {vs : List V}, RDs (t.hide p) μ H ds vs → RDs t μ H ds vs
  | [], _, h => h
  | d :: ds, _, h => by
    obtain ⟨v, vr, rfl, h1, h2⟩ := h
    exact ⟨v, vr, rfl, RD.show d h1, RDs.show ds h2⟩
end
theorem RO.hide {p : Addr} (hp : H p = none) {o : LO} {a : Addr} (h : RO t μ H o a) : RO (t.hide p) μ H o a := by
  cases o with
  | lst ds => obtain ⟨vs, h, r⟩ := h; exact ⟨vs, h, RDs.hide hp ds r⟩
  | dic ks ds => obtain ⟨kvs, h, q, r⟩ := h; exact ⟨kvs, h, q, RDs.hide hp ds r⟩
  | ins c ids ds => obtain ⟨dx, vs, h, q, r⟩ := h; exact ⟨dx, vs, h, q, RDs.hide hp ds r⟩
theorem RO.show {p : Addr} {o : LO} {a : Addr} (h : RO (t.hide p) μ H o a) : RO t μ H o a := by
  cases o with
  | lst ds => obtain ⟨vs, h, r⟩ := h; exact ⟨vs, h, RDs.show ds r⟩
  | dic ks ds => obtain ⟨kvs, h, q, r⟩ := h; exact ⟨kvs, h, q, RDs.show ds r⟩
  | ins c ids ds => obtain ⟨dx, vs, h, q, r⟩ := h; exact ⟨dx, vs, h, q, RDs.show ds r⟩
theorem RS.show {p : Addr} (s : RS (t.hide p) μ S H) : RS t μ S H := ⟨s.len, s.nd, fun l o a e1 e2 => (s.get l o a e1 e2).show, fun a h => s.hid a (List.mem_cons_of_mem _ h), fun a h z => s.dis a h (List.mem_cons_of_mem _ z), s.lens⟩
theorem RDs.length : ∀ {ds : List D} {vs : List V}, RDs t μ H ds vs → ds.length = vs.length
  | [], _, h => by cases h; rfl
  | d :: ds, _, h => by
    obtain ⟨v, vr, rfl, _, h2⟩ := h
    rw [List.length_cons, List.length_cons, RDs.length h2]
theorem RDs.get : ∀ {ds : List D} {vs : List V} {i : Nat} {d : D}, RDs t μ H ds vs → ds[i]? = some d → ∃ v, vs[i]? = some v ∧ RD t μ H d v
  | [], _, _, _, _, e => by simp at e
  | d :: ds, _, 0, x, h, e => by
    obtain ⟨v, vr, rfl, h1, h2⟩ := h
    simp at e; subst e
    exact ⟨v, rfl, h1⟩
  | d :: ds, _, i + 1, x, h, e => by
    obtain ⟨v, vr, rfl, h1, h2⟩ := h
    obtain ⟨v', h3, h4⟩ := RDs.get (i := i) h2 (by simpa using e)
    exact ⟨v', by simpa using h3, h4⟩
theorem RDs.append : ∀ {ds es : List D} {vs us : List V}, RDs t μ H ds vs → RDs t μ H es us → RDs t μ H (ds ++ es) (vs ++ us)
  | [], _, _, _, h, k => by cases h; exact k
  | d :: ds, _, _, _, h, k => by
    obtain ⟨v, vr, rfl, h1, h2⟩ := h
    exact ⟨v, _, rfl, h1, RDs.append h2 k⟩
theorem RDs.take : ∀ {ds : List D} {vs : List V} (n : Nat), RDs t μ H ds vs → RDs t μ H (ds.take n) (vs.take n)
  | _, _, 0, _ => rfl
  | [], _, _ + 1, h => by cases h; rfl
  | d :: ds, _, n + 1, h => by
    obtain ⟨v, vr, rfl, h1, h2⟩ := h
    exact ⟨v, _, rfl, h1, RDs.take n h2⟩
theorem RDs.drop : ∀ {ds : List D} {vs : List V} (n : Nat), RDs t μ H ds vs → RDs t μ H (ds.drop n) (vs.drop n)
  | _, _, 0, h => h
  | [], _, _ + 1, h => by cases h; rfl
  | d :: ds, _, n + 1, h => by
    obtain ⟨v, vr, rfl, h1, h2⟩ := h
    exact RDs.drop n h2
theorem RDs.set : ∀ {ds : List D} {vs : List V} (i : Nat) {d : D} {v : V}, RDs t μ H ds vs → RD t μ H d v → RDs t μ H (ds.set i d) (vs.set i v)
  | [], _, _, _, _, h, _ => by cases h; rfl
  | d :: ds, _, 0, _, _, h, k => by
    obtain ⟨v, vr, rfl, h1, h2⟩ := h
    exact ⟨_, _, rfl, k, h2⟩
  | d :: ds, _, n + 1, _, _, h, k => by
    obtain ⟨v, vr, rfl, h1, h2⟩ := h
    exact ⟨_, _, rfl, h1, RDs.set n h2 k⟩
theorem RDs.reverse : ∀ {ds : List D} {vs : List V}, RDs t μ H ds vs → RDs t μ H ds.reverse vs.reverse
  | [], _, h => by cases h; rfl
  | d :: ds, _, h => by
    obtain ⟨v, vr, rfl, h1, h2⟩ := h
    rw [List.reverse_cons, List.reverse_cons]
    exact RDs.append (RDs.reverse h2) ⟨v, [], rfl, h1, rfl⟩
/-- cells apart: one that is changed leaves the others -/
theorem RS.inj (s : RS t μ S H) {l k : Nat} {a : Addr} (h : μ[l]? = some a) (h' : μ[k]? = some a) : l = k := by
  obtain ⟨h1, e1⟩ := List.getElem?_eq_some_iff.mp h
  obtain ⟨h2, e2⟩ := List.getElem?_eq_some_iff.mp h'
  exact (List.getElem_inj s.nd).mp (e1.trans e2.symm)
theorem RS.there (s : RS t μ S H) {a : Addr} (h : a ∈ μ) : ∃ o, H a = some o := by
  obtain ⟨l, hl, e⟩ := List.getElem_of_mem h
  have e1 : μ[l]? = some a := by rw [List.getElem?_eq_getElem hl, e]
  have hl' : l < S.length := by rw [← s.len]; exact hl
  have g := s.get l S[l] a (List.getElem?_eq_getElem hl') e1
  cases q : S[l] with
  | lst ds => rw [q] at g; obtain ⟨vs, h, _⟩ := g; exact ⟨_, h⟩
  | dic ks ds => rw [q] at g; obtain ⟨kvs, h, _⟩ := g; exact ⟨_, h⟩
  | ins c ids ds => rw [q] at g; obtain ⟨dx, vs, h, _⟩ := g; exact ⟨_, h⟩
theorem RS.addr (s : RS t μ S H) {l : Nat} {o : LO} (h : S[l]? = some o) : ∃ a, μ[l]? = some a ∧ RO t μ H o a := by
  have hl : l < μ.length := by rw [s.len]; exact (List.getElem?_eq_some_iff.mp h).1
  exact ⟨μ[l], List.getElem?_eq_getElem hl, s.get l o _ h (List.getElem?_eq_getElem hl)⟩
theorem RO.ext (e : Ext μ H μ' H') {o : LO} {a : Addr} (h : RO t μ H o a) (k : ∀ u, H a = some u → H' a = some u) : RO t μ' H' o a := by
  cases o with
  | lst ds =>
    obtain ⟨vs, h, r⟩ := h
    exact ⟨vs, k _ h, RDs.ext e ds r⟩
  | dic ks ds =>
    obtain ⟨kvs, h, q, r⟩ := h
    exact ⟨kvs, k _ h, q, RDs.ext e ds r⟩
  | ins c ids ds =>
    obtain ⟨dx, vs, h, q, r⟩ := h
    exact ⟨dx, vs, k _ h, q, RDs.ext e ds r⟩
/-- an object that is new, no cell -/
theorem Ext.fresh {p : Addr} {o : HO} (h : H p = none) : Ext μ H μ (upd H p o) :=
  ⟨List.prefix_refl _, fun a u e _ => by rw [upd_ne (ne_of_none e h)]; exact e, fun _ h => .inl h⟩
theorem hid_upd {xi : List Addr} {p : Addr} {o : HO} (h : ∀ a, a ∈ xi → ∃ o, H a = some o) : ∀ a, a ∈ xi → ∃ u, upd H p o a = some u := fun a ha => by
  by_cases e : a = p
  · exact ⟨o, by rw [e, upd_same]⟩
  · rw [upd_ne e]; exact h a ha
theorem RS.fresh (s : RS t μ S H) {p : Addr} {o : HO} (h : H p = none) : RS t μ S (upd H p o) :=
  ⟨s.len, s.nd, fun l u a e1 e2 => (s.get l u a e1 e2).ext (Ext.fresh h) fun u e => by rw [upd_ne (ne_of_none e h)]; exact e, hid_upd s.hid, s.dis, s.lens⟩
theorem RS.nohid (s : RS t μ S H) {p : Addr} (h : H p = none) : p ∉ t.xi := fun m => by
  obtain ⟨o, e⟩ := s.hid p m
  rw [h] at e; cases e
theorem RS.nofresh (s : RS t μ S H) {p : Addr} (h : H p = none) : p ∉ μ := fun m => by
  obtain ⟨o, e⟩ := s.there m
  rw [h] at e; cases e
theorem RS.hide (s : RS t μ S H) {p : Addr} {o : HO} (hp : H p = none) : RS (t.hide p) μ S (upd H p o) := by
  have z := s.fresh (o := o) hp
  refine ⟨z.len, z.nd, fun l u a e1 e2 => ?_, fun a ha => ?_, fun a ha hx => ?_, s.lens⟩
  · exact ((s.get l u a e1 e2).hide hp).ext (Ext.fresh hp) fun u e => by rw [upd_ne (ne_of_none e hp)]; exact e
  · rcases List.mem_cons.mp ha with e | ha
    · exact ⟨o, by rw [e, upd_same]⟩
    · exact z.hid a ha
  · rcases List.mem_cons.mp hx with e | hx
    · exact s.nofresh hp (by rw [← e]; exact ha)
    · exact s.dis a ha hx
theorem RD.newTup (s : RS t μ S H) {p : Addr} (h : H p = none) {ds : List D} {vs : List V} (r : RDs t μ H ds vs) (hl : ds.length ≤ sizeLine) : RD t μ (upd H p (.tup vs)) (.tup ds) (.ref p) :=
  ⟨p, vs, rfl, .inl ⟨⟨s.nofresh h, s.nohid h, by rw [← r.length]; exact hl⟩, .inl upd_same⟩, RDs.ext (Ext.fresh h) ds r⟩
theorem RD.newLst (s : RS t μ S H) {p : Addr} (h : H p = none) {ds : List D} {vs : List V} (r : RDs t μ H ds vs) (hl : ds.length ≤ sizeLine) : RD t μ (upd H p (.lst vs)) (.lst ds) (.ref p) :=
  ⟨p, vs, rfl, ⟨⟨s.nofresh h, s.nohid h, by rw [← r.length]; exact hl⟩, upd_same⟩, RDs.ext (Ext.fresh h) ds r⟩
theorem lstOf_rd (s : RS t μ S H) {d : D} {v : V} {xs : List D} (e : lstOf S d = some xs) (r : RD t μ H d v) : ∃ a vs, v = .ref a ∧ H a = some (.lst vs) ∧ RDs t μ H xs vs := by
  cases d with
  | lst ys =>
    cases e
    obtain ⟨a, vs, rfl, f, r⟩ := r
    exact ⟨a, vs, rfl, f.2, r⟩
  | ref l =>
    obtain ⟨a, h, rfl⟩ := r
    simp only [lstOf] at e
    split at e
    · rename_i ys q
      cases e
      obtain ⟨vs, h1, h2⟩ := s.get l _ a q h
      exact ⟨a, vs, rfl, h1, h2⟩
    · cases e
  | _ => cases e
theorem seqOf_rd (s : RS t μ S H) {d : D} {v : V} {xs : List D} (e : seqOf S d = some xs) (r : RD t μ H d v) : ∃ a vs, v = .ref a ∧ (SqL t.K H a vs ∨ SqT t.K H a vs) ∧ RDs t μ H xs vs := by
  cases d with
  | lst ys =>
    cases e
    obtain ⟨a, vs, rfl, f, r⟩ := r
    exact ⟨a, vs, rfl, .inl (SqL.of f.2), r⟩
  | scr ys =>
    cases e
    obtain ⟨a, vs, rfl, f, r⟩ := r
    exact ⟨a, vs, rfl, .inl f.seq, r⟩
  | tup ys =>
    cases e
    obtain ⟨a, vs, rfl, f, r⟩ := r
    exact ⟨a, vs, rfl, .inr f.seq, r⟩
  | ref l =>
    obtain ⟨a, h, rfl⟩ := r
    simp only [seqOf] at e
    split at e
    · rename_i ys q
      cases e
      obtain ⟨vs, h1, h2⟩ := s.get l _ a q h
      exact ⟨a, vs, rfl, .inl (SqL.of h1), h2⟩
    · cases e
  | _ => cases e
theorem seq_len (s : RS t μ S H) {d : D} {v : V} {xs : List D} (e : seqOf S d = some xs) (r : RD t μ H d v) : xs.length ≤ sizeLine := by
  cases d with
  | lst ys => cases e; obtain ⟨a, vs, rfl, f, r⟩ := r; rw [r.length]; exact f.1.2.2
  | scr ys => cases e; obtain ⟨a, vs, rfl, f, r⟩ := r; rw [r.length]; exact f.len
  | tup ys => cases e; obtain ⟨a, vs, rfl, f, r⟩ := r; rw [r.length]; exact f.len
  | ref l =>
    simp only [seqOf] at e
    split at e
    · rename_i ys q
      cases e
      exact s.lens _ (List.mem_of_getElem? q)
    · cases e
  | _ => cases e
theorem lst_len (s : RS t μ S H) {d : D} {v : V} {xs : List D} (e : lstOf S d = some xs) (r : RD t μ H d v) : xs.length ≤ sizeLine := by
  cases d with
  | lst ys => cases e; obtain ⟨a, vs, rfl, f, r⟩ := r; rw [r.length]; exact f.1.2.2
  | ref l =>
    simp only [lstOf] at e
    split at e
    · rename_i ys q
      cases e
      exact s.lens _ (List.mem_of_getElem? q)
    · cases e
  | _ => cases e
/-- a new cell -/
theorem Ext.cell {p : Addr} {o : HO} (h : H p = none) : Ext μ H (μ ++ [p]) (upd H p o) :=
  ⟨List.prefix_append _ _, fun a u e _ => by rw [upd_ne (ne_of_none e h)]; exact e, fun a m => by
    rcases List.mem_append.mp m with m | m
    · exact .inl m
    · rw [List.mem_singleton.mp m]; exact .inr h⟩
theorem RS.cell (s : RS t μ S H) {p : Addr} {u : HO} {o : LO} (h : H p = none) (r : RO t (μ ++ [p]) (upd H p u) o p) (ho : okLen o) : RS t (μ ++ [p]) (S ++ [o]) (upd H p u) where
  hid := hid_upd s.hid
  dis := fun a ha => (List.mem_append.mp ha).elim (s.dis a) fun z => by rw [List.mem_singleton.mp z]; exact s.nohid h
  lens := fun u hu => (List.mem_append.mp hu).elim (s.lens u) fun z => by rw [List.mem_singleton.mp z]; exact ho
  len := by rw [List.length_append, List.length_append, s.len]; rfl
  nd := List.nodup_append.mpr ⟨s.nd, by simp, fun a ha b hb e => s.nofresh h (by rw [List.mem_singleton.mp hb] at e; rw [← e]; exact ha)⟩
  get := fun l q a e1 e2 => by
    by_cases hl : l < S.length
    · rw [List.getElem?_append_left hl] at e1
      rw [List.getElem?_append_left (by rw [s.len]; exact hl)] at e2
      exact (s.get l q a e1 e2).ext (Ext.cell h) fun u e => by rw [upd_ne (ne_of_none e h)]; exact e
    · have hl' : l = S.length := by
        have := (List.getElem?_eq_some_iff.mp e1).1
        rw [List.length_append, List.length_singleton] at this; omega
      subst hl'
      rw [List.getElem?_append_right (Nat.le_refl _), Nat.sub_self] at e1
      rw [← s.len, List.getElem?_append_right (Nat.le_refl _), Nat.sub_self] at e2
      cases e1; cases e2
      exact r
/-- a cell is changed -/
theorem Ext.chg {l : Nat} {a : Addr} {o : HO} (h : μ[l]? = some a) : Ext μ H μ (upd H a o) :=
  ⟨List.prefix_refl _, fun b u e n => by rw [upd_ne (fun z => n (by rw [z]; exact List.mem_of_getElem? h))]; exact e, fun _ h => .inl h⟩
theorem RS.chg (s : RS t μ S H) {l : Nat} {a : Addr} {u : HO} {o : LO} (h : μ[l]? = some a) (r : RO t μ (upd H a u) o a) (ho : okLen o) : RS t μ (S.set l o) (upd H a u) where
  hid := hid_upd s.hid
  dis := s.dis
  lens := fun u hu => (List.mem_or_eq_of_mem_set hu).elim (s.lens u) fun z => by rw [z]; exact ho
  len := by rw [List.length_set]; exact s.len
  nd := s.nd
  get := fun k q b e1 e2 => by
    by_cases hk : l = k
    · subst hk
      rw [h] at e2; cases e2
      rw [List.getElem?_set_self (by rw [← s.len]; exact (List.getElem?_eq_some_iff.mp h).1)] at e1
      cases e1
      exact r
    · rw [List.getElem?_set_ne hk] at e1
      refine (s.get k q b e1 e2).ext (Ext.chg h) fun u e => ?_
      rw [upd_ne (fun z => hk (s.inj h (by rw [z] at e2; exact e2)))]
      exact e
end
end Dn
/-! Dn: a reading that keeps what the evaluation says. -/
namespace Dn
open PySem L2 -- names

/-- an exception that flies: its class, its dict -/
def RX (t : Tb) (μ : List Addr) (H : Hp) (x : Xn) (cls : Value) (dd : Option Addr) : Prop :=
  cls = .ref (t.xa x.c) ∧ (t.ids x.c).length = x.fs.length ∧ ((x.fs = [] ∧ dd = none) ∨ ∃ d vs, dd = some d ∧ (d ∉ μ ∧ d ∉ t.xi) ∧ H d = some (.xd (fsOf t (t.ids x.c) vs)) ∧ RDs t μ H x.fs vs)
/-- what is wished of an exception that leaves; the exception that is in hand -/
structure Cu where
  x : Xn
  cls : Value
  dd : Option Addr
  /-- the slot of its name, its address -/
  i : Nat
  a : Addr
structure Wi where
  w : WX
  cu : Option Cu := none
/-- the names' values -/
structure RE (t : Tb) (cu : Option Cu) (μ : List Addr) (H : Hp) (ρ : Env) (σ : L2.St) : Prop where
  cur : ∀ c, cu = some c → RX t μ H c.x c.cls c.dd ∧ (ρ[c.i]? = some none → σ[c.i]? = some (some (.ref c.a)))
  len : ρ.length = σ.length
  get : ∀ (i : Nat) (d : D), ρ[i]? = some (some d) → ∃ v, σ[i]? = some (some v) ∧ RD t μ H d v

/-- behind an evaluation -/
def Aft (t : Tb) {α : Type} (μ : List Addr) (H : Hp) (r : R α) (k : α → Sto → List Addr → Hp → Prop) (kx : Xn → Sto → List Addr → Hp → Prop) : Prop :=
  match r with
  | .bad => False
  | .ok a S => ∀ μ' H', Ext μ H μ' H' → RS t μ' S H' → k a S μ' H'
  | .exc x S => ∀ μ' H', Ext μ H μ' H' → RS t μ' S H' → kx x S μ' H'

section
variable {t : Tb} {μ μ' μ1 : List Addr} {H H' H1 : Hp} {S : Sto} {α β : Type} {ρ : Env} {σ : L2.St}
theorem RX.ext (e : Ext μ H μ' H') {x : Xn} {cls : Value} {dd : Option Addr} (r : RX t μ H x cls dd) : RX t μ' H' x cls dd := by
  obtain ⟨h, hl, r⟩ := r
  rcases r with r | ⟨d, vs, h1, h2, h3, h4⟩
  · exact ⟨h, hl, .inl r⟩
  · exact ⟨h, hl, .inr ⟨d, vs, h1, ⟨e.notin h3 h2.1, h2.2⟩, e.keep d _ h3 h2.1, RDs.ext e _ h4⟩⟩
theorem RE.ext {cu : Option Cu} (e : Ext μ H μ' H') (r : RE t cu μ H ρ σ) : RE t cu μ' H' ρ σ := ⟨fun c h => ⟨(r.cur c h).1.ext e, (r.cur c h).2⟩, r.len, fun i d h => let ⟨v, h1, h2⟩ := r.get i d h; ⟨v, h1, h2.ext e⟩⟩
theorem Aft.imp {r : R α} {k k' : α → Sto → List Addr → Hp → Prop} {kx kx' : Xn → Sto → List Addr → Hp → Prop} (h : Aft t μ H r k kx)
    (hk : ∀ a S' μ' H', Ext μ H μ' H' → RS t μ' S' H' → k a S' μ' H' → k' a S' μ' H')
    (hx : ∀ x S' μ' H', Ext μ H μ' H' → RS t μ' S' H' → kx x S' μ' H' → kx' x S' μ' H') : Aft t μ H r k' kx' := by
  cases r with
  | bad => exact h
  | ok a S => exact fun μ' H' e s => hk a S μ' H' e s (h μ' H' e s)
  | exc x S => exact fun μ' H' e s => hx x S μ' H' e s (h μ' H' e s)
theorem Aft.bind {r : R α} {f : α → Sto → R β} {k : β → Sto → List Addr → Hp → Prop} {kx : Xn → Sto → List Addr → Hp → Prop} (h : Aft t μ H (r.bind f) k kx) :
    Aft t μ H r (fun a S' μ' H' => Aft t μ' H' (f a S') (fun b S2 μ2 H2 => Ext μ H μ2 H2 → k b S2 μ2 H2) (fun x S2 μ2 H2 => Ext μ H μ2 H2 → kx x S2 μ2 H2)) kx := by
  cases r with
  | bad => exact h
  | ok a S =>
    intro μ1 H1 e1 s1
    show Aft t μ1 H1 (f a S) _ _
    have h' : Aft t μ H (f a S) k kx := h
    cases q : f a S with
    | bad => rw [q] at h'; exact h'
    | ok b S2 => rw [q] at h'; exact fun μ2 H2 e2 s2 _ => h' μ2 H2 (e1.trans e2) s2
    | exc x S2 => rw [q] at h'; exact fun μ2 H2 e2 s2 _ => h' μ2 H2 (e1.trans e2) s2
  | exc x S => exact h
/-- in front: what stands may have grown -/
theorem Aft.ext (e : Ext μ H μ1 H1) {r : R α} {k : α → Sto → List Addr → Hp → Prop} {kx : Xn → Sto → List Addr → Hp → Prop} (h : Aft t μ H r k kx) : Aft t μ1 H1 r k kx := by
  cases r with
  | bad => exact h
  | ok a S => exact fun μ' H' e' s => h μ' H' (e.trans e') s
  | exc x S => exact fun μ' H' e' s => h μ' H' (e.trans e') s
/-- nothing has changed -/
theorem Aft.now (s : RS t μ S H) {a : α} {k : α → Sto → List Addr → Hp → Prop} {kx : Xn → Sto → List Addr → Hp → Prop} (h : Aft t μ H (.ok a S) k kx) : k a S μ H := h μ H Ext.refl s
theorem Aft.of {o : Option α} {k : α → Sto → List Addr → Hp → Prop} {kx : Xn → Sto → List Addr → Hp → Prop} (h : Aft t μ H (R.of o S) k kx) : ∃ a, o = some a ∧ Aft t μ H (.ok a S) k kx := by
  cases o with
  | none => exact False.elim h
  | some a => exact ⟨a, rfl, h⟩
end

/-- what a reading keeps: f's answer stands for the value -/
def tE (t : Tb) (W : Wi) (f : Env → Sto → R D) : TE := fun σ H Q => ∃ μ ρ S, RE t W.cu μ H ρ σ ∧ RS t μ S H ∧
  Aft t μ H (f ρ S) (fun d _ μ' H' => ∀ v, RD t μ' H' d v → Q v H') (fun x _ μ' H' => ∀ cls dd, RX t μ' H' x cls dd → W.w cls dd σ H')
def tT (t : Tb) (W : Wi) (f : Env → Sto → R Bool) : TT := fun σ H Q => ∃ μ ρ S, RE t W.cu μ H ρ σ ∧ RS t μ S H ∧
  Aft t μ H (f ρ S) (fun b _ _ H' => Q b H') (fun x _ μ' H' => ∀ cls dd, RX t μ' H' x cls dd → W.w cls dd σ H')
def tA (t : Tb) (W : Wi) (f : Env → Sto → R (List D)) : TA := fun σ H Q => ∃ μ ρ S, RE t W.cu μ H ρ σ ∧ RS t μ S H ∧
  Aft t μ H (f ρ S) (fun ds _ μ' H' => ∀ vs, RDs t μ' H' ds vs → Q vs H') (fun x _ μ' H' => ∀ cls dd, RX t μ' H' x cls dd → W.w cls dd σ H')
/-- a statement's end -/
def endS (t : Tb) (W : Wi) (D : Ends) (fl : Fl) (μ : List Addr) (H : Hp) : Prop :=
  match fl with
  | .nx ρ => ∀ σ, RE t W.cu μ H ρ σ → D.nx σ H
  | .rt d => ∀ v, RD t μ H d v → D.rt v H
  | .bk ρ => ∀ σ, RE t W.cu μ H ρ σ → D.bk σ H
  | .ct ρ => ∀ σ, RE t W.cu μ H ρ σ → D.ct σ H
  | .xc x ρ => ∀ σ cls dd, RE t W.cu μ H ρ σ → RX t μ H x cls dd → W.w cls dd σ H
def tS (t : Tb) (W : Wi) (f : Env → Sto → R Fl) : TS := fun D σ H => ∃ μ ρ S, RE t W.cu μ H ρ σ ∧ RS t μ S H ∧
  Aft t μ H (f ρ S) (fun fl _ μ' H' => endS t W D fl μ' H') (fun _ _ _ _ => False)

theorem PE.weak {X : L2.Cx} {e : Expr} {t t' : TE} (h : PE X e t) (w : ∀ σ H Q, t' σ H Q → t σ H Q) : PE X e t' := ⟨fun pins s σ H Q I q => h.run pins s σ H Q I (w σ H Q q)⟩
theorem PT.weak {X : L2.Cx} {e : Expr} {t t' : TT} (h : PT X e t) (w : ∀ σ H Q, t' σ H Q → t σ H Q) : PT X e t' := ⟨fun pins s σ H Q I q => h.run pins s σ H Q I (w σ H Q q)⟩
theorem PW.weak {X : L2.Cx} {e : Expr} {t t' : TT} (h : PW X e t) (w : ∀ σ H Q, t' σ H Q → t σ H Q) : PW X e t' := ⟨fun wh pins s σ H Q I q => h.run wh pins s σ H Q I (w σ H Q q)⟩
theorem PA.weak {X : L2.Cx} {e : List Expr} {t t' : TA} (h : PA X e t) (w : ∀ σ H Q, t' σ H Q → t σ H Q) : PA X e t' := ⟨fun p pins s σ H Q I q => h.run p pins s σ H Q I (w σ H Q q)⟩
theorem PS.weak {X : L2.Cx} {e : Stmt} {t t' : TS} (h : PS X e t) (w : ∀ D σ H, t' D σ H → t D σ H) : PS X e t' := ⟨fun pins s σ H D I q => h.run pins s σ H D I (w D σ H q)⟩
theorem PSs.weak {X : L2.Cx} {e : List Stmt} {t t' : TS} (h : PSs X e t) (w : ∀ D σ H, t' D σ H → t D σ H) : PSs X e t' := ⟨fun pins s σ H D I q => h.run pins s σ H D I (w D σ H q)⟩

section
variable {t : Tb} {W : Wi} {X : L2.Cx} {a b : Expr} {pos : Pos} {fa fb : Env → Sto → R D}
/-- two values in a row, then an operation by values -/
theorem bin_ok {op : D → D → Sto → R D} {r : R2} (hr : ∀ (σ : L2.St) (μ : List Addr) (H : Hp) (S : Sto) (x y : D) (v u : V) (Q : VK), RS t μ S H → RD t μ H x v → RD t μ H y u →
      Aft t μ H (op x y S) (fun d _ μ' H' => ∀ w, RD t μ' H' d w → Q w H') (fun x _ μ' H' => ∀ cls dd, RX t μ' H' x cls dd → W.w cls dd σ H') → r v u H Q)
    (σ : L2.St) (H : Hp) (Q : VK) (h : tE t W (fun ρ S => (fa ρ S).bind fun x S => (fb ρ S).bind fun y S => op x y S) σ H Q) : tOp r (tE t W fa) (tE t W fb) σ H Q := by
  obtain ⟨μ, ρ, S, re, rs, h⟩ := h
  refine ⟨μ, ρ, S, re, rs, h.bind.imp (fun x S1 μ1 H1 e1 s1 k v rv => ?_) fun _ _ _ _ _ _ z => z⟩
  refine ⟨μ1, ρ, S1, re.ext e1, s1, k.bind.imp (fun y S2 μ2 H2 e2 s2 k2 u ru => ?_) fun _ _ _ _ e2 _ z => z (e1.trans e2)⟩
  exact hr σ μ2 H2 S2 x y v u Q s2 (rv.ext e2) ru (k2.imp (fun d S3 μ3 H3 e3 s3 z => z (e2.trans e3) (e1.trans (e2.trans e3))) fun x S3 μ3 H3 e3 s3 z => z (e2.trans e3) (e1.trans (e2.trans e3)))
theorem un_ok {op : D → Sto → R D} {r : V → Hp → VK → Prop} (hr : ∀ (σ : L2.St) (μ : List Addr) (H : Hp) (S : Sto) (x : D) (v : V) (Q : VK), RS t μ S H → RD t μ H x v →
      Aft t μ H (op x S) (fun d _ μ' H' => ∀ w, RD t μ' H' d w → Q w H') (fun x _ μ' H' => ∀ cls dd, RX t μ' H' x cls dd → W.w cls dd σ H') → r v H Q)
    (σ : L2.St) (H : Hp) (Q : VK) (h : tE t W (fun ρ S => (fa ρ S).bind fun x S => op x S) σ H Q) : tUn r (tE t W fa) σ H Q := by
  obtain ⟨μ, ρ, S, re, rs, h⟩ := h
  refine ⟨μ, ρ, S, re, rs, h.bind.imp (fun x S1 μ1 H1 e1 s1 k v rv => ?_) fun _ _ _ _ _ _ z => z⟩
  exact hr σ μ1 H1 S1 x v Q s1 rv (k.imp (fun d S3 μ3 H3 e3 s3 z => z (e1.trans e3)) fun x S3 μ3 H3 e3 s3 z => z (e1.trans e3))

/-! ### names, constants -/
theorem d_var {i : Nat} {x : Str} (hN : X.N[i]? = some x) (hv : Vis X.env.scope x) (hd : (x == ("__debug__" : Str)) = false) (hcd : (x == ("__classdict__" : Str)) = false) :
    PE X (.Name x pos) (tE t W fun ρ S => match ρ[i]? with | some (some d) => .ok d S | _ => .bad) := by
  refine PE.weak (pe_var hN hv hd hcd) fun σ H Q h => ?_
  obtain ⟨μ, ρ, S, re, rs, h⟩ := h
  dsimp only at h
  split at h
  · rename_i d e
    obtain ⟨v, h1, h2⟩ := re.get i d e
    exact ⟨v, h1, h.now rs v h2⟩
  · exact False.elim h
theorem d_const {e : Expr} {d : D} {v : V} (h : PE X e (tC v)) (r : ∀ μ H, RD t μ H d v) : PE X e (tE t W fun _ S => .ok d S) := by
  refine PE.weak h fun σ H Q h => ?_
  obtain ⟨μ, ρ, S, re, rs, h⟩ := h
  exact h.now rs v (r μ H)
/-! ### a tuple, a list displayed; arguments -/
theorem d_nil : PA X [] (tA t W fun _ S => .ok [] S) := by
  refine PA.weak pa_nil fun σ H Q h => ?_
  obtain ⟨μ, ρ, S, re, rs, h⟩ := h
  exact h.now rs [] rfl
theorem d_cons {es : List Expr} {fs : Env → Sto → R (List D)} (ha : PE X a (tE t W fa)) (hr : PA X es (tA t W fs)) (hs : starEach (a :: es) X.env = (false, eval a X.env) :: starEach es X.env) :
    PA X (a :: es) (tA t W fun ρ S => (fa ρ S).bind fun d S => (fs ρ S).bind fun ds S => .ok (d :: ds) S) := by
  refine PA.weak (pa_cons ha hr hs) fun σ H Q h => ?_
  obtain ⟨μ, ρ, S, re, rs, h⟩ := h
  refine ⟨μ, ρ, S, re, rs, h.bind.imp (fun x S1 μ1 H1 e1 s1 k v rv => ?_) fun _ _ _ _ _ _ z => z⟩
  refine ⟨μ1, ρ, S1, re.ext e1, s1, k.bind.imp (fun y S2 μ2 H2 e2 s2 k2 u ru => ?_) fun _ _ _ _ e2 _ z => z (e1.trans e2)⟩
  exact (k2.now s2) (e2.trans Ext.refl) (e1.trans e2) _ ⟨v, u, rfl, rv.ext e2, ru⟩
end
end Dn
/-! Dn: operators by values. -/
namespace Dn
open PySem L2 -- names

/-- a two-place operation that changes nothing and whose answer is op's -/
def rP (t : Tb) (op : Sto → D → D → Option D) : R2 := fun v u H Q => ∃ μ S x y d, RS t μ S H ∧ RD t μ H x v ∧ RD t μ H y u ∧ op S x y = some d ∧
  ∀ μ' H' w, Ext μ H μ' H' → RS t μ' S H' → RD t μ' H' d w → Q w H'
theorem OpR.weak {X : L2.Cx} {f : Value → Value → Sem Value} {r r' : R2} (h : OpR X f r) (w : ∀ v u H Q, r' v u H Q → r v u H Q) : OpR X f r' :=
  fun pins s σ H x y v u Q I rx ry q => h pins s σ H x y v u Q I rx ry (w x y H Q q)
/-- by cases on the operands, at each state -/
theorem OpR.by {X : L2.Cx} {f : Value → Value → Sem Value} {r' : R2} (h : ∀ v u H Q, r' v u H Q → ∃ r, OpR X f r ∧ r v u H Q) : OpR X f r' :=
  fun pins s σ H x y v u Q I rx ry q => let ⟨r, h1, h2⟩ := h x y H Q q; h1 pins s σ H x y v u Q I rx ry h2

section
variable {t : Tb} {W : Wi} {X : L2.Cx} {a b : Expr} {pos : Pos} {fa fb : Env → Sto → R D}
theorem rP_of {op : Sto → D → D → Option D} (σ : L2.St) (μ : List Addr) (H : Hp) (S : Sto) (x y : D) (v u : V) (Q : VK) (rs : RS t μ S H) (rx : RD t μ H x v) (ry : RD t μ H y u)
    (h : Aft t μ H (R.of (op S x y) S) (fun d _ μ' H' => ∀ w, RD t μ' H' d w → Q w H') (fun x _ μ' H' => ∀ cls dd, RX t μ' H' x cls dd → W.w cls dd σ H')) : rP t op v u H Q := by
  obtain ⟨d, e, h⟩ := h.of
  exact ⟨μ, S, x, y, d, rs, rx, ry, e, fun μ' H' w e s r => h μ' H' e s w r⟩
theorem d_bin {op : Operator} {f : Sto → D → D → Option D} (ho : OpR X (binaryOp op) (rP t f)) (ha : PE X a (tE t W fa)) (hb : PE X b (tE t W fb)) :
    PE X (.BinOp a op b pos) (tE t W fun ρ S => (fa ρ S).bind fun x S => (fb ρ S).bind fun y S => R.of (f S x y) S) :=
  PE.weak (pe_op ho ha hb) (bin_ok (op := fun x y S => R.of (f S x y) S) rP_of)
theorem str_app (a b : List Nat) : ((⟨a.toArray⟩ : Str) ++ (⟨b.toArray⟩ : Str)) = (⟨(a ++ b).toArray⟩ : Str) := by
  show (⟨a.toArray ++ b.toArray⟩ : Str) = _
  simp
theorem str_len (a : List Nat) : (⟨a.toArray⟩ : Str).length = a.length := by
  show a.toArray.size = _
  simp
theorem line_eq : sizeLine = line := sizeLine_eq
theorem rep_rd {μ : List Addr} {H : Hp} {ds : List D} {vs : List V} (r : RDs t μ H ds vs) : ∀ k : Nat, RDs t μ H (List.replicate k ds).flatten (List.replicate k vs).flatten
  | 0 => rfl
  | k + 1 => by
    rw [List.replicate_succ, List.replicate_succ, List.flatten_cons, List.flatten_cons]
    exact r.append (rep_rd r k)
theorem rep_len {α : Type} (ds : List α) : ∀ k : Nat, (List.replicate k ds).flatten.length = k * ds.length
  | 0 => by simp
  | k + 1 => by rw [List.replicate_succ, List.flatten_cons, List.length_append, rep_len ds k, Nat.succ_mul, Nat.add_comm]
theorem rep_le {n : Nat} {k : Int} (h1 : n ≤ 1000) (h2 : k ≤ 1000) : k.toNat * n ≤ line := by
  have h3 : k.toNat ≤ 1000 := by omega
  have := Nat.mul_le_mul h3 h1
  show _ ≤ 16777216
  omega
theorem o_add (hK : X.K = t.K) : OpR X (binaryOp .Add) (rP t fun S => binop S .add) := OpR.by fun v u H Q ⟨μ, S, x, y, d, rs, rx, ry, e, k⟩ => by
  have lists : ∀ {x y : D} {xs ys : List D}, RD t μ H x v → RD t μ H y u → lstOf S x = some xs → lstOf S y = some ys → (if xs.length + ys.length ≤ line then some (D.lst (xs ++ ys)) else none) = some d →
      ∃ r, OpR X (binaryOp .Add) r ∧ r v u H Q := fun {x y xs ys} rx ry e1 e2 e => by
    split at e
    · rename_i hl
      cases e
      obtain ⟨a, vs, rfl, h1, r1⟩ := lstOf_rd rs e1 rx
      obtain ⟨b, us, rfl, h2, r2⟩ := lstOf_rd rs e2 ry
      refine ⟨_, op_cat, a, b, vs, us, rfl, rfl, h1, h2, by rw [← r1.length, ← r2.length, line_eq]; exact hl, fun p hp => ?_⟩
      exact k μ _ _ (Ext.fresh hp) (rs.fresh hp) (RD.newLst rs hp (r1.append r2) (by rw [List.length_append, line_eq]; exact hl))
    · cases e
  replace e := (show bAdd S x y = some d from e)
  unfold bAdd at e
  split at e
  · rename_i i j
    cases e; cases rx; cases ry
    exact ⟨_, op_add, i, j, rfl, rfl, k μ H _ Ext.refl rs rfl⟩
  · rename_i i j
    split at e
    · rename_i hl
      cases e
      obtain ⟨rfl, o1⟩ := rx
      obtain ⟨rfl, o2⟩ := ry
      refine ⟨_, op_add_str, _, _, rfl, rfl, by rw [str_len, str_len, line_eq]; exact hl, ?_⟩
      rw [str_app]
      exact k μ H _ Ext.refl rs ⟨rfl, fun c hc => (List.mem_append.mp hc).elim (o1 c) (o2 c)⟩
    · cases e
  · rename_i i j
    split at e
    · rename_i hl
      cases e
      obtain ⟨a, vs, rfl, f1, r1⟩ := rx
      obtain ⟨b, us, rfl, f2, r2⟩ := ry
      refine ⟨_, op_catA, a, b, vs, us, rfl, rfl, by rw [hK]; exact f1.seq, by rw [hK]; exact f2.seq, by rw [← r1.length, ← r2.length, line_eq]; exact hl, fun z => ?_, fun z z2 => ?_, fun z z2 p hp => ?_⟩
      · subst z
        have : i = [] := List.length_eq_zero_iff.mp r1.length
        subst this
        exact k μ H _ Ext.refl rs ⟨b, us, rfl, f2, r2⟩
      · subst z2
        have : j = [] := List.length_eq_zero_iff.mp r2.length
        subst this
        rw [List.append_nil] at k
        exact k μ H _ Ext.refl rs ⟨a, vs, rfl, f1, r1⟩
      · exact k μ _ _ (Ext.fresh hp) (rs.fresh hp) (RD.newTup rs hp (r1.append r2) (by rw [List.length_append, line_eq]; exact hl))
    · cases e
  · split at e
    · rename_i e1 e2
      exact lists rx ry e1 e2 e
    · cases e
  all_goals first | contradiction | cases e
theorem o_sub : OpR X (binaryOp .Sub) (rP t fun S => binop S .sub) := OpR.by fun v u H Q ⟨μ, S, x, y, d, rs, rx, ry, e, k⟩ => by
  replace e := (show bSub x y = some d from e)
  unfold bSub at e
  split at e
  all_goals first | contradiction | cases e
  cases rx; cases ry
  exact ⟨_, op_sub, _, _, rfl, rfl, k μ H _ Ext.refl rs rfl⟩
theorem o_mod : OpR X (binaryOp .Mod) (rP t fun S => binop S .mod) := OpR.by fun v u H Q ⟨μ, S, x, y, d, rs, rx, ry, e, k⟩ => by
  replace e := (show bMod x y = some d from e)
  unfold bMod at e
  split at e
  all_goals try first | contradiction | (cases e; done)
  split at e
  · rename_i h
    cases e; cases rx; cases ry
    exact ⟨_, op_mod, _, _, rfl, rfl, h, k μ H _ Ext.refl rs rfl⟩
  · cases e
theorem o_fdiv : OpR X (binaryOp .FloorDiv) (rP t fun S => binop S .fdiv) := OpR.by fun v u H Q ⟨μ, S, x, y, d, rs, rx, ry, e, k⟩ => by
  replace e := (show bDiv x y = some d from e)
  unfold bDiv at e
  split at e
  all_goals try first | contradiction | (cases e; done)
  split at e
  · rename_i h
    cases e; cases rx; cases ry
    rw [divOk_eq] at h
    rw [Bool.and_eq_true, Bool.or_eq_true] at h
    obtain ⟨h1, h2 | h2⟩ := h
    · exact ⟨_, op_fdiv, _, _, rfl, rfl, ⟨of_decide_eq_true h1, of_decide_eq_true h2⟩, k μ H _ Ext.refl rs rfl⟩
    · exact ⟨_, op_fdivW, _, _, rfl, rfl, ⟨of_decide_eq_true h1, of_decide_eq_true h2⟩, k μ H _ Ext.refl rs rfl⟩
  · cases e
theorem o_pow : OpR X (binaryOp .Pow) (rP t fun S => binop S .pow) := OpR.by fun v u H Q ⟨μ, S, x, y, d, rs, rx, ry, e, k⟩ => by
  replace e := (show bPow x y = some d from e)
  unfold bPow at e
  split at e
  all_goals try first | contradiction | (cases e; done)
  split at e
  · rename_i h
    cases e; cases rx; cases ry
    exact ⟨_, op_pow, _, _, rfl, rfl, ⟨h.1, h.2.1, h.2.2⟩, k μ H _ Ext.refl rs rfl⟩
  · cases e
theorem o_mul (hK : X.K = t.K) : OpR X (binaryOp .Mult) (rP t fun S => binop S .mul) := OpR.by fun v u H Q ⟨μ, S, x, y, d, rs, rx, ry, e, k⟩ => by
  replace e := (show bMul S x y = some d from e)
  unfold bMul at e
  split at e
  · split at e
    · rename_i h
      cases e; cases rx; cases ry
      rw [mulOk_eq] at h
      rw [Bool.or_eq_true, Bool.or_eq_true] at h
      rcases h with (h | h) | h
      · exact ⟨_, op_mul, _, _, rfl, rfl, .inl (of_decide_eq_true h), k μ H _ Ext.refl rs rfl⟩
      · exact ⟨_, op_mul, _, _, rfl, rfl, .inr (of_decide_eq_true h), k μ H _ Ext.refl rs rfl⟩
      · have hw := of_decide_eq_true h
        exact ⟨_, op_mulW, _, _, rfl, rfl, hw, k μ H _ Ext.refl rs rfl⟩
    · cases e
  · split at e
    · rename_i h
      cases e; cases ry
      obtain ⟨a, vs, rfl, f1, r1⟩ := rx
      refine ⟨_, op_repT, a, _, vs, rfl, rfl, by rw [hK]; exact f1.seq, fun z => h.1 ?_, h.2.2.1, h.2.2.2, by rw [← r1.length]; exact h.2.1, fun p hp => ?_⟩
      · subst z
        exact List.length_eq_zero_iff.mp r1.length
      · exact k μ _ _ (Ext.fresh hp) (rs.fresh hp) (RD.newTup rs hp (rep_rd r1 _) (by rw [rep_len, line_eq]; exact rep_le h.2.1 h.2.2.2))
    · cases e
  · split at e
    · rename_i e1
      split at e
      · rename_i h
        cases e; cases ry
        obtain ⟨a, vs, rfl, h1, r1⟩ := lstOf_rd rs e1 rx
        refine ⟨_, op_rep, a, _, vs, rfl, rfl, h1, by omega, by omega, by rw [← r1.length, line_eq]; exact h.1, fun p hp => ?_⟩
        exact k μ _ _ (Ext.fresh hp) (rs.fresh hp) (RD.newLst rs hp (rep_rd r1 _) (by rw [rep_len, line_eq, Nat.mul_comm]; exact h.1))
      · cases e
    · cases e
  all_goals first | contradiction | cases e
/-! ### comparisons -/
mutual
def toPD : D → PyData
  | .bl b => .bool b
  | .int i => .int i
  | .str s => .str ⟨s.toArray⟩
  | .tup xs => .tuple (toPDs xs)
  | .lst xs => .list (toPDs xs)
  | _ => .none
def toPDs : List D → List PyData
  | [] => []
  | x :: xs => toPD x :: toPDs xs
end
mutual
theorem toPD_dep : ∀ (n : Nat) (d : D), pd n d = true → (toPD d).depth ≤ n
  | _, .non, _ => by simp [toPD, PyData.depth]
  | _, .bl _, _ => by simp [toPD, PyData.depth]
  | _, .int _, _ => by simp [toPD, PyData.depth]
  | _, .str _, _ => by simp [toPD, PyData.depth]
  | 0, .tup xs, h => by simp [pd] at h
  | 0, .lst xs, h => by simp [pd] at h
  | n + 1, .tup xs, h => by
    have := toPDs_dep n xs (by simpa [pd] using h)
    simp only [toPD, PyData.depth]; omega
  | n + 1, .lst xs, h => by
    have := toPDs_dep n xs (by simpa [pd] using h)
    simp only [toPD, PyData.depth]; omega
  | _, .dic _ _, h => by simp [pd] at h
  | _, .ins _ _ _, h => by simp [pd] at h
  | _, .ref _, h => by simp [pd] at h
  | _, .fn _, h => by simp [pd] at h
  | _, .scr _, h => by simp [pd] at h
theorem toPDs_dep : ∀ (n : Nat) (ds : List D), pds n ds = true → PyData.depthAll (toPDs ds) ≤ n
  | _, [], _ => by simp [toPDs, PyData.depthAll]
  | n, d :: ds, h => by
    have h' : pd n d = true ∧ pds n ds = true := by simpa [pds] using h
    have h1 := toPD_dep n d h'.1
    have h2 := toPDs_dep n ds h'.2
    simp only [toPDs, PyData.depthAll]
    omega
end
mutual
theorem eqB_pd : ∀ (n m : Nat) (a b : D), pd n a = true → pd m b = true → PyData.eqv (toPD a) (toPD b) = eqB a b
  | n, m, .tup xs, b, ha, hb => by
    cases n with
    | zero => simp [pd] at ha
    | succ n =>
      cases b with
      | tup ys =>
        cases m with
        | zero => simp [pd] at hb
        | succ m =>
          rw [toPD, toPD, PyData.eqv, eqB]
          exact eqBs_pd n m xs ys (by simpa [pd] using ha) (by simpa [pd] using hb)
      | _ => simp [toPD, PyData.eqv, eqB, pd] at hb ⊢
  | n, m, .lst xs, b, ha, hb => by
    cases n with
    | zero => simp [pd] at ha
    | succ n =>
      cases b with
      | lst ys =>
        cases m with
        | zero => simp [pd] at hb
        | succ m =>
          rw [toPD, toPD, PyData.eqv, eqB]
          exact eqBs_pd n m xs ys (by simpa [pd] using ha) (by simpa [pd] using hb)
      | _ => simp [toPD, PyData.eqv, eqB, pd] at hb ⊢
  | n, m, .non, b, ha, hb => by cases b <;> simp [toPD, PyData.eqv, eqB, pd] at hb ⊢
  | n, m, .bl x, b, ha, hb => by cases b <;> simp [toPD, PyData.eqv, eqB, pd, Bool.beq_eq_decide_eq] at hb ⊢
  | n, m, .int x, b, ha, hb => by cases b <;> simp [toPD, PyData.eqv, eqB, pd, Bool.beq_eq_decide_eq] at hb ⊢
  | n, m, .str x, b, ha, hb => by cases b <;> simp [toPD, PyData.eqv, eqB, pd, Bool.beq_eq_decide_eq] at hb ⊢
  | _, _, .dic _ _, _, h, _ => by simp [pd] at h
  | _, _, .ins _ _ _, _, h, _ => by simp [pd] at h
  | _, _, .ref _, _, h, _ => by simp [pd] at h
  | _, _, .fn _, _, h, _ => by simp [pd] at h
  | _, _, .scr _, _, h, _ => by simp [pd] at h
theorem eqBs_pd : ∀ (n m : Nat) (as bs : List D), pds n as = true → pds m bs = true → PyData.eqvAll (toPDs as) (toPDs bs) = eqBs as bs
  | _, _, [], [], _, _ => by simp [toPDs, PyData.eqvAll, eqBs]
  | _, _, [], b :: bs, _, _ => by simp [toPDs, PyData.eqvAll, eqBs]
  | _, _, a :: as, [], _, _ => by simp [toPDs, PyData.eqvAll, eqBs]
  | n, m, a :: as, b :: bs, ha, hb => by
    have ha' : pd n a = true ∧ pds n as = true := by simpa [pds] using ha
    have hb' : pd m b = true ∧ pds m bs = true := by simpa [pds] using hb
    rw [toPDs, toPDs, PyData.eqvAll, eqBs, eqB_pd n m a b ha'.1 hb'.1, eqBs_pd n m as bs ha'.2 hb'.2]
end
mutual
theorem dp_of {μ : List Addr} {H : Hp} (n : Nat) : ∀ (d : D) (v : V), pd n d = true → RD t μ H d v → Dp t.K H v (toPD d) ∧ (toPD d).canLay0 = true
  | .non, _, _, r => by cases r; exact ⟨.non, rfl⟩
  | .bl b, _, _, r => by cases r; exact ⟨.bl b, rfl⟩
  | .int i, _, _, r => by cases r; exact ⟨.int i, rfl⟩
  | .str s, _, _, r => by
    obtain ⟨rfl, o⟩ := r
    refine ⟨.str _, ?_⟩
    show PyData.strOk _ = true
    unfold PyData.strOk
    simp only [List.all_toArray, List.all_eq_true, decide_eq_true_eq]
    exact o
  | .tup xs, _, h, r => by
    obtain ⟨a, vs, rfl, f, r⟩ := r
    cases n with
    | zero => simp [pd] at h
    | succ n =>
      obtain ⟨h1, h2⟩ := dps_of n xs vs (by simpa [pd] using h) r
      rw [toPD]
      exact ⟨.tup f.seq h1, by simpa [PyData.canLay0] using h2⟩
  | .lst xs, _, h, r => by
    obtain ⟨a, vs, rfl, f, r⟩ := r
    cases n with
    | zero => simp [pd] at h
    | succ n =>
      obtain ⟨h1, h2⟩ := dps_of n xs vs (by simpa [pd] using h) r
      rw [toPD]
      exact ⟨.lst (SqL.of f.2) h1, by simpa [PyData.canLay0] using h2⟩
  | .dic _ _, _, h, _ => by simp [pd] at h
  | .ins _ _ _, _, h, _ => by simp [pd] at h
  | .ref _, _, h, _ => by simp [pd] at h
  | .fn _, _, h, _ => by simp [pd] at h
  | .scr _, _, h, _ => by simp [pd] at h
theorem dps_of {μ : List Addr} {H : Hp} (n : Nat) : ∀ (ds : List D) (vs : List V), pds n ds = true → RDs t μ H ds vs → DpAll t.K H vs (toPDs ds) ∧ PyData.canLayAll0 (toPDs ds) = true
  | [], _, _, r => by cases r; exact ⟨.nil, rfl⟩
  | d :: ds, _, h, r => by
    obtain ⟨v, vr, rfl, r1, r2⟩ := r
    have h' : pd n d = true ∧ pds n ds = true := by simpa [pds] using h
    obtain ⟨a1, b1⟩ := dp_of n d v h'.1 r1
    obtain ⟨a2, b2⟩ := dps_of n ds vr h'.2 r2
    rw [toPDs]
    exact ⟨.cons a1 a2, by simp [PyData.canLayAll0, b1, b2]⟩
end
/-- a value, or a cell read as one -/
theorem dp_rd {μ : List Addr} {H : Hp} {S : Sto} (rs : RS t μ S H) {n : Nat} {d : D} {v : V} (h : pd n (rdOf S d) = true) (r : RD t μ H d v) : Dp t.K H v (toPD (rdOf S d)) ∧ (toPD (rdOf S d)).canLay0 = true := by
  cases d with
  | ref l =>
    obtain ⟨a, hl, rfl⟩ := r
    simp only [rdOf] at h ⊢
    split
    · rename_i xs q
      rw [q] at h
      obtain ⟨vs, h1, h2⟩ := rs.get l _ a q hl
      cases n with
      | zero => simp [pd] at h
      | succ n =>
        obtain ⟨h3, h4⟩ := dps_of n xs vs (by simpa [pd] using h) h2
        rw [toPD]
        exact ⟨.lst (SqL.of h1) h3, by simpa [PyData.canLay0] using h4⟩
    all_goals
      rename_i q
      rw [q] at h
      simp [pd] at h
  | _ => exact dp_of n _ v h r
theorem shaped_of {d : D} (h : pd 60 d = true) (c : (toPD d).canLay0 = true) : SeqAt.shaped (toPD d) = true := by
  unfold SeqAt.shaped
  have := toPD_dep 60 d h
  rw [c, Bool.true_and]
  exact decide_eq_true (by omega)
/-- a comparison whose answer is op's -/
def rB (t : Tb) (op : Sto → D → D → Option Bool) : R2 := fun v u H Q => ∃ μ S x y c, RS t μ S H ∧ RD t μ H x v ∧ RD t μ H y u ∧ op S x y = some c ∧ Q (.bl c) H
theorem o_eq (hK : X.K = t.K) (hu : X.A.units + 65 < cLine) : OpR X (compareOp .Eq) (rB t fun S => cmpop S .eq) := OpR.by fun v u H Q ⟨μ, S, x, y, c, rs, rx, ry, e, k⟩ => by
  replace e : eqd (rdOf S x) (rdOf S y) = some c := e
  unfold eqd at e
  split at e
  · rename_i h
    rw [Bool.and_eq_true] at h
    cases e
    obtain ⟨d1, c1⟩ := dp_rd rs h.1 rx
    obtain ⟨d2, c2⟩ := dp_rd rs h.2 ry
    refine ⟨_, op_eqD (by omega), _, _, by rw [hK]; exact d1, by rw [hK]; exact d2, shaped_of h.1 c1, shaped_of h.2 c2, ?_⟩
    rw [eqB_pd 60 60 _ _ h.1 h.2]
    exact k
  · cases e
theorem o_ne (hK : X.K = t.K) (hu : X.A.units + 65 < cLine) : OpR X (compareOp .NotEq) (rB t fun S => cmpop S .ne) := OpR.by fun v u H Q ⟨μ, S, x, y, c, rs, rx, ry, e, k⟩ => by
  replace e : (eqd (rdOf S x) (rdOf S y)).map (!·) = some c := e
  unfold eqd at e
  split at e
  · rename_i h
    rw [Bool.and_eq_true] at h
    cases e
    obtain ⟨d1, c1⟩ := dp_rd rs h.1 rx
    obtain ⟨d2, c2⟩ := dp_rd rs h.2 ry
    refine ⟨_, op_neD (by omega), _, _, by rw [hK]; exact d1, by rw [hK]; exact d2, shaped_of h.1 c1, shaped_of h.2 c2, ?_⟩
    rw [eqB_pd 60 60 _ _ h.1 h.2]
    exact k
  · cases e
theorem str_list (a : List Nat) : ((⟨a.toArray⟩ : Str).cps.toList) = a := by simp
theorem intsD_rd {μ : List Addr} {H : Hp} : ∀ {ds : List D} {vs : List V} {ns : List Int}, intsD ds = some ns → RDs t μ H ds vs → vs = ns.map V.int
  | [], _, _, e, r => by cases e; cases r; rfl
  | d :: ds, _, ns, e, r => by
    obtain ⟨v, vr, rfl, r1, r2⟩ := r
    unfold intsD at e
    split at e
    · rename_i q; cases q
    · rename_i q
      injection q with q1 q2
      subst q1 q2
      cases q : intsD ds with
      | none => rw [q] at e; cases e
      | some ms =>
        rw [q] at e
        cases e
        cases r1
        rw [intsD_rd q r2]
        rfl
    · cases e
mutual
theorem alk_pd : ∀ (n m : Nat) (a b : D), pd n a = true → pd m b = true → PySem.W.alike (toPD a) (toPD b) = alk a b
  | n, m, .tup xs, b, ha, hb => by
    cases n with
    | zero => simp [pd] at ha
    | succ n =>
      cases b with
      | tup ys =>
        cases m with
        | zero => simp [pd] at hb
        | succ m =>
          rw [toPD, toPD, PySem.W.alike, alk]
          exact alks_pd n m xs ys (by simpa [pd] using ha) (by simpa [pd] using hb)
      | _ => simp [toPD, PySem.W.alike, alk, pd] at hb ⊢
  | n, m, .lst xs, b, ha, hb => by
    cases n with
    | zero => simp [pd] at ha
    | succ n =>
      cases b with
      | lst ys =>
        cases m with
        | zero => simp [pd] at hb
        | succ m =>
          rw [toPD, toPD, PySem.W.alike, alk]
          exact alks_pd n m xs ys (by simpa [pd] using ha) (by simpa [pd] using hb)
      | _ => simp [toPD, PySem.W.alike, alk, pd] at hb ⊢
  | n, m, .non, b, ha, hb => by cases b <;> simp [toPD, PySem.W.alike, alk, pd] at hb ⊢
  | n, m, .bl x, b, ha, hb => by cases b <;> simp [toPD, PySem.W.alike, alk, pd] at hb ⊢
  | n, m, .int x, b, ha, hb => by cases b <;> simp [toPD, PySem.W.alike, alk, pd] at hb ⊢
  | n, m, .str x, b, ha, hb => by cases b <;> simp [toPD, PySem.W.alike, alk, pd] at hb ⊢
  | _, _, .dic _ _, _, h, _ => by simp [pd] at h
  | _, _, .ins _ _ _, _, h, _ => by simp [pd] at h
  | _, _, .ref _, _, h, _ => by simp [pd] at h
  | _, _, .fn _, _, h, _ => by simp [pd] at h
  | _, _, .scr _, _, h, _ => by simp [pd] at h
theorem alks_pd : ∀ (n m : Nat) (as bs : List D), pds n as = true → pds m bs = true → PySem.W.alikeAll (toPDs as) (toPDs bs) = alks as bs
  | _, _, [], [], _, _ => by simp [toPDs, PySem.W.alikeAll, alks]
  | _, _, [], b :: bs, _, _ => by simp [toPDs, PySem.W.alikeAll, alks]
  | _, _, a :: as, [], _, _ => by simp [toPDs, PySem.W.alikeAll, alks]
  | n, m, a :: as, b :: bs, ha, hb => by
    have ha' : pd n a = true ∧ pds n as = true := by simpa [pds] using ha
    have hb' : pd m b = true ∧ pds m bs = true := by simpa [pds] using hb
    rw [toPDs, toPDs, PySem.W.alikeAll, alks, alk_pd n m a b ha'.1 hb'.1, alks_pd n m as bs ha'.2 hb'.2]
end
mutual
theorem ltB_pd : ∀ (n m : Nat) (a b : D), pd n a = true → pd m b = true → alk a b = true → PySem.W.dataLt (toPD a) (toPD b) = ltB a b
  | n, m, .tup xs, b, ha, hb, hk => by
    cases n with
    | zero => simp [pd] at ha
    | succ n =>
      cases b with
      | tup ys =>
        cases m with
        | zero => simp [pd] at hb
        | succ m =>
          rw [toPD, toPD, PySem.W.dataLt_tuple, ltB]
          exact ltBs_pd n m xs ys (by simpa [pd] using ha) (by simpa [pd] using hb) (by simpa [alk] using hk)
      | _ => simp [alk] at hk
  | n, m, .lst xs, b, ha, hb, hk => by
    cases n with
    | zero => simp [pd] at ha
    | succ n =>
      cases b with
      | lst ys =>
        cases m with
        | zero => simp [pd] at hb
        | succ m =>
          rw [toPD, toPD, PySem.W.dataLt_list, ltB]
          exact ltBs_pd n m xs ys (by simpa [pd] using ha) (by simpa [pd] using hb) (by simpa [alk] using hk)
      | _ => simp [alk] at hk
  | n, m, .non, b, ha, hb, hk => by cases b <;> first | (simp [alk] at hk; done) | rfl
  | n, m, .bl x, b, ha, hb, hk => by
    cases b <;> first | (simp [alk] at hk; done) | skip
    rename_i y
    rw [toPD, toPD, PySem.W.dataLt_bool]
    cases x <;> cases y <;> rfl
  | n, m, .int x, b, ha, hb, hk => by
    cases b <;> first | (simp [alk] at hk; done) | skip
    rw [toPD, toPD, PySem.W.dataLt_int, ltB]
  | n, m, .str x, b, ha, hb, hk => by
    cases b <;> first | (simp [alk] at hk; done) | skip
    rw [toPD, toPD, PySem.W.dataLt_str, ltB]
  | _, _, .dic _ _, _, h, _, _ => by simp [pd] at h
  | _, _, .ins _ _ _, _, h, _, _ => by simp [pd] at h
  | _, _, .ref _, _, h, _, _ => by simp [pd] at h
  | _, _, .fn _, _, h, _, _ => by simp [pd] at h
  | _, _, .scr _, _, h, _, _ => by simp [pd] at h
theorem ltBs_pd : ∀ (n m : Nat) (as bs : List D), pds n as = true → pds m bs = true → alks as bs = true → PyProof.Rows.lexLt PyProof.Rows.itemOrd (PySem.W.keyToksAll (toPDs as)) (PySem.W.keyToksAll (toPDs bs)) = ltBs as bs
  | _, _, [], [], _, _, _ => by rw [toPDs, ltBs]; first | rfl | decide | exact PySem.W.lex_irrefl _
  | _, _, [], b :: bs, _, _, _ => by
    rw [toPDs, toPDs, ltBs, PySem.W.keyToksAll, PySem.W.keyToksAll, PySem.W.lex_atom (by decide), PySem.W.lex_one]
    decide
  | _, _, a :: as, [], _, _, _ => by
    rw [toPDs, toPDs, ltBs, PySem.W.keyToksAll, PySem.W.keyToksAll, PySem.W.lex_atom (by decide), PySem.W.lex_one]
    decide
  | n, m, a :: as, b :: bs, ha, hb, hk => by
    have ha' : pd n a = true ∧ pds n as = true := by simpa [pds] using ha
    have hb' : pd m b = true ∧ pds m bs = true := by simpa [pds] using hb
    have hk' : alk a b = true ∧ alks as bs = true := by simpa [alks] using hk
    rw [toPDs, toPDs, PySem.W.dataLt_cons (by rw [alk_pd n m a b ha'.1 hb'.1]; exact hk'.1), eqB_pd n m a b ha'.1 hb'.1, ltBs_pd n m as bs ha'.2 hb'.2 hk'.2, ltB_pd n m a b ha'.1 hb'.1 hk'.1, ltBs]
end
/-- data compared: by their order -/
def rDt (K : PySem.W.Frag) (f : PyData → PyData → Bool) (sw : Bool) : R2 := fun v u H Q => ∃ d e, Dp K H v d ∧ Dp K H u e ∧ (if sw then PySem.W.alike e d else PySem.W.alike d e) = true ∧ d ≠ .none ∧ e ≠ .none ∧ d.depth ≤ 60 ∧ Q (.bl (f d e)) H
section
variable {X : L2.Cx}
theorem op_ltDt (hu : X.A.units + 65 < cLine) : OpR X (compareOp .Lt) (rDt X.K (fun d e => PySem.W.dataLt d e) false) := by
  intro pins s σ H x y v u Q I rx ry ⟨d, e, h1, h2, h3, h4, h5, h6, q⟩
  obtain ⟨as, r1⟩ := Dp.reads I d x v h1 rx
  obtain ⟨bs, r2⟩ := Dp.reads I e y u h2 ry
  exact PySem.W.lt_data r1 r2 h3 h4 (by omega) ⟨.bl _, H, I, rfl, q⟩
theorem op_gtDt (hu : X.A.units + 65 < cLine) : OpR X (compareOp .Gt) (rDt X.K (fun d e => PySem.W.dataLt e d) true) := by
  intro pins s σ H x y v u Q I rx ry ⟨d, e, h1, h2, h3, h4, h5, h6, q⟩
  obtain ⟨as, r1⟩ := Dp.reads I d x v h1 rx
  obtain ⟨bs, r2⟩ := Dp.reads I e y u h2 ry
  exact PySem.W.gt_data r1 r2 (by rw [PySem.W.alike_comm]; exact h3) h4 (by omega) ⟨.bl _, H, I, rfl, q⟩
theorem op_leDt (hu : X.A.units + 65 < cLine) : OpR X (compareOp .LtE) (rDt X.K (fun d e => !PySem.W.dataLt e d) true) := by
  intro pins s σ H x y v u Q I rx ry ⟨d, e, h1, h2, h3, h4, h5, h6, q⟩
  obtain ⟨as, r1⟩ := Dp.reads I d x v h1 rx
  obtain ⟨bs, r2⟩ := Dp.reads I e y u h2 ry
  exact PySem.W.le_data r1 r2 (by rw [PySem.W.alike_comm]; exact h3) h4 (by omega) ⟨.bl _, H, I, rfl, q⟩
theorem op_geDt (hu : X.A.units + 65 < cLine) : OpR X (compareOp .GtE) (rDt X.K (fun d e => !PySem.W.dataLt d e) false) := by
  intro pins s σ H x y v u Q I rx ry ⟨d, e, h1, h2, h3, h4, h5, h6, q⟩
  obtain ⟨as, r1⟩ := Dp.reads I d x v h1 rx
  obtain ⟨bs, r2⟩ := Dp.reads I e y u h2 ry
  exact PySem.W.ge_data r1 r2 h3 h4 (by omega) ⟨.bl _, H, I, rfl, q⟩
end
/-- two tuples that can be compared -/
theorem tup_dt (hK : X.K = t.K) {f : PyData → PyData → Bool} {sw : Bool} {μ : List Addr} {H : Hp} {S : Sto} {xs ys : List D} {v u : V} {Q : VK} (rs : RS t μ S H) (rx : RD t μ H (.tup xs) v) (ry : RD t μ H (.tup ys) u) (h1 : pd 60 (.tup xs) = true) (h2 : pd 60 (.tup ys) = true)
    (h3 : (if sw then alk (.tup ys) (.tup xs) else alk (.tup xs) (.tup ys)) = true) (k : Q (.bl (f (toPD (.tup xs)) (toPD (.tup ys)))) H) : rDt X.K f sw v u H Q := by
  obtain ⟨d1, _⟩ := dp_of 60 _ v h1 rx
  obtain ⟨d2, _⟩ := dp_of 60 _ u h2 ry
  refine ⟨_, _, by rw [hK]; exact d1, by rw [hK]; exact d2, ?_, by rw [toPD]; simp, by rw [toPD]; simp, toPD_dep 60 _ h1, k⟩
  cases sw with
  | true => rw [if_pos rfl, alk_pd 60 60 _ _ h2 h1]; simpa using h3
  | false => rw [if_neg (by decide), alk_pd 60 60 _ _ h1 h2]; simpa using h3
theorem and3 {a b c : Bool} (h : (a && b && c) = true) : a = true ∧ b = true ∧ c = true := by
  rw [Bool.and_eq_true, Bool.and_eq_true] at h
  exact ⟨h.1.1, h.1.2, h.2⟩
theorem o_lt (hK : X.K = t.K) (hu : X.A.units + 65 < cLine) : OpR X (compareOp .Lt) (rB t fun S => cmpop S .lt) := OpR.by fun v u H Q ⟨μ, S, x, y, c, rs, rx, ry, e, k⟩ => by
  replace e : cLt x y = some c := e
  unfold cLt at e
  split at e
  · cases e; cases rx; cases ry
    exact ⟨_, op_lt, _, _, rfl, rfl, k⟩
  · cases e
    obtain ⟨rfl, _⟩ := rx
    obtain ⟨rfl, _⟩ := ry
    refine ⟨_, op_lt_str, _, _, rfl, rfl, ?_⟩
    rw [str_list, str_list]
    exact k
  · split at e
    · rename_i h
      obtain ⟨h1, h2, h3⟩ := and3 h
      cases e
      refine ⟨_, op_ltDt hu, tup_dt hK rs rx ry h1 h2 (by simpa using h3) ?_⟩
      rw [ltB_pd 60 60 _ _ h1 h2 h3, ltB]
      exact k
    · cases e
  · cases e
theorem o_gt (hK : X.K = t.K) (hu : X.A.units + 65 < cLine) : OpR X (compareOp .Gt) (rB t fun S => cmpop S .gt) := OpR.by fun v u H Q ⟨μ, S, x, y, c, rs, rx, ry, e, k⟩ => by
  replace e : cLt y x = some c := e
  unfold cLt at e
  split at e
  · cases e; cases rx; cases ry
    exact ⟨_, op_gt, _, _, rfl, rfl, k⟩
  · cases e
    obtain ⟨rfl, _⟩ := rx
    obtain ⟨rfl, _⟩ := ry
    refine ⟨_, op_gt_str, _, _, rfl, rfl, ?_⟩
    rw [str_list, str_list]
    exact k
  · split at e
    · rename_i h
      obtain ⟨h1, h2, h3⟩ := and3 h
      cases e
      refine ⟨_, op_gtDt hu, tup_dt hK rs rx ry h2 h1 (by simpa using h3) ?_⟩
      rw [ltB_pd 60 60 _ _ h1 h2 h3, ltB]
      exact k
    · cases e
  · cases e
theorem nlt_le (a b : List Nat) : (!decide (b < a)) = decide (a ≤ b) := by
  by_cases h : b < a
  · rw [decide_eq_true h, decide_eq_false (List.not_le.mpr h)]; rfl
  · rw [decide_eq_false h, decide_eq_true (List.not_lt.mp h)]; rfl
theorem o_le (hK : X.K = t.K) (hu : X.A.units + 65 < cLine) : OpR X (compareOp .LtE) (rB t fun S x y => cmpop S .le x y) := OpR.by fun v u H Q ⟨μ, S, x, y, c, rs, rx, ry, e, k⟩ => by
  replace e : cLe x y = some c := e
  unfold cLe at e
  split at e
  · cases e; cases rx; cases ry
    exact ⟨_, op_le, _, _, rfl, rfl, k⟩
  · cases e
    obtain ⟨rfl, _⟩ := rx
    obtain ⟨rfl, _⟩ := ry
    refine ⟨_, op_le_str, _, _, rfl, rfl, ?_⟩
    rw [str_list, str_list]
    rw [nlt_le]
    exact k
  · split at e
    · rename_i h
      obtain ⟨h1, h2, h3⟩ := and3 h
      cases e
      refine ⟨_, op_leDt hu, tup_dt hK rs rx ry h1 h2 (by simpa using h3) ?_⟩
      rw [ltB_pd 60 60 _ _ h2 h1 h3, ltB]
      exact k
    · cases e
  · cases e
theorem o_ge (hK : X.K = t.K) (hu : X.A.units + 65 < cLine) : OpR X (compareOp .GtE) (rB t fun S x y => cmpop S .ge x y) := OpR.by fun v u H Q ⟨μ, S, x, y, c, rs, rx, ry, e, k⟩ => by
  replace e : cLe y x = some c := e
  unfold cLe at e
  split at e
  · cases e; cases rx; cases ry
    exact ⟨_, op_ge, _, _, rfl, rfl, k⟩
  · cases e
    obtain ⟨rfl, _⟩ := rx
    obtain ⟨rfl, _⟩ := ry
    refine ⟨_, op_ge_str, _, _, rfl, rfl, ?_⟩
    rw [str_list, str_list]
    rw [nlt_le]
    exact k
  · split at e
    · rename_i h
      obtain ⟨h1, h2, h3⟩ := and3 h
      cases e
      refine ⟨_, op_geDt hu, tup_dt hK rs rx ry h2 h1 (by simpa using h3) ?_⟩
      rw [ltB_pd 60 60 _ _ h2 h1 h3, ltB]
      exact k
    · cases e
  · cases e
/-! ### in -/
def rInX (K : PySem.W.Frag) (neg : Bool) : R2 := fun x y H Q => ∃ d ds, Dp K H x d ∧ (Dp K H y (.list ds) ∨ Dp K H y (.tuple ds)) ∧ SeqAt.shaped d = true ∧ PyData.canLayAll0 ds = true ∧
  Q (.bl (if neg then !(ds.any fun z => PyData.eqv z d) else ds.any fun z => PyData.eqv z d)) H
theorem op_inX (hu : X.A.units + 65 < cLine) : OpR X (compareOp .In) (rInX X.K false) := by
  intro pins s σ H x y v u Q I rx ry h
  obtain ⟨d, ds, hd, he, sd, se, q⟩ := h
  obtain ⟨as, r1⟩ := Dp.reads I d x v hd rx
  have room : X.A.units + 1 + min (PyData.depthAll ds) d.depth < cLine := by have := SeqAt.depth_of_shaped sd; omega
  rcases he with he | he
  · obtain ⟨bs, r2⟩ := Dp.reads I _ y u he ry
    exact SeqAt.in_list_reads r2 r1 se (SeqAt.canLay_of_shaped sd) room ⟨.bl _, H, I, rfl, q⟩
  · obtain ⟨bs, r2⟩ := Dp.reads I _ y u he ry
    exact SeqAt.in_tuple_reads r2 r1 se (SeqAt.canLay_of_shaped sd) room ⟨.bl _, H, I, rfl, q⟩
theorem op_notinX (hu : X.A.units + 65 < cLine) : OpR X (compareOp .NotIn) (rInX X.K true) := by
  intro pins s σ H x y v u Q I rx ry h
  obtain ⟨d, ds, hd, he, sd, se, q⟩ := h
  obtain ⟨as, r1⟩ := Dp.reads I d x v hd rx
  have room : X.A.units + 1 + min (PyData.depthAll ds) d.depth < cLine := by have := SeqAt.depth_of_shaped sd; omega
  rcases he with he | he
  · obtain ⟨bs, r2⟩ := Dp.reads I _ y u he ry
    exact SeqAt.notIn_list_reads r2 r1 se (SeqAt.canLay_of_shaped sd) room ⟨.bl _, H, I, rfl, q⟩
  · obtain ⟨bs, r2⟩ := Dp.reads I _ y u he ry
    exact SeqAt.notIn_tuple_reads r2 r1 se (SeqAt.canLay_of_shaped sd) room ⟨.bl _, H, I, rfl, q⟩
theorem any_pd (d : D) (hd : pd 60 d = true) : ∀ ds : List D, pds 60 ds = true → ((toPDs ds).any fun z => PyData.eqv z (toPD d)) = ds.any fun y => eqB y d
  | [], _ => rfl
  | x :: xs, h => by
    have h' : pd 60 x = true ∧ pds 60 xs = true := by simpa [pds] using h
    rw [toPDs, List.any_cons, List.any_cons, eqB_pd 60 60 x d h'.1 hd, any_pd d hd xs h'.2]
theorem in_rd (hK : X.K = t.K) {μ : List Addr} {H : Hp} {S : Sto} (rs : RS t μ S H) {x y : D} {v u : V} {c : Bool} (rx : RD t μ H x v) (ry : RD t μ H y u) (e : ((seqOf S y).bind fun xs => inv (rdOf S x) xs) = some c) {Q : VK} {neg : Bool}
    (k : Q (.bl (if neg then !c else c)) H) : rInX X.K neg v u H Q := by
  cases q : seqOf S y with
  | none => rw [q] at e; cases e
  | some xs =>
    rw [q] at e
    replace e : inv (rdOf S x) xs = some c := e
    unfold inv at e
    split at e
    · rename_i h
      rw [Bool.and_eq_true] at h
      cases e
      obtain ⟨d1, c1⟩ := dp_rd rs h.1 rx
      obtain ⟨a, vs, rfl, hs, r⟩ := seqOf_rd rs q ry
      obtain ⟨d2, c2⟩ := dps_of 60 xs vs h.2 r
      refine ⟨toPD (rdOf S x), toPDs xs, by rw [hK]; exact d1, ?_, shaped_of h.1 c1, c2, by rw [any_pd _ h.1 xs h.2]; exact k⟩
      rw [hK]
      exact hs.imp (fun z => .lst z d2) fun z => .tup z d2
    · cases e
theorem o_in (hK : X.K = t.K) (hu : X.A.units + 65 < cLine) : OpR X (compareOp .In) (rB t fun S => cmpop S .inn) := OpR.by fun v u H Q ⟨μ, S, x, y, c, rs, rx, ry, e, k⟩ => by
  replace e : cIn S x y = some c := e
  unfold cIn at e
  split at e
  · split at e
    · cases e
      obtain ⟨rfl, _⟩ := rx
      obtain ⟨rfl, _⟩ := ry
      exact ⟨_, op_in_sign, _, _, rfl, rfl, by rw [str_list]; exact k⟩
    · cases e
  · exact ⟨_, op_inX hu, in_rd hK rs rx ry e k⟩
theorem o_notin (hK : X.K = t.K) (hu : X.A.units + 65 < cLine) : OpR X (compareOp .NotIn) (rB t fun S => cmpop S .notin) := OpR.by fun v u H Q ⟨μ, S, x, y, c, rs, rx, ry, e, k⟩ => by
  replace e : (cIn S x y).map (!·) = some c := e
  cases q : cIn S x y with
  | none => rw [q] at e; cases e
  | some c' =>
    rw [q] at e
    cases e
    unfold cIn at q
    split at q
    · split at q
      · cases q
        obtain ⟨rfl, _⟩ := rx
        obtain ⟨rfl, _⟩ := ry
        exact ⟨_, op_notIn_sign, _, _, rfl, rfl, by rw [str_list]; exact k⟩
      · cases q
    · exact ⟨_, op_notinX hu, in_rd hK rs rx ry q k⟩
/-! ### is None -/
theorem non_rd {μ : List Addr} {H : Hp} {d : D} {v : V} (r : RD t μ H d v) : decide (v = .non) = cNon d := by
  cases d with
  | non => cases r; rfl
  | bl b => cases r; rfl
  | int i => cases r; rfl
  | str s => obtain ⟨rfl, _⟩ := r; rfl
  | fn f => cases r; rfl
  | tup ds => obtain ⟨a, vs, rfl, _⟩ := r; rfl
  | lst ds => obtain ⟨a, vs, rfl, _⟩ := r; rfl
  | scr ds => obtain ⟨a, vs, rfl, _⟩ := r; rfl
  | dic ks ds => obtain ⟨a, vs, rfl, _⟩ := r; rfl
  | ins c i ds => obtain ⟨a, dx, vs, rfl, _⟩ := r; rfl
  | ref l => obtain ⟨a, _, rfl⟩ := r; rfl
theorem o_is : OpR X (compareOp .Is) (rB t fun S => cmpop S .isn) := OpR.by fun v u H Q ⟨μ, S, x, y, c, rs, rx, ry, e, k⟩ => by
  replace e : (if cNon y then some (cNon x) else none) = some c := e
  split at e
  · rename_i h
    cases e
    refine ⟨_, op_isN, ?_, by rw [non_rd rx]; exact k⟩
    rw [← non_rd ry] at h
    exact of_decide_eq_true h
  · cases e
theorem o_isnot : OpR X (compareOp .IsNot) (rB t fun S => cmpop S .notn) := OpR.by fun v u H Q ⟨μ, S, x, y, c, rs, rx, ry, e, k⟩ => by
  replace e : (if cNon y then some (!cNon x) else none) = some c := e
  split at e
  · rename_i h
    cases e
    refine ⟨_, op_notN, ?_, by rw [non_rd rx]; exact k⟩
    rw [← non_rd ry] at h
    exact of_decide_eq_true h
  · cases e
end
end Dn
/-! Dn: built-in functions by values. -/
namespace Dn
open PySem L2 -- names

def rC (t : Tb) (op : List D → Sto → R D) : List V → Hp → VK → Prop := fun vs H Q => ∃ μ S ds, RS t μ S H ∧ RDs t μ H ds vs ∧
  Aft t μ H (op ds S) (fun d _ μ' H' => ∀ w, RD t μ' H' d w → Q w H') (fun _ _ _ _ => False)
theorem CallR.by {X : L2.Cx} {f : Value} {r' : List V → Hp → VK → Prop} (h : ∀ vs H Q, r' vs H Q → ∃ r, CallR X f r ∧ r vs H Q) : CallR X f r' :=
  fun pins s σ H xs us Q I rx q => let ⟨r, h1, h2⟩ := h xs H Q q; h1 pins s σ H xs us Q I rx h2
section
variable {t : Tb} {W : Wi} {X : L2.Cx} {μ : List Addr} {H : Hp} {S : Sto}
theorem RDs.one {d : D} {vs : List V} (r : RDs t μ H [d] vs) : ∃ v, vs = [v] ∧ RD t μ H d v := by
  obtain ⟨v, vr, rfl, h1, h2⟩ := r
  cases h2
  exact ⟨v, rfl, h1⟩
theorem RDs.two {d e : D} {vs : List V} (r : RDs t μ H [d, e] vs) : ∃ v u, vs = [v, u] ∧ RD t μ H d v ∧ RD t μ H e u := by
  obtain ⟨v, vr, rfl, h1, h2⟩ := r
  obtain ⟨u, rfl, h3⟩ := RDs.one h2
  exact ⟨v, u, rfl, h1, h3⟩
theorem mkL_ok (rs : RS t μ S H) {p : Addr} (hp : H p = none) {ds : List D} {vs : List V} (r : RDs t μ H ds vs) {cell : Bool} {Q : VK} {kx : Xn → Sto → List Addr → Hp → Prop}
    (h : Aft t μ H (mkL cell ds S) (fun d _ μ' H' => ∀ w, RD t μ' H' d w → Q w H') kx) (hl : ds.length ≤ sizeLine) : Q (.ref p) (upd H p (.lst vs)) := by
  cases cell with
  | false => exact h μ _ (Ext.fresh hp) (rs.fresh hp) _ (RD.newLst rs hp r hl)
  | true =>
    have e := Ext.cell (μ := μ) (o := .lst vs) hp
    refine h (μ ++ [p]) _ e (rs.cell hp ⟨vs, upd_same, RDs.ext e ds r⟩ hl) _ ⟨p, ?_, rfl⟩
    rw [← rs.len, List.getElem?_append_right (Nat.le_refl _), Nat.sub_self]
    rfl
theorem boolsD_rd : ∀ {ds : List D} {vs : List V} {ns : List Bool}, boolsD ds = some ns → RDs t μ H ds vs → vs = ns.map V.bl
  | [], _, _, e, r => by cases e; cases r; rfl
  | d :: ds, _, ns, e, r => by
    obtain ⟨v, vr, rfl, r1, r2⟩ := r
    unfold boolsD at e
    split at e
    · rename_i q; cases q
    · rename_i q
      injection q with q1 q2
      subst q1 q2
      cases q : boolsD ds with
      | none => rw [q] at e; cases e
      | some ms =>
        rw [q] at e
        cases e
        cases r1
        rw [boolsD_rd q r2]
        rfl
    · cases e
theorem rd_ints : ∀ ns : List Int, RDs t μ H (ns.map D.int) (ns.map V.int)
  | [] => rfl
  | n :: ns => ⟨_, _, rfl, rfl, rd_ints ns⟩
/-- a pure answer -/
theorem ofc {op : List D → Option D} {ds : List D} {Q : VK} (rs : RS t μ S H) (h : Aft t μ H (R.of (op ds) S) (fun d _ μ' H' => ∀ w, RD t μ' H' d w → Q w H') (fun _ _ _ _ => False)) :
    ∃ d, op ds = some d ∧ ∀ μ' H' w, Ext μ H μ' H' → RS t μ' S H' → RD t μ' H' d w → Q w H' := by
  obtain ⟨d, e, h⟩ := h.of
  exact ⟨d, e, fun μ' H' w e s r => h μ' H' e s w r⟩
theorem f1_of {f : D → Option D} {ds : List D} {d : D} (e : f1 f ds = some d) : ∃ x, ds = [x] ∧ f x = some d := by
  unfold f1 at e
  split at e
  · exact ⟨_, rfl, e⟩
  · cases e
theorem map_of {α β : Type} {o : Option α} {f : α → β} {b : β} (e : o.map f = some b) : ∃ a, o = some a ∧ f a = b := by
  cases o with
  | none => cases e
  | some a => cases e; exact ⟨a, rfl, rfl⟩
theorem bind_of {α β : Type} {o : Option α} {f : α → Option β} {b : β} (e : o.bind f = some b) : ∃ a, o = some a ∧ f a = some b := by
  cases o with
  | none => cases e
  | some a => exact ⟨a, rfl, e⟩
theorem keys_len : ∀ {ds : List D} {ks : List Key}, KeysD ds ks → ds.length = ks.length
  | [], _, h => by cases h; rfl
  | d :: ds, _, h => by
    obtain ⟨k, kr, rfl, _, h2⟩ := h
    rw [List.length_cons, List.length_cons, keys_len h2]
theorem call_lenR : CallR X (.builtin "len") (fun xs H Q => ∃ a kvs, xs = [V.ref a] ∧ Rd H a (.dK kvs) ∧ Q (.int kvs.length) H) := fun pins s σ H xs us Q I r ⟨a, kvs, hx, ha, q⟩ => by
  subst hx
  obtain ⟨u, rfl, ru⟩ := vals1 r
  cases ru
  exact d_len I ha fun tk s2 J => ⟨.int kvs.length, H, J, ⟨tk, rfl⟩, q⟩
theorem c_len (hK : X.K = t.K) (cx : Dn.Cx) (cell : Bool) : CallR X (.builtin "len") (rC t (bi cx cell .len)) := CallR.by fun vs H Q ⟨μ, S, ds, rs, r, h⟩ => by
  obtain ⟨d, e1, k⟩ := ofc rs h
  obtain ⟨x, rfl, e2⟩ := f1_of e1
  obtain ⟨n, e, e4⟩ := map_of e2
  subst e4
  clear e1 e2 h
  obtain ⟨v, rfl, rx⟩ := r.one
  have go : ∀ {xs : List D}, seqOf S x = some xs → n = xs.length → ∃ r, CallR X (.builtin "len") r ∧ r [v] H Q := fun {xs} q hn => by
    obtain ⟨a, us, rfl, hs, r⟩ := seqOf_rd rs q rx
    refine ⟨_, call_len_seq, a, us, rfl, by rw [hK]; exact hs, ?_⟩
    rw [← r.length]
    exact k μ H _ Ext.refl rs (by rw [hn]; rfl)
  unfold fLen at e
  split at e
  · split at e
    · rename_i h
      cases e
      obtain ⟨rfl, _⟩ := rx
      refine ⟨_, call_len_str, _, rfl, by rw [str_len, line_eq]; exact h, ?_⟩
      rw [str_len]
      exact k μ H _ Ext.refl rs rfl
    · cases e
  · cases e
    obtain ⟨a, kvs, rfl, n, f, q, r⟩ := rx
    refine ⟨_, call_lenR, a, kvs, rfl, f, ?_⟩
    rw [← List.length_map (f := (·.1)) (as := kvs), ← keys_len q]
    exact k μ H _ Ext.refl rs rfl
  · split at e
    · rename_i q
      cases e
      exact go (by simp only [seqOf, q]) rfl
    · rename_i q
      cases e
      obtain ⟨a, hl, rfl⟩ := rx
      obtain ⟨kvs, h1, h2, h3⟩ := rs.get _ _ a q hl
      refine ⟨_, call_lenR, a, kvs, rfl, .inl h1, ?_⟩
      rw [← List.length_map (f := (·.1)) (as := kvs), ← keys_len h2]
      exact k μ H _ Ext.refl rs rfl
    · cases e
  · obtain ⟨xs, q, e5⟩ := map_of e
    exact go q e5.symm
theorem c_int (cx : Dn.Cx) (cell : Bool) : CallR X (.type "int") (rC t (bi cx cell .int)) := CallR.by fun vs H Q ⟨μ, S, ds, rs, r, h⟩ => by
  obtain ⟨d, e1, k⟩ := ofc (op := f1 fun d => (fInt d).map .int) rs h
  obtain ⟨x, rfl, e2⟩ := f1_of e1
  obtain ⟨n, e, e4⟩ := map_of e2
  subst e4
  obtain ⟨v, rfl, rx⟩ := r.one
  unfold fInt at e
  split at e
  · cases e; cases rx
    exact ⟨_, call_int1, .inl ⟨_, rfl, k μ H _ Ext.refl rs rfl⟩⟩
  · cases e; cases rx
    exact ⟨_, call_int1, .inr ⟨_, rfl, k μ H _ Ext.refl rs rfl⟩⟩
  · cases e
theorem c_tuple (hK : X.K = t.K) (cx : Dn.Cx) (cell : Bool) : CallR X (.type "tuple") (rC t (bi cx cell .tuple)) := CallR.by fun vs H Q ⟨μ, S, ds, rs, r, h⟩ => by
  obtain ⟨d, e1, k⟩ := ofc rs h
  obtain ⟨x, rfl, e2⟩ := f1_of e1
  obtain ⟨xs, e, e4⟩ := map_of e2
  subst e4
  obtain ⟨v, rfl, rx⟩ := r.one
  have hln := seq_len rs e rx
  have lists : ∀ {a us}, v = .ref a → SqL t.K H a us → RDs t μ H xs us → ∃ r, CallR X (.type "tuple") r ∧ r [v] H Q := fun {a us} hv hs r' => by
    subst hv
    exact ⟨_, call_tuple_of, a, us, rfl, .inl ⟨by rw [hK]; exact hs, fun p hp => k μ _ _ (Ext.fresh hp) (rs.fresh hp) (RD.newTup rs hp r' hln)⟩⟩
  cases x with
  | lst ys =>
    cases e
    obtain ⟨a, vs, rfl, f, r⟩ := rx
    exact lists rfl (SqL.of f.2) r
  | scr ys =>
    cases e
    obtain ⟨a, vs, rfl, f, r⟩ := rx
    exact lists rfl f.seq r
  | tup ys =>
    cases e
    obtain ⟨a, vs, rfl, f, r⟩ := rx
    exact ⟨_, call_tuple_of, a, vs, rfl, .inr ⟨by rw [hK]; exact f.seq, k μ _ _ Ext.refl rs ⟨a, vs, rfl, f, r⟩⟩⟩
  | ref l =>
    obtain ⟨a, h, rfl⟩ := rx
    simp only [seqOf] at e
    split at e
    · rename_i ys q
      cases e
      obtain ⟨vs, h1, h2⟩ := rs.get l _ a q h
      exact lists rfl (SqL.of h1) h2
    · cases e
  | _ => cases e
theorem l1_of {cell : Bool} {f : D → Option (List D)} {ds : List D} {k : D → Sto → List Addr → Hp → Prop} {kx : Xn → Sto → List Addr → Hp → Prop} (h : Aft t μ H (l1 cell f ds S) k kx) : ∃ x xs, ds = [x] ∧ f x = some xs ∧ Aft t μ H (mkL cell xs S) k kx := by
  unfold l1 at h
  split at h
  · split at h
    · rename_i q
      exact ⟨_, _, rfl, q, h⟩
    · exact h.elim
  · exact h.elim
theorem c_list (hK : X.K = t.K) (cx : Dn.Cx) (cell : Bool) : CallR X (.type "list") (rC t (bi cx cell .list)) := CallR.by fun vs H Q ⟨μ, S, ds, rs, r, h⟩ => by
  obtain ⟨x, xs, rfl, e, h⟩ := l1_of h
  obtain ⟨v, rfl, rx⟩ := r.one
  obtain ⟨a, us, rfl, hs, r⟩ := seqOf_rd rs e rx
  exact ⟨_, call_list_of, a, us, rfl, by rw [hK]; exact hs, fun p hp => mkL_ok rs hp r h (seq_len rs e rx)⟩
theorem c_abs (cx : Dn.Cx) (cell : Bool) : CallR X (.builtin "abs") (rC t (bi cx cell .abs)) := CallR.by fun vs H Q ⟨μ, S, ds, rs, r, h⟩ => by
  obtain ⟨d, e1, k⟩ := ofc rs h
  obtain ⟨x, rfl, e⟩ := f1_of e1
  obtain ⟨v, rfl, rx⟩ := r.one
  split at e
  · cases e; cases rx
    exact ⟨_, call_abs, _, rfl, k μ H _ Ext.refl rs rfl⟩
  · cases e
theorem f2_of {f : Int → Int → Int} {ds : List D} {d : D} (e : f2 f ds = some d) : ∃ i j, ds = [.int i, .int j] ∧ d = .int (f i j) := by
  unfold f2 at e
  split at e
  · cases e; exact ⟨_, _, rfl, rfl⟩
  · cases e
theorem c_max2 (hc : X.calm = true) (cx : Dn.Cx) (cell : Bool) : CallR X (.builtin "max") (rC t (bi cx cell .max2)) := CallR.by fun vs H Q ⟨μ, S, ds, rs, r, h⟩ => by
  obtain ⟨d, e1, k⟩ := ofc rs h
  obtain ⟨i, j, rfl, rfl⟩ := f2_of e1
  obtain ⟨v, u, rfl, rx, ry⟩ := r.two
  cases rx; cases ry
  exact ⟨_, call_max2 hc, i, j, rfl, k μ H _ Ext.refl rs rfl⟩
theorem c_min2 (hc : X.calm = true) (cx : Dn.Cx) (cell : Bool) : CallR X (.builtin "min") (rC t (bi cx cell .min2)) := CallR.by fun vs H Q ⟨μ, S, ds, rs, r, h⟩ => by
  obtain ⟨d, e1, k⟩ := ofc rs h
  obtain ⟨i, j, rfl, rfl⟩ := f2_of e1
  obtain ⟨v, u, rfl, rx, ry⟩ := r.two
  cases rx; cases ry
  exact ⟨_, call_min2 hc, i, j, rfl, k μ H _ Ext.refl rs rfl⟩
/-- a list of values whose reading is a list (no tuple) -/
theorem lsq (rs : RS t μ S H) {x : D} {v : V} {xs : List D} (e : lsqOf S x = some xs) (r : RD t μ H x v) : ∃ a vs, v = .ref a ∧ SqL t.K H a vs ∧ RDs t μ H xs vs := by
  cases x with
  | lst ys => cases e; obtain ⟨a, vs, rfl, f, r⟩ := r; exact ⟨a, vs, rfl, SqL.of f.2, r⟩
  | scr ys => cases e; obtain ⟨a, vs, rfl, f, r⟩ := r; exact ⟨a, vs, rfl, f.seq, r⟩
  | ref l =>
    obtain ⟨a, h, rfl⟩ := r
    simp only [lsqOf, seqOf] at e
    split at e
    · rename_i ys q
      cases e
      obtain ⟨vs, h1, h2⟩ := rs.get l _ a q h
      exact ⟨a, vs, rfl, SqL.of h1, h2⟩
    · cases e
  | _ => cases e
theorem maxI_mem : ∀ (ns : List Int) (n : Int), maxI n ns ∈ n :: ns
  | [], n => by simp [maxI]
  | m :: ns, n => by
    unfold maxI
    have := maxI_mem ns (if n < m then m else n)
    rcases List.mem_cons.mp this with h | h
    · rw [h]; split <;> simp
    · simp [h]
theorem maxI_ge : ∀ (ns : List Int) (n : Int), ∀ a ∈ n :: ns, a ≤ maxI n ns
  | [], n, a, h => by simp [maxI] at h ⊢; omega
  | m :: ns, n, a, h => by
    unfold maxI
    have h0 := maxI_ge ns (if n < m then m else n) (if n < m then m else n) (by simp)
    rcases List.mem_cons.mp h with rfl | h
    · split at h0 <;> split <;> omega
    · rcases List.mem_cons.mp h with rfl | h
      · split at h0 <;> split <;> omega
      · exact maxI_ge ns _ a (by simp [h])
theorem minI_mem : ∀ (ns : List Int) (n : Int), minI n ns ∈ n :: ns
  | [], n => by simp [minI]
  | m :: ns, n => by
    unfold minI
    have := minI_mem ns (if m < n then m else n)
    rcases List.mem_cons.mp this with h | h
    · rw [h]; split <;> simp
    · simp [h]
theorem minI_le : ∀ (ns : List Int) (n : Int), ∀ a ∈ n :: ns, minI n ns ≤ a
  | [], n, a, h => by simp [minI] at h ⊢; omega
  | m :: ns, n, a, h => by
    unfold minI
    have h0 := minI_le ns (if m < n then m else n) (if m < n then m else n) (by simp)
    rcases List.mem_cons.mp h with rfl | h
    · split at h0 <;> split <;> omega
    · rcases List.mem_cons.mp h with rfl | h
      · split at h0 <;> split <;> omega
      · exact minI_le ns _ a (by simp [h])
/-! max, min of data -/
theorem readsAll_nth {h : Heap} : ∀ {us : List Value} {ds : List PyData} {as : List Addr}, ReadsAll h us ds as → ∀ (i : Nat) (u : Value), us[i]? = some u → ∃ d bs, ds[i]? = some d ∧ Reads h u d bs
  | _, _, _, .nil, _, _, hv => by simp at hv
  | _, _, _, .cons r rs, 0, u, hv => by
    cases (show some _ = some u from hv)
    exact ⟨_, _, rfl, r⟩
  | _, _, _, .cons r rs, i + 1, u, hv => by
    obtain ⟨d, bs, h1, h2⟩ := readsAll_nth rs i u (by simpa using hv)
    exact ⟨d, bs, by simpa using h1, h2⟩
theorem fold_mem {α : Type} (f : α → α → Bool) : ∀ (xs : List α) (x : α), xs.foldl (fun a y => if f a y then y else a) x ∈ x :: xs
  | [], x => by simp
  | y :: xs, x => by
    rw [List.foldl_cons]
    have := fold_mem f xs (if f x y then y else x)
    rcases List.mem_cons.mp this with h | h
    · rw [h]; split <;> simp
    · simp [h]
/-- the best of data: bd is maxD, minD -/
def rBest (K : PySem.W.Frag) (bd : PyData → List PyData → PyData) : List V → Hp → VK → Prop := fun vs H Q => ∃ (a : Addr) (xs : List V) (d : PyData) (ds : List PyData), vs = [.ref a] ∧ (SqL K H a xs ∨ SqT K H a xs) ∧ DpAll K H xs (d :: ds) ∧ PySem.W.AlikeAll (d :: ds) ∧ PyData.depthAll (d :: ds) ≤ 60 ∧
  ∀ (i : Nat) (v : V), xs[i]? = some v → (d :: ds)[i]? = some (bd d ds) → Q v H
theorem best_end {X : L2.Cx} {pins : List (Addr × Obj)} {σ : L2.St} {H : Hp} {s : Shared} {Q : VK} {xs : List V} {its : List Value} {d b : PyData} {ds : List PyData} {as bs : List Addr} (I : Inv X pins σ H s) (rv : Vals xs its) (hr : ReadsAll s.heap its (d :: ds) as) (al : PySem.W.AlikeAll (d :: ds)) (hb : b ∈ d :: ds)
    (q : ∀ (i : Nat) (v : V), xs[i]? = some v → (d :: ds)[i]? = some b → Q v H) {i : Nat} {u : Value} {h' : Heap} {tk : Nat} (hu : its[i]? = some u) (r : Reads h' u b bs) (hk : ∀ b o, s.heap.get? b = some o → h'.get? b = some o) : EP X pins σ Q u { s with heap := h', toks := tk } := by
  obtain ⟨e, cs, h1, h2⟩ := readsAll_nth hr i u hu
  have h3 := PyProof.Rows.Reads.keeps hk h2
  have e1 := PySem.W.alike_unique e b u _ _ (al.1 e (List.mem_of_getElem? h1) b hb) h3 r
  subst e1
  have hi : i < xs.length := by
    rw [rv.length]
    exact (List.getElem?_eq_some_iff.mp hu).1
  have hx : xs[i]? = some xs[i] := List.getElem?_eq_getElem hi
  obtain ⟨u', h4, h5⟩ := rv.get hx
  rw [hu] at h4
  cases h4
  exact ⟨xs[i], H, I.kept hk, h5, q i _ hx h1⟩
theorem cr_maxT {X : L2.Cx} (hc : X.calm = true) (hu : X.A.units + 65 < cLine) : CallR X (.builtin "max") (rBest X.K PySem.W.maxD) := by
  intro pins s σ H vs us Q I r ⟨a, xs, d, ds, ev, hs, dp, al, hd, q⟩
  subst ev
  rw [Vals.ref1 r]
  have hm : PySem.W.maxD d ds ∈ d :: ds := fold_mem (fun a y => PySem.W.dataLt a y) ds d
  rcases hs with hs | hs
  · obtain ⟨its, rv, hl, _⟩ := I.list hs
    obtain ⟨as, hr⟩ := Dp.readsAll I _ _ _ dp rv
    exact PySem.W.max_list_data (I.ok.hd hc) hl.isList (by simpa using hr) al (by omega) fun i v h' tk bs h1 h2 h3 => best_end I rv hr al hm q (by simpa using h1) h2 h3
  · obtain ⟨its, rv, hl, _⟩ := I.tuple hs
    obtain ⟨as, hr⟩ := Dp.readsAll I _ _ _ dp rv
    exact PySem.W.max_tuple_data (I.ok.hd hc) hl (by simpa using hr) al (by omega) fun i v h' tk bs h1 h2 h3 => best_end I rv hr al hm q (by simpa using h1) h2 h3
theorem cr_minT {X : L2.Cx} (hc : X.calm = true) (hu : X.A.units + 65 < cLine) : CallR X (.builtin "min") (rBest X.K PySem.W.minD) := by
  intro pins s σ H vs us Q I r ⟨a, xs, d, ds, ev, hs, dp, al, hd, q⟩
  subst ev
  rw [Vals.ref1 r]
  have hm : PySem.W.minD d ds ∈ d :: ds := fold_mem (fun a y => PySem.W.dataLt y a) ds d
  rcases hs with hs | hs
  · obtain ⟨its, rv, hl, _⟩ := I.list hs
    obtain ⟨as, hr⟩ := Dp.readsAll I _ _ _ dp rv
    exact PySem.W.min_list_data (I.ok.hd hc) hl.isList (by simpa using hr) al (by omega) fun i v h' tk bs h1 h2 h3 => best_end I rv hr al hm q (by simpa using h1) h2 h3
  · obtain ⟨its, rv, hl, _⟩ := I.tuple hs
    obtain ⟨as, hr⟩ := Dp.readsAll I _ _ _ dp rv
    exact PySem.W.min_tuple_data (I.ok.hd hc) hl (by simpa using hr) al (by omega) fun i v h' tk bs h1 h2 h3 => best_end I rv hr al hm q (by simpa using h1) h2 h3
mutual
theorem toPD_inj : ∀ (n m : Nat) (a b : D), pd n a = true → pd m b = true → toPD a = toPD b → a = b
  | n, m, .tup xs, b, ha, hb, e => by
    cases n with
    | zero => simp [pd] at ha
    | succ n =>
      cases b with
      | tup ys =>
        cases m with
        | zero => simp [pd] at hb
        | succ m =>
          rw [toPD, toPD] at e
          injection e with e
          rw [toPDs_inj n m xs ys (by simpa [pd] using ha) (by simpa [pd] using hb) e]
      | _ => simp [toPD, pd] at hb e
  | n, m, .lst xs, b, ha, hb, e => by
    cases n with
    | zero => simp [pd] at ha
    | succ n =>
      cases b with
      | lst ys =>
        cases m with
        | zero => simp [pd] at hb
        | succ m =>
          rw [toPD, toPD] at e
          injection e with e
          rw [toPDs_inj n m xs ys (by simpa [pd] using ha) (by simpa [pd] using hb) e]
      | _ => simp [toPD, pd] at hb e
  | n, m, .non, b, ha, hb, e => by cases b <;> simp [toPD, pd] at hb e ⊢
  | n, m, .bl x, b, ha, hb, e => by cases b <;> simp [toPD, pd] at hb e ⊢; exact e
  | n, m, .int x, b, ha, hb, e => by cases b <;> simp [toPD, pd] at hb e ⊢; exact e
  | n, m, .str x, b, ha, hb, e => by cases b <;> simp [toPD, pd] at hb e ⊢; exact e
  | _, _, .dic _ _, _, h, _, _ => by simp [pd] at h
  | _, _, .ins _ _ _, _, h, _, _ => by simp [pd] at h
  | _, _, .ref _, _, h, _, _ => by simp [pd] at h
  | _, _, .fn _, _, h, _, _ => by simp [pd] at h
  | _, _, .scr _, _, h, _, _ => by simp [pd] at h
theorem toPDs_inj : ∀ (n m : Nat) (as bs : List D), pds n as = true → pds m bs = true → toPDs as = toPDs bs → as = bs
  | _, _, [], [], _, _, _ => rfl
  | _, _, [], b :: bs, _, _, e => by simp [toPDs] at e
  | _, _, a :: as, [], _, _, e => by simp [toPDs] at e
  | n, m, a :: as, b :: bs, ha, hb, e => by
    have ha' : pd n a = true ∧ pds n as = true := by simpa [pds] using ha
    have hb' : pd m b = true ∧ pds m bs = true := by simpa [pds] using hb
    rw [toPDs, toPDs] at e
    injection e with e1 e2
    rw [toPD_inj n m a b ha'.1 hb'.1 e1, toPDs_inj n m as bs ha'.2 hb'.2 e2]
end
theorem toPDs_map : ∀ xs : List D, toPDs xs = xs.map toPD
  | [] => by simp [toPDs]
  | x :: xs => by rw [toPDs, toPDs_map xs]; rfl
theorem pds_mem {n : Nat} : ∀ {xs : List D}, pds n xs = true → ∀ x ∈ xs, pd n x = true
  | [], _, x, h => by simp at h
  | y :: ys, h, x, hx => by
    have h' : pd n y = true ∧ pds n ys = true := by simpa [pds] using h
    rcases List.mem_cons.mp hx with rfl | hx
    · exact h'.1
    · exact pds_mem h'.2 x hx
theorem alkAll_pd {xs : List D} (hp : pds 60 xs = true) (h : alkAll xs = true) : PySem.W.AlikeAll (toPDs xs) ∧ (∀ x ∈ xs, ∀ y ∈ xs, alk x y = true) := by
  unfold alkAll at h
  rw [Bool.and_eq_true, List.all_eq_true, List.all_eq_true] at h
  have h2 : ∀ x ∈ xs, ∀ y ∈ xs, alk x y = true := fun x hx y hy => List.all_eq_true.mp (h.1 x hx) y hy
  refine ⟨⟨fun x hx y hy => ?_, fun x hx => ?_⟩, h2⟩
  · rw [toPDs_map] at hx hy
    obtain ⟨a, ha, rfl⟩ := List.mem_map.mp hx
    obtain ⟨b, hb, rfl⟩ := List.mem_map.mp hy
    rw [alk_pd 60 60 a b (pds_mem hp a ha) (pds_mem hp b hb)]
    exact h2 a ha b hb
  · rw [toPDs_map] at hx
    obtain ⟨a, ha, rfl⟩ := List.mem_map.mp hx
    have h3 := h.2 a ha
    have h4 := pds_mem hp a ha
    cases a <;> simp [toPD, isNon, pd] at h3 h4 ⊢
theorem best_pd (f : D → D → Bool) (g : PyData → PyData → Bool) {L : List D} (hfg : ∀ a ∈ L, ∀ b ∈ L, g (toPD a) (toPD b) = f a b) : ∀ (xs : List D) (x : D), x ∈ L → (∀ y ∈ xs, y ∈ L) → toPD (xs.foldl (fun a y => if f a y then y else a) x) = (toPDs xs).foldl (fun a y => if g a y then y else a) (toPD x)
  | [], x, _, _ => by simp [toPDs]
  | y :: xs, x, hx, hy => by
    rw [toPDs, List.foldl_cons, List.foldl_cons, hfg x hx y (hy y List.mem_cons_self)]
    have h1 : ∀ z ∈ xs, z ∈ L := fun z hz => hy z (List.mem_cons_of_mem _ hz)
    by_cases e : f x y = true
    · rw [if_pos e, if_pos e]
      exact best_pd f g hfg xs y (hy y List.mem_cons_self) h1
    · rw [if_neg e, if_neg e]
      exact best_pd f g hfg xs x hx h1
theorem best_ok {X : L2.Cx} (hK : X.K = t.K) (rs : RS t μ S H) {a0 : D} {v : V} {x : D} {xs : List D} {d : D} {Q : VK} {bd : PyData → List PyData → PyData} (e : seqOf S a0 = some (x :: xs)) (rx : RD t μ H a0 v) (hp : pds 60 (x :: xs) = true) (ha : alkAll (x :: xs) = true)
    (hd : d ∈ x :: xs) (hb : toPD d = bd (toPD x) (toPDs xs)) (k : ∀ w, RD t μ H d w → Q w H) : rBest X.K bd [v] H Q := by
  obtain ⟨a, vs, rfl, hs, r⟩ := seqOf_rd rs e rx
  obtain ⟨d1, c1⟩ := dps_of 60 _ vs hp r
  obtain ⟨al, _⟩ := alkAll_pd hp ha
  have d2 := toPDs_dep 60 _ hp
  rw [toPDs] at d1 d2 al
  refine ⟨a, vs, _, _, rfl, by rw [hK]; exact hs, by rw [hK]; exact d1, al, d2, fun i w hi hj => ?_⟩
  rw [← toPDs, toPDs_map, List.getElem?_map, ← hb] at hj
  obtain ⟨z, h1, h2⟩ := map_of hj
  have hz := List.mem_of_getElem? h1
  have e2 := toPD_inj 60 60 z d (pds_mem hp z hz) (pds_mem hp d hd) h2
  subst e2
  obtain ⟨w', h3, h4⟩ := r.get h1
  rw [hi] at h3
  cases h3
  exact k _ h4
theorem c_max1 (hK : X.K = t.K) (hu : X.A.units + 65 < cLine) (hc : X.calm = true) (cx : Dn.Cx) (cell : Bool) : CallR X (.builtin "max") (rC t (bi cx cell .max1)) := CallR.by fun vs H Q ⟨μ, S, ds, rs, r, h⟩ => by
  obtain ⟨d, e1, k⟩ := ofc (op := f1 (fMax S)) rs h
  obtain ⟨x, rfl, e⟩ := f1_of e1
  obtain ⟨v, rfl, rx⟩ := r.one
  unfold fMax at e
  split at e
  · rename_i y ys q
    split at e
    · rename_i hh
      rw [Bool.and_eq_true] at hh
      cases e
      have al := (alkAll_pd hh.1 hh.2).2
      refine ⟨_, cr_maxT hc hu, best_ok hK rs q rx hh.1 hh.2 (fold_mem (fun a y => ltB a y) ys y) ?_ fun w rw_ => k μ H w Ext.refl rs rw_⟩
      exact best_pd (fun a y => ltB a y) (fun a y => PySem.W.dataLt a y) (L := y :: ys) (fun a ha b hb => ltB_pd 60 60 a b (pds_mem hh.1 a ha) (pds_mem hh.1 b hb) (al a ha b hb)) ys y List.mem_cons_self fun z hz => List.mem_cons_of_mem _ hz
    · cases e
  · cases e
theorem c_min1 (hK : X.K = t.K) (hu : X.A.units + 65 < cLine) (hc : X.calm = true) (cx : Dn.Cx) (cell : Bool) : CallR X (.builtin "min") (rC t (bi cx cell .min1)) := CallR.by fun vs H Q ⟨μ, S, ds, rs, r, h⟩ => by
  obtain ⟨d, e1, k⟩ := ofc (op := f1 (fMin S)) rs h
  obtain ⟨x, rfl, e⟩ := f1_of e1
  obtain ⟨v, rfl, rx⟩ := r.one
  unfold fMin at e
  split at e
  · rename_i y ys q
    split at e
    · rename_i hh
      rw [Bool.and_eq_true] at hh
      cases e
      have al := (alkAll_pd hh.1 hh.2).2
      refine ⟨_, cr_minT hc hu, best_ok hK rs q rx hh.1 hh.2 (fold_mem (fun a y => ltB y a) ys y) ?_ fun w rw_ => k μ H w Ext.refl rs rw_⟩
      exact best_pd (fun a y => ltB y a) (fun a y => PySem.W.dataLt y a) (L := y :: ys) (fun a ha b hb => ltB_pd 60 60 b a (pds_mem hh.1 b hb) (pds_mem hh.1 a ha) (al b hb a ha)) ys y List.mem_cons_self fun z hz => List.mem_cons_of_mem _ hz
    · cases e
  · cases e
/-- sum of a tuple -/
theorem cr_sumT {X : L2.Cx} (hc : X.calm = true) : CallR X (.builtin "sum") (fun vs H Q => ∃ (a : Addr) (ns : List Int), vs = [V.ref a] ∧ SqT X.K H a (ns.map V.int) ∧ Q (.int ns.sum) H) := by
  intro pins s σ H vs us Q I r ⟨a, ns, ev, hs, q⟩
  subst ev
  rw [Vals.ref1 r]
  obtain ⟨its, rv, hl, _⟩ := I.tuple hs
  have hi := rv.ints
  obtain ⟨xs, hx⟩ := hi.allInts.items
  have hn : numsOf its.toArray.toList = ns := by rw [show its.toArray.toList = its from rfl, hi.numsOf]
  rw [hx] at hl hn
  rw [nums_intItems] at hn
  refine PySem.W.ktm_sumG (I.ok.hd hc) hl fun h' tk t' hk => ?_
  rw [preSum_eq, List.take_of_length_le (by simp), hn]
  exact ⟨.int _, H, I.kept hk, ⟨_, rfl⟩, q⟩
theorem c_sum (hK : X.K = t.K) (hc : X.calm = true) (cx : Dn.Cx) (cell : Bool) : CallR X (.builtin "sum") (rC t (bi cx cell .sum)) := CallR.by fun vs H Q ⟨μ, S, ds, rs, r, h⟩ => by
  obtain ⟨d, e1, k⟩ := ofc (op := f1 fun d => ((seqOf S d).bind intsD).map fun (ns : List Int) => .int ns.sum) rs h
  obtain ⟨x, rfl, e2⟩ := f1_of e1
  obtain ⟨ns, q, e⟩ := map_of e2
  subst e
  obtain ⟨v, rfl, rx⟩ := r.one
  obtain ⟨xs, q1, q2⟩ := bind_of q
  obtain ⟨a, us, rfl, hs, r2⟩ := seqOf_rd rs q1 rx
  rw [intsD_rd q2 r2] at hs
  rcases hs with hs | hs
  · exact ⟨_, cr_sum hc, a, ns, rfl, by rw [hK]; exact hs, k μ H _ Ext.refl rs rfl⟩
  · exact ⟨_, cr_sumT hc, a, ns, rfl, by rw [hK]; exact hs, k μ H _ Ext.refl rs rfl⟩
theorem c_all (hK : X.K = t.K) (hc : X.calm = true) (cx : Dn.Cx) (cell : Bool) : CallR X (.builtin "all") (rC t (bi cx cell .all)) := CallR.by fun vs H Q ⟨μ, S, ds, rs, r, h⟩ => by
  obtain ⟨d, e1, k⟩ := ofc (op := f1 fun d => ((lsqOf S d).bind boolsD).map fun (ns : List Bool) => .bl (ns.all id)) rs h
  obtain ⟨x, rfl, e2⟩ := f1_of e1
  obtain ⟨ns, q, e⟩ := map_of e2
  subst e
  obtain ⟨v, rfl, rx⟩ := r.one
  obtain ⟨xs, q1, q2⟩ := bind_of q
  obtain ⟨a, us, rfl, hs, r2⟩ := lsq rs q1 rx
  rw [boolsD_rd q2 r2] at hs
  exact ⟨_, cr_all hc, a, ns, rfl, by rw [hK]; exact hs, k μ H _ Ext.refl rs rfl⟩
theorem c_any (hK : X.K = t.K) (hc : X.calm = true) (cx : Dn.Cx) (cell : Bool) : CallR X (.builtin "any") (rC t (bi cx cell .any)) := CallR.by fun vs H Q ⟨μ, S, ds, rs, r, h⟩ => by
  obtain ⟨d, e1, k⟩ := ofc (op := f1 fun d => ((lsqOf S d).bind boolsD).map fun (ns : List Bool) => .bl (ns.any id)) rs h
  obtain ⟨x, rfl, e2⟩ := f1_of e1
  obtain ⟨ns, q, e⟩ := map_of e2
  subst e
  obtain ⟨v, rfl, rx⟩ := r.one
  obtain ⟨xs, q1, q2⟩ := bind_of q
  obtain ⟨a, us, rfl, hs, r2⟩ := lsq rs q1 rx
  rw [boolsD_rd q2 r2] at hs
  exact ⟨_, cr_any hc, a, ns, rfl, by rw [hK]; exact hs, k μ H _ Ext.refl rs rfl⟩
end
end Dn
/-! Dn: the tree form's expressions, rule by rule. -/
namespace Dn
open PySem L2 -- names

/-- what an expression's context must be; nothing about calls -/
structure Fe (t : Tb) (cx : Dn.Cx) (N : List Str) (sc : Scope) (mg : Str → Option Value) (W : Wi) (X : L2.Cx) : Prop where
  kk : X.K = t.K
  nn : X.N = N
  nd : N.Nodup
  ss : X.env.scope = sc
  mm : X.mg = mg
  un : X.A.units + 65 < cLine
  gd : X.A.guards = some []
  cur : cx.cur = W.cu.map (·.x)
  nmi : ∀ i j, t.nm i = t.nm j → i = j

section
variable {t : Tb} {cx : Dn.Cx} {N : List Str} {sc : Scope} {mg : Str → Option Value} {W : Wi} {X : L2.Cx} {a b c : Expr} {ea eb ec : E} {es : List Expr} {Es : List E} {pos p px : Pos}
abbrev VE (t : Tb) (cx : Dn.Cx) (W : Wi) (X : L2.Cx) (a : Expr) (ea : E) : Prop := PE X a (tE t W (ev cx ea))
abbrev VT (t : Tb) (cx : Dn.Cx) (W : Wi) (X : L2.Cx) (a : Expr) (ea : Te) : Prop := PT X a (tT t W (evt cx ea))
abbrev VW (t : Tb) (cx : Dn.Cx) (W : Wi) (X : L2.Cx) (a : Expr) (ea : Te) : Prop := PW X a (tT t W (evt cx ea))
abbrev VA (t : Tb) (cx : Dn.Cx) (W : Wi) (X : L2.Cx) (es : List Expr) (Es : List E) : Prop := PA X es (tA t W (evs cx Es))

/-! names, constants -/
theorem r_var (h : Fe t cx N sc mg W X) {i : Nat} {x : Str} (hN : N[i]? = some x) (hv : Vis sc x) (hd : ((x == ("__debug__" : Str)) || (x == ("__classdict__" : Str))) = false := by decide +kernel) : VE t cx W X (.Name x p) (.var i) := by
  rw [Bool.or_eq_false_iff] at hd
  exact d_var (by rw [h.nn]; exact hN) (by rw [h.ss]; exact hv) hd.1 hd.2
theorem r_int {i : Int} {j : Nat} : VE t cx W X (.Constant (.int i) j p) (.cst (.int i)) := d_const pe_int fun _ _ => rfl
theorem r_bl {i : Bool} {j : Nat} : VE t cx W X (.Constant (.bool i) j p) (.cst (.bl i)) := d_const pe_bl fun _ _ => rfl
theorem r_non {j : Nat} : VE t cx W X (.Constant .none j p) (.cst .non) := d_const pe_non fun _ _ => rfl
theorem r_str {x : Str} {j : Nat} {s : List Nat} (hx : (x == (⟨s.toArray⟩ : Str)) = true) (hs : s.all (fun c => decide (c < 1114112)) = true) : VE t cx W X (.Constant (.str x) j p) (.cst (.str s)) := by
  have e : x = ⟨s.toArray⟩ := by simpa using hx
  subst e
  exact d_const pe_str fun _ _ => ⟨rfl, fun c hc => by simpa using (List.all_eq_true.mp hs) c hc⟩

/-! arguments, displays -/
theorem r_nil : VA t cx W X [] [] := d_nil
theorem r_cons (ha : VE t cx W X a ea) (hr : VA t cx W X es Es) (hs : starEach (a :: es) X.env = (false, eval a X.env) :: starEach es X.env) : VA t cx W X (a :: es) (ea :: Es) := d_cons ha hr hs
theorem evs_len : ∀ {Es : List E} {ρ : Env} {S S' : Sto} {ds : List D}, evs cx Es ρ S = .ok ds S' → ds.length = Es.length
  | [], _, _, _, _, h => by simp only [evs] at h; cases h; rfl
  | e :: Es, ρ, S, S', ds, h => by
    simp only [evs] at h
    cases q : ev cx e ρ S with
    | bad => rw [q] at h; cases h
    | exc x S1 => rw [q] at h; cases h
    | ok d S1 =>
      rw [q] at h
      simp only [R.bind_ok] at h
      cases q2 : evs cx Es ρ S1 with
      | bad => rw [q2] at h; cases h
      | exc x S2 => rw [q2] at h; cases h
      | ok ds2 S2 =>
        rw [q2] at h
        cases h
        rw [List.length_cons, List.length_cons, evs_len q2]
end
section
variable {t : Tb} {μ μ' μ1 : List Addr} {H H' H1 : Hp} {S : Sto} {α β : Type}
/-- with the equation -/
theorem Aft.eqn {r : R α} {k : α → Sto → List Addr → Hp → Prop} {kx : Xn → Sto → List Addr → Hp → Prop} (h : Aft t μ H r k kx) : Aft t μ H r (fun a S' μ' H' => r = .ok a S' ∧ k a S' μ' H') (fun x S' μ' H' => r = .exc x S' ∧ kx x S' μ' H') := by
  cases r with
  | bad => exact h
  | ok a S => exact fun μ' H' e s => ⟨rfl, h μ' H' e s⟩
  | exc x S => exact fun μ' H' e s => ⟨rfl, h μ' H' e s⟩
end
section
variable {t : Tb} {cx : Dn.Cx} {N : List Str} {sc : Scope} {mg : Str → Option Value} {W : Wi} {X : L2.Cx} {a b c : Expr} {ea eb ec : E} {es : List Expr} {Es : List E} {pos p px : Pos}
/-- arguments, then an operation by values; n many -/
theorem args_ok {op : List D → Sto → R D} {r : List V → Hp → VK → Prop} (hr : ∀ (σ : L2.St) (μ : List Addr) (H : Hp) (S : Sto) (ds : List D) (vs : List V) (Q : VK), RS t μ S H → RDs t μ H ds vs → ds.length = Es.length →
      Aft t μ H (op ds S) (fun d _ μ' H' => ∀ w, RD t μ' H' d w → Q w H') (fun x _ μ' H' => ∀ cls dd, RX t μ' H' x cls dd → W.w cls dd σ H') → r vs H Q)
    (σ : L2.St) (H : Hp) (Q : VK) (h : tE t W (fun ρ S => (evs cx Es ρ S).bind fun ds S => op ds S) σ H Q) : tA t W (evs cx Es) σ H (fun vs H1 => r vs H1 Q) := by
  obtain ⟨μ, ρ, S, re, rs, h⟩ := h
  refine ⟨μ, ρ, S, re, rs, h.bind.eqn.imp (fun ds S1 μ1 H1 e1 s1 k vs rv => ?_) fun _ _ _ _ _ _ z => z.2⟩
  exact hr σ μ1 H1 S1 ds vs Q s1 rv (evs_len k.1) (k.2.imp (fun d S3 μ3 H3 e3 s3 z => z (e1.trans e3)) fun x S3 μ3 H3 e3 s3 z => z (e1.trans e3))
theorem lit_line {n : Nat} (h : (n ≤ 4096) = True) : n ≤ sizeLine := by
  have : n ≤ 4096 := by rw [h]; trivial
  rw [sizeLine_eq]; omega
theorem r_tup {k : Nat} (h : VA t cx W X es Es) (hl : Es.length ≤ 4096) : VE t cx W X (.Tuple es k pos) (.tup Es) := by
  refine PE.weak (pe_tup h) fun σ H Q q => ?_
  refine args_ok (r := fun xs H1 Q => xs.length ≤ sizeLine ∧ ∀ p, H1 p = none → Q (.ref p) (upd H1 p (.tup xs))) (op := fun ds S => .ok (.tup ds) S) (fun σ μ H S ds vs Q rs r hd k => ?_) σ H Q q
  refine ⟨by rw [← r.length, hd, sizeLine_eq]; omega, fun p hp => ?_⟩
  exact k μ _ (Ext.fresh hp) (rs.fresh hp) _ (RD.newTup rs hp r (by rw [hd, sizeLine_eq]; omega))
theorem r_lst {cell : Bool} (h : VA t cx W X es Es) (hl : Es.length ≤ 4096) : VE t cx W X (.List es pos) (.lst cell Es) := by
  refine PE.weak (pe_lst h) fun σ H Q q => ?_
  refine args_ok (r := fun xs H1 Q => xs.length ≤ sizeLine ∧ ∀ p, H1 p = none → Q (.ref p) (upd H1 p (.lst xs))) (op := fun ds S => mkL cell ds S) (fun σ μ H S ds vs Q rs r hd k => ?_) σ H Q q
  exact ⟨by rw [← r.length, hd, sizeLine_eq]; omega, fun p hp => mkL_ok rs hp r k (by rw [hd, sizeLine_eq]; omega)⟩

/-! operators -/
def boP : Bo → Operator
  | .add => .Add | .sub => .Sub | .mul => .Mult | .fdiv => .FloorDiv | .mod => .Mod | .pow => .Pow
theorem r_bin (h : Fe t cx N sc mg W X) (o : Bo) (ha : VE t cx W X a ea) (hb : VE t cx W X b eb) : VE t cx W X (.BinOp a (boP o) b pos) (.bin o ea eb) := by
  cases o
  · exact d_bin (o_add h.kk) ha hb
  · exact d_bin o_sub ha hb
  · exact d_bin (o_mul h.kk) ha hb
  · exact d_bin o_fdiv ha hb
  · exact d_bin o_mod ha hb
  · exact d_bin o_pow ha hb
theorem r_neg (ha : VE t cx W X a ea) : VE t cx W X (.UnaryOp .USub a pos) (.neg ea) := by
  refine PE.weak (pe_un un_neg ha) fun σ H Q q => ?_
  refine un_ok (op := fun x S => match x with | .int i => .ok (.int (-i)) S | _ => .bad) (fun σ μ H S x v Q rs r k => ?_) σ H Q q
  split at k
  · cases r
    exact ⟨_, rfl, k.now rs _ rfl⟩
  · exact k.elim

/-! comparisons, tests -/
def coP : Co → CmpOp
  | .eq => .Eq | .ne => .NotEq | .lt => .Lt | .le => .LtE | .gt => .Gt | .ge => .GtE | .inn => .In | .notin => .NotIn | .isn => .Is | .notn => .IsNot
theorem o_cmp (h : Fe t cx N sc mg W X) (o : Co) : OpR X (compareOp (coP o)) (rB t fun S => cmpop S o) := by
  cases o
  · exact o_eq h.kk h.un
  · exact o_ne h.kk h.un
  · exact o_lt h.kk h.un
  · exact o_le h.kk h.un
  · exact o_gt h.kk h.un
  · exact o_ge h.kk h.un
  · exact o_in h.kk h.un
  · exact o_notin h.kk h.un
  · exact o_is
  · exact o_isnot
/-- a comparison's own step -/
theorem rB_of {op : Sto → D → D → Option Bool} (σ : L2.St) (μ : List Addr) (H : Hp) (S : Sto) (x y : D) (v u : V) (Q : VK) (rs : RS t μ S H) (rx : RD t μ H x v) (ry : RD t μ H y u)
    (h : Aft t μ H ((R.of (op S x y) S).bind fun c S => .ok (.bl c) S) (fun d _ μ' H' => ∀ w, RD t μ' H' d w → Q w H') (fun x _ μ' H' => ∀ cls dd, RX t μ' H' x cls dd → W.w cls dd σ H')) : rB t op v u H Q := by
  cases q : op S x y with
  | none => rw [q] at h; exact h.elim
  | some c =>
    rw [q] at h
    exact ⟨μ, S, x, y, c, rs, rx, ry, q, h.now rs _ rfl⟩
theorem r_cmp (h : Fe t cx N sc mg W X) (o : Co) (ha : VE t cx W X a ea) (hb : VE t cx W X b eb) (hm : behindInMarks (coP o) b = false) : VE t cx W X (.Compare a [coP o] [b] pos) (.cmp o ea eb) :=
  PE.weak (pe_cmpR (o_cmp h o) ha hb hm) (bin_ok (op := fun x y S => (R.of (cmpop S o x y) S).bind fun c S => .ok (.bl c) S) rB_of)
/-- a value that is a bool, as a test -/
theorem tT_bl {f : Env → Sto → R D} (hf : ∀ ρ S d S', f ρ S = .ok d S' → ∃ b, d = .bl b) (σ : L2.St) (H : Hp) (Q : Bool → Hp → Prop) (h : tT t W (fun ρ S => tru (f ρ S)) σ H Q) :
    tE t W f σ H (fun x H' => ∃ k, x = .bl k ∧ Q k H') := by
  obtain ⟨μ, ρ, S, re, rs, h⟩ := h
  dsimp only at h
  refine ⟨μ, ρ, S, re, rs, ?_⟩
  cases q : f ρ S with
  | bad => rw [q] at h; exact h
  | exc x S' => rw [q] at h; exact h
  | ok d S' =>
    rw [q] at h
    obtain ⟨b, rfl⟩ := hf _ _ _ _ q
    exact fun μ' H' e s v r => by
      cases r
      exact ⟨b, rfl, h μ' H' e s⟩
theorem cmp_bl {o : Co} : ∀ ρ S d S', ev cx (.cmp o ea eb) ρ S = .ok d S' → ∃ b, d = .bl b := fun ρ S d S' h => by
  simp only [ev] at h
  cases q : ev cx ea ρ S with
  | bad => rw [q] at h; cases h
  | exc x S1 => rw [q] at h; cases h
  | ok x S1 =>
    rw [q] at h
    simp only [R.bind_ok] at h
    cases q2 : ev cx eb ρ S1 with
    | bad => rw [q2] at h; cases h
    | exc x S1 => rw [q2] at h; cases h
    | ok y S2 =>
      rw [q2] at h
      simp only [R.bind_ok] at h
      cases q3 : cmpop S2 o x y with
      | none => rw [q3] at h; cases h
      | some c => rw [q3] at h; cases h; exact ⟨c, rfl⟩
theorem t_cmp (h : Fe t cx N sc mg W X) (o : Co) (ha : VE t cx W X a ea) (hb : VE t cx W X b eb) (hm : behindInMarks (coP o) b = false) : VT t cx W X (.Compare a [coP o] [b] pos) (.val (.cmp o ea eb)) :=
  PT.weak (pt_cmpR (o_cmp h o) ha hb hm) fun σ H Q q => bin_ok (op := fun x y S => (R.of (cmpop S o x y) S).bind fun c S => .ok (.bl c) S) rB_of σ H _ (tT_bl cmp_bl σ H Q q)
theorem chain_ok {o p : Co} (σ : L2.St) (H : Hp) (Q : VK) (q : tE t W (ev cx (.chain o p ea eb ec)) σ H Q) :
    tChain (rB t fun S => cmpop S o) (rB t fun S => cmpop S p) (tE t W (ev cx ea)) (tE t W (ev cx eb)) (tE t W (ev cx ec)) σ H Q := by
  obtain ⟨μ, ρ, S, re, rs, q⟩ := q
  refine ⟨μ, ρ, S, re, rs, q.bind.imp (fun x S1 μ1 H1 e1 s1 k1 v rv => ?_) fun _ _ _ _ _ _ z => z⟩
  refine ⟨μ1, ρ, S1, re.ext e1, s1, k1.bind.imp (fun y S2 μ2 H2 e2 s2 k2 u ru => ?_) fun _ _ _ _ e2 _ z => z (e1.trans e2)⟩
  cases q1 : cmpop S2 o x y with
  | none => rw [q1] at k2; exact k2.elim
  | some c =>
    rw [q1] at k2
    refine ⟨μ2, S2, x, y, c, s2, rv.ext e2, ru, q1, c, rfl, ?_⟩
    replace k2 := Aft.imp (k := _) (k' := fun d _ μ' H' => ∀ v, RD t μ' H' d v → Q v H') (kx' := fun x _ μ' H' => ∀ cls dd, RX t μ' H' x cls dd → W.w cls dd σ H') k2
      (fun d S3 μ3 H3 e3 s3 z => z (e2.trans e3) (e1.trans (e2.trans e3))) (fun d S3 μ3 H3 e3 s3 z => z (e2.trans e3) (e1.trans (e2.trans e3)))
    cases c with
    | false =>
      rw [if_neg (by decide)]
      exact k2.now s2 _ rfl
    | true =>
      rw [if_pos rfl]
      refine ⟨μ2, ρ, S2, re.ext (e1.trans e2), s2, Aft.imp (Aft.bind (r := ev cx ec ρ S2) k2) (fun z S3 μ3 H3 e3 s3 k3 w rw' => ?_) fun _ _ _ _ _ _ z => z⟩
      cases q2 : cmpop S3 p y z with
      | none => rw [q2] at k3; exact k3.elim
      | some c2 =>
        rw [q2] at k3
        exact ⟨μ3, S3, y, z, c2, s3, ru.ext e3, rw', q2, k3.now s3 e3 _ rfl⟩
theorem r_chain (h : Fe t cx N sc mg W X) (o p : Co) (ha : VE t cx W X a ea) (hb : VE t cx W X b eb) (hc : VE t cx W X c ec) (hm : lastMarks [coP o, coP p] [b, c] = false) :
    VE t cx W X (.Compare a [coP o, coP p] [b, c] pos) (.chain o p ea eb ec) := PE.weak (pe_chain (o_cmp h o) (o_cmp h p) ha hb hc hm) chain_ok
theorem chain_bl {o p : Co} : ∀ ρ S d S', ev cx (.chain o p ea eb ec) ρ S = .ok d S' → ∃ b, d = .bl b := fun ρ S d S' h => by
  simp only [ev] at h
  cases q : ev cx ea ρ S with
  | bad => rw [q] at h; cases h
  | exc x S1 => rw [q] at h; cases h
  | ok x S1 =>
    rw [q] at h
    simp only [R.bind_ok] at h
    cases q2 : ev cx eb ρ S1 with
    | bad => rw [q2] at h; cases h
    | exc x S1 => rw [q2] at h; cases h
    | ok y S2 =>
      rw [q2] at h
      simp only [R.bind_ok] at h
      cases q3 : cmpop S2 o x y with
      | none => rw [q3] at h; cases h
      | some c =>
        rw [q3] at h
        simp only [R.of_some, R.bind_ok] at h
        cases c with
        | false => cases h; exact ⟨false, rfl⟩
        | true =>
          rw [if_pos rfl] at h
          cases q4 : ev cx ec ρ S2 with
          | bad => rw [q4] at h; cases h
          | exc x S1 => rw [q4] at h; cases h
          | ok z S3 =>
            rw [q4] at h
            simp only [R.bind_ok] at h
            cases q5 : cmpop S3 p y z with
            | none => rw [q5] at h; cases h
            | some c => rw [q5] at h; cases h; exact ⟨c, rfl⟩
theorem t_chain (h : Fe t cx N sc mg W X) (o p : Co) (ha : VE t cx W X a ea) (hb : VE t cx W X b eb) (hc : VE t cx W X c ec) (hm : lastMarks [coP o, coP p] [b, c] = false) :
    VT t cx W X (.Compare a [coP o, coP p] [b, c] pos) (.val (.chain o p ea eb ec)) := PT.weak (pt_chain (o_cmp h o) (o_cmp h p) ha hb hc hm) fun σ H Q q => chain_ok σ H _ (tT_bl chain_bl σ H Q q)
/-- any value, as a test -/
theorem truV_of {μ : List Addr} {H : Hp} {S : Sto} {d : D} {v : V} {b : Bool} (hK : X.K = t.K) (rs : RS t μ S H) (r : RD t μ H d v) (e : truth S d = some b) : TruV X.K v H b := by
  rw [hK]
  cases d with
  | non => cases r; cases e; rfl
  | bl c => cases r; cases e; rfl
  | int i => cases r; cases e; rfl
  | str s =>
    obtain ⟨rfl, _⟩ := r
    simp only [truth] at e
    split at e
    · rename_i hl
      cases e
      refine ⟨by rw [str_len, line_eq]; exact hl, ?_⟩
      rw [str_len]
      cases s with
      | nil => rfl
      | cons x xs =>
        show true = _
        symm
        simp only [List.length_cons, bne_iff_ne, ne_eq]
        omega
    · cases e
  | tup xs =>
    cases e
    obtain ⟨a, vs, rfl, f, r⟩ := r
    refine .inr (.inl ⟨vs, f.seq, ?_⟩)
    cases xs with
    | nil => cases r; rfl
    | cons x xs => obtain ⟨v, vr, rfl, _⟩ := r; rfl
  | lst xs =>
    cases e
    obtain ⟨a, vs, rfl, f, r⟩ := r
    refine .inl ⟨vs, SqL.of f.2, ?_⟩
    cases xs with
    | nil => cases r; rfl
    | cons x xs => obtain ⟨v, vr, rfl, _⟩ := r; rfl
  | ref l =>
    obtain ⟨a, hl, rfl⟩ := r
    simp only [truth] at e
    split at e
    · rename_i xs q
      cases e
      obtain ⟨vs, h1, h2⟩ := rs.get l _ a q hl
      refine .inl ⟨vs, SqL.of h1, ?_⟩
      cases xs with
      | nil => cases h2; rfl
      | cons x xs => obtain ⟨v, vr, rfl, _⟩ := h2; rfl
    · cases e
  | _ => cases e
theorem t_val (h : Fe t cx N sc mg W X) (ha : VE t cx W X a ea) (he : ∀ whole, isTrue a X.env whole = (do let v ← whole; standAt a.pos; holding [v] (truthy v))) : VT t cx W X a (.val ea) := by
  refine PT.weak (pt_truth ha he) fun σ H Q q => ?_
  obtain ⟨μ, ρ, S, re, rs, q⟩ := q
  refine ⟨μ, ρ, S, re, rs, (Aft.bind (r := ev cx ea ρ S) q).imp (fun x S1 μ1 H1 e1 s1 k1 v rv => ?_) fun _ _ _ _ _ _ z => z⟩
  obtain ⟨b, e, k1⟩ := k1.of
  exact ⟨b, truV_of h.kk s1 rv e, k1.now s1 e1⟩
theorem r_not (ha : VE t cx W X a ea) : VE t cx W X (.UnaryOp .Not a pos) (.not ea) := by
  refine PE.weak (pe_not ha) fun σ H Q q => ?_
  obtain ⟨μ, ρ, S, re, rs, q⟩ := q
  refine ⟨μ, ρ, S, re, rs, (Aft.bind (r := ev cx ea ρ S) q).imp (fun x S1 μ1 H1 e1 s1 k1 v rv => ?_) fun _ _ _ _ _ _ z => z⟩
  split at k1
  · cases rv
    exact ⟨_, rfl, k1.now s1 e1 _ rfl⟩
  · exact k1.elim
variable {ta tb : Te} {ts : List Te} {rest : List Expr}
theorem t_not (ha : VT t cx W X a ta) : VT t cx W X (.UnaryOp .Not a pos) (.not ta) := by
  refine PT.weak (pt_not ha) fun σ H Q q => ?_
  obtain ⟨μ, ρ, S, re, rs, q⟩ := q
  refine ⟨μ, ρ, S, re, rs, (Aft.bind (r := evt cx ta ρ S) q).imp (fun b S1 μ1 H1 e1 s1 k1 => ?_) fun _ _ _ _ _ _ z => z⟩
  exact k1.now s1 e1
theorem w_and1 (ha : VT t cx W X a ta) : VW t cx W X (.BoolOp .And [a] pos) (.and [ta]) := pw_and1 ha
theorem w_or1 (ha : VT t cx W X a ta) : VW t cx W X (.BoolOp .Or [a] pos) (.or [ta]) := pw_or1 ha
theorem w_and (ha : VT t cx W X a ta) (hb : VW t cx W X (.BoolOp .And (b :: rest) pos) (.and (tb :: ts))) : VW t cx W X (.BoolOp .And (a :: b :: rest) pos) (.and (ta :: tb :: ts)) := by
  refine PW.weak (pw_and ha hb) fun σ H Q q => ?_
  obtain ⟨μ, ρ, S, re, rs, q⟩ := q
  refine ⟨μ, ρ, S, re, rs, (Aft.bind (r := evt cx ta ρ S) q).imp (fun c S1 μ1 H1 e1 s1 k1 => ?_) fun _ _ _ _ _ _ z => z⟩
  cases c with
  | true => exact ⟨μ1, ρ, S1, re.ext e1, s1, Aft.imp k1 (fun _ _ _ _ e2 _ z => z (e1.trans e2)) fun _ _ _ _ e2 _ z => z (e1.trans e2)⟩
  | false => exact Aft.now s1 k1 e1
theorem w_or (ha : VT t cx W X a ta) (hb : VW t cx W X (.BoolOp .Or (b :: rest) pos) (.or (tb :: ts))) : VW t cx W X (.BoolOp .Or (a :: b :: rest) pos) (.or (ta :: tb :: ts)) := by
  refine PW.weak (pw_or ha hb) fun σ H Q q => ?_
  obtain ⟨μ, ρ, S, re, rs, q⟩ := q
  refine ⟨μ, ρ, S, re, rs, (Aft.bind (r := evt cx ta ρ S) q).imp (fun c S1 μ1 H1 e1 s1 k1 => ?_) fun _ _ _ _ _ _ z => z⟩
  cases c with
  | false => exact ⟨μ1, ρ, S1, re.ext e1, s1, Aft.imp k1 (fun _ _ _ _ e2 _ z => z (e1.trans e2)) fun _ _ _ _ e2 _ z => z (e1.trans e2)⟩
  | true => exact Aft.now s1 k1 e1
theorem t_w (h : VW t cx W X a ta) : VT t cx W X a ta := h.pt
theorem r_and1 (ha : VE t cx W X a ea) : VE t cx W X (.BoolOp .And [a] pos) (.and [ea]) := pe_one ha
theorem r_or1 (ha : VE t cx W X a ea) : VE t cx W X (.BoolOp .Or [a] pos) (.or [ea]) := pe_one ha
theorem r_and (ha : VE t cx W X a ea) (hb : VE t cx W X (.BoolOp .And (b :: rest) pos) (.and (eb :: Es))) : VE t cx W X (.BoolOp .And (a :: b :: rest) pos) (.and (ea :: eb :: Es)) := by
  refine PE.weak (pe_and ha hb) fun σ H Q q => ?_
  obtain ⟨μ, ρ, S, re, rs, q⟩ := q
  refine ⟨μ, ρ, S, re, rs, (Aft.bind (r := ev cx ea ρ S) q).imp (fun c S1 μ1 H1 e1 s1 k1 v rv => ?_) fun _ _ _ _ _ _ z => z⟩
  cases c with
  | bl c =>
    cases rv
    refine ⟨c, rfl, ?_⟩
    cases c with
    | true => exact ⟨μ1, ρ, S1, re.ext e1, s1, Aft.imp k1 (fun _ _ _ _ e2 _ z => z (e1.trans e2)) fun _ _ _ _ e2 _ z => z (e1.trans e2)⟩
    | false => exact Aft.now s1 k1 e1 _ rfl
  | _ => exact k1.elim
theorem r_or (ha : VE t cx W X a ea) (hb : VE t cx W X (.BoolOp .Or (b :: rest) pos) (.or (eb :: Es))) : VE t cx W X (.BoolOp .Or (a :: b :: rest) pos) (.or (ea :: eb :: Es)) := by
  refine PE.weak (pe_or ha hb) fun σ H Q q => ?_
  obtain ⟨μ, ρ, S, re, rs, q⟩ := q
  refine ⟨μ, ρ, S, re, rs, (Aft.bind (r := ev cx ea ρ S) q).imp (fun c S1 μ1 H1 e1 s1 k1 v rv => ?_) fun _ _ _ _ _ _ z => z⟩
  cases c with
  | bl c =>
    cases rv
    refine ⟨c, rfl, ?_⟩
    cases c with
    | false => exact ⟨μ1, ρ, S1, re.ext e1, s1, Aft.imp k1 (fun _ _ _ _ e2 _ z => z (e1.trans e2)) fun _ _ _ _ e2 _ z => z (e1.trans e2)⟩
    | true => exact Aft.now s1 k1 e1 _ rfl
  | _ => exact k1.elim
theorem r_ite (ht : VT t cx W X c ta) (ha : VE t cx W X a ea) (hb : VE t cx W X b eb) : VE t cx W X (.IfExp c a b pos) (.ite ta ea eb) := by
  refine PE.weak (pe_ifExp ht ha hb) fun σ H Q q => ?_
  obtain ⟨μ, ρ, S, re, rs, q⟩ := q
  refine ⟨μ, ρ, S, re, rs, (Aft.bind (r := evt cx ta ρ S) q).imp (fun c S1 μ1 H1 e1 s1 k1 => ?_) fun _ _ _ _ _ _ z => z⟩
  cases c with
  | true => exact ⟨μ1, ρ, S1, re.ext e1, s1, Aft.imp k1 (fun _ _ _ _ e2 _ z => z (e1.trans e2)) fun _ _ _ _ e2 _ z => z (e1.trans e2)⟩
  | false => exact ⟨μ1, ρ, S1, re.ext e1, s1, Aft.imp k1 (fun _ _ _ _ e2 _ z => z (e1.trans e2)) fun _ _ _ _ e2 _ z => z (e1.trans e2)⟩
end
end Dn
/-! Dn: subscripts, slices, built-in functions and methods. -/
namespace Dn
open PySem L2 -- names

section
variable {t : Tb} {cx : Dn.Cx} {N : List Str} {sc : Scope} {mg : Str → Option Value} {W : Wi} {X : L2.Cx} {a b c : Expr} {ea eb ec : E} {es : List Expr} {Es : List E} {pos p px : Pos}
theorem IxR.by {r' : R2} (h : ∀ v u H Q, r' v u H Q → ∃ r, IxR X r ∧ r v u H Q) : IxR X r' :=
  fun value slice pins s σ H x y v u Q I rx ry q hs => let ⟨r, h1, h2⟩ := h x y H Q q; h1 value slice pins s σ H x y v u Q I rx ry h2 hs
theorem atI_rd {μ : List Addr} {H : Hp} {ds : List D} {vs : List V} {i : Int} {d : D} (r : RDs t μ H ds vs) (e : Dn.atI ds i = some d) : ∃ v, L2.atI vs i = some v ∧ RD t μ H d v := by
  unfold Dn.atI at e
  unfold L2.atI
  rw [← r.length]
  cases q : Dn.ixN ds.length i with
  | none => rw [q] at e; cases e
  | some j =>
    rw [q] at e
    obtain ⟨v, h1, h2⟩ := r.get (i := j) (by simpa using e)
    refine ⟨v, ?_, h2⟩
    have q' : L2.ixN ds.length i = some j := q
    rw [q']
    simpa using h1
theorem ix_of (hK : X.K = t.K) : IxR X (rP t getI) := IxR.by fun v u H Q ⟨μ, S, x, y, d, rs, rx, ry, e, k⟩ => by
  have seq : ∀ {x y : D} {xs : List D} {i : Int}, RD t μ H x v → y = .int i → u = .int i → seqOf S x = some xs → Dn.atI xs i = some d → ∃ r, IxR X r ∧ r v u H Q := fun {x y xs i} rx hy hu e1 e2 => by
    obtain ⟨a, vs, rfl, hs, r⟩ := seqOf_rd rs e1 rx
    obtain ⟨w, h1, h2⟩ := atI_rd r e2
    rcases hs with hs | hs
    · exact ⟨_, ix_list, a, vs, i, w, rfl, hu, by rw [hK]; exact hs, h1, k μ H _ Ext.refl rs h2⟩
    · exact ⟨_, ix_tup, a, vs, i, w, rfl, hu, by rw [hK]; exact hs, h1, k μ H _ Ext.refl rs h2⟩
  unfold getI at e
  split at e
  · split at e
    · rename_i hl
      obtain ⟨c, e1, e2⟩ := map_of e
      subst e2
      obtain ⟨rfl, o⟩ := rx
      cases ry
      have hm : c < 1114112 := by
        refine o c ?_
        unfold Dn.atI at e1
        obtain ⟨j, _, h2⟩ := bind_of e1
        exact List.mem_of_getElem? h2
      refine ⟨_, ix_str, _, _, c, rfl, rfl, by rw [str_len, line_eq]; exact hl, by rw [str_list]; exact e1, k μ H _ Ext.refl rs ⟨rfl, fun z hz => by rw [List.mem_singleton.mp hz]; exact hm⟩⟩
    · cases e
  · cases e
  · split at e
    · cases e
    · rename_i q
      split at e
      · cases ry
        exact seq (y := .int _) rx rfl rfl (by simp only [seqOf, q]) e
      · cases e
    · cases e
  · obtain ⟨xs, e1, e2⟩ := bind_of e
    cases ry
    exact seq (y := .int _) rx rfl rfl e1 e2
  · cases e
theorem r_idx (h : Fe t cx N sc mg W X) (ha : VE t cx W X a ea) (hb : VE t cx W X b eb) (hs : PlainIx b) : VE t cx W X (.Subscript a b pos) (.idx ea eb) :=
  PE.weak (pe_ix (ix_of h.kk) ha hb hs) (bin_ok (op := fun x y S => R.of (getI S x y) S) rP_of)
/-! slices -/
theorem cut_rd {μ : List Addr} {H : Hp} {ds : List D} {vs : List V} (lo hi : Option Int) (r : RDs t μ H ds vs) : RDs t μ H (cut ds lo hi) (cutV vs lo hi) := by
  unfold cut cutV
  rw [← r.length]
  exact (r.drop _).take _
theorem cut_len {α : Type} (xs : List α) (lo hi : Option Int) : (cut xs lo hi).length ≤ xs.length := by
  unfold cut
  rw [List.length_take, List.length_drop]
  omega
theorem cut_whole {α : Type} {xs : List α} {lo hi : Option Int} (h : HT.sIx xs.length 0 lo = 0 ∧ HT.sIx xs.length xs.length hi = xs.length) : cut xs lo hi = xs := by
  have h1 : Dn.sIx xs.length 0 lo = 0 := h.1
  have h2 : Dn.sIx xs.length xs.length hi = xs.length := h.2
  unfold cut
  rw [h1, h2]
  simp
def rS (t : Tb) (cell : Bool) : V → Option Int → Option Int → Hp → VK → Prop := fun v lo hi H Q => ∃ μ S x, RS t μ S H ∧ RD t μ H x v ∧
  Aft t μ H (opSl cell x lo hi S) (fun d _ μ' H' => ∀ w, RD t μ' H' d w → Q w H') (fun _ _ _ _ => False)
theorem SlR.by {r' : V → Option Int → Option Int → Hp → VK → Prop} (h : ∀ v lo hi H Q, r' v lo hi H Q → ∃ r, SlR X r ∧ r v lo hi H Q) : SlR X r' :=
  fun pins s σ H x v vl vu lo hi sl Q I rx hs pl pu q => let ⟨r, h1, h2⟩ := h x lo hi H Q q; h1 pins s σ H x v vl vu lo hi sl Q I rx hs pl pu h2
theorem sl_of (hK : X.K = t.K) (cell : Bool) : SlR X (rS t cell) := SlR.by fun v lo hi H Q ⟨μ, S, x, rs, rx, k⟩ => by
  have lists : ∀ {x : D} {xs : List D}, RD t μ H x v → lstOf S x = some xs → Aft t μ H (mkL cell (cut xs lo hi) S) (fun d _ μ' H' => ∀ w, RD t μ' H' d w → Q w H') (fun _ _ _ _ => False) → ∃ r, SlR X r ∧ r v lo hi H Q := fun {x xs} rx e k => by
    obtain ⟨a, vs, rfl, h1, r⟩ := lstOf_rd rs e rx
    exact ⟨_, sl_list, a, vs, rfl, SqL.of h1, fun p hp => mkL_ok rs hp (cut_rd lo hi r) k (Nat.le_trans (cut_len xs lo hi) (lst_len rs e rx))⟩
  unfold opSl at k
  split at k
  · split at k
    · rename_i s hl
      obtain ⟨rfl, o⟩ := rx
      refine ⟨_, sl_str, _, rfl, by rw [str_len, line_eq]; exact hl, ?_⟩
      have e : cutS (⟨s.toArray⟩ : Str) lo hi = ⟨(cut s lo hi).toArray⟩ := by
        unfold cutS
        rw [str_list, str_len]
        rfl
      rw [e]
      refine k.now rs _ ⟨rfl, fun c hc => o c ?_⟩
      unfold cut at hc
      exact List.mem_of_mem_drop (List.mem_of_mem_take hc)
    · exact k.elim
  · rename_i xs
    obtain ⟨a, vs, rfl, f, r⟩ := rx
    refine ⟨_, sl_tupA, a, vs, rfl, by rw [hK]; exact f.seq, fun hw => ?_, fun hw p hp => ?_⟩
    · rw [← r.length] at hw
      rw [cut_whole hw] at k
      exact k.now rs _ ⟨a, vs, rfl, f, r⟩
    · exact k μ _ (Ext.fresh hp) (rs.fresh hp) _ (RD.newTup rs hp (cut_rd lo hi r) (Nat.le_trans (cut_len xs lo hi) (by rw [r.length]; exact f.len)))
  · split at k
    · rename_i e
      exact lists rx e k
    · exact k.elim
abbrev VO (t : Tb) (cx : Dn.Cx) (W : Wi) (X : L2.Cx) (a : Option Expr) (ea : Option E) : Prop :=
  PO X a (fun σ H Q => ∃ μ ρ S, RE t W.cu μ H ρ σ ∧ RS t μ S H ∧ Aft t μ H (evo cx ea ρ S) (fun o _ _ H' => Q o H') (fun x _ μ' H' => ∀ cls dd, RX t μ' H' x cls dd → W.w cls dd σ H'))
theorem v_none : VO t cx W X none none := by
  refine ⟨fun pins s σ H Q I h => po_none.run pins s σ H Q I ?_⟩
  obtain ⟨μ, ρ, S, re, rs, h⟩ := h
  exact Aft.now (a := (none : Option Int)) rs h
theorem v_some (ha : VE t cx W X a ea) : VO t cx W X (some a) (some ea) := by
  refine ⟨fun pins s σ H Q I h => (po_some ha).run pins s σ H Q I ?_⟩
  obtain ⟨μ, ρ, S, re, rs, h⟩ := h
  refine ⟨μ, ρ, S, re, rs, (Aft.bind (r := ev cx ea ρ S) h).imp (fun x S1 μ1 H1 e1 s1 k v rv => ?_) fun _ _ _ _ _ _ z => z⟩
  cases x with
  | int i => cases rv; exact ⟨i, rfl, k.now s1 e1⟩
  | _ => exact k.elim
variable {lo hi : Option Expr} {el eh : Option E} {p2 : Pos}
theorem r_slc (h : Fe t cx N sc mg W X) (cell : Bool) (ha : VE t cx W X a ea) (hl : VO t cx W X lo el) (hh : VO t cx W X hi eh) : VE t cx W X (.Subscript a (.Slice lo hi none p2) pos) (.slc cell ea el eh) := by
  refine PE.weak (pe_slice (sl_of h.kk cell) ha hl hh) fun σ H Q q => ?_
  obtain ⟨μ, ρ, S, re, rs, q⟩ := q
  refine ⟨μ, ρ, S, re, rs, (Aft.bind (r := ev cx ea ρ S) q).imp (fun x S1 μ1 H1 e1 s1 k1 v rv => ?_) fun _ _ _ _ _ _ z => z⟩
  refine ⟨μ1, ρ, S1, re.ext e1, s1, k1.bind.imp (fun l S2 μ2 H2 e2 s2 k2 => ?_) fun _ _ _ _ e2 _ z => z (e1.trans e2)⟩
  refine ⟨μ2, ρ, S2, re.ext (e1.trans e2), s2, k2.bind.imp (fun h S3 μ3 H3 e3 s3 k3 => ?_) fun _ _ _ _ e3 _ z => z (e2.trans e3) (e1.trans (e2.trans e3))⟩
  refine ⟨μ3, S3, x, s3, (rv.ext e2).ext e3, ?_⟩
  cases z : opSl cell x l h S3 with
  | bad => rw [z] at k3; exact k3
  | exc y S4 =>
    unfold opSl at z
    split at z
    · split at z <;> cases z
    · cases z
    · split at z
      · unfold mkL at z; split at z <;> cases z
      · cases z
  | ok d S4 =>
    rw [z] at k3
    exact fun μ4 H4 e4 s4 w rw' => k3 μ4 H4 e4 s4 (e3.trans e4) (e2.trans (e3.trans e4)) (e1.trans (e2.trans (e3.trans e4))) w rw'

/-! built-in functions -/
theorem of_nox {α : Type} {o : Option α} {S S' : Sto} {x : Xn} : R.of o S ≠ .exc x S' := fun h => by cases o <;> cases h
theorem mkL_nox {cell : Bool} {xs : List D} {S S' : Sto} {x : Xn} : mkL cell xs S ≠ .exc x S' := fun h => by unfold mkL at h; split at h <;> cases h
theorem l1_nox {cell : Bool} {f : D → Option (List D)} {ds : List D} {S S' : Sto} {x : Xn} : l1 cell f ds S ≠ .exc x S' := fun h => by
  unfold l1 at h
  split at h
  · split at h
    · exact mkL_nox h
    · cases h
  · cases h
theorem bi_nox (cell : Bool) (b : Bi) (ds : List D) (S : Sto) (x : Xn) (S' : Sto) : bi cx cell b ds S ≠ .exc x S' := fun h => by
  cases b <;> unfold bi at h <;> first
    | exact of_nox h
    | exact l1_nox h
    | (dsimp only at h; split at h <;> first | exact mkL_nox h | cases h)
    | cases h
theorem Aft.nox {t : Tb} {μ : List Addr} {H : Hp} {α : Type} {r : R α} (hn : ∀ x S', r ≠ .exc x S') {k : α → Sto → List Addr → Hp → Prop} {kx kx' : Xn → Sto → List Addr → Hp → Prop} (h : Aft t μ H r k kx) : Aft t μ H r k kx' := by
  cases r with
  | bad => exact h
  | ok a S => exact h
  | exc x S => exact absurd rfl (hn x S)
theorem bi_args {b : Bi} {cell : Bool} (σ : L2.St) (H : Hp) (Q : VK) (q : tE t W (ev cx (.bi cell b Es)) σ H Q) : tCB (rC t (bi cx cell b)) (tA t W (evs cx Es)) σ H Q :=
  args_ok (r := fun vs H1 Q => rC t (bi cx cell b) vs H1 Q) (op := fun ds S => bi cx cell b ds S) (fun σ μ H S ds vs Q rs r hd k => ⟨μ, S, ds, rs, r, k.nox (bi_nox cell b ds S)⟩) σ H Q q
theorem Fe.gl (h : Fe t cx N sc mg W X) {x : Str} (hg : sc.names.lookup x = some .globalImplicit) : Gl X x := by
  show X.env.scope.names.lookup x = _
  rw [h.ss]; exact hg
theorem r_biB (h : Fe t cx N sc mg W X) {b : Bi} {cell : Bool} {id : String} {x : Str} (hc : CallR X (.builtin id) (rC t (bi cx cell b))) (hg : sc.names.lookup x = some .globalImplicit) (hm : mg x = none) (hv : bootBuiltins x = some (.builtin id))
    (ha : VA t cx W X (a :: es) Es) (hn : x ≠ "__name__") (hdb : (x == ("__debug__" : Str)) = false)
    (he : starEach (a :: es) X.env = (false, eval a X.env) :: starEach es X.env) (hpl : (backTo pos (starEach es X.env)).any (·.1) = false) : VE t cx W X (.Call (.Name x p) (a :: es) [] pos) (.bi cell b Es) :=
  PE.weak (pe_callB hc (h.gl hg) (by rw [h.mm]; exact hm) hv ha hn hdb he hpl) bi_args
theorem r_biT (h : Fe t cx N sc mg W X) {b : Bi} {cell : Bool} {id : String} {x : Str} (hc : CallR X (.type id) (rC t (bi cx cell b))) (hg : sc.names.lookup x = some .globalImplicit) (hm : mg x = none) (hv : bootBuiltins x = some (.type id))
    (ha : VA t cx W X (a :: es) Es) (hn : x ≠ "__name__") (hdb : (x == ("__debug__" : Str)) = false)
    (he : starEach (a :: es) X.env = (false, eval a X.env) :: starEach es X.env) (hpl : (backTo pos (starEach es X.env)).any (·.1) = false) : VE t cx W X (.Call (.Name x p) (a :: es) [] pos) (.bi cell b Es) :=
  PE.weak (pe_callTy hc (h.gl hg) (by rw [h.mm]; exact hm) hv ha hn hdb he hpl) bi_args
theorem intsD_len : ∀ {ds : List D} {ns : List Int}, intsD ds = some ns → ds.length = ns.length
  | [], _, e => by cases e; rfl
  | d :: ds, ns, e => by
    unfold intsD at e
    split at e
    · rename_i q; cases q
    · rename_i q
      injection q with q1 q2
      subst q1 q2
      obtain ⟨ms, h1, h2⟩ := map_of e
      subst h2
      rw [List.length_cons, List.length_cons, intsD_len h1]
    · cases e
theorem lsq_seq {S : Sto} {x : D} {xs : List D} (e : lsqOf S x = some xs) : seqOf S x = some xs := by
  unfold lsqOf at e
  split at e
  · cases e
  · exact e
end
section
open PySem.W PySem.Calls PyProof.Rows -- names
variable {prog : Program} {w : World} {A : Around} {E1 : Value → Shared → Prop} {s : Shared} {β : Type} {R1 : Value → β → Prop} {enc : β → PyData} {vs : List Value} {bs : List β}
/-- sorted(x) of a list, a tuple -/
theorem sorted_seq {l : Addr} {T : String} {o : Obj} {n : Nat} {Q : Value → Shared → Prop} (hT : T = "list" ∨ T = "tuple") (ho : s.heap.get? l = some o) (hc : o.cls = .type T) (hd : o.data = .seq vs.toArray n) (e : EachIs R1 vs bs) (er : EachIs (fun v b => ∃ as, Reads s.heap v (enc b) as) vs bs)
    (hal : AllAlike (bs.map enc)) (hk : Sortable (bs.map enc)) (hL : vs.length ≤ sizeLine) (hu : ∀ b, b ∈ bs → A.units + 2 + (enc b).depth < cLine)
    (h : ∀ (a : Addr) (h' : Heap) (out : List Value) (ep : Nat), (∀ b u, s.heap.get? b = some u → h'.get? b = some u) → s.heap.get? a = none → h'.get? a = some (seqObj "list" out.toArray ep) → out.length = bs.length → EachIs R1 out (bs.mergeSort (dataLe false enc)) → Q (.ref a) { s with heap := h' }) :
    wpAny (PySem.model prog w) A (call (.builtin "sorted") [.ref l]) Q E1 s := by
  refine call_function_entry_kw kind_sorted plain_sorted entry_sorted (args_sorted1 _) ?_
  unfold Builtin.«sorted»
  refine wpAny_bind (m := checkCount "sorted" 1 1 _) (wpAny_pure ?_)
  refine wpAny_bind (wpAny_collect_seq l hT ho hc hd (fun h1 hk1 => ?_) (by simpa using hL))
  refine wpAny_bind (wpAny_newList ?_ (by simpa using hL))
  have new : s.heap.get? h1.objs.size = none := by
    cases q : s.heap.get? h1.objs.size with
    | none => rfl
    | some u => exact absurd (Heap.lt_size (hk1 _ u q)) (Nat.lt_irrefl _)
  have at_ : (h1.push (seqObj "list" vs.toArray 0)).get? h1.objs.size = some (seqObj "list" vs.toArray 0) := Heap.get?_push_size _ rfl
  have old : ∀ (b : Addr) (u : Obj), s.heap.get? b = some u → (sortingHeap (h1.push (seqObj "list" vs.toArray 0)) h1.objs.size vs).get? b = some u := fun b u q => by
    have hb := Heap.lt_size (hk1 b u q)
    exact sortingHeap_old (Nat.ne_of_lt hb) (Heap.get?_push_of_some _ (hk1 b u q))
  have er' : EachIs (fun v b => ∃ as, Reads (sortingHeap (h1.push (seqObj "list" vs.toArray 0)) h1.objs.size vs) v (enc b) as) vs bs := er.mono fun _ _ ⟨as, r⟩ => ⟨as, PyProof.Rows.Reads.keeps old r⟩
  show wpAny _ _ _ _ _ { s with heap := h1.push (seqObj "list" vs.toArray 0) }
  have body : ∀ E' : Value → Shared → Prop, wpAny (PySem.model prog w) A.in1.in1 (Builtin.«list.sort» ⟨[.ref h1.objs.size], []⟩) (fun f s' => f = .done (.ret .none) ∧ Q (.ref h1.objs.size) s') E' { s with heap := h1.push (seqObj "list" vs.toArray 0) } := fun E' => by
    refine list_sort_vals (κ := dataKind (sortingHeap (h1.push (seqObj "list" vs.toArray 0)) h1.objs.size vs) (bs.map enc)) (s := { s with heap := h1.push (seqObj "list" vs.toArray 0) }) at_
      (SortsAt.data (s := { s with heap := sortingHeap (h1.push (seqObj "list" vs.toArray 0)) h1.objs.size vs }) (each_map (R := fun v d => ∃ as, Reads (sortingHeap (h1.push (seqObj "list" vs.toArray 0)) h1.objs.size vs) v d as) enc er') hal hk (bound_map hu)) hL ⟨rfl, ?_⟩
    obtain ⟨ep, z⟩ := sortedHeap_at (out := (sortVals (dataKind (sortingHeap (h1.push (seqObj "list" vs.toArray 0)) h1.objs.size vs) (bs.map enc)) false vs vs).toArray) at_
    refine h _ _ _ ep (fun b u q => ?_) new z (by rw [sortVals_length false rfl]; exact e.length) (sortVals_data false e er' hal)
    have hb := Heap.lt_size (hk1 b u q)
    rw [sortedHeap_old (Nat.ne_of_lt hb) (by rw [size_push']; exact Nat.lt_succ_of_lt hb)]
    exact Heap.get?_push_of_some _ (hk1 b u q)
  refine wpAny_bind (wpAny_holding (wpAny_call_entry_kw slot_list_sort ⟨_, at_, rfl⟩ entry_list_sort ?body (args_list_sort _)))
  case body =>
    show wpAny (PySem.model prog w) A.in1.in1 (Builtin.«list.sort» ⟨[.ref h1.objs.size], []⟩) _ _ _
    refine wpAny_mono (body _) (fun f s' hf => ?_) fun _ _ e => e
    obtain ⟨rfl, hq⟩ := hf
    exact ⟨_, rfl, wpAny_pure ⟨_, rfl, hq⟩⟩
end
section
variable {t : Tb} {cx : Dn.Cx} {N : List Str} {sc : Scope} {mg : Str → Option Value} {W : Wi} {X : L2.Cx}
theorem each_two {h : Heap} : ∀ {us : List Value} {vs : List V} {ds : List PyData} {as : List Addr}, ReadsAll h us ds as → Vals vs us → PySem.W.EachIs (fun (u : Value) (b : V × PyData) => RelV b.1 u) us (vs.zip ds) ∧ PySem.W.EachIs (fun (u : Value) (b : V × PyData) => ∃ as, Reads h u b.2 as) us (vs.zip ds)
  | _, _, _, _, .nil, rv => by cases rv; exact ⟨.nil, .nil⟩
  | _, _, _, _, .cons r rs, rv => by
    cases rv with
    | cons r1 rv => exact ⟨.cons r1 (each_two rs rv).1, .cons ⟨_, r⟩ (each_two rs rv).2⟩
theorem objLive {P : Program} {w : World} {H : Hp} {h : Heap} {a : Addr} {o : HO} (x : ObjOk P w H h a o) : ∃ u, h.get? a = some u := by
  cases o with
  | lst xs => obtain ⟨_, _, _, _, e⟩ := x; exact ⟨_, e⟩
  | tup xs => obtain ⟨_, _, _, o, e, _⟩ := x; exact ⟨_, e⟩
  | dK kvs => obtain ⟨_, _, _, _, o, _, _, e, _⟩ := x; exact ⟨_, e⟩
  | dT kvs => obtain ⟨_, _, _, _, o, _, _, e, _⟩ := x; exact ⟨_, e⟩
  | set S n => obtain ⟨o, _, _, _, e, _⟩ := x; exact ⟨_, e⟩
  | ins C dx fs => obtain ⟨_, _, _, e, _⟩ := x; exact ⟨_, e⟩
  | own y => exact x
  | xd fs => obtain ⟨_, ⟨_, _, _, e, _⟩, _⟩ := x; exact ⟨_, e⟩
  | rng lo hi => obtain ⟨_, _, _, e⟩ := x; exact ⟨_, e⟩
  | frz ob u => obtain ⟨e, _⟩ := x; exact ⟨_, e⟩
  | tbl ps => exact ⟨_, (show h.get? a = some _ from x)⟩
  | met f y => exact ⟨_, (show h.get? a = some _ from x)⟩
  | ext φ => obtain ⟨_, e, _⟩ := x; exact e
/-- the items, each with its value, in order -/
def rSrtD (K : PySem.W.Frag) : List V → Hp → VK → Prop := fun vs H Q => ∃ (a : Addr) (xs : List V) (ds : List PyData), vs = [.ref a] ∧ (SqL K H a xs ∨ SqT K H a xs) ∧ DpAll K H xs ds ∧ PySem.W.AllAlike ds ∧ PySem.W.Sortable ds ∧ PyData.depthAll ds ≤ 60 ∧
  ∀ (p : Addr), H p = none → Q (.ref p) (upd H p (.lst (((xs.zip ds).mergeSort (PySem.W.dataLe false (·.2))).map (·.1))))
theorem dpAll_len {K : PySem.W.Frag} {H : Hp} : ∀ {xs : List V} {ds : List PyData}, DpAll K H xs ds → xs.length = ds.length
  | _, _, .nil => rfl
  | _, _, .cons _ h => by rw [List.length_cons, List.length_cons, dpAll_len h]
theorem depth_mem : ∀ {ds : List PyData} {d : PyData}, d ∈ ds → d.depth ≤ PyData.depthAll ds
  | [], _, h => by simp at h
  | e :: ds, d, h => by
    rw [PyData.depthAll]
    rcases List.mem_cons.mp h with rfl | h
    · omega
    · have := depth_mem h; omega
theorem each_vals : ∀ {us : List Value} {bs : List (V × PyData)}, PySem.W.EachIs (fun (u : Value) (b : V × PyData) => RelV b.1 u) us bs → Vals (bs.map (·.1)) us
  | _, _, .nil => .nil
  | _, _, .cons r h => .cons r (each_vals h)
theorem cr_srtD (hu : X.A.units + 65 < cLine) : CallR X (.builtin "sorted") (rSrtD X.K) := by
  intro pins s σ H vs us Q I r ⟨a, xs, ds, ev, hs, dp, hal, hk, hd, q⟩
  subst ev
  rw [Vals.ref1 r]
  have hl := dpAll_len dp
  have hz : (xs.zip ds).map (·.2) = ds := List.map_snd_zip (by omega)
  have go : ∀ {T : String} {o : Obj} {its : List Value} {n : Nat}, (T = "list" ∨ T = "tuple") → s.heap.get? a = some o → o.cls = .type T → o.data = .seq its.toArray n → Vals xs its → xs.length ≤ sizeLine →
      wpAny (PySem.model X.prog X.w) X.A (call (.builtin "sorted") [.ref a]) (EP X pins σ Q) X.xe s := fun {T o its n} hT ho hc hdt rv hsl => by
    obtain ⟨as, hr⟩ := Dp.readsAll I _ _ _ dp rv
    obtain ⟨e1, e2⟩ := each_two hr rv
    refine sorted_seq (enc := fun b : V × PyData => b.2) hT ho hc hdt e1 e2 (by rw [hz]; exact hal) (by rw [hz]; exact hk) (by rw [← rv.length]; exact hsl) (fun b hb => ?_) fun p h' out ep hk' hn hp hlen heach => ?_
    · have := depth_mem (List.of_mem_zip hb).2
      omega
    · have hH : H p = none := by
        cases z : H p with
        | none => rfl
        | some u =>
          obtain ⟨v, hv⟩ := objLive (I.hok p u z)
          rw [hn] at hv; cases hv
      have hlen2 : (((xs.zip ds).mergeSort (PySem.W.dataLe false (·.2))).map (·.1)).length ≤ sizeLine := by
        rw [List.length_map, List.length_mergeSort, List.length_zip]
        omega
      exact ⟨.ref _, _, I.laidN (t' := s.toks) hk' hn hH (o := .lst _) ⟨hlen2, out, ep, each_vals heach, hp⟩, rfl, q p hH⟩
  rcases hs with hs | hs
  · obtain ⟨its, rv, hL, hsl⟩ := I.list hs
    obtain ⟨o, ho, hc, n, hd2⟩ := hL.isList
    exact go (.inl rfl) ho hc hd2 rv hsl
  · obtain ⟨its, rv, hL, hsl⟩ := I.tuple hs
    obtain ⟨o, ho, hc, n, hd2⟩ := hL
    exact go (.inr rfl) ho hc hd2 rv hsl
theorem sortable_pd {xs : List D} (hp : pds 60 xs = true) (h : srtOk xs = true) (ha : alkAll xs = true) : PySem.W.Sortable (toPDs xs) := by
  rw [toPDs_map]
  unfold srtOk at h
  rcases Bool.or_eq_true_iff.mp h with h | h
  · refine .inl fun d hd => ?_
    obtain ⟨x, hx, rfl⟩ := List.mem_map.mp hd
    have := List.all_eq_true.mp h x hx
    cases x with
    | tup ys => cases ys with
      | nil => cases this
      | cons y ys => exact ⟨toPD y, toPDs ys, by simp [toPD, toPDs]⟩
    | _ => cases this
  · refine .inr fun d hd => ?_
    refine ⟨?_, ?_⟩
    · have := (alkAll_pd hp ha).1.2 d (by rw [toPDs_map]; exact hd)
      exact this
    · obtain ⟨x, hx, rfl⟩ := List.mem_map.mp hd
      have := List.all_eq_true.mp h x hx
      intro ys
      cases x <;> simp [toPD, isT0] at this ⊢
theorem rds_of_zip {t : Tb} {μ : List Addr} {H : Hp} : ∀ {zs : List (D × V)}, (∀ p ∈ zs, RD t μ H p.1 p.2) → RDs t μ H (zs.map (·.1)) (zs.map (·.2))
  | [], _ => rfl
  | z :: zs, h => ⟨z.2, zs.map (·.2), rfl, h z List.mem_cons_self, rds_of_zip fun p hp => h p (List.mem_cons_of_mem _ hp)⟩
theorem rds_zip {t : Tb} {μ : List Addr} {H : Hp} : ∀ {ds : List D} {vs : List V}, RDs t μ H ds vs → ∀ p ∈ ds.zip vs, RD t μ H p.1 p.2
  | [], _, h, p, hp => by simp at hp
  | d :: ds, _, h, p, hp => by
    obtain ⟨v, vr, rfl, h1, h2⟩ := h
    rw [List.zip_cons_cons] at hp
    rcases List.mem_cons.mp hp with rfl | hp
    · exact h1
    · exact rds_zip h2 p hp
/-- sorts along maps -/
theorem sort_map {α β : Type} (f : α → β) {le : β → β → Bool} {le' : α → α → Bool} {xs : List α} (h : ∀ a ∈ xs, ∀ b ∈ xs, le' a b = le (f a) (f b)) : (xs.map f).mergeSort le = (xs.mergeSort le').map f := by
  rw [List.map_mergeSort]
  intro a ha b hb
  exact (h a ha b hb)
theorem c_sorted (hK : X.K = t.K) (hu : X.A.units + 65 < cLine) (cell : Bool) : CallR X (.builtin "sorted") (rC t (bi cx cell .sorted)) := CallR.by fun vs H Q ⟨μ, S, ds, rs, r, h⟩ => by
  obtain ⟨x, ys, rfl, e, h⟩ := l1_of h
  obtain ⟨v, rfl, rx⟩ := r.one
  unfold fSorted at e
  split at e
  · rename_i xs q
    split at e
    · rename_i hh
      obtain ⟨h1, h2, h3⟩ := and3 hh
      cases e
      obtain ⟨a, us, rfl, hs, r2⟩ := seqOf_rd rs q rx
      obtain ⟨d1, c1⟩ := dps_of 60 _ us h1 r2
      obtain ⟨al, al2⟩ := alkAll_pd h1 h2
      refine ⟨_, cr_srtD hu, a, us, toPDs xs, rfl, by rw [hK]; exact hs, by rw [hK]; exact d1, fun d hd d' hd' => al.1 d hd d' hd', sortable_pd h1 h3 h2, toPDs_dep 60 _ h1, fun p hp => ?_⟩
      have hlen := r2.length
      -- the items and their values, sorted along
      have ltB' : ∀ a ∈ xs, ∀ b ∈ xs, PySem.W.dataLt (toPD a) (toPD b) = ltB a b := fun a ha b hb => ltB_pd 60 60 a b (pds_mem h1 a ha) (pds_mem h1 b hb) (al2 a ha b hb)
      have e1 : us.zip (toPDs xs) = (xs.zip us).map fun z => (z.2, toPD z.1) := by
        rw [toPDs_map]
        clear h hs r2 d1 c1 al al2 h1 h2 h3 hh q rx ltB'
        induction xs generalizing us with
        | nil => simp
        | cons y ys ih => cases us with
          | nil => simp
          | cons u us => simp at hlen ⊢; exact ih us hlen
      have inx : ∀ z ∈ xs.zip us, z.1 ∈ xs := fun z hz => (List.of_mem_zip (a := z.1) (b := z.2) hz).1
      have e2 : (us.zip (toPDs xs)).mergeSort (PySem.W.dataLe false (·.2)) = ((xs.zip us).mergeSort fun a b => !ltB b.1 a.1).map fun z => (z.2, toPD z.1) := by
        rw [e1]
        refine sort_map _ fun a ha b hb => ?_
        rw [PySem.W.dataLe_eq]
        dsimp only [cond]
        rw [ltB' b.1 (inx b hb) a.1 (inx a ha)]
      have e3 : sortB xs = ((xs.zip us).mergeSort fun a b => !ltB b.1 a.1).map (·.1) := by
        have : xs = (xs.zip us).map (·.1) := (List.map_fst_zip (by omega)).symm
        unfold sortB
        conv => lhs; rw [this]
        exact sort_map _ fun a ha b hb => rfl
      have rz : ∀ z ∈ ((xs.zip us).mergeSort fun a b => !ltB b.1 a.1), RD t μ H z.1 z.2 := fun z hz => rds_zip r2 z ((List.mergeSort_perm _ _).mem_iff.mp hz)
      have := mkL_ok rs hp (ds := sortB xs) (vs := ((us.zip (toPDs xs)).mergeSort (PySem.W.dataLe false (·.2))).map (·.1)) (by
        rw [e2, e3, List.map_map]
        exact rds_of_zip rz) h (by
        unfold sortB
        rw [List.length_mergeSort]
        exact seq_len rs q rx)
      exact this
    · cases e
  · cases e
end
end Dn
/-! Dn: sets of ints, out of lists. -/
namespace DnSet
open PySem PySem.Spec PyProof.Rows L2 -- names
open PySem.F (called_set) -- names
section
variable {P : Program} {w : World} {A : Around} {E1 : Value → Shared → Prop} {s : Shared}
/-- a set as it is made -/
abbrev raw (w : World) : Obj := { cls := .type "set", dict := none, data := .set #[] 0 (.fresh 0 0 (!w.params.followText "set-order")) }
/-- its items come out of a list -/
theorem init_list {x : Addr} {ys : Array Value} {ns : List Int} (hand : A.handled = none) (hx : s.heap.IsList x ys) (hi : IntsAre ys.toList ns) (few : ns.length + 1 < scanBound) {R : Result → Shared → Prop}
    (done : ∀ (g : Heap) (tk c : Nat), SetR w g s.heap.objs.size (fun j => decide (j ∈ ns)) c → c ≤ ns.length → (∀ b o, s.heap.get? b = some o → g.get? b = some o) → R (.ok (.ret .none)) { s with heap := g, toks := tk }) :
    wpAny (model P w) A.in1 (Builtin.«set.__init__» ⟨[.ref s.heap.objs.size, .ref x], []⟩) (GQ.FinOf P w A R) (fun e s' => R (.error e) s') { s with heap := s.heap.push (raw w) } := by
  have many : ys.size = ns.length := by rw [← Array.length_toList]; exact IntsAre.length hi
  obtain ⟨⟨cl, dd, dt, ss⟩, g1, g2, n0, g3⟩ := id hx
  replace g2 : cl = .type "list" := g2
  replace g3 : dt = .seq ys n0 := g3
  subst g2 g3
  have at1 : (s.heap.push (raw w)).get? x = some { cls := .type "list", dict := dd, data := .seq ys n0, slots := ss } := Heap.get?_push_of_some _ g1
  have atS : (s.heap.push (raw w)).get? s.heap.objs.size = some (raw w) := Heap.get?_push_size _ rfl
  have lst1 : (s.heap.push (raw w)).IsList x ys := ⟨_, at1, rfl, n0, rfl⟩
  have no1 := F.sub_list_set
  have no2 := F.sub_list_frozenset
  have no3 : (Value.type "list" == Value.type "dict") = false := by decide
  have below : x < s.heap.objs.size := Heap.lt_size g1
  have typ : Shared.TypeIs { s with heap := s.heap.push (raw w) } (.ref x) "list" := ⟨_, at1, rfl⟩
  unfold Builtin.«set.__init__» noKeywords Builtin.Frozenset.updateFrom
  generalize keepIter : pyIter = PI
  wp_walk
  subst keepIter
  refine wpAny_pyIter_list lst1 (wpAny_bind (wpAny_runValue ?_))
  have calm : A.in1.in1.handled = none := by simp [hand]
  have apart : x ≠ (s.heap.push (raw w)).objs.size := by rw [Heap.size_push]; exact Nat.ne_of_lt (Nat.lt_succ_of_lt below)
  have outside : s.heap.objs.size ∉ [(s.heap.push (raw w)).objs.size, x] := by
    rw [Heap.size_push]
    intro z
    rcases List.mem_cons.mp z with z | z
    · exact absurd z (Nat.ne_of_lt (Nat.lt_succ_self _))
    · exact absurd (List.mem_singleton.mp z) (Nat.ne_of_gt below)
  have each : ∀ (i : Nat) (v : Value), ys[i]? = some v → ∃ k t, ns[i]? = some k ∧ v = .int k t := fun i v hv => by
    have hin : i < ns.length := by rw [← many]; exact (Array.getElem?_eq_some_iff.mp hv).1
    obtain ⟨t, e⟩ := IntsAre.int_at hi i v (by rw [Array.getElem?_toList]; exact hv)
    exact ⟨ns[i], t, List.getElem?_eq_getElem hin, by rw [e, List.getD_eq_getElem?_getD, List.getElem?_eq_getElem hin]; rfl⟩
  refine set_update_ints ((Walks.list calm _ x apart ys).toS) s.heap.objs.size outside ns many few each ys.size 0 _ (by omega) (Nat.zero_le _) ?here ?start fun s2 c mv le R2 => ?_
  case here => exact ⟨⟨_, Heap.get?_push_size _ rfl, rfl, rfl⟩, lst1.push _⟩
  case start =>
    have z : ((s.heap.push (raw w)).push { cls := .type "list_iterator", data := .fields #[.ref x, .int 0 0] }).get? s.heap.objs.size = some (raw w) := Heap.get?_push_of_some _ atS
    exact ⟨0, Nat.le_refl 0, setR_new_at z⟩
  obtain ⟨hp2, gn, dr, tk2, os2⟩ := s2
  cases (show gn = s.gens from mv.gens); cases (show dr = s.drawn from mv.drawn); cases (show os2 = s.os from mv.os)
  refine wpAny_pure (wpAny_pure ?_)
  rw [many] at le
  refine done hp2 tk2 c R2 le fun b o e => ?_
  have hb := Heap.lt_size e
  refine mv.heap b o ?_ (Heap.get?_push_of_some _ (Heap.get?_push_of_some _ e))
  rw [Heap.size_push]
  intro z
  rcases List.mem_cons.mp z with z | z
  · exact absurd z (Nat.ne_of_lt hb)
  · exact absurd (List.mem_singleton.mp z) (Nat.ne_of_lt (Nat.lt_succ_of_lt hb))
/-- set(a list of ints) -/
theorem set_list {x : Addr} {ys : Array Value} {ns : List Int} {Q : Value → Shared → Prop} (hand : A.handled = none) (hx : s.heap.IsList x ys) (hi : IntsAre ys.toList ns) (few : ns.length + 1 < scanBound)
    (done : ∀ (g : Heap) (tk c : Nat), SetR w g s.heap.objs.size (fun j => decide (j ∈ ns)) c → c ≤ ns.length → (∀ b o, s.heap.get? b = some o → g.get? b = some o) → Q (.ref s.heap.objs.size) { s with heap := g, toks := tk }) :
    wpAny (model P w) A (call (.type "set") [.ref x]) Q E1 s := by
  obtain ⟨c, tl, hmro⟩ := called_set.mro
  have made := called_set.made
  have below := called_set.sub
  have notT := called_set.notType
  have can := called_set.canCreate
  have one := F.typeCall_set_1 (.ref x)
  refine wpAny_call (codeAny_of_tree ?_)
  show wpAny _ _ (callAny (.type "set") _) _ _ _
  refine wpAny_pure ⟨Code.quiet_builtin (_ : Args) (by decide +kernel), codeAny_builtin PySem.F.entry_type_call ?_⟩
  rw [Around.under_plain (weight_type_call_type "set" [Value.ref x] []) rfl]
  repeat (any_goals (first | assumption | wp_step))
  refine codeAny_mono (code_set_led1 (.ref x) (E := E1) (Q₁ := fun ob s₁ => ob = .ref s.heap.objs.size ∧ s₁ = { s with heap := s.heap.push (raw w) }) ⟨rfl, rfl⟩) fun r s₁ hr => ?_
  match r, hr with
  | .error _, hr => exact hr
  | .ok (.ret ob), ⟨e1, e2⟩ =>
    subst e1 e2
    have typ : Shared.TypeIs { s with heap := s.heap.push (raw w) } (.ref s.heap.objs.size) "set" := ⟨raw w, Heap.get?_push_size _ rfl, rfl⟩
    have look := called_set.init.lookup
    have bound := called_set.init.bind (.ref s.heap.objs.size)
    repeat (any_goals (first | assumption | wp_step))
    refine codeAny_mono (codeAny_call_builtin (R := wants (fun r s₂ => r = .none ∧ ∃ (g : Heap) (tk c : Nat), s₂ = { s with heap := g, toks := tk } ∧ SetR w g s.heap.objs.size (fun j => decide (j ∈ ns)) c ∧ c ≤ ns.length ∧ ∀ b o, s.heap.get? b = some o → g.get? b = some o) E1)
      called_set.init.plain F.entry_set_init (check_set_init_1 typ (init_list (A := A.in1) (by simp [hand]) hx hi few fun g tk c a1 a2 a3 => ⟨rfl, g, tk, c, rfl, a1, a2, a3⟩))) fun r₂ s₂ hr₂ => ?_
    match r₂, hr₂ with
    | .error _, h2 => exact h2
    | .ok (.ret u), ⟨e3, g, tk, c, e4, a1, a2, a3⟩ =>
      subst e3 e4
      repeat (any_goals (first | assumption | wp_step))
      exact done g tk c a1 a2 a3
    | .ok .next, h2 => exact h2.elim
    | .ok .brk, h2 => exact h2.elim
    | .ok .cont, h2 => exact h2.elim
  | .ok .next, hr => exact hr.elim
  | .ok .brk, hr => exact hr.elim
  | .ok .cont, hr => exact hr.elim
end
end DnSet
/-! Dn: isinstance, repr, methods of lists. -/
namespace Dn
open PySem L2 -- names

def tyW (t : Tb) : Ty → V
  | .int => .ty "int" | .bool => .ty "bool" | .str => .ty "str" | .list => .ty "list" | .tuple => .ty "tuple" | .dict => .ty "dict" | .cls c => .ref (t.ca c)
def tyU (t : Tb) : Ty → Value
  | .int => .type "int" | .bool => .type "bool" | .str => .type "str" | .list => .type "list" | .tuple => .type "tuple" | .dict => .type "dict" | .cls c => .ref (t.ca c)
def kdU (t : Tb) : Kd → Value
  | .non => .type "NoneType" | .ty a => tyU t a
theorem tyW_rel (t : Tb) (y : Ty) : RelV (tyW t y) (tyU t y) := by cases y <;> rfl
theorem tyW_cls (t : Tb) (y : Ty) : ClsV (tyW t y) (tyU t y) := by cases y <;> constructor
theorem tys_cls (t : Tb) : ∀ ts : List Ty, Paired ClsV (ts.map (tyW t)) (ts.map (tyU t))
  | [] => .nil
  | y :: ts => .cons (tyW_cls t y) (tys_cls t ts)
/-- what the program's own classes are -/
structure CF (t : Tb) (P : Prog) (c : Nat) (cd : CD) : Prop where
  ins : C8.InsC t.K (t.ca c)
  noat : ∀ f ∈ cd.fields, NoAttr t.K (t.ca c) (t.nm f)
  meth : ∀ m f, cd.meths.lookup m = some f → Meth t.K (t.ca c) (t.nm m) (t.fa f)
  make : Mk t.K (t.ca c) (t.fa cd.init)
  kit : ∀ y : Ty, (∀ c', y = .cls c' → c' < P.cls.length) → PySem.W.kitOne t.K (.ref (t.ca c)) (tyU t y) = some (subK (.ty (.cls c)) y)
  tik : ∀ k : Kd, (∀ c', k ≠ .ty (.cls c')) → PySem.W.kitOne t.K (kdU t k) (.ref (t.ca c)) = some (subK k (.cls c))
  eqm : ∀ f, cd.eq = some f → PySem.W.findIn t.K (.ref (t.ca c)) "__eq__" = some (some (.ref (t.fa f))) ∧ PySem.W.isFn t.K (.ref (t.fa f)) = true ∧ PySem.W.findIn t.K (.ref (t.ca c)) "__ne__" = some (some (.builtin "object.__ne__"))
  lnm : ∀ f, cd.len = some f → PySem.W.findIn t.K (.ref (t.ca c)) "__len__" = some (some (.ref (t.fa f))) ∧ PySem.W.isFn t.K (.ref (t.fa f)) = true
  nf : ∀ k : Kd, (∀ c', k = .ty (.cls c') → c' < P.cls.length) → PySem.W.notFirst t.K (t.ca c) (kdU t k) = true
abbrev CFs (t : Tb) (P : Prog) : Prop := ∀ c cd, P.cls[c]? = some cd → CF t P c cd
theorem kit_base (t : Tb) (k : Kd) (y : Ty) (hk : ∀ c', k ≠ .ty (.cls c')) (hy : ∀ c', y ≠ .cls c') : PySem.W.kitOne t.K (kdU t k) (tyU t y) = some (subK k y) := by
  cases k with
  | non => cases y <;> first | exact absurd rfl (hy _) | exact kit_ty (by decide +kernel)
  | ty a =>
    cases a <;> first | exact absurd rfl (hk _) | (cases y <;> first | exact absurd rfl (hy _) | exact kit_ty (by decide +kernel))
theorem kit_of {t : Tb} {P : Prog} (cf : CFs t P) {k : Kd} {y : Ty} (hk : ∀ c', k = .ty (.cls c') → c' < P.cls.length) (hy : ∀ c', y = .cls c' → c' < P.cls.length) : PySem.W.kitOne t.K (kdU t k) (tyU t y) = some (subK k y) := by
  by_cases h1 : ∃ c, k = .ty (.cls c)
  · obtain ⟨c, rfl⟩ := h1
    have hc := hk c rfl
    exact (cf c _ (List.getElem?_eq_getElem hc)).kit y hy
  · have h1' : ∀ c', k ≠ .ty (.cls c') := fun c' e => h1 ⟨c', e⟩
    by_cases h2 : ∃ c, y = .cls c
    · obtain ⟨c, rfl⟩ := h2
      have hc := hy c rfl
      exact (cf c _ (List.getElem?_eq_getElem hc)).tik k h1'
    · exact kit_base t k y h1' fun c' e => h2 ⟨c', e⟩
theorem kit_any {t : Tb} {P : Prog} (cf : CFs t P) {k : Kd} (hk : ∀ c', k = .ty (.cls c') → c' < P.cls.length) : ∀ (ts : List Ty), (∀ y ∈ ts, ∀ c', y = .cls c' → c' < P.cls.length) → PySem.W.kitAny t.K (kdU t k) (ts.map (tyU t)) = some (ts.any (subK k))
  | [], _ => rfl
  | y :: ts, h => by
    have h1 := kit_of cf hk (h y List.mem_cons_self)
    have h2 := kit_any cf hk ts fun z hz => h z (List.mem_cons_of_mem _ hz)
    rw [List.map_cons, List.any_cons]
    exact kitAny_cons h1 (fun e => by rw [e, Bool.false_or]; exact h2) fun e => by rw [e, Bool.true_or]
section
variable {t : Tb} {cx : Dn.Cx} {N : List Str} {sc : Scope} {mg : Str → Option Value} {W : Wi} {X : L2.Cx} {a b c : Expr} {ea eb ec : E} {es : List Expr} {Es : List E} {pos p px : Pos}
theorem tyX_tup {K : PySem.W.Frag} {H : Hp} {a : Addr} {vs : List V} (h : SqT K H a vs) : TyX K H (.ref a) (.type "tuple") := by
  rcases h with (h | ⟨o, h⟩) | ⟨o, its, n, h1, h2, _⟩
  · exact .base (.tup h)
  · exact .fTuple h
  · exact .kTuple h1 h2
theorem tyX_lst {K : PySem.W.Frag} {H : Hp} {a : Addr} {vs : List V} (h : SqL K H a vs) : TyX K H (.ref a) (.type "list") := by
  rcases h with (h | ⟨o, h⟩) | ⟨o, its, n, h1, h2, _⟩
  · exact .base (.lst h)
  · exact .base (.frz h)
  · exact .kList h1 h2
theorem tyX_dic {K : PySem.W.Frag} {H : Hp} {a : Addr} {kvs : List (Key × V)} (h : Rd H a (.dK kvs)) : TyX K H (.ref a) (.type "dict") := by
  rcases h with h | ⟨o, h⟩
  · exact .base (.dK h)
  · exact .fDict h
theorem tyX_ins {K : PySem.W.Frag} {H : Hp} {a C dx : Addr} {fs : List (Str × V)} (h : H a = some (.ins C dx fs)) (i : C8.InsC K C) : TyX K H (.ref a) (.ref C) := .base (.ins h i.cl i.ha i.hn i.htk i.hm)
theorem tyX_of {P : Prog} (cf : CFs t P) {μ : List Addr} {H : Hp} {S : Sto} {d : D} {v : V} {k : Kd} (rs : RS t μ S H) (r : RD t μ H d v) (e : kdOf P S d = some k) : TyX t.K H v (kdU t k) ∧ ∀ c', k = .ty (.cls c') → c' < P.cls.length := by
  have cls : ∀ {c a dx fs}, v = .ref a → H a = some (.ins (t.ca c) dx fs) → (if c < P.cls.length then some (Kd.ty (.cls c)) else none) = some k → TyX t.K H v (kdU t k) ∧ ∀ c', k = .ty (.cls c') → c' < P.cls.length := fun {c a dx fs} hv h e => by
    subst hv
    split at e
    · rename_i hc
      cases e
      exact ⟨tyX_ins h (cf c _ (List.getElem?_eq_getElem hc)).ins, fun c' e => by cases e; exact hc⟩
    · cases e
  cases d with
  | non => cases r; cases e; exact ⟨.base .non, fun _ h => nomatch h⟩
  | bl b => cases r; cases e; exact ⟨.base (.bl b), fun _ h => nomatch h⟩
  | int i => cases r; cases e; exact ⟨.base (.int i), fun _ h => nomatch h⟩
  | str s => obtain ⟨rfl, _⟩ := r; cases e; exact ⟨.base (.str _), fun _ h => nomatch h⟩
  | tup xs => cases e; obtain ⟨a, vs, rfl, f, _⟩ := r; exact ⟨tyX_tup f.seq, fun _ h => nomatch h⟩
  | lst xs => cases e; obtain ⟨a, vs, rfl, f, _⟩ := r; exact ⟨tyX_lst (SqL.of f.2), fun _ h => nomatch h⟩
  | scr xs => cases e; obtain ⟨a, vs, rfl, f, _⟩ := r; exact ⟨tyX_lst f.seq, fun _ h => nomatch h⟩
  | dic ks vs => cases e; obtain ⟨a, kvs, rfl, _, f, _⟩ := r; exact ⟨tyX_dic f, fun _ h => nomatch h⟩
  | ins c ids vs => obtain ⟨a, dx, us, rfl, _, f, _⟩ := r; exact cls rfl f e
  | fn f => cases e
  | ref l =>
    obtain ⟨a, hl, rfl⟩ := r
    simp only [kdOf] at e
    split at e
    · rename_i q
      cases e
      obtain ⟨vs, h1, _⟩ := rs.get l _ a q hl
      exact ⟨tyX_lst (SqL.of h1), fun _ h => nomatch h⟩
    · rename_i q
      cases e
      obtain ⟨vs, h1, _⟩ := rs.get l _ a q hl
      exact ⟨tyX_dic (.inl h1), fun _ h => nomatch h⟩
    · rename_i q
      obtain ⟨dx, vs, h1, _⟩ := rs.get l _ a q hl
      exact cls rfl h1 e
    · cases e
/-- a type's name, as a value -/
theorem p_ty {x : Str} {n : String} (h : Fe t cx N sc mg W X) (hg : sc.names.lookup x = some .globalImplicit) (hm : mg x = none) (hv : bootBuiltins x = some (.type n)) (hn : x ≠ "__name__") (hd : (x == ("__debug__" : Str)) = false) : PE X (.Name x p) (tC (.ty n)) :=
  pe_bltn (h.gl hg) (by rw [h.mm]; exact hm) hv rfl hn hd
theorem p_cls {x : Str} {c : Addr} (h : Fe t cx N sc mg W X) (hg : sc.names.lookup x = some .globalImplicit) (hm : mg x = some (.ref c)) (hd : (x == ("__debug__" : Str)) = false) : PE X (.Name x p) (tC (.ref c)) :=
  pe_glob (h.gl hg) (by rw [h.mm]; exact hm) rfl hd
def tCs (vs : List V) : TA := fun _ H Q => Q vs H
theorem pa_cs0 : PA X [] (tCs []) := PA.weak pa_nil fun _ _ _ q => q
theorem pa_cs {v : V} {vs : List V} (ha : PE X a (tC v)) (hr : PA X es (tCs vs)) (hs : starEach (a :: es) X.env = (false, eval a X.env) :: starEach es X.env) : PA X (a :: es) (tCs (v :: vs)) :=
  PA.weak (pa_cons ha hr hs) fun _ _ _ q => q
def opIs (P : Prog) (ts : List Ty) (x : D) (S : Sto) : R D := (R.of (isTys P S x ts) S).bind fun b S => .ok (.bl b) S
theorem isi_ok {ts : List Ty} (σ : L2.St) (H : Hp) (Q : VK) (q : tE t W (ev cx (.isi ea ts)) σ H Q) :
    tE t W (ev cx ea) σ H (fun v H' => ∃ μ S x k, RS t μ S H' ∧ RD t μ H' x v ∧ kdOf cx.P S x = some k ∧ ∀ μ2 H2, Ext μ H' μ2 H2 → RS t μ2 S H2 → Q (.bl (ts.any (subK k))) H2) := by
  obtain ⟨μ, ρ, S, re, rs, q⟩ := q
  refine ⟨μ, ρ, S, re, rs, (Aft.bind (r := ev cx ea ρ S) q).imp (fun x S1 μ1 H1 e1 s1 k1 v rv => ?_) fun _ _ _ _ _ _ z => z⟩
  cases z : kdOf cx.P S1 x with
  | none =>
    have z' : isTys cx.P S1 x ts = none := by unfold isTys; rw [z]; rfl
    rw [z'] at k1
    exact k1.elim
  | some k =>
    have z' : isTys cx.P S1 x ts = some (ts.any (subK k)) := by unfold isTys; rw [z]; rfl
    rw [z'] at k1
    exact ⟨μ1, S1, x, k, s1, rv, z, fun μ2 H2 e2 s2 => k1 μ2 H2 e2 s2 (e1.trans e2) _ rfl⟩
/-- isinstance(a, T) -/
theorem r_isi1 (h : Fe t cx N sc mg W X) (cf : CFs t cx.P) {y : Ty} (hg : sc.names.lookup ("isinstance" : Str) = some .globalImplicit) (hm : mg ("isinstance" : Str) = none) (ha : VE t cx W X a ea) (hb : PE X b (tC (tyW t y))) (hy : ∀ c', y = .cls c' → c' < cx.P.cls.length)
    (h1 : starEach [a, b] X.env = (false, eval a X.env) :: starEach [b] X.env) (h2 : starEach [b] X.env = (false, eval b X.env) :: starEach [] X.env) (hpl : (backTo pos (starEach [b] X.env)).any (·.1) = false) :
    VE t cx W X (.Call (.Name "isinstance" p) [a, b] [] pos) (.isi ea [y]) := by
  refine PE.weak (pe_callB call_isi (h.gl hg) (by rw [h.mm]; exact hm) (by decide +kernel) (pa_cons ha (pa_cons hb pa_nil h2) h1) (by decide +kernel) (by decide +kernel) h1 hpl) fun σ H Q q => ?_
  obtain ⟨μ, ρ, S, re, rs, q⟩ := isi_ok σ H Q q
  refine ⟨μ, ρ, S, re, rs, q.imp (fun x S1 μ1 H1 e1 s1 k1 v rv => ?_) fun _ _ _ _ _ _ z => z⟩
  obtain ⟨μ', S', x', k, s', r', e, q'⟩ := k1 v rv
  obtain ⟨ty, hk⟩ := tyX_of cf s' r' e
  refine ⟨v, tyW t y, _, tyU t y, _, rfl, tyW_cls t y, by rw [h.kk]; exact ty, by rw [h.kk]; exact kit_of cf hk hy, ?_⟩
  have q2 := q' μ' H1 Ext.refl s'
  rw [List.any_cons, List.any_nil, Bool.or_false] at q2
  exact q2
/-- isinstance(a, (T, ..)) -/
theorem r_isiT (h : Fe t cx N sc mg W X) (cf : CFs t cx.P) {ts : List Ty} {k : Nat} (hg : sc.names.lookup ("isinstance" : Str) = some .globalImplicit) (hm : mg ("isinstance" : Str) = none) (ha : VE t cx W X a ea) (hb : PA X es (tCs (ts.map (tyW t)))) (hl : ts.length ≤ 100) (hy : ∀ y ∈ ts, ∀ c', y = .cls c' → c' < cx.P.cls.length)
    (h1 : starEach [a, .Tuple es k px] X.env = (false, eval a X.env) :: starEach [.Tuple es k px] X.env) (h2 : starEach [.Tuple es k px] X.env = (false, eval (.Tuple es k px) X.env) :: starEach [] X.env) (hpl : (backTo pos (starEach [.Tuple es k px] X.env)).any (·.1) = false) :
    VE t cx W X (.Call (.Name "isinstance" p) [a, .Tuple es k px] [] pos) (.isi ea ts) := by
  refine PE.weak (pe_callB call_isiT (h.gl hg) (by rw [h.mm]; exact hm) (by decide +kernel) (pa_cons ha (pa_cons (pe_tup hb) pa_nil h2) h1) (by decide +kernel) (by decide +kernel) h1 hpl) fun σ H Q q => ?_
  obtain ⟨μ, ρ, S, re, rs, q⟩ := isi_ok σ H Q q
  refine ⟨μ, ρ, S, re, rs, q.imp (fun x S1 μ1 H1 e1 s1 k1 v rv => ?_) fun _ _ _ _ _ _ z => z⟩
  refine ⟨by rw [List.length_map, sizeLine_eq]; omega, fun tp hp => ?_⟩
  obtain ⟨μ', S', x', k, s', r', e, q'⟩ := k1 v rv
  have ex := Ext.fresh (μ := μ') (o := .tup (ts.map (tyW t))) hp
  have sx : RS t μ' S' (upd H1 tp (.tup (ts.map (tyW t)))) := s'.fresh hp
  obtain ⟨ty, hk⟩ := tyX_of cf sx (r'.ext ex) e
  refine ⟨v, tp, ts.map (tyW t), _, ts.map (tyU t), _, rfl, upd_same, ?_, by rw [h.kk]; exact ty, by rw [h.kk]; exact kit_any cf hk ts hy, q' μ' _ ex sx⟩
  exact tys_cls t ts

/-! repr -/
theorem tru_bind {α : Type} (r : R α) (f : α → Sto → R D) : tru (r.bind f) = r.bind fun a S => tru (f a S) := by cases r <;> rfl
theorem Aft.tru_bind {t : Tb} {μ : List Addr} {H : Hp} {α : Type} {r : R α} {f : α → Sto → R D} {k : Bool → Sto → List Addr → Hp → Prop} {kx : Xn → Sto → List Addr → Hp → Prop} (h : Aft t μ H (tru (r.bind f)) k kx) : Aft t μ H (r.bind fun a S => tru (f a S)) k kx := by
  rw [← Dn.tru_bind]; exact h
def rRep (K : PySem.W.Frag) : List V → Hp → VK → Prop := fun vs H Q => ∃ v d, vs = [v] ∧ Dp K H v d ∧ d.showable = true ∧ d.canLay0 = true ∧ d.shown.length ≤ sizeLine ∧ d.depth ≤ 60 ∧ Q (.str d.shown) H
theorem call_repr (hu : X.A.units + 65 < cLine) (hg : X.A.guards = some []) : CallR X (.builtin "repr") (rRep X.K) := by
  intro pins s σ H xs us Q I r h
  obtain ⟨v, d, rfl, hd, hs, hc, hz, hdp, q⟩ := h
  obtain ⟨u, rfl, ru⟩ := vals1 r
  obtain ⟨as, rd⟩ := Dp.reads I d v u hd ru
  have nd : d.hasDict = true → sysModules ∉ as := PyData.noDict_hsm (PyData.hasDict_of_canLay d hc)
  have fin : ∀ (h' : Heap) (tk : Nat), (∀ b o, s.heap.get? b = some o → h'.get? b = some o) → ∀ z, EP X pins σ Q (.str d.shown z) { s with heap := h', toks := tk } := fun h' tk hk z =>
    ⟨.str d.shown, H, I.kept (t' := tk) hk, ⟨z, rfl⟩, q⟩
  cases rd with
  | none => exact PySem.P.repr_of_none (by simpa only [PyData.shown] using fin s.heap _ (fun _ _ e => e) _)
  | bool b => exact PySem.P.repr_of_bool (by simpa only [PyData.shown] using fin s.heap _ (fun _ _ e => e) _)
  | int i t => exact PySem.P.repr_of_int (by simpa [PyData.showable] using hs) (by simpa only [PyData.shown] using fin s.heap _ (fun _ _ e => e) _)
  | str x t => exact PySem.P.repr_of_str (by simpa only [PyData.shown] using fin s.heap _ (fun _ _ e => e) _) (by simpa only [PyData.shown] using hz)
  | list h1 h2 h3 h4 => exact repr_of_reads' (.list h1 h2 h3 h4) hs nd hg (by omega) (fun _ _ e => e) (fun h' u tk hk => fin h' tk hk u) hz
  | tuple h1 h2 h3 h4 => exact repr_of_reads' (.tuple h1 h2 h3 h4) hs nd hg (by omega) (fun _ _ e => e) (fun h' u tk hk => fin h' tk hk u) hz
  | dict h1 h2 h3 h4 h5 => exact absurd (PyData.hasDict_of_canLay _ hc) (by simp [PyData.hasDict])
mutual
theorem shw_pd : ∀ (n : Nat) (d : D), pd n d = true → shw d = true → (toPD d).showable = true ∧ ((toPD d).canLay0 = true → (toPD d).leavesShort 2000 = true) ∧ (toPD d).bulk = blk d
  | _, .non, _, _ => by simp [toPD, PyData.showable, PyData.leavesShort, PyData.bulk, blk]
  | _, .bl _, _, _ => by simp [toPD, PyData.showable, PyData.leavesShort, PyData.bulk, blk]
  | _, .int i, _, h => by
    have h' : i.natAbs.log2 < 1920 := by simpa [shw] using h
    refine ⟨by simpa [toPD, PyData.showable] using h', fun _ => ?_, by simp [toPD, PyData.bulk, blk]⟩
    have := int_text_length_le (by omega) h'
    simp only [toPD, PyData.leavesShort, PyData.shown]
    refine decide_eq_true ?_
    rw [ofString_length]
    omega
  | _, .str s, _, _ => by
    refine ⟨by simp [toPD, PyData.showable], fun h => ?_, by simp [toPD, PyData.bulk, blk]⟩
    simp only [toPD, PyData.canLay0, PyData.strOk, PyData.leavesShort] at h ⊢
    simp only [List.all_toArray, List.all_eq_true, decide_eq_true_eq] at h ⊢
    intro c hc
    have := h c hc
    omega
  | 0, .tup _, h, _ => by simp [pd] at h
  | 0, .lst _, h, _ => by simp [pd] at h
  | n + 1, .tup xs, h, k => by
    obtain ⟨h1, h2, h3⟩ := shws_pd n xs (by simpa [pd] using h) (by simpa [shw] using k)
    exact ⟨by simpa [toPD, PyData.showable] using h1, fun z => by simpa [toPD, PyData.leavesShort] using h2 (by simpa [toPD, PyData.canLay0] using z), by simpa [toPD, PyData.bulk, blk] using h3⟩
  | n + 1, .lst xs, h, k => by
    obtain ⟨h1, h2, h3⟩ := shws_pd n xs (by simpa [pd] using h) (by simpa [shw] using k)
    exact ⟨by simpa [toPD, PyData.showable] using h1, fun z => by simpa [toPD, PyData.leavesShort] using h2 (by simpa [toPD, PyData.canLay0] using z), by simpa [toPD, PyData.bulk, blk] using h3⟩
  | _, .dic _ _, h, _ => by simp [pd] at h
  | _, .ins _ _ _, h, _ => by simp [pd] at h
  | _, .ref _, h, _ => by simp [pd] at h
  | _, .fn _, h, _ => by simp [pd] at h
  | _, .scr _, h, _ => by simp [pd] at h
theorem shws_pd : ∀ (n : Nat) (ds : List D), pds n ds = true → shws ds = true → PyData.showableAll (toPDs ds) = true ∧ (PyData.canLayAll0 (toPDs ds) = true → PyData.leavesShortAll 2000 (toPDs ds) = true) ∧ PyData.bulkAll (toPDs ds) = blks ds
  | _, [], _, _ => by simp [toPDs, PyData.showableAll, PyData.leavesShortAll, PyData.bulkAll, blks]
  | n, d :: ds, h, k => by
    have h' : pd n d = true ∧ pds n ds = true := by simpa [pds] using h
    have k' : shw d = true ∧ shws ds = true := by simpa [shws] using k
    obtain ⟨a1, a2, a3⟩ := shw_pd n d h'.1 k'.1
    obtain ⟨b1, b2, b3⟩ := shws_pd n ds h'.2 k'.2
    refine ⟨by simp [toPDs, PyData.showableAll, a1, b1], fun z => ?_, by simp [toPDs, PyData.bulkAll, blks, a3, b3]⟩
    have z' : (toPD d).canLay0 = true ∧ PyData.canLayAll0 (toPDs ds) = true := by simpa [toPDs, PyData.canLayAll0] using z
    simp [toPDs, PyData.leavesShortAll, a2 z'.1, b2 z'.2]
end
mutual
theorem same_eq : ∀ (a b : D), same a b = true → a = b
  | .non, b, h => by cases b <;> simp [same] at h ⊢
  | .bl x, b, h => by cases b <;> simp [same] at h ⊢; exact h
  | .int x, b, h => by cases b <;> simp [same] at h ⊢; exact h
  | .str x, b, h => by cases b <;> simp [same] at h ⊢; exact h
  | .tup xs, b, h => by
    cases b with
    | tup ys => rw [sames_eq xs ys (by simpa [same] using h)]
    | _ => simp [same] at h
  | .lst xs, b, h => by
    cases b with
    | lst ys => rw [sames_eq xs ys (by simpa [same] using h)]
    | _ => simp [same] at h
  | .dic _ _, b, h => by cases b <;> simp [same] at h
  | .ins _ _ _, b, h => by cases b <;> simp [same] at h
  | .ref _, b, h => by cases b <;> simp [same] at h
  | .fn _, b, h => by cases b <;> simp [same] at h
  | .scr _, b, h => by cases b <;> simp [same] at h
theorem sames_eq : ∀ (as bs : List D), sames as bs = true → as = bs
  | [], bs, h => by cases bs <;> simp [sames] at h ⊢
  | a :: as, bs, h => by
    cases bs with
    | nil => simp [sames] at h
    | cons b bs =>
      have h' : same a b = true ∧ sames as bs = true := by simpa [sames] using h
      rw [same_eq a b h'.1, sames_eq as bs h'.2]
end
theorem reprOk_of {μ : List Addr} {H : Hp} {S : Sto} {d : D} {v : V} (rs : RS t μ S H) (r : RD t μ H d v) (h : reprOk (rdOf S d) = true) :
    Dp t.K H v (toPD (rdOf S d)) ∧ (toPD (rdOf S d)).showable = true ∧ (toPD (rdOf S d)).canLay0 = true ∧ (toPD (rdOf S d)).shown.length ≤ sizeLine ∧ (toPD (rdOf S d)).depth ≤ 60 := by
  unfold reprOk at h
  simp only [Bool.and_eq_true, decide_eq_true_eq] at h
  obtain ⟨⟨h1, h2⟩, h3⟩ := h
  obtain ⟨dp, cl⟩ := dp_rd rs h1 r
  obtain ⟨a1, a2, a3⟩ := shw_pd 60 _ h1 h2
  refine ⟨dp, a1, cl, ?_, toPD_dep 60 _ h1⟩
  have := PyData.shown_le_bulk 2000 (by omega) _ (a2 cl)
  rw [a3] at this
  rw [sizeLine_eq]
  omega
/-- repr(a) != repr(b), of the same plain data -/
theorem r_repne (h : Fe t cx N sc mg W X) {p1 p2 p3 p4 : Pos} (hg : sc.names.lookup ("repr" : Str) = some .globalImplicit) (hm : mg ("repr" : Str) = none) (ha : VE t cx W X a ea) (hb : VE t cx W X b eb)
    (h1 : starEach [a] X.env = (false, eval a X.env) :: starEach [] X.env) (h2 : starEach [b] X.env = (false, eval b X.env) :: starEach [] X.env) :
    VT t cx W X (.Compare (.Call (.Name "repr" p1) [a] [] p2) [.NotEq] [.Call (.Name "repr" p3) [b] [] p4] pos) (.val (.repne ea eb)) := by
  have bt : bootBuiltins ("repr" : Str) = some (.builtin "repr") := by decide +kernel
  have ca := pe_callB (X := X) (pos := p2) (p := p1) (call_repr h.un h.gd) (h.gl hg) (by rw [h.mm]; exact hm) bt (pa_cons ha pa_nil h1) (by decide +kernel) (by decide +kernel) h1 rfl
  have cb := pe_callB (X := X) (pos := p4) (p := p3) (call_repr h.un h.gd) (h.gl hg) (by rw [h.mm]; exact hm) bt (pa_cons hb pa_nil h2) (by decide +kernel) (by decide +kernel) h2 rfl
  refine PT.weak (pt_cmpR op_ne ca cb (nomark _)) fun σ H Q q => ?_
  obtain ⟨μ, ρ, S, re, rs, q⟩ := q
  replace q : Aft t μ H (tru (ev cx (.repne ea eb) ρ S)) (fun b _ _ H' => Q b H') (fun x _ μ' H' => ∀ cls dd, RX t μ' H' x cls dd → W.w cls dd σ H') := q
  have rw1 : ev cx (.repne ea eb) ρ S = (ev cx ea ρ S).bind fun x S1 => if reprOk (rdOf S1 x) then (ev cx eb ρ S1).bind fun y S => if same (rdOf S1 x) (rdOf S y) then .ok (.bl false) S else .bad else .bad := by simp only [ev]
  rw [rw1] at q
  refine ⟨μ, ρ, S, re, rs, Aft.imp (r := ev cx ea ρ S) (Aft.bind (Aft.tru_bind q)) (fun x S1 μ1 H1 e1 s1 k1 v rv => ?_) fun _ _ _ _ _ _ z => z⟩
  cases z : reprOk (rdOf S1 x) with
  | false => rw [z] at k1; exact k1.elim
  | true =>
    rw [z] at k1
    rw [h.kk]
    obtain ⟨g1, g2, g3, g4, g5⟩ := reprOk_of s1 rv z
    refine ⟨v, _, rfl, g1, g2, g3, g4, g5, μ1, ρ, S1, re.ext e1, s1, Aft.imp (r := ev cx eb ρ S1) (Aft.bind (Aft.tru_bind k1)) (fun y S2 μ2 H2 e2 s2 k2 u ru => ?_) fun _ _ _ _ e2 _ z => z (e1.trans e2)⟩
    cases z2 : same (rdOf S1 x) (rdOf S2 y) with
    | false => rw [z2] at k2; exact k2.elim
    | true =>
      rw [z2] at k2
      have eq := same_eq _ _ z2
      obtain ⟨g1, g2, g3, g4, g5⟩ := reprOk_of s2 ru (by rw [← eq]; exact z)
      refine ⟨u, _, rfl, g1, g2, g3, g4, g5, rfl, false, ?_, Aft.now s2 k2 e2 (e1.trans e2)⟩
      rw [← eq]
      simp
end
end Dn
/-! Dn: a call's end; calls of the program's own defs and classes. -/
namespace Dn
open PySem L2 -- names

section
variable {t : Tb} {μ : List Addr} {H : Hp} {S : Sto} {n : Nat}
theorem take_at {l : Nat} {a : Addr} (hl : l < n) (h : μ[l]? = some a) : (μ.take n)[l]? = some a := by
  rw [List.getElem?_take_of_lt hl]; exact h
theorem take_not {a : Addr} (h : a ∉ μ) : a ∉ μ.take n := fun m => h (List.mem_of_mem_take m)
mutual
theorem RD.shrink : ∀ (d : D) {v : V}, lt n d = true → RD t μ H d v → RD t (μ.take n) H d v
  | .non, _, _, h => h
  | .bl _, _, _, h => h
  | .int _, _, _, h => h
  | .str _, _, _, h => h
  | .fn _, _, _, h => h
  | .tup ds, _, k, h => by
    obtain ⟨a, vs, rfl, f, r⟩ := h
    refine ⟨a, vs, rfl, ?_, RDs.shrink ds (by simpa [lt] using k) r⟩
    rcases f with ⟨f, z⟩ | f
    · exact .inl ⟨⟨take_not f.1, f.2⟩, z⟩
    · exact .inr f
  | .scr ds, _, k, h => by
    obtain ⟨a, vs, rfl, f, r⟩ := h
    refine ⟨a, vs, rfl, ?_, RDs.shrink ds (by simpa [lt] using k) r⟩
    rcases f with ⟨f, z⟩ | f
    · exact .inl ⟨⟨take_not f.1, f.2⟩, z⟩
    · exact .inr f
  | .lst ds, _, k, h => by
    obtain ⟨a, vs, rfl, f, r⟩ := h
    exact ⟨a, vs, rfl, ⟨⟨take_not f.1.1, f.1.2⟩, f.2⟩, RDs.shrink ds (by simpa [lt] using k) r⟩
  | .dic ks ds, _, k, h => by
    obtain ⟨a, kvs, rfl, f, z, q, r⟩ := h
    have k' : lts n ks = true ∧ lts n ds = true := by simpa [lt] using k
    exact ⟨a, kvs, rfl, ⟨take_not f.1, f.2⟩, z, q, RDs.shrink ds k'.2 r⟩
  | .ins c ids ds, _, k, h => by
    obtain ⟨a, dx, vs, rfl, f, z, q, r⟩ := h
    exact ⟨a, dx, vs, rfl, ⟨take_not f.1, f.2⟩, z, q, RDs.shrink ds (by simpa [lt] using k) r⟩
  | .ref l, _, k, h => by
    obtain ⟨a, h, rfl⟩ := h
    exact ⟨a, take_at (by simpa [lt] using k) h, rfl⟩
theorem RDs.shrink : ∀ (ds : List D) {vs : List V}, lts n ds = true → RDs t μ H ds vs → RDs t (μ.take n) H ds vs
  | [], _, _, h => h
  | d :: ds, _, k, h => by
    obtain ⟨v, vr, rfl, h1, h2⟩ := h
    have k' : lt n d = true ∧ lts n ds = true := by simpa [lts] using k
    exact ⟨v, vr, rfl, RD.shrink d k'.1 h1, RDs.shrink ds k'.2 h2⟩
end
theorem RO.shrink {o : LO} {a : Addr} (k : o.lt n = true) (h : RO t μ H o a) : RO t (μ.take n) H o a := by
  cases o with
  | lst ds =>
    obtain ⟨vs, h, r⟩ := h
    exact ⟨vs, h, RDs.shrink ds k r⟩
  | dic ks ds =>
    obtain ⟨kvs, h, q, r⟩ := h
    have k' : lts n ks = true ∧ lts n ds = true := by simpa [LO.lt] using k
    exact ⟨kvs, h, q, RDs.shrink ds k'.2 r⟩
  | ins c ids ds =>
    obtain ⟨dx, vs, h, q, r⟩ := h
    exact ⟨dx, vs, h, q, RDs.shrink ds k r⟩
theorem RS.shrink (s : RS t μ S H) (k : (S.take n).all (LO.lt n) = true) : RS t (μ.take n) (S.take n) H where
  len := by rw [List.length_take, List.length_take, s.len]
  nd := s.nd.sublist (List.take_sublist n μ)
  get := fun l o a e1 e2 => by
    have hl : l < n := by
      have := (List.getElem?_eq_some_iff.mp e1).1
      rw [List.length_take] at this; omega
    rw [List.getElem?_take_of_lt hl] at e1 e2
    refine (s.get l o a e1 e2).shrink ((List.all_eq_true.mp k) o ?_)
    exact List.mem_of_getElem? (by rw [List.getElem?_take_of_lt hl]; exact e1)
  hid := s.hid
  dis := fun a ha => s.dis a (List.mem_of_mem_take ha)
  lens := fun o ho => s.lens o (List.mem_of_mem_take ho)
/-- cells that are new: values from now on -/
theorem cell_out (s : RS t μ S H) {l : Nat} {a : Addr} (hl : n ≤ l) (h : μ[l]? = some a) : a ∉ μ.take n ∧ a ∉ t.xi := by
  refine ⟨fun m => ?_, s.dis a (List.mem_of_getElem? h)⟩
  obtain ⟨k, hk, e⟩ := List.getElem_of_mem m
  have hk' : k < n := by rw [List.length_take] at hk; omega
  have e2 : μ[k]? = some a := by
    rw [← List.getElem?_take_of_lt hk', List.getElem?_eq_getElem hk, e]
  have := s.inj h e2
  omega
theorem ref_ge {l : Nat} (h : ¬ lt n (.ref l) = true) : n ≤ l := by
  simp only [lt, decide_eq_true_eq] at h
  omega
theorem frz1_rd (s : RS t μ S H) {d e : D} {v : V} (h : frz1 S n d = some e) (r : RD t μ H d v) : RD t (μ.take n) H e v := by
  unfold frz1 at h
  split at h
  · rename_i k
    cases h
    exact RD.shrink d k r
  · rename_i k
    split at h
    · rename_i l
      obtain ⟨a, hl, rfl⟩ := r
      have hn := ref_ge k
      split at h
      · rename_i xs q
        split at h
        · rename_i k2
          cases h
          obtain ⟨vs, h1, h2⟩ := s.get l _ a q hl
          exact ⟨a, vs, rfl, ⟨⟨(cell_out s hn hl).1, (cell_out s hn hl).2, by rw [← h2.length]; exact s.lens _ (List.mem_of_getElem? q)⟩, h1⟩, RDs.shrink xs k2 h2⟩
        · cases h
      · rename_i ks vs q
        split at h
        · rename_i k2
          cases h
          rw [Bool.and_eq_true] at k2
          obtain ⟨kvs, h1, h2, h3⟩ := s.get l _ a q hl
          exact ⟨a, kvs, rfl, cell_out s hn hl, .inl h1, h2, RDs.shrink vs k2.2 h3⟩
        · cases h
      · cases h
    · cases h
theorem frz1s_rd (s : RS t μ S H) : ∀ {ds es : List D} {vs : List V}, frz1s S n ds = some es → RDs t μ H ds vs → RDs t (μ.take n) H es vs
  | [], es, vs, h, r => by cases h; exact r
  | d :: ds, es, vs, h, r => by
    obtain ⟨v, vr, rfl, r1, r2⟩ := r
    unfold frz1s at h
    obtain ⟨y, h1, h2⟩ := bind_of h
    obtain ⟨ys, h3, h4⟩ := map_of h2
    subst h4
    exact ⟨v, vr, rfl, frz1_rd s h1 r1, frz1s_rd s h3 r2⟩
theorem frz2_rd (s : RS t μ S H) {d e : D} {v : V} (h : frz2 S n d = some e) (r : RD t μ H d v) : RD t (μ.take n) H e v := by
  unfold frz2 at h
  split at h
  · rename_i k
    cases h
    exact RD.shrink d k r
  · rename_i k
    split at h
    · rename_i l
      obtain ⟨a, hl, rfl⟩ := r
      have hn := ref_ge k
      split at h
      · rename_i xs q
        obtain ⟨ys, h3, h4⟩ := map_of h
        subst h4
        obtain ⟨vs, h1, h2⟩ := s.get l _ a q hl
        exact ⟨a, vs, rfl, ⟨⟨(cell_out s hn hl).1, (cell_out s hn hl).2, by rw [← h2.length]; exact s.lens _ (List.mem_of_getElem? q)⟩, h1⟩, frz1s_rd s h3 h2⟩
      · rename_i ks vs q
        split at h
        · obtain ⟨ys, h3, h4⟩ := map_of h
          subst h4
          obtain ⟨kvs, h1, h2, h3'⟩ := s.get l _ a q hl
          exact ⟨a, kvs, rfl, cell_out s hn hl, .inl h1, h2, frz1s_rd s h3 h3'⟩
        · cases h
      · cases h
    · rename_i xs
      obtain ⟨ys, h3, h4⟩ := map_of h
      subst h4
      obtain ⟨a, vs, rfl, f, r⟩ := r
      refine ⟨a, vs, rfl, ?_, frz1s_rd s h3 r⟩
      rcases f with ⟨f, z⟩ | f
      · exact .inl ⟨⟨take_not f.1, f.2⟩, z⟩
      · exact .inr f
    · cases h
theorem Ext.shrink {μ' : List Addr} {H' : Hp} (e : Ext μ H μ' H') : Ext μ H (μ'.take μ.length) H' where
  pre := by
    obtain ⟨r, rfl⟩ := e.pre
    rw [List.take_left]
    exact List.prefix_refl _
  keep := e.keep
  new := fun a h => e.new a (List.mem_of_mem_take h)
theorem RX.shrink {x : Xn} {cls : Value} {dd : Option Addr} (k : lts n x.fs = true) (r : RX t (μ.take n) H x cls dd) : RX t (μ.take n) H x cls dd := r
/-- a call's end: fin's answer stands -/
theorem fin_ok {H0 : Hp} {μ0 : List Addr} {d : D} {k : D → Sto → List Addr → Hp → Prop} {kx : Xn → Sto → List Addr → Hp → Prop} (h : Aft t μ0 H0 (fin μ0.length d S) k kx)
    (e : Ext μ0 H0 μ H) (s : RS t μ S H) {v : V} (r : RD t μ H d v) : ∃ d' S' μ', k d' S' μ' H ∧ RD t μ' H d' v := by
  unfold fin at h
  split at h
  · rename_i hk
    split at h
    · rename_i q
      exact ⟨_, _, _, h _ H e.shrink (s.shrink hk), frz2_rd s q r⟩
    · exact ⟨_, _, _, h _ H e s, r⟩
  · exact ⟨_, _, _, h _ H e s, r⟩
end
/-! ### the program's own defs -/
structure RoomG (k : Nat) (A : Around) : Prop where
  room : Room k A
  gd : A.guards = some []
theorem RoomG.mono {j k : Nat} {A : Around} (r : RoomG k A) (h : j ≤ k) : RoomG j A := ⟨r.room.mono h, r.gd⟩
theorem RoomG.deeper {k : Nat} {A : Around} (r : RoomG (k + 1) A) (env : PySem.Env) : RoomG k (A.deeper env) := ⟨r.room.deeper env, r.gd⟩
theorem RoomG.make {k : Nat} {A : Around} (r : RoomG (k + 1) A) (C : Addr) (us : List Value) (kw : List (Str × Value)) : RoomG k (A.under (.builtin "type.__call__" ⟨.ref C :: us, kw⟩)) := by
  refine ⟨r.room.make C us kw, ?_⟩
  have := r.gd
  simp [Around.under, Code.guards, Code.isGuard, guardIds, pushGuards, this]
structure FnG (P : Program) (w : World) (K : PySem.W.Frag) (mg : Str → Option Value) (base : Heap) (k : Nat) (f : Addr) (fd : FuncData) (ps : List Str) (sp : Sp) : Prop where
  len : ∀ vs H Q E, sp vs H Q E → vs.length = ps.length
  run : ∀ (A : Around) (outer : List PySem.Env) (s : Shared) (H : Hp) (args : Args) (us : List Value) (vs : List V) (Q : VK) (E : XK), RoomG k A → Env0 P w K mg base A outer s H → BindsTo s fd args (ps.zip us) → Vals vs us → sp vs H Q E →
    codeAny (PySem.model P w) A (.call (.ref f) args) (CR (L2.CX P w) outer P w H s Q E) s
/-- what the f-th def promises: what call says -/
def spC (t : Tb) (call : Nat → List D → Sto → R D) (f : Nat) : Sp := fun vs H Q E => ∃ xi μ S ds, RS { t with xi := xi } μ S H ∧ RDs { t with xi := xi } μ H ds vs ∧
  Aft { t with xi := xi } μ H (call f ds S) (fun d _ μ' H' => ∀ v, RD { t with xi := xi } μ' H' d v → Q v H') (fun x _ μ' H' => ∀ cls dd, RX { t with xi := xi } μ' H' x cls dd → E cls dd H')
/-- a def, as the module has it -/
structure Fi where
  a : Addr
  x : Str
  fd : FuncData
  ps : List Str
structure FiOk (K : PySem.W.Frag) (mg : Str → Option Value) (i : Fi) : Prop where
  at_ : mg i.x = some (.ref i.a)
  kp : PySem.W.keepIn K (.ref i.a) = true
  db : (i.x == ("__debug__" : Str)) = false
/-- calls, too -/
structure Fc (t : Tb) (cx : Dn.Cx) (N : List Str) (sc : Scope) (mg : Str → Option Value) (W : Wi) (fi : Nat → Option Fi) (k : Nat) (X : L2.Cx) : Prop extends Fe t cx N sc mg W X where
  calm : X.calm = true
  nocu : W.cu = none
  room : RoomG (k + 1) X.A
  pass : ∀ σ, PassesAt (L2.CX X.prog X.w) X σ (WE W.w σ)
  fn : ∀ f i, fi f = some i → FnG X.prog X.w X.K X.mg X.base k (t.fa f) i.fd i.ps (spC t cx.call f)
  bd : ∀ f i, fi f = some i → Binds X.K i.fd i.ps []

section
variable {t : Tb} {cx : Dn.Cx} {N : List Str} {sc : Scope} {mg : Str → Option Value} {W : Wi} {fi : Nat → Option Fi} {k : Nat} {X : L2.Cx} {a b c o : Expr} {ea eb ec eo : E} {es : List Expr} {Es : List E} {pos p px apos : Pos}
theorem run_fG {ad : Addr} {fd : FuncData} {ps : List Str} {sp : Sp} {E1 : L2.St → XK} {pins : List (Addr × Obj)} {σ : L2.St} {H : Hp} {s : Shared} {Q : VK} {us : List Value} {vs : List V} (F : FnG X.prog X.w X.K X.mg X.base k ad fd ps sp) (hr : RoomG k X.A) (hb : Binds X.K fd ps [])
    (hx : PassesAt (L2.CX X.prog X.w) X σ (E1 σ)) (I : Inv X pins σ H s) (r : Vals vs us) (h : sp vs H Q (E1 σ)) : wpAny (PySem.model X.prog X.w) X.A (call (.ref ad) us) (EP X pins σ Q) X.xe s := by
  have many : us.length = ps.length := by rw [← r.length]; exact F.len _ _ _ _ h
  have bound := hb s us I.kIn (by rw [List.append_nil]; exact many)
  rw [List.append_nil] at bound
  refine wpAny_call (codeAny_mono (F.run X.A X.stack s H ⟨us, []⟩ us vs Q (E1 σ) hr I.env0 bound r h) fun out s' fin => ?_)
  cases out with
  | error ex => exact hx pins H s ex s' I fin
  | ok fl =>
    cases fl with
    | ret u => exact I.after fin
    | next => exact fin.elim
    | brk => exact fin.elim
    | cont => exact fin.elim
theorem Fc.run (h : Fc t cx N sc mg W fi k X) {f : Nat} {i : Fi} (hf : fi f = some i) (ia : i.a = t.fa f) {pins : List (Addr × Obj)} {σ : L2.St} {H : Hp} {s : Shared} {Q : VK} {us : List Value} {vs : List V} (I : Inv X pins σ H s) (r : Vals vs us)
    (q : spC t cx.call f vs H Q (WE W.w σ)) : wpAny (PySem.model X.prog X.w) X.A (call (.ref i.a) us) (EP X pins σ Q) X.xe s := by
  rw [ia]
  exact run_fG (E1 := WE W.w) (h.fn f i hf) (h.room.mono (Nat.le_succ k)) (h.bd f i hf) (h.pass σ) I r q
/-- arguments, then the call -/
theorem call_ok {f : Nat} (σ : L2.St) (H : Hp) (Q : VK) (q : tE t W (ev cx (.call f Es)) σ H Q) : tA t W (evs cx Es) σ H (fun vs H1 => spC t cx.call f vs H1 Q (WE W.w σ)) := by
  obtain ⟨μ, ρ, S, re, rs, q⟩ := q
  refine ⟨μ, ρ, S, re, rs, (Aft.bind (r := evs cx Es ρ S) q).imp (fun ds S1 μ1 H1 e1 s1 k1 vs rv => ?_) fun _ _ _ _ _ _ z => z⟩
  exact ⟨t.xi, μ1, S1, ds, s1, rv, k1.imp (fun d S3 μ3 H3 e3 s3 z => z (e1.trans e3)) fun x S3 μ3 H3 e3 s3 z => z (e1.trans e3)⟩
theorem r_call (h : Fc t cx N sc mg W fi k X) {f : Nat} {i : Fi} (hf : fi f = some i) (ia : i.a = t.fa f) (io : FiOk X.K mg i) (hg : sc.names.lookup i.x = some .globalImplicit) (ha : VA t cx W X (a :: es) Es)
    (he : starEach (a :: es) X.env = (false, eval a X.env) :: starEach es X.env) (hpl : (backTo pos (starEach es X.env)).any (·.1) = false) : VE t cx W X (.Call (.Name i.x p) (a :: es) [] pos) (.call f Es) := by
  refine ⟨fun pins s σ H Q I q => ?_⟩
  refine wpAny_Call_Name_kw (ld_glob I (h.gl hg) (by rw [h.mm]; exact io.at_) ?_ io.db)
  refine PySem.W.callWith_K (h₀ := X.base) I.ok.mod.kin io.kp (thn (ha.run pos pins s σ H _ I (call_ok σ H Q q)) fun us s1 ⟨vs, H1, I1, r, q1⟩ => ⟨I1.kIn, ?_⟩) he hpl
  exact h.run hf ia I1 r q1
theorem r_call0 (h : Fc t cx N sc mg W fi k X) {f : Nat} {i : Fi} (hf : fi f = some i) (ia : i.a = t.fa f) (io : FiOk X.K mg i) (hg : sc.names.lookup i.x = some .globalImplicit) : VE t cx W X (.Call (.Name i.x p) [] [] pos) (.call f []) := by
  refine ⟨fun pins s σ H Q I q => ?_⟩
  refine wpAny_Call_Name_kw (ld_glob I (h.gl hg) (by rw [h.mm]; exact io.at_) ?_ io.db)
  refine PySem.W.callWith_K0 I.kIn io.kp (h.run (us := []) (vs := []) hf ia I .nil ?_)
  obtain ⟨μ, ρ, S, re, rs, q1⟩ := call_ok σ H Q q
  exact Aft.now (a := ([] : List D)) rs q1 [] rfl
end
end Dn
/-! Dn: what a loop walks. -/
namespace Dn
open PySem L2 -- names

/-- a turn's item: a value as it is, or a new tuple -/
inductive Sh where
  | v (x : V) | t (us : List V)
def RDh (t : Tb) (μ : List Addr) (H : Hp) (d : D) (h : Sh) : Prop :=
  match h with
  | .v x => RD t μ H d x
  | .t us => ∃ ds, d = .tup ds ∧ RDs t μ H ds us ∧ ds.length ≤ sizeLine
def RDhs (t : Tb) (μ : List Addr) (H : Hp) (ds : List D) (hs : List Sh) : Prop := Paired (RDh t μ H) ds hs
/-- how such a list is walked, whatever comes between -/
structure JV (μ : List Addr) (H : Hp) (hs : List Sh) (J : It) : Prop where
  go : ∀ μ' H', Ext μ H μ' H' → ∀ i, i < hs.length → J.go i H'
  stop : ∀ μ' H', Ext μ H μ' H' → ∀ i, hs.length ≤ i → J.stop i H'
  yld : ∀ μ' H', Ext μ H μ' H' → ∀ i x H2 h, J.yld i H' x H2 → hs[i]? = some h → match h with
    | .v y => H2 = H' ∧ x = y
    | .t us => ∃ p, x = .ref p ∧ H' p = none ∧ H2 = upd H' p (.tup us)
def SrcJ (t : Tb) (μ : List Addr) (H : Hp) (s : Src) (J : It) : Prop :=
  match s with
  | .vals xs => ∃ hs, RDhs t μ H xs hs ∧ JV μ H hs J ∧ xs.length ≤ sizeLine
  | .cell en l n => ∃ a, μ[l]? = some a ∧ J = if en then Ite t.K a else Itl t.K a
def tI (t : Tb) (W : Wi) (f : Env → Sto → R Src) : TI := fun σ H R => ∃ μ ρ S, RE t W.cu μ H ρ σ ∧ RS t μ S H ∧
  Aft t μ H (f ρ S) (fun s S' μ' H' => (∀ en l n, s = .cell en l n → ∃ xs, S'[l]? = some (.lst xs) ∧ xs.length = n) → ∀ J, SrcJ t μ' H' s J → R J H') (fun x _ μ' H' => ∀ cls dd, RX t μ' H' x cls dd → W.w cls dd σ H')
theorem PI.weak {X : L2.Cx} {tg e : Expr} {w w' : TI} (h : PI X tg e w) (q : ∀ σ H R, w' σ H R → w σ H R) : PI X tg e w' := ⟨fun pins s σ H R I z => h.run pins s σ H R I (q σ H R z)⟩
section
variable {t : Tb} {cx : Dn.Cx} {N : List Str} {sc : Scope} {mg : Str → Option Value} {W : Wi} {X : L2.Cx} {a b c tg : Expr} {ea eb ec : E} {es : List Expr} {Es : List E} {pos p px apos : Pos}
abbrev VI (t : Tb) (cx : Dn.Cx) (W : Wi) (X : L2.Cx) (tg a : Expr) (ea : E) : Prop := PI X tg a (tI t W (src cx ea))
theorem pairs_vs {μ : List Addr} {H : Hp} : ∀ {ds : List D} {vs : List V}, RDs t μ H ds vs → RDhs t μ H ds (vs.map .v)
  | [], _, h => by cases h; exact .nil
  | d :: ds, _, h => by
    obtain ⟨v, vr, rfl, h1, h2⟩ := h
    exact .cons h1 (pairs_vs h2)
theorem vs_at {vs : List V} {i : Nat} {h : Sh} (e : (vs.map Sh.v)[i]? = some h) : ∃ y, vs[i]? = some y ∧ h = .v y := by
  rw [List.getElem?_map] at e
  obtain ⟨y, h1, h2⟩ := map_of e
  exact ⟨y, h1, h2.symm⟩
/-- a list, a tuple that stays -/
theorem jv_list {μ : List Addr} {H : Hp} {a : Addr} {vs : List V} (hs : ∀ μ' H', Ext μ H μ' H' → SqL t.K H' a vs) : JV μ H (vs.map .v) (Itl t.K a) where
  go := fun μ' H' e i hi => by
    rw [List.length_map] at hi
    exact ⟨vs, vs[i], hs μ' H' e, List.getElem?_eq_getElem hi⟩
  stop := fun μ' H' e i hi => by
    rw [List.length_map] at hi
    exact ⟨vs, hs μ' H' e, hi⟩
  yld := fun μ' H' e i x H2 h y e2 => by
    obtain ⟨z, h1, rfl⟩ := vs_at e2
    obtain ⟨y1, y2⟩ := y
    have := y2 vs (hs μ' H' e)
    rw [h1] at this
    cases this
    exact ⟨y1, rfl⟩
theorem jv_tup {μ : List Addr} {H : Hp} {a : Addr} {vs : List V} (hs : ∀ μ' H', Ext μ H μ' H' → SqT t.K H' a vs) : JV μ H (vs.map .v) (Itt t.K a) where
  go := fun μ' H' e i hi => by
    rw [List.length_map] at hi
    exact ⟨vs, vs[i], hs μ' H' e, List.getElem?_eq_getElem hi⟩
  stop := fun μ' H' e i hi => by
    rw [List.length_map] at hi
    exact ⟨vs, hs μ' H' e, hi⟩
  yld := fun μ' H' e i x H2 h y e2 => by
    obtain ⟨z, h1, rfl⟩ := vs_at e2
    obtain ⟨y1, y2⟩ := y
    have := y2 vs (hs μ' H' e)
    rw [h1] at this
    cases this
    exact ⟨y1, rfl⟩
theorem jv_str {μ : List Addr} {H : Hp} {s : List Nat} : JV μ H ((s.map fun c => V.str ⟨#[c]⟩).map .v) (Its ⟨s.toArray⟩) where
  go := fun μ' H' e i hi => by
    rw [List.length_map, List.length_map] at hi
    show i < s.toArray.size
    simpa using hi
  stop := fun μ' H' e i hi => by
    rw [List.length_map, List.length_map] at hi
    show s.toArray.size ≤ i
    simpa using hi
  yld := fun μ' H' e i x H2 h y e2 => by
    obtain ⟨z, h1, rfl⟩ := vs_at e2
    obtain ⟨y1, c, y2, y3⟩ := y
    rw [List.getElem?_map] at h1
    have y2' : s[i]? = some c := by simpa using y2
    rw [y2'] at h1
    cases h1
    exact ⟨y1, y3⟩
theorem jv_range {μ : List Addr} {H : Hp} {lo : Int} {n : Nat} : JV μ H (((List.range n).map fun (k : Nat) => V.int (lo + k)).map .v) (Itr lo n) where
  go := fun μ' H' e i hi => by
    rw [List.length_map, List.length_map, List.length_range] at hi
    exact hi
  stop := fun μ' H' e i hi => by
    rw [List.length_map, List.length_map, List.length_range] at hi
    exact hi
  yld := fun μ' H' e i x H2 h y e2 => by
    obtain ⟨z, h1, rfl⟩ := vs_at e2
    obtain ⟨y1, y2⟩ := y
    rw [List.getElem?_map] at h1
    obtain ⟨k, h3, h4⟩ := map_of h1
    have : k = i := by
      rw [List.getElem?_range] at h3
      · cases h3; rfl
      · have := (List.getElem?_eq_some_iff.mp h3).1
        simpa using this
    subst this
    exact ⟨y1, y2.trans h4⟩
/-- an expression whose value is walked: list, tuple or text -/
theorem pi_any {ta : TE} (ha : PE X a ta) : PI X tg a (fun σ H R => ta σ H fun x H1 => (∃ p, x = .ref p ∧ (∃ xs, SqL X.K H1 p xs) ∧ R (Itl X.K p) H1) ∨ (∃ p, x = .ref p ∧ (∃ xs, SqT X.K H1 p xs) ∧ R (Itt X.K p) H1) ∨ ∃ z, x = .str z ∧ R (Its z) H1) := by
  refine ⟨fun pins s σ H R I h => ?_⟩
  refine thn (ha.run pins s σ H _ I h) fun u s1 ⟨x, H1, I1, rx, q⟩ => ?_
  have fresh : ∀ b ∈ [s1.heap.objs.size], FpOk X pins H1 b := fun b hb => by
    rw [List.mem_singleton.mp hb]
    exact I1.fpOk (Nat.le_refl _) (I1.hok.fresh (Nat.le_refl _))
  rcases q with ⟨ad, ex, ⟨xs, hx⟩, q⟩ | ⟨ad, ex, ⟨xs, hx⟩, q⟩ | ⟨z, ex, q⟩
  · subst ex
    cases rx
    obtain ⟨its, _, pl, _⟩ := I1.list hx
    exact wpAny_pyIter_list pl.isList ⟨_, _, _, _, H1, rfl, I1.kept (t' := s1.toks) fun b ob e => Heap.get?_push_of_some _ e, turn_list ad _, ⟨_, Heap.get?_push_size _ rfl, rfl, rfl⟩, fresh, q⟩
  · subst ex
    cases rx
    obtain ⟨its, _, pl, _⟩ := I1.tuple hx
    exact wpAny_pyIter_tuple pl ⟨_, _, _, _, H1, rfl, I1.kept (t' := s1.toks) fun b ob e => Heap.get?_push_of_some _ e, turn_tuple ad _, ⟨_, Heap.get?_push_size _ rfl, rfl, rfl⟩, fresh, q⟩
  · subst ex
    obtain ⟨tk, rfl⟩ := rx
    cases wide : z.cps.all (· < 128)
    · exact wpAny_pyIter_wide wide ⟨_, _, _, _, H1, rfl, I1.kept (t' := s1.toks) fun b ob e => Heap.get?_push_of_some _ e, turn_str _ z tk "str_iterator" (.inr rfl), ⟨_, Heap.get?_push_size _ rfl, rfl, rfl⟩, fresh, q⟩
    · exact wpAny_pyIter_ascii wide ⟨_, _, _, _, H1, rfl, I1.kept (t' := s1.toks) fun b ob e => Heap.get?_push_of_some _ e, turn_str _ z tk "str_ascii_iterator" (.inl rfl), ⟨_, Heap.get?_push_size _ rfl, rfl, rfl⟩, fresh, q⟩
theorem i_val (h : Fe t cx N sc mg W X) (ha : VE t cx W X a ea) : VI t cx W X tg a (.val ea) := by
  refine PI.weak (pi_any ha) fun σ H R q => ?_
  obtain ⟨μ, ρ, S, re, rs, q⟩ := q
  refine ⟨μ, ρ, S, re, rs, (Aft.bind (r := ev cx ea ρ S) q).imp (fun x S1 μ1 H1 e1 s1 k1 v rv => ?_) fun _ _ _ _ _ _ z => z⟩
  obtain ⟨sr, e, k1⟩ := k1.of
  have k2 := k1.now s1 e1
  rw [h.kk]
  cases x with
  | lst xs =>
    cases e
    obtain ⟨ad, vs, rfl, f, r⟩ := rv
    exact .inl ⟨ad, rfl, ⟨vs, SqL.of f.2⟩, k2 (fun _ _ _ z => nomatch z) _ ⟨_, pairs_vs r, jv_list fun μ' H' e => SqL.of (f.ext e).2, by rw [r.length]; exact f.1.2.2⟩⟩
  | scr xs =>
    cases e
    obtain ⟨ad, vs, rfl, f, r⟩ := rv
    exact .inl ⟨ad, rfl, ⟨vs, f.seq⟩, k2 (fun _ _ _ z => nomatch z) _ ⟨_, pairs_vs r, jv_list fun μ' H' e => (f.ext e).seq, by rw [r.length]; exact f.len⟩⟩
  | tup xs =>
    cases e
    obtain ⟨ad, vs, rfl, f, r⟩ := rv
    exact .inr (.inl ⟨ad, rfl, ⟨vs, f.seq⟩, k2 (fun _ _ _ z => nomatch z) _ ⟨_, pairs_vs r, jv_tup fun μ' H' e => (f.ext e).seq, by rw [r.length]; exact f.len⟩⟩)
  | str s =>
    obtain ⟨rfl, o⟩ := rv
    simp only [srcOf] at e
    split at e
    case isFalse => cases e
    rename_i hle
    cases e
    refine .inr (.inr ⟨_, rfl, k2 (fun _ _ _ z => nomatch z) _ ⟨_, ?_, jv_str, by rw [List.length_map, line_eq]; exact hle⟩⟩)
    refine pairs_vs ?_
    have : ∀ l : List Nat, (∀ c ∈ l, c < 1114112) → RDs t μ1 H1 (l.map fun c => D.str [c]) (l.map fun c => V.str ⟨#[c]⟩) := fun l => by
      induction l with
      | nil => intro _; rfl
      | cons c l ih => exact fun ho => ⟨_, _, rfl, ⟨rfl, fun z hz => by rw [List.mem_singleton.mp hz]; exact ho c List.mem_cons_self⟩, ih fun z hz => ho z (List.mem_cons_of_mem _ hz)⟩
    exact this s o
  | ref l =>
    obtain ⟨ad, hl, rfl⟩ := rv
    simp only [srcOf] at e
    split at e
    · rename_i xs q
      cases e
      obtain ⟨vs, h1, h2⟩ := s1.get l _ ad q hl
      exact .inl ⟨ad, rfl, ⟨vs, SqL.of h1⟩, k2 (fun _ _ _ z => by cases z; exact ⟨xs, q, rfl⟩) _ ⟨ad, hl, rfl⟩⟩
    · cases e
  | _ => cases e
theorem i_range1 (h : Fe t cx N sc mg W X) (hg : sc.names.lookup ("range" : Str) = some .globalImplicit) (hm : mg ("range" : Str) = none) (ha : VA t cx W X [a] [ea]) (hs : starEach [a] X.env = [(false, eval a X.env)]) {cell : Bool} :
    VI t cx W X tg (.Call (.Name "range" p) [a] [] pos) (.bi cell .range1 [ea]) := by
  refine PI.weak (pi_range1 (h.gl hg) (by rw [h.mm]; exact hm) ha hs) fun σ H R q => ?_
  obtain ⟨μ, ρ, S, re, rs, q⟩ := q
  refine ⟨μ, ρ, S, re, rs, (Aft.bind (r := evs cx [ea] ρ S) q).imp (fun ds S1 μ1 H1 e1 s1 k1 vs rv => ?_) fun _ _ _ _ _ _ z => z⟩
  obtain ⟨sr, e, k1⟩ := k1.of
  obtain ⟨xs, e, e'⟩ := map_of e
  subst e'
  have k2 := k1.now s1 e1 (fun _ _ _ z => nomatch z)
  simp only [rng] at e
  split at e
  · split at e
    · rename_i n _ hn
      cases e
      obtain ⟨v, rfl, r⟩ := rv.one
      cases r
      rw [Bool.and_eq_true] at hn
      rw [rgOk_eq] at hn
      have hn2 := of_leI hn.2
      have hn := of_decide_eq_true hn.1
      refine ⟨n, rfl, by omega, by omega, k2 _ ⟨_, pairs_vs ?_, jv_range, by unfold rangeD; rw [List.length_map, List.length_range, sizeLine_eq]; omega⟩⟩
      unfold rangeD
      rw [show (n - 0).toNat = n.toNat by rw [Int.sub_zero]]
      have : ∀ l : List Nat, RDs t μ1 H1 (l.map fun (k : Nat) => D.int (0 + (k : Nat))) (l.map fun (k : Nat) => V.int (0 + k)) := fun l => by
        induction l with
        | nil => rfl
        | cons c l ih => exact ⟨_, _, rfl, rfl, ih⟩
      exact this _
    · cases e
  · cases e
theorem i_range2 (h : Fe t cx N sc mg W X) (hg : sc.names.lookup ("range" : Str) = some .globalImplicit) (hm : mg ("range" : Str) = none) (ha : VA t cx W X [a, b] [ea, eb]) (hs : starEach [a, b] X.env = [(false, eval a X.env), (false, eval b X.env)]) (hs2 : starEach [b] X.env = [(false, eval b X.env)]) {cell : Bool} :
    VI t cx W X tg (.Call (.Name "range" p) [a, b] [] pos) (.bi cell .range2 [ea, eb]) := by
  refine PI.weak (pi_range2 (h.gl hg) (by rw [h.mm]; exact hm) ha hs hs2) fun σ H R q => ?_
  obtain ⟨μ, ρ, S, re, rs, q⟩ := q
  refine ⟨μ, ρ, S, re, rs, (Aft.bind (r := evs cx [ea, eb] ρ S) q).imp (fun ds S1 μ1 H1 e1 s1 k1 vs rv => ?_) fun _ _ _ _ _ _ z => z⟩
  obtain ⟨sr, e, k1⟩ := k1.of
  obtain ⟨xs, e, e'⟩ := map_of e
  subst e'
  have k2 := k1.now s1 e1 (fun _ _ _ z => nomatch z)
  simp only [rng] at e
  split at e
  · split at e
    · rename_i lo n _ hn
      cases e
      obtain ⟨v, u, rfl, r1, r2⟩ := rv.two
      cases r1; cases r2
      rw [Bool.and_eq_true, Bool.and_eq_true] at hn
      rw [rgOk_eq, rgOk_eq] at hn
      have h1 := of_decide_eq_true hn.1.1
      have h2 := of_decide_eq_true hn.1.2
      have h3 := of_leI hn.2
      refine ⟨lo, n, rfl, ⟨by omega, by omega, by omega, by omega⟩, k2 _ ⟨_, pairs_vs ?_, jv_range, by unfold rangeD; rw [List.length_map, List.length_range, sizeLine_eq]; omega⟩⟩
      unfold rangeD
      have : ∀ l : List Nat, RDs t μ1 H1 (l.map fun (k : Nat) => D.int (lo + (k : Nat))) (l.map fun (k : Nat) => V.int (lo + k)) := fun l => by
        induction l with
        | nil => rfl
        | cons c l ih => exact ⟨_, _, rfl, rfl, ih⟩
      exact this _
    · cases e
  · cases e
end
end Dn
/-! Dn: statements. -/
namespace Dn
open PySem L2 -- names

section
variable {t : Tb} {μ μ' μ1 : List Addr} {H H' H1 : Hp} {S : Sto} {α : Type}
theorem Aft.stm {r : R α} {ρ : Env} {f : α → Sto → R Fl} {k : Fl → Sto → List Addr → Hp → Prop} {kx : Xn → Sto → List Addr → Hp → Prop} (h : Aft t μ H (r.stm ρ f) k kx) :
    Aft t μ H r (fun a S' μ' H' => Aft t μ' H' (f a S') (fun b S2 μ2 H2 => Ext μ H μ2 H2 → k b S2 μ2 H2) (fun x S2 μ2 H2 => Ext μ H μ2 H2 → kx x S2 μ2 H2)) (fun x S' μ' H' => k (.xc x ρ) S' μ' H') := by
  cases r with
  | bad => exact h
  | ok a S =>
    intro μ1 H1 e1 s1
    have h' : Aft t μ H (f a S) k kx := h
    show Aft t μ1 H1 (f a S) _ _
    cases q : f a S with
    | bad => rw [q] at h'; exact h'
    | ok b S2 => rw [q] at h'; exact fun μ2 H2 e2 s2 _ => h' μ2 H2 (e1.trans e2) s2
    | exc x S2 => rw [q] at h'; exact fun μ2 H2 e2 s2 _ => h' μ2 H2 (e1.trans e2) s2
  | exc x S => exact h
end
theorem RE.set {t : Tb} {cu : Option Cu} {μ : List Addr} {H : Hp} {ρ : Env} {σ : L2.St} (r : RE t cu μ H ρ σ) (i : Nat) {d : D} {v : V} (h : RD t μ H d v) : RE t cu μ H (ρ.set i (some d)) (σ.set i (some v)) where
  cur := fun c hc => ⟨(r.cur c hc).1, fun z => by
    by_cases hj : i = c.i
    · exfalso
      by_cases hl : i < ρ.length
      · rw [← hj, List.getElem?_set_self hl] at z; cases z
      · rw [← hj, List.getElem?_eq_none (by rw [List.length_set]; omega)] at z; cases z
    · rw [List.getElem?_set_ne hj] at z ⊢
      exact (r.cur c hc).2 z⟩
  len := by rw [List.length_set, List.length_set]; exact r.len
  get := fun j d' e => by
    by_cases hj : i = j
    · subst hj
      by_cases hl : i < ρ.length
      · rw [List.getElem?_set_self hl] at e
        cases e
        exact ⟨v, List.getElem?_set_self (by rw [← r.len]; exact hl), h⟩
      · rw [List.getElem?_eq_none (by rw [List.length_set]; omega)] at e
        cases e
    · rw [List.getElem?_set_ne hj] at e
      obtain ⟨v', h1, h2⟩ := r.get j d' e
      exact ⟨v', by rw [List.getElem?_set_ne hj]; exact h1, h2⟩
theorem RE.unset {t : Tb} {μ : List Addr} {H : Hp} {ρ : Env} {σ : L2.St} (r : RE t none μ H ρ σ) (i : Nat) (o : Option V) : RE t none μ H (ρ.set i none) (σ.set i o) where
  cur := fun _ z => nomatch z
  len := by rw [List.length_set, List.length_set]; exact r.len
  get := fun j d' e => by
    by_cases hj : i = j
    · subst hj
      by_cases hl : i < ρ.length
      · rw [List.getElem?_set_self hl] at e
        cases e
      · rw [List.getElem?_eq_none (by rw [List.length_set]; omega)] at e
        cases e
    · rw [List.getElem?_set_ne hj] at e
      obtain ⟨v', h1, h2⟩ := r.get j d' e
      exact ⟨v', by rw [List.getElem?_set_ne hj]; exact h1, h2⟩
section
variable {t : Tb} {cx : Dn.Cx} {N : List Str} {sc : Scope} {mg : Str → Option Value} {W : Wi} {fi : Nat → Option Fi} {k : Nat} {X : L2.Cx} {a b c o tg : Expr} {ea eb ec eo : E} {te : Te} {T1 : T} {Ts : List T} {es : List Expr} {Es : List E} {pos p px apos : Pos} {s : Stmt} {ss sa sb : List Stmt} {S1 : Dn.St} {SS SA SB : List Dn.St}
abbrev VS (t : Tb) (cx : Dn.Cx) (W : Wi) (X : L2.Cx) (s : Stmt) (S1 : Dn.St) : Prop := PS X s (tS t W (st S1 cx))
abbrev VSs (t : Tb) (cx : Dn.Cx) (W : Wi) (X : L2.Cx) (s : List Stmt) (S1 : List Dn.St) : Prop := PSs X s (tS t W (sts S1 cx))
/-! ### targets -/
mutual
/-- the names of a target -/
def varsT : T → List Nat
  | .var i => [i]
  | .tup ts => varsTs ts
def varsTs : List T → List Nat
  | [] => []
  | t :: ts => varsT t ++ varsTs ts
end
/-- but for these names all is as it was -/
def But (vs : List Nat) (σ σ' : L2.St) : Prop := ∀ ws : List Nat, (∀ i ∈ vs, i ∈ ws) → L2.wipe σ' ws = L2.wipe σ ws
theorem wipe_set {i : Nat} {o : Option V} {σ : L2.St} : ∀ {ws : List Nat}, i ∈ ws → L2.wipe (σ.set i o) ws = L2.wipe σ ws
  | [], h => by simp at h
  | w :: ws, h => by
    unfold L2.wipe
    by_cases hw : i ∈ ws
    · rw [wipe_set hw]
    · have e : i = w := (List.mem_cons.mp h).resolve_right hw
      subst e
      have : ∀ vs : List Nat, i ∉ vs → L2.wipe (σ.set i o) vs = (L2.wipe σ vs).set i o := fun vs => by
        induction vs with
        | nil => intro _; rfl
        | cons v vs ih =>
          intro hn
          unfold L2.wipe
          rw [ih fun z => hn (List.mem_cons_of_mem _ z), List.set_comm _ _ (fun z => hn (by rw [z]; exact List.mem_cons_self))]
      rw [this ws hw, List.set_set]
def tG (t : Tb) (W : Wi) (T1 : T) : TG := fun v σ H Q => ∃ μ ρ S d ρ', RE t W.cu μ H ρ σ ∧ RS t μ S H ∧ RD t μ H d v ∧ tgt T1 d ρ = some ρ' ∧ ∀ σ', RE t W.cu μ H ρ' σ' → But (varsT T1) σ σ' → Q σ' H
def tGs (t : Tb) (W : Wi) (Ts : List T) : TGs := fun vs σ H Q => ∃ μ ρ S ds ρ', RE t W.cu μ H ρ σ ∧ RS t μ S H ∧ RDs t μ H ds vs ∧ tgts Ts ds ρ = some ρ' ∧ ∀ σ', RE t W.cu μ H ρ' σ' → But (varsTs Ts) σ σ' → Q σ' H
abbrev VG (t : Tb) (W : Wi) (X : L2.Cx) (tg : Expr) (T1 : T) : Prop := PG X tg (tG t W T1)
abbrev VGs (t : Tb) (W : Wi) (X : L2.Cx) (tg : List Expr) (T1 : List T) : Prop := PGs X tg (tGs t W T1)
theorem PG.weak {g g' : TG} (h : PG X tg g) (q : ∀ v σ H Q, g' v σ H Q → g v σ H Q) : PG X tg g' := ⟨fun pins s σ H v u Q I r z => h.run pins s σ H v u Q I r (q v σ H Q z)⟩
theorem PGs.weak {g g' : TGs} (h : PGs X es g) (q : ∀ v σ H Q, g' v σ H Q → g v σ H Q) : PGs X es g' := ⟨fun pins s σ H v u Q I r z => h.run pins s σ H v u Q I r (q v σ H Q z)⟩
theorem g_name (h : Fe t cx N sc mg W X) {i : Nat} {x : Str} (hN : N[i]? = some x) (hx : Loc sc x) (hf : X.fn x = true ∨ sc.names.lookup x = some .local) : VG t W X (.Name x p) (.var i) := by
  refine PG.weak (pg_name (by rw [h.nn]; exact h.nd) (by rw [h.nn]; exact hN) (by rw [h.ss]; exact hx) (by rw [h.ss]; exact hf)) fun v σ H Q q => ?_
  obtain ⟨μ, ρ, S, d, ρ', re, rs, rd, e, q⟩ := q
  unfold tgt at e
  cases e
  exact q _ (re.set i rd) fun ws h => wipe_set (h i List.mem_cons_self)
theorem gs_nil : VGs t W X [] [] := by
  refine PGs.weak pgs_nil fun v σ H Q q => ?_
  obtain ⟨μ, ρ, S, ds, ρ', re, rs, rd, e, q⟩ := q
  cases ds with
  | nil =>
    unfold tgts at e
    cases e
    exact ⟨rd, q σ re fun _ _ => rfl⟩
  | cons d ds =>
    unfold tgts at e
    cases e
theorem gs_cons (h1 : VG t W X a T1) (h2 : VGs t W X es Ts) (hs : (assignEach (a :: es) X.env).map (·.2) = assign a X.env :: (assignEach es X.env).map (·.2)) : VGs t W X (a :: es) (T1 :: Ts) := by
  refine PGs.weak (pgs_cons h1 h2 hs) fun v σ H Q q => ?_
  obtain ⟨μ, ρ, S, ds, ρ', re, rs, rd, e, q⟩ := q
  cases ds with
  | nil =>
    unfold tgts at e
    cases e
  | cons d ds =>
    unfold tgts at e
    obtain ⟨ρ1, e1, e2⟩ := bind_of e
    obtain ⟨v1, vr, rfl, r1, r2⟩ := rd
    exact ⟨v1, vr, rfl, μ, ρ, S, d, ρ1, re, rs, r1, e1, fun σ1 re1 b1 => ⟨μ, ρ1, S, ds, ρ', re1, rs, r2, e2, fun σ2 re2 b2 => q σ2 re2 fun ws h =>
      (b2 ws fun i hi => h i (List.mem_append_right _ hi)).trans (b1 ws fun i hi => h i (List.mem_append_left _ hi))⟩⟩
theorem tgts_len : ∀ {Ts : List T} {ds : List D} {ρ ρ' : Env}, tgts Ts ds ρ = some ρ' → ds.length = Ts.length
  | [], ds, ρ, ρ', e => by
    unfold tgts at e
    cases ds with
    | nil => rfl
    | cons d ds => cases e
  | T1 :: Ts, ds, ρ, ρ', e => by
    unfold tgts at e
    cases ds with
    | nil => cases e
    | cons d ds =>
      obtain ⟨ρ1, e1, e2⟩ := bind_of e
      rw [List.length_cons, List.length_cons, tgts_len e2]
theorem g_tup (hc : X.calm = true) (hK : X.K = t.K) (h : VGs t W X es Ts) {n : Nat} (hn : (assignEach es X.env).length = Ts.length) (hst : (assignEach es X.env).findIdx? (·.1) = none) {k : Nat} : VG t W X (.Tuple es k pos) (.tup Ts) := by
  refine PG.weak (pg_tup hc h hn hst) fun v σ H Q q => ?_
  obtain ⟨μ, ρ, S, d, ρ', re, rs, rd, e, q⟩ := q
  unfold tgt at e
  split at e
  · obtain ⟨a, vs, rfl, f, r⟩ := rd
    refine ⟨a, vs, rfl, by rw [hK]; exact f.seq, by rw [← r.length]; exact tgts_len e, μ, ρ, S, _, ρ', re, rs, r, e, q⟩
  · cases e
/-! ### blocks, small statements -/
theorem ss_nil : VSs t cx W X [] [] := by
  refine PSs.weak pss_nil fun D σ H q => ?_
  obtain ⟨μ, ρ, S, re, rs, q⟩ := q
  exact Aft.now (a := Fl.nx ρ) rs q σ re
theorem ss_cons (h1 : VS t cx W X s S1) (h2 : VSs t cx W X ss SS) : VSs t cx W X (s :: ss) (S1 :: SS) := by
  refine PSs.weak (pss_cons h1 h2) fun D σ H q => ?_
  obtain ⟨μ, ρ, S, re, rs, q⟩ := q
  refine ⟨μ, ρ, S, re, rs, (Aft.bind (r := st S1 cx ρ S) q).imp (fun fl S2 μ1 H1 e1 s1 k1 => ?_) fun _ _ _ _ _ _ z => z⟩
  cases fl with
  | nx ρ' => exact fun σ' re' => ⟨μ1, ρ', S2, re', s1, Aft.imp k1 (fun _ _ _ _ e2 _ z => z (e1.trans e2)) fun _ _ _ _ e2 _ z => z (e1.trans e2)⟩
  | rt d => exact Aft.now (a := Fl.rt d) s1 k1 e1
  | bk ρ' => exact Aft.now (a := Fl.bk ρ') s1 k1 e1
  | ct ρ' => exact Aft.now (a := Fl.ct ρ') s1 k1 e1
  | xc x ρ' => exact Aft.now (a := Fl.xc x ρ') s1 k1 e1
theorem s_pass : VS t cx W X (.Pass pos) .pass := by
  refine PS.weak ps_pass fun D σ H q => ?_
  obtain ⟨μ, ρ, S, re, rs, q⟩ := q
  exact Aft.now (a := Fl.nx ρ) rs q σ re
theorem s_brk : VS t cx W X (.Break pos) .brk := by
  refine PS.weak ps_break fun D σ H q => ?_
  obtain ⟨μ, ρ, S, re, rs, q⟩ := q
  exact Aft.now (a := Fl.bk ρ) rs q σ re
theorem s_cnt : VS t cx W X (.Continue pos) .cnt := by
  refine PS.weak ps_continue fun D σ H q => ?_
  obtain ⟨μ, ρ, S, re, rs, q⟩ := q
  exact Aft.now (a := Fl.ct ρ) rs q σ re
/-- an expression in a statement -/
theorem stm_ok {f : D → Sto → R Fl} {D1 : Ends} {σ : L2.St} {H : Hp} {Q : VK} {ρ0 : Env → Env} {g : Env → D → Sto → R Fl} (q : tS t W (fun ρ S => (ev cx ea ρ S).stm ρ fun d S => g ρ d S) D1 σ H)
    (h : ∀ μ ρ S d v H', RE t W.cu μ H' ρ σ → RS t μ S H' → RD t μ H' d v → Aft t μ H' (g ρ d S) (fun fl _ μ' H' => endS t W D1 fl μ' H') (fun _ _ _ _ => False) → Q v H') : tE t W (ev cx ea) σ H Q := by
  obtain ⟨μ, ρ, S, re, rs, q⟩ := q
  refine ⟨μ, ρ, S, re, rs, (Aft.stm (r := ev cx ea ρ S) q).imp (fun d S2 μ1 H1 e1 s1 k1 v rv => ?_) fun x S2 μ1 H1 e1 s1 z cls dd rx => z σ cls dd (re.ext e1) rx⟩
  exact h μ1 ρ S2 d v H1 (re.ext e1) s1 rv (Aft.imp k1 (fun _ _ _ _ e2 _ z => z (e1.trans e2)) fun _ _ _ _ e2 _ z => z (e1.trans e2))
theorem s_exp (ha : VE t cx W X a ea) (hs : swapsWith a none pos.line X.env = pure false) : VS t cx W X (.Expr a pos) (.exp ea) := by
  refine PS.weak (ps_expr ha hs) fun D σ H q => ?_
  refine stm_ok (f := fun _ S => .bad) (ρ0 := id) (g := fun ρ _ S => .ok (.nx ρ) S) q fun μ ρ S d v H' re rs rd k => ?_
  exact Aft.now (a := Fl.nx ρ) rs k σ re
theorem s_ret (ha : VE t cx W X a ea) : VS t cx W X (.Return (some a) pos) (.ret ea) := by
  refine PS.weak (ps_ret ha) fun D σ H q => ?_
  refine stm_ok (f := fun _ S => .bad) (ρ0 := id) (g := fun ρ d S => .ok (.rt d) S) q fun μ ρ S d v H' re rs rd k => ?_
  exact Aft.now (a := Fl.rt d) rs k v rd
theorem s_retN : VS t cx W X (.Return none pos) .retN := by
  refine PS.weak ps_retN fun D σ H q => ?_
  obtain ⟨μ, ρ, S, re, rs, q⟩ := q
  exact Aft.now (a := Fl.rt .non) rs q _ rfl
theorem s_asg (ha : VE t cx W X a ea) (hg : VG t W X tg T1) (hs : swapsWithSole [tg] a pos.line X.env = pure false) (hw : swappedStores [tg] a X.env = pure none) (h1 : (assignEach [tg] X.env).map (·.2) = [assign tg X.env]) :
    VS t cx W X (.Assign [tg] a pos) (.asg T1 ea) := by
  refine PS.weak (ps_asg ha hg hs hw h1) fun D σ H q => ?_
  refine stm_ok (f := fun _ S => .bad) (ρ0 := id) (g := fun ρ d S => match tgt T1 d ρ with | some ρ' => .ok (.nx ρ') S | none => .bad) q fun μ ρ S d v H' re rs rd k => ?_
  cases e : tgt T1 d ρ with
  | none => rw [e] at k; exact k.elim
  | some ρ' =>
    rw [e] at k
    exact ⟨μ, ρ, S, d, ρ', re, rs, rd, e, fun σ' re' _ => Aft.now (a := Fl.nx ρ') rs k σ' re'⟩
/-- name = value -/
theorem s_set (h : Fe t cx N sc mg W X) {i : Nat} {x : Str} (hN : N[i]? = some x) (hx : Loc sc x) (hf : X.fn x = true ∨ sc.names.lookup x = some .local) (ha : VE t cx W X a ea) (hs : swapsWith a (some (.Name x p)) pos.line X.env = pure false) :
    VS t cx W X (.Assign [.Name x p] a pos) (.asg (.var i) ea) := by
  refine PS.weak (ps_set (by rw [h.nn]; exact h.nd) (by rw [h.nn]; exact hN) (by rw [h.ss]; exact hx) ha hs (by rw [h.ss]; exact hf)) fun D σ H q => ?_
  refine stm_ok (f := fun _ S => .bad) (ρ0 := id) (g := fun ρ d S => match tgt (.var i) d ρ with | some ρ' => .ok (.nx ρ') S | none => .bad) q fun μ ρ S d v H' re rs rd k => ?_
  unfold tgt at k
  exact Aft.now (a := Fl.nx (ρ.set i (some d))) rs k _ (re.set i rd)
theorem s_ite (hc : VT t cx W X c te) (ha : VSs t cx W X sa SA) (hb : VSs t cx W X sb SB) : VS t cx W X (.If c sa sb pos) (.ite te SA SB) := by
  refine PS.weak (ps_if hc ha hb) fun D σ H q => ?_
  obtain ⟨μ, ρ, S, re, rs, q⟩ := q
  refine ⟨μ, ρ, S, re, rs, (Aft.stm (r := evt cx te ρ S) q).imp (fun d S2 μ1 H1 e1 s1 k1 => ?_) fun x S2 μ1 H1 e1 s1 z cls dd rx => z σ cls dd (re.ext e1) rx⟩
  cases d with
  | true => exact ⟨μ1, ρ, S2, re.ext e1, s1, Aft.imp k1 (fun _ _ _ _ e2 _ z => z (e1.trans e2)) fun _ _ _ _ e2 _ z => z (e1.trans e2)⟩
  | false => exact ⟨μ1, ρ, S2, re.ext e1, s1, Aft.imp k1 (fun _ _ _ _ e2 _ z => z (e1.trans e2)) fun _ _ _ _ e2 _ z => z (e1.trans e2)⟩
theorem s_whl (hp : PassesOwn (PySem.model X.prog X.w) X.A X.env X.xe) (hc : VT t cx W X c te) (hb : VSs t cx W X sb SB) : VS t cx W X (.While c sb [] pos) (.whl te SB) := by
  refine PS.weak (ps_while hp hc hb) fun D σ H q => ?_
  obtain ⟨μ, ρ, S, re, rs, q⟩ := q
  refine ⟨fun m σ H => ∃ μ ρ S, RE t W.cu μ H ρ σ ∧ RS t μ S H ∧ Aft t μ H (whl (fun ρ S => evt cx te ρ S) (fun ρ S => sts SB cx ρ S) m ρ S) (fun fl _ μ' H' => endS t W D fl μ' H') (fun _ _ _ _ => False), ⟨cx.w, μ, ρ, S, re, rs, q⟩, ?_⟩
  rintro m σ H ⟨μ, ρ, S, re, rs, q⟩
  cases m with
  | zero => exact q.elim
  | succ m =>
    refine ⟨μ, ρ, S, re, rs, (Aft.stm (r := evt cx te ρ S) q).imp (fun d S2 μ1 H1 e1 s1 k1 => ?_) fun x S2 μ1 H1 e1 s1 z cls dd rx => z σ cls dd (re.ext e1) rx⟩
    replace k1 := Aft.imp (k' := fun fl _ μ' H' => endS t W D fl μ' H') (kx' := fun _ _ _ _ => False) k1 (fun _ _ _ _ e2 _ z => z (e1.trans e2)) fun _ _ _ _ e2 _ z => z (e1.trans e2)
    cases d with
    | false =>
      dsimp only
      rw [if_neg Bool.false_ne_true]
      exact Aft.now (a := Fl.nx ρ) s1 k1 σ (re.ext e1)
    | true =>
      dsimp only
      rw [if_pos rfl]
      refine ⟨fun σ' H' => ∃ μ ρ S, RE t W.cu μ H' ρ σ' ∧ RS t μ S H' ∧ Aft t μ H' (whl (fun ρ S => evt cx te ρ S) (fun ρ S => sts SB cx ρ S) m ρ S) (fun fl _ μ' H' => endS t W D fl μ' H') (fun _ _ _ _ => False),
        fun σ' H' z => ⟨m, Nat.lt_succ_self m, z⟩, μ1, ρ, S2, re.ext e1, s1, Aft.imp (r := sts SB cx ρ S2) (Aft.bind k1) (fun fl S3 μ2 H2 e2 s2 k2 => ?_) fun _ _ _ _ _ _ z => z⟩
      cases fl with
      | nx ρ' => exact fun σ' re' => ⟨μ2, ρ', S3, re', s2, Aft.imp k2 (fun _ _ _ _ e3 _ z => z (e2.trans e3)) fun _ _ _ _ e3 _ z => z (e2.trans e3)⟩
      | ct ρ' => exact fun σ' re' => ⟨μ2, ρ', S3, re', s2, Aft.imp k2 (fun _ _ _ _ e3 _ z => z (e2.trans e3)) fun _ _ _ _ e3 _ z => z (e2.trans e3)⟩
      | bk ρ' => exact Aft.now (a := Fl.nx ρ') s2 k2 e2
      | rt d => exact Aft.now (a := Fl.rt d) s2 k2 e2
      | xc x ρ' => exact Aft.now (a := Fl.xc x ρ') s2 k2 e2
end
end Dn
/-! Dn: for, stores, parallel assignments, methods of lists. -/
namespace Dn
open PySem L2 -- names

section
variable {t : Tb} {cx : Dn.Cx} {N : List Str} {sc : Scope} {mg : Str → Option Value} {W : Wi} {fi : Nat → Option Fi} {k : Nat} {X : L2.Cx} {a b c o tg : Expr} {ea eb ec eo ei : E} {te : Te} {T1 : T} {Ts : List T} {es : List Expr} {Es : List E} {pos p px apos : Pos} {s : Stmt} {ss sa sb : List Stmt} {S1 : Dn.St} {SS SA SB : List Dn.St}
theorem RDhs.length {μ : List Addr} {H : Hp} {ds : List D} {hs : List Sh} (r : RDhs t μ H ds hs) : ds.length = hs.length := Paired.length r
theorem RDhs.get {μ : List Addr} {H : Hp} : ∀ {ds : List D} {hs : List Sh} {i : Nat} {d : D}, RDhs t μ H ds hs → ds[i]? = some d → ∃ h, hs[i]? = some h ∧ RDh t μ H d h
  | _, _, _, _, .nil, e => by simp at e
  | _, _, 0, _, .cons r _, e => by simp at e; subst e; exact ⟨_, rfl, r⟩
  | _, _, i + 1, d, .cons _ q, e => by
    obtain ⟨u, h1, h2⟩ := RDhs.get (i := i) q (by simpa using e)
    exact ⟨u, by simpa using h1, h2⟩
theorem RDh.ext {μ μ' : List Addr} {H H' : Hp} (e : Ext μ H μ' H') {d : D} {h : Sh} (r : RDh t μ H d h) : RDh t μ' H' d h := by
  cases h with
  | v x => exact RD.ext e d r
  | t us => obtain ⟨ds, rfl, r, hl⟩ := r; exact ⟨ds, rfl, RDs.ext e ds r, hl⟩
theorem RDhs.ext {μ μ' : List Addr} {H H' : Hp} (e : Ext μ H μ' H') {ds : List D} {hs : List Sh} (r : RDhs t μ H ds hs) : RDhs t μ' H' ds hs := Paired.mapP r fun _ _ z => z.ext e
/-- what a turn yields -/
theorem yld_ok {μ0 : List Addr} {H0 : Hp} {ds : List D} {hs : List Sh} {J : It} (jv : JV μ0 H0 hs J) (r : RDhs t μ0 H0 ds hs) {μ : List Addr} {S : Sto} {H H2 : Hp} (e : Ext μ0 H0 μ H) (rs : RS t μ S H) {i : Nat} {d : D} (hd : ds[i]? = some d) {x : V} (y : J.yld i H x H2) :
    Ext μ H μ H2 ∧ RS t μ S H2 ∧ RD t μ H2 d x := by
  obtain ⟨h, h1, h2⟩ := r.get hd
  have q := jv.yld μ H e i x H2 h y h1
  have h3 := h2.ext e
  cases h with
  | v y =>
    obtain ⟨rfl, rfl⟩ := q
    exact ⟨Ext.refl, rs, h3⟩
  | t us =>
    obtain ⟨p, rfl, hp, rfl⟩ := q
    obtain ⟨es, rfl, r3, hsh⟩ := h3
    exact ⟨Ext.fresh hp, rs.fresh hp, RD.newTup rs hp r3 hsh⟩
theorem itl_at {en : Bool} {μ : List Addr} {S : Sto} {H : Hp} (rs : RS t μ S H) {l : Nat} {ad : Addr} (ha : μ[l]? = some ad) {xs : List D} (hx : S[l]? = some (.lst xs)) {i : Nat} :
    (i < xs.length → (if en then Ite t.K ad else Itl t.K ad : It).go i H) ∧ (xs.length ≤ i → (if en then Ite t.K ad else Itl t.K ad : It).stop i H) ∧
    ∀ x H2 d, (if en then Ite t.K ad else Itl t.K ad : It).yld i H x H2 → xs[i]? = some d → Ext μ H μ H2 ∧ RS t μ S H2 ∧ RD t μ H2 (itm en i d) x := by
  obtain ⟨vs, h1, h2⟩ := rs.get l _ ad hx ha
  have hl := h2.length
  have hq : SqL t.K H ad vs := SqL.of h1
  cases en with
  | false =>
    refine ⟨fun hi => ⟨vs, vs[i]'(by omega), hq, List.getElem?_eq_getElem _⟩, fun hi => ⟨vs, hq, by omega⟩, fun x H2 d y e => ?_⟩
    obtain ⟨rfl, y2⟩ := y
    obtain ⟨v, e1, r1⟩ := h2.get e
    have := y2 vs hq
    rw [e1] at this
    cases this
    exact ⟨Ext.refl, rs, r1⟩
  | true =>
    refine ⟨fun hi => ⟨vs, vs[i]'(by omega), hq, List.getElem?_eq_getElem _⟩, fun hi => ⟨vs, hq, by omega⟩, fun x H2 d y e => ?_⟩
    obtain ⟨T, x', rfl, hT, rfl, y2⟩ := y
    obtain ⟨v, e1, r1⟩ := h2.get e
    have := y2 vs hq
    rw [e1] at this
    cases this
    exact ⟨Ext.fresh hT, rs.fresh hT, RD.newTup rs hT ⟨_, _, rfl, rfl, _, _, rfl, r1, rfl⟩ (by show 2 ≤ sizeLine; decide)⟩
def bodyF (cx : Dn.Cx) (T1 : T) (SB : List Dn.St) : D → Env → Sto → R Fl := fun x ρ S => match tgt T1 x ρ with
    | none => .bad
    | some ρ => sts SB cx ρ S
/-- a turn: the item is stored, then the body -/
theorem turn_ok {D1 : Ends} {σ : L2.St} {μ μ2 : List Addr} {H H2 : Hp} {S : Sto} {ρ : Env} {d : D} {x : V} {Nx : L2.St → Hp → Prop} (re : RE t W.cu μ H ρ σ) (e : Ext μ H μ2 H2) (rs : RS t μ2 S H2) (rd : RD t μ2 H2 d x)
    (q : Aft t μ H (bodyF cx T1 SB d ρ S) (fun fl S3 μ3 H3 => match fl with
      | .nx ρ' => ∀ σ', RE t W.cu μ3 H3 ρ' σ' → RS t μ3 S3 H3 → Nx σ' H3
      | .ct ρ' => ∀ σ', RE t W.cu μ3 H3 ρ' σ' → RS t μ3 S3 H3 → Nx σ' H3
      | .bk ρ' => ∀ σ', RE t W.cu μ3 H3 ρ' σ' → D1.nx σ' H3
      | .rt d => ∀ v, RD t μ3 H3 d v → D1.rt v H3
      | .xc x ρ' => ∀ σ' cls dd, RE t W.cu μ3 H3 ρ' σ' → RX t μ3 H3 x cls dd → W.w cls dd σ' H3) (fun _ _ _ _ => False)) :
    tG t W T1 x σ H2 fun σ2 H2 => tS t W (sts SB cx) { D1 with nx := Nx, ct := Nx, bk := D1.nx } σ2 H2 := by
  unfold bodyF at q
  cases z : tgt T1 d ρ with
  | none => rw [z] at q; exact q.elim
  | some ρ' =>
    rw [z] at q
    refine ⟨μ2, ρ, S, d, ρ', re.ext e, rs, rd, z, fun σ' re' _ => ⟨μ2, ρ', S, re', rs, (Aft.ext e q).imp (fun fl S3 μ3 H3 e3 s3 k => ?_) fun _ _ _ _ _ _ z => z⟩⟩
    cases fl with
    | nx ρ' => exact fun σ' re' => k σ' re' s3
    | ct ρ' => exact fun σ' re' => k σ' re' s3
    | bk ρ' => exact k
    | rt d => exact k
    | xc x ρ' => exact k
theorem s_for (h : Fe t cx N sc mg W X) (hp : PassesOwn (PySem.model X.prog X.w) X.A X.env X.xe) (hc : X.calm = true) (hi : VI t cx W X tg a ea) (hg : VG t W X tg T1) (hb : VSs t cx W X sb SB) (hs : ∀ x, foldedSetIterable a X.env x = pure x) :
    VS t cx W X (.For tg a sb [] pos) (.for T1 ea SB) := by
  refine PS.weak (ps_for hp hc hi hg hb hs) fun D1 σ H q => ?_
  obtain ⟨μ, ρ, S, re, rs, q⟩ := q
  replace q : Aft t μ H ((src cx ea ρ S).stm ρ fun s S => forS (bodyF cx T1 SB) s ρ S) (fun fl _ μ' H' => endS t W D1 fl μ' H') (fun _ _ _ _ => False) := q
  refine ⟨μ, ρ, S, re, rs, (Aft.stm (r := src cx ea ρ S) q).imp (fun sr S1 μ1 H1 e1 s1 k1 hcell J sj => ?_) fun x S2 μ1 H1 e1 s1 z cls dd rx => z σ cls dd (re.ext e1) rx⟩
  replace k1 := Aft.imp (k' := fun fl _ μ' H' => endS t W D1 fl μ' H') (kx' := fun _ _ _ _ => False) k1 (fun _ _ _ _ e2 _ z => z (e1.trans e2)) fun _ _ _ _ e2 _ z => z (e1.trans e2)
  cases sr with
  | vals xs =>
    obtain ⟨hs, r, jv, _⟩ := sj
    have hlen := r.length
    replace k1 : Aft t μ1 H1 (forV (bodyF cx T1 SB) xs ρ S1) (fun fl _ μ' H' => endS t W D1 fl μ' H') (fun _ _ _ _ => False) := k1
    refine ⟨fun i m σ' H' => ∃ μ' ρ' S', Ext μ1 H1 μ' H' ∧ RE t W.cu μ' H' ρ' σ' ∧ RS t μ' S' H' ∧ i + m = xs.length ∧ Aft t μ' H' (forV (bodyF cx T1 SB) (xs.drop i) ρ' S') (fun fl _ μ' H' => endS t W D1 fl μ' H') (fun _ _ _ _ => False),
      ⟨xs.length, μ1, ρ, S1, Ext.refl, re.ext e1, s1, by omega, by rw [List.drop_zero]; exact k1⟩, ?_⟩
    rintro i m σ' H' ⟨μ', ρ', S', e', re', rs', hm, q'⟩
    cases m with
    | zero =>
      have : xs.drop i = [] := List.drop_eq_nil_of_le (by omega)
      rw [this] at q'
      exact .inl ⟨jv.stop μ' H' e' i (by omega), Aft.now (a := Fl.nx ρ') rs' q' σ' re'⟩
    | succ m =>
      have hi : i < xs.length := by omega
      rw [List.drop_eq_getElem_cons hi] at q'
      refine .inr ⟨jv.go μ' H' e' i (by omega), fun σ2 H2 => ∃ μ' ρ' S', Ext μ1 H1 μ' H2 ∧ RE t W.cu μ' H2 ρ' σ2 ∧ RS t μ' S' H2 ∧ (i + 1) + m = xs.length ∧ Aft t μ' H2 (forV (bodyF cx T1 SB) (xs.drop (i + 1)) ρ' S') (fun fl _ μ' H' => endS t W D1 fl μ' H') (fun _ _ _ _ => False),
        fun σ2 H2 z => ⟨m, Nat.lt_succ_self m, z⟩, fun x H2 y => ?_⟩
      obtain ⟨e2, s2, rd⟩ := yld_ok jv r e' rs' (List.getElem?_eq_getElem hi) y
      refine turn_ok re' e2 s2 rd ((Aft.bind (r := bodyF cx T1 SB xs[i] ρ' S') q').imp (fun fl S3 μ3 H3 e3 s3 k3 => ?_) fun _ _ _ _ _ _ z => z)
      cases fl with
      | nx ρ2 => exact fun σ2 re2 _ => ⟨μ3, ρ2, S3, e'.trans e3, re2, s3, by omega, Aft.imp k3 (fun _ _ _ _ e4 _ z => z (e3.trans e4)) fun _ _ _ _ e4 _ z => z (e3.trans e4)⟩
      | ct ρ2 => exact fun σ2 re2 _ => ⟨μ3, ρ2, S3, e'.trans e3, re2, s3, by omega, Aft.imp k3 (fun _ _ _ _ e4 _ z => z (e3.trans e4)) fun _ _ _ _ e4 _ z => z (e3.trans e4)⟩
      | bk ρ2 => exact Aft.now (a := Fl.nx ρ2) s3 k3 e3
      | rt d => exact Aft.now (a := Fl.rt d) s3 k3 e3
      | xc x ρ2 => exact Aft.now (a := Fl.xc x ρ2) s3 k3 e3
  | cell en l n =>
    obtain ⟨ad, ha, rfl⟩ := sj
    replace k1 : Aft t μ1 H1 (forC (bodyF cx T1 SB) en l n n ρ S1) (fun fl _ μ' H' => endS t W D1 fl μ' H') (fun _ _ _ _ => False) := k1
    refine ⟨fun i m σ' H' => ∃ μ' ρ' S', Ext μ1 H1 μ' H' ∧ RE t W.cu μ' H' ρ' σ' ∧ RS t μ' S' H' ∧ i + m = n ∧ Aft t μ' H' (forC (bodyF cx T1 SB) en l n m ρ' S') (fun fl _ μ' H' => endS t W D1 fl μ' H') (fun _ _ _ _ => False),
      ⟨n, μ1, ρ, S1, Ext.refl, re.ext e1, s1, by omega, k1⟩, ?_⟩
    rintro i m σ' H' ⟨μ', ρ', S', e', re', rs', hm, q'⟩
    have ha' := e'.at ha
    cases m with
    | zero =>
      unfold forC at q'
      split at q'
      · rename_i xs hx
        split at q'
        · rename_i hn
          exact .inl ⟨(itl_at rs' ha' hx).2.1 (by omega), Aft.now (a := Fl.nx ρ') rs' q' σ' re'⟩
        · exact q'.elim
      · exact q'.elim
    | succ m =>
      unfold forC at q'
      split at q'
      · rename_i xs hx
        split at q'
        · rename_i d hd
          have hi : n - (m + 1) = i := by omega
          rw [hi] at hd q'
          have hl : i < xs.length := (List.getElem?_eq_some_iff.mp hd).1
          refine .inr ⟨(itl_at rs' ha' hx).1 hl, fun σ2 H2 => ∃ μ' ρ' S', Ext μ1 H1 μ' H2 ∧ RE t W.cu μ' H2 ρ' σ2 ∧ RS t μ' S' H2 ∧ (i + 1) + m = n ∧ Aft t μ' H2 (forC (bodyF cx T1 SB) en l n m ρ' S') (fun fl _ μ' H' => endS t W D1 fl μ' H') (fun _ _ _ _ => False),
            fun σ2 H2 z => ⟨m, Nat.lt_succ_self m, z⟩, fun x H2 y => ?_⟩
          obtain ⟨e2, s2, rd⟩ := (itl_at rs' ha' hx).2.2 x H2 d y hd
          refine turn_ok re' e2 s2 rd ((Aft.bind (r := bodyF cx T1 SB (itm en i d) ρ' S') q').imp (fun fl S3 μ3 H3 e3 s3 k3 => ?_) fun _ _ _ _ _ _ z => z)
          cases fl with
          | nx ρ2 => exact fun σ2 re2 _ => ⟨μ3, ρ2, S3, e'.trans e3, re2, s3, by omega, Aft.imp k3 (fun _ _ _ _ e4 _ z => z (e3.trans e4)) fun _ _ _ _ e4 _ z => z (e3.trans e4)⟩
          | ct ρ2 => exact fun σ2 re2 _ => ⟨μ3, ρ2, S3, e'.trans e3, re2, s3, by omega, Aft.imp k3 (fun _ _ _ _ e4 _ z => z (e3.trans e4)) fun _ _ _ _ e4 _ z => z (e3.trans e4)⟩
          | bk ρ2 => exact Aft.now (a := Fl.nx ρ2) s3 k3 e3
          | rt d => exact Aft.now (a := Fl.rt d) s3 k3 e3
          | xc x ρ2 => exact Aft.now (a := Fl.xc x ρ2) s3 k3 e3
        · exact q'.elim
      · exact q'.elim
end
end Dn
/-! Dn: stores, parallel assignments, methods of lists, comprehensions. -/
namespace Dn
open PySem L2 -- names

section
variable {t : Tb} {cx : Dn.Cx} {N : List Str} {sc : Scope} {mg : Str → Option Value} {W : Wi} {fi : Nat → Option Fi} {k : Nat} {X : L2.Cx} {a b c o tg i e : Expr} {ea eb ec eo ei ee : E} {te : Te} {T1 : T} {Ts : List T} {es : List Expr} {Es : List E} {pos p px py pz pt apos : Pos} {s : Stmt} {ss sa sb : List Stmt} {S1 : Dn.St} {SS SA SB : List Dn.St}
/-! ### o[i] = v -/
theorem PSet.by {r' : TSet} (h : ∀ o i v H Q, r' o i v H Q → ∃ r, PSet X r ∧ r o i v H Q) : PSet X r' :=
  fun pins s σ H o i v ov iv u Q I ro ri rv q => let ⟨r, h1, h2⟩ := h o i v H Q q; h1 pins s σ H o i v ov iv u Q I ro ri rv h2
def rSt (t : Tb) : TSet := fun vo vi v H Q => ∃ μ S x y d S', RS t μ S H ∧ RD t μ H x vo ∧ RD t μ H y vi ∧ RD t μ H d v ∧ setI S x y d = some S' ∧ ∀ H', Ext μ H μ H' → RS t μ S' H' → Q H'
theorem set_of : PSet X (rSt t) := PSet.by fun vo vi v H Q ⟨μ, S, x, y, d, S', rs, rx, ry, rd, e, q⟩ => by
  unfold setI at e
  split at e
  · rename_i l
    obtain ⟨ad, hl, rfl⟩ := rx
    split at e
    · rename_i xs hx
      split at e
      · rename_i i
        obtain ⟨j, e1, e2⟩ := map_of e
        subst e2
        cases ry
        obtain ⟨vs, h1, h2⟩ := rs.get l _ ad hx hl
        have e1' : L2.ixN vs.length i = some j := by rw [← h2.length]; exact e1
        refine ⟨_, set_list, ad, vs, i, j, rfl, rfl, h1, e1', q _ (Ext.chg hl) (rs.chg hl ⟨_, upd_same, ?_⟩ ?_)⟩
        · exact RDs.ext (Ext.chg hl) _ (h2.set j rd)
        · show (xs.set j d).length ≤ sizeLine
          rw [List.length_set]
          exact rs.lens _ (List.mem_of_getElem? hx)
      · cases e
    · cases e
  · cases e
theorem s_setI (ho : VE t cx W X o eo) (hi : VE t cx W X i ei) (he : VE t cx W X e ee) (hs : swapsWithSole [.Subscript o i p] e pos.line X.env = pure false) (hw : swappedStores [.Subscript o i p] e X.env = pure none)
    (h1 : (assignEach [.Subscript o i p] X.env).map (·.2) = [assign (.Subscript o i p) X.env])
    (ha : ∀ v, assign (.Subscript o i p) X.env v = (do
      let ov ← holding [v] (eval o X.env)
      let iv ← holding [v, ov] (eval i X.env)
      standAt p
      holding [v, ov, iv] (setItem ov iv v)
      release [v, ov, iv] [])) : VS t cx W X (.Assign [.Subscript o i p] e pos) (.setI eo ei ee) := by
  refine PS.weak (ps_asg he (pg_sub ho hi (set_of (t := t)) ha) hs hw h1) fun D σ H q => ?_
  refine stm_ok (f := fun _ S => .bad) (ρ0 := id) (g := fun ρ v S => (ev cx eo ρ S).stm ρ fun x S => (ev cx ei ρ S).stm ρ fun y S => match setI S x y v with | some S' => .ok (.nx ρ) S' | none => .bad) q fun μ ρ S d v H' re rs rd k => ?_
  refine ⟨μ, ρ, S, re, rs, (Aft.stm (r := ev cx eo ρ S) k).imp (fun x S2 μ1 H1 e1 s1 k1 vo rv => ?_) fun x S2 μ1 H1 e1 s1 z cls dd rx => z σ cls dd (re.ext e1) rx⟩
  refine ⟨μ1, ρ, S2, re.ext e1, s1, (Aft.stm (r := ev cx ei ρ S2) k1).imp (fun y S3 μ2 H2 e2 s2 k2 vi ri => ?_) fun x S2 μ2 H2 e2 s2 z cls dd rx => z (e1.trans e2) σ cls dd ((re.ext e1).ext e2) rx⟩
  cases z : setI S3 x y d with
  | none => rw [z] at k2; exact k2.elim
  | some S4 =>
    rw [z] at k2
    exact ⟨μ2, S3, x, y, d, S4, s2, rv.ext e2, ri, (rd.ext e1).ext e2, z, fun H' e3 s3 => k2 μ2 H' e3 s3 (e2.trans e3) (e1.trans (e2.trans e3)) σ (((re.ext e1).ext e2).ext e3)⟩
/-! ### a, b = x, y of plain names -/
theorem tgts2 {i j : Nat} {ds : List D} {ρ ρ' : Env} (e : tgt (.tup [.var i, .var j]) (.tup ds) ρ = some ρ') : ∃ d1 d2, ds = [d1, d2] ∧ ρ' = (ρ.set i (some d1)).set j (some d2) := by
  unfold tgt at e
  cases ds with
  | nil => unfold tgts at e; cases e
  | cons d1 ds => cases ds with
    | nil => simp only [tgts, tgt, Option.bind_some] at e; cases e
    | cons d2 ds => cases ds with
      | nil => simp only [tgts, tgt, Option.bind_some] at e; cases e; exact ⟨d1, d2, rfl, rfl⟩
      | cons d3 ds => simp only [tgts, tgt, Option.bind_some] at e; cases e
theorem tgts3 {i j l : Nat} {ds : List D} {ρ ρ' : Env} (e : tgt (.tup [.var i, .var j, .var l]) (.tup ds) ρ = some ρ') : ∃ d1 d2 d3, ds = [d1, d2, d3] ∧ ρ' = ((ρ.set i (some d1)).set j (some d2)).set l (some d3) := by
  unfold tgt at e
  cases ds with
  | nil => unfold tgts at e; cases e
  | cons d1 ds => cases ds with
    | nil => simp only [tgts, tgt, Option.bind_some] at e; cases e
    | cons d2 ds => cases ds with
      | nil => simp only [tgts, tgt, Option.bind_some] at e; cases e
      | cons d3 ds => cases ds with
        | nil => simp only [tgts, tgt, Option.bind_some] at e; cases e; exact ⟨d1, d2, d3, rfl, rfl⟩
        | cons d4 ds => simp only [tgts, tgt, Option.bind_some] at e; cases e
/-- the values, then the stores -/
theorem par_ok {D1 : Ends} {σ : L2.St} {H : Hp} {Q : List V → Hp → Prop} (q : tS t W (st (.asg T1 (.tup Es)) cx) D1 σ H)
    (h : ∀ μ ρ ρ' ds vs H' S, RE t W.cu μ H' ρ σ → RS t μ S H' → RDs t μ H' ds vs → tgt T1 (.tup ds) ρ = some ρ' → (∀ σ', RE t W.cu μ H' ρ' σ' → D1.nx σ' H') → Q vs H') : tA t W (evs cx Es) σ H Q := by
  obtain ⟨μ, ρ, S, re, rs, q⟩ := q
  have q' : Aft t μ H (((evs cx Es ρ S).bind fun ds S => .ok (.tup ds) S).stm ρ fun d S => match tgt T1 d ρ with | some ρ' => .ok (.nx ρ') S | none => .bad) (fun fl _ μ' H' => endS t W D1 fl μ' H') (fun _ _ _ _ => False) := by
    simp only [st, ev] at q
    exact q
  refine ⟨μ, ρ, S, re, rs, ?_⟩
  cases z : evs cx Es ρ S with
  | bad => rw [z] at q'; exact q'
  | exc x S' =>
    rw [z] at q'
    exact fun μ' H' e s cls dd rx => q' μ' H' e s σ cls dd (re.ext e) rx
  | ok ds S' =>
    rw [z] at q'
    have q2 : Aft t μ H (match tgt T1 (.tup ds) ρ with | some ρ' => (.ok (.nx ρ') S' : R Fl) | none => .bad) (fun fl _ μ' H' => endS t W D1 fl μ' H') (fun _ _ _ _ => False) := q'
    cases z2 : tgt T1 (.tup ds) ρ with
    | none => rw [z2] at q2; exact q2.elim
    | some ρ' =>
      rw [z2] at q2
      exact fun μ' H' e s vs r => h μ' ρ ρ' ds vs H' S' (re.ext e) s r z2 (q2 μ' H' e s)
theorem s_par2 (h : Fe t cx N sc mg W X) {i j : Nat} {x y : Str} {kt k2 : Nat} {pt2 : Pos} (hc : X.calm = true) (hi : N[i]? = some x) (hj : N[j]? = some y) (hij : i ≠ j)
    (hx : sc.names.lookup x = some .local) (hy : sc.names.lookup y = some .local) (ha : VA t cx W X [a, b] Es)
    (hw : swappedStores [.Tuple [.Name x px, .Name y py] kt pt] (.Tuple [a, b] k2 pt2) X.env = pure (some [x, y]))
    (hs : swapsWithSole [.Tuple [.Name x px, .Name y py] kt pt] (.Tuple [a, b] k2 pt2) pos.line X.env = pure false) :
    VS t cx W X (.Assign [.Tuple [.Name x px, .Name y py] kt pt] (.Tuple [a, b] k2 pt2) pos) (.asg (.tup [.var i, .var j]) (.tup Es)) := by
  refine PS.weak (ps_par hc (by rw [h.nn]; exact h.nd) (by rw [h.nn]; exact hi) (by rw [h.nn]; exact hj) hij (by rw [h.ss]; exact hx) (by rw [h.ss]; exact hy) ha hw hs) fun D σ H q => ?_
  refine par_ok q fun μ ρ ρ' ds vs H' S re rs r e q => ?_
  obtain ⟨d1, d2, rfl, rfl⟩ := tgts2 e
  obtain ⟨v, u, rfl, r1, r2⟩ := r.two
  exact ⟨v, u, rfl, q _ ((re.set i r1).set j r2)⟩
theorem s_par3 (h : Fe t cx N sc mg W X) {i j l : Nat} {x y z : Str} {kt k2 : Nat} {pt2 : Pos} (hc : X.calm = true) (hi : N[i]? = some x) (hj : N[j]? = some y) (hl : N[l]? = some z) (hij : i ≠ j) (hil : i ≠ l) (hjl : j ≠ l)
    (hx : sc.names.lookup x = some .local) (hy : sc.names.lookup y = some .local) (hz : sc.names.lookup z = some .local) (ha : VA t cx W X [a, b, c] Es)
    (hw : swappedStores [.Tuple [.Name x px, .Name y py, .Name z pz] kt pt] (.Tuple [a, b, c] k2 pt2) X.env = pure (some [x, y, z]))
    (hs : swapsWithSole [.Tuple [.Name x px, .Name y py, .Name z pz] kt pt] (.Tuple [a, b, c] k2 pt2) pos.line X.env = pure false) :
    VS t cx W X (.Assign [.Tuple [.Name x px, .Name y py, .Name z pz] kt pt] (.Tuple [a, b, c] k2 pt2) pos) (.asg (.tup [.var i, .var j, .var l]) (.tup Es)) := by
  refine PS.weak (ps_par3 hc (by rw [h.nn]; exact h.nd) (by rw [h.nn]; exact hi) (by rw [h.nn]; exact hj) (by rw [h.nn]; exact hl) hij hil hjl (by rw [h.ss]; exact hx) (by rw [h.ss]; exact hy) (by rw [h.ss]; exact hz) ha hw hs) fun D σ H q => ?_
  refine par_ok q fun μ ρ ρ' ds vs H' S re rs r e q => ?_
  obtain ⟨d1, d2, d3, rfl, rfl⟩ := tgts3 e
  obtain ⟨v, vr, rfl, r1, r2⟩ := r
  obtain ⟨u, w, rfl, r3, r4⟩ := RDs.two r2
  exact ⟨v, u, w, rfl, q _ (((re.set i r1).set j r3).set l r4)⟩
end
end Dn
/-! Dn: comprehensions. -/
namespace Dn
open PySem L2 -- names

section
variable {t : Tb} {μ μ' : List Addr} {H H' : Hp} {S : Sto} {D1 : Addr}
theorem no_app {a : Addr} (h : a ∉ μ) (k : a ∉ D1 :: t.xi) : a ∉ μ ++ [D1] := fun m => (List.mem_append.mp m).elim h fun z => k (by rw [List.mem_singleton.mp z]; exact List.mem_cons_self)
theorem no_xi {a : Addr} (k : a ∉ D1 :: t.xi) : a ∉ t.xi := fun z => k (List.mem_cons_of_mem _ z)
theorem at_app {l : Nat} {a : Addr} (h : μ[l]? = some a) : (μ ++ [D1])[l]? = some a := by
  rw [List.getElem?_append_left (List.getElem?_eq_some_iff.mp h).1]; exact h
mutual
/-- a list that was being made becomes a cell -/
theorem RD.adopt : ∀ (d : D) {v : V}, RD (t.hide D1) μ H d v → RD t (μ ++ [D1]) H d v
  | .non, _, h => h
  | .bl _, _, h => h
  | .int _, _, h => h
  | .str _, _, h => h
  | .fn _, _, h => h
  | .tup ds, _, h => by
    obtain ⟨a, vs, rfl, f, r⟩ := h
    refine ⟨a, vs, rfl, ?_, RDs.adopt ds r⟩
    rcases f with ⟨f, z⟩ | f
    · exact .inl ⟨⟨no_app f.1 f.2.1, no_xi f.2.1, f.2.2⟩, z⟩
    · exact .inr f
  | .scr ds, _, h => by
    obtain ⟨a, vs, rfl, f, r⟩ := h
    refine ⟨a, vs, rfl, ?_, RDs.adopt ds r⟩
    rcases f with ⟨f, z⟩ | f
    · exact .inl ⟨⟨no_app f.1 f.2.1, no_xi f.2.1, f.2.2⟩, z⟩
    · exact .inr f
  | .lst ds, _, h => by
    obtain ⟨a, vs, rfl, f, r⟩ := h
    exact ⟨a, vs, rfl, ⟨⟨no_app f.1.1 f.1.2.1, no_xi f.1.2.1, f.1.2.2⟩, f.2⟩, RDs.adopt ds r⟩
  | .dic ks ds, _, h => by
    obtain ⟨a, kvs, rfl, f, z, q, r⟩ := h
    exact ⟨a, kvs, rfl, ⟨no_app f.1 f.2, no_xi f.2⟩, z, q, RDs.adopt ds r⟩
  | .ins c ids ds, _, h => by
    obtain ⟨a, dx, vs, rfl, f, z, q, r⟩ := h
    exact ⟨a, dx, vs, rfl, ⟨no_app f.1 f.2, no_xi f.2⟩, z, q, RDs.adopt ds r⟩
  | .ref l, _, h => by
    obtain ⟨a, h, rfl⟩ := h
    exact ⟨a, at_app h, rfl⟩
theorem RDs.adopt : ∀ (ds : List D) {vs : List V}, RDs (t.hide D1) μ H ds vs → RDs t (μ ++ [D1]) H ds vs
  | [], _, h => h
  | d :: ds, _, h => by
    obtain ⟨v, vr, rfl, h1, h2⟩ := h
    exact ⟨v, vr, rfl, RD.adopt d h1, RDs.adopt ds h2⟩
end
theorem RO.adopt {o : LO} {a : Addr} (h : RO (t.hide D1) μ H o a) : RO t (μ ++ [D1]) H o a := by
  cases o with
  | lst ds => obtain ⟨vs, h, r⟩ := h; exact ⟨vs, h, RDs.adopt ds r⟩
  | dic ks ds => obtain ⟨kvs, h, q, r⟩ := h; exact ⟨kvs, h, q, RDs.adopt ds r⟩
  | ins c ids ds => obtain ⟨dx, vs, h, q, r⟩ := h; exact ⟨dx, vs, h, q, RDs.adopt ds r⟩
theorem RS.adopt (s : RS (t.hide D1) μ S H) (hx : D1 ∉ t.xi) {ds : List D} {vs : List V} (h : H D1 = some (.lst vs)) (r : RDs (t.hide D1) μ H ds vs) (hl : ds.length ≤ sizeLine) : RS t (μ ++ [D1]) (S ++ [.lst ds]) H where
  len := by rw [List.length_append, List.length_append, s.len]; rfl
  nd := List.nodup_append.mpr ⟨s.nd, by simp, fun a ha b hb e => s.dis a ha (by rw [List.mem_singleton.mp hb] at e; rw [e]; exact List.mem_cons_self)⟩
  get := fun l q a e1 e2 => by
    by_cases hl : l < S.length
    · rw [List.getElem?_append_left hl] at e1
      rw [List.getElem?_append_left (by rw [s.len]; exact hl)] at e2
      exact (s.get l q a e1 e2).adopt
    · have hl' : l = S.length := by
        have := (List.getElem?_eq_some_iff.mp e1).1
        rw [List.length_append, List.length_singleton] at this; omega
      subst hl'
      rw [List.getElem?_append_right (Nat.le_refl _), Nat.sub_self] at e1
      rw [← s.len, List.getElem?_append_right (Nat.le_refl _), Nat.sub_self] at e2
      cases e1; cases e2
      exact ⟨vs, h, RDs.adopt ds r⟩
  hid := fun a ha => s.hid a (List.mem_cons_of_mem _ ha)
  dis := fun a ha z => (List.mem_append.mp ha).elim (fun m => s.dis a m (List.mem_cons_of_mem _ z)) fun m => hx (by rw [← List.mem_singleton.mp m]; exact z)
  lens := fun o ho => (List.mem_append.mp ho).elim (s.lens o) fun z => by rw [List.mem_singleton.mp z]; exact hl
/-- the hidden list is changed: nothing of it is seen -/
theorem Ext.hid {μ0 : List Addr} {H0 : Hp} (e : Ext μ0 H0 μ H) (h0 : H0 D1 = none) {o : HO} : Ext μ0 H0 μ (upd H D1 o) where
  pre := e.pre
  keep := fun a u h n => by rw [upd_ne (ne_of_none h h0)]; exact e.keep a u h n
  new := e.new
mutual
theorem RD.unseen {o : HO} : ∀ (d : D) {v : V}, RD (t.hide D1) μ H d v → RD (t.hide D1) μ (upd H D1 o) d v
  | .non, _, h => h
  | .bl _, _, h => h
  | .int _, _, h => h
  | .str _, _, h => h
  | .fn _, _, h => h
  | .tup ds, _, h => by
    obtain ⟨a, vs, rfl, f, r⟩ := h
    refine ⟨a, vs, rfl, ?_, RDs.unseen ds r⟩
    rcases f with ⟨f, z⟩ | f
    · have ne : a ≠ D1 := fun e => f.2.1 (by rw [e]; exact List.mem_cons_self)
      exact .inl ⟨f, by unfold Rd; rw [upd_ne ne]; exact z⟩
    · exact .inr f
  | .scr ds, _, h => by
    obtain ⟨a, vs, rfl, f, r⟩ := h
    refine ⟨a, vs, rfl, ?_, RDs.unseen ds r⟩
    rcases f with ⟨f, z⟩ | f
    · have ne : a ≠ D1 := fun e => f.2.1 (by rw [e]; exact List.mem_cons_self)
      exact .inl ⟨f, by unfold Rd; rw [upd_ne ne]; exact z⟩
    · exact .inr f
  | .lst ds, _, h => by
    obtain ⟨a, vs, rfl, f, r⟩ := h
    have ne : a ≠ D1 := fun e => f.1.2.1 (by rw [e]; exact List.mem_cons_self)
    exact ⟨a, vs, rfl, ⟨f.1, by rw [upd_ne ne]; exact f.2⟩, RDs.unseen ds r⟩
  | .dic ks ds, _, h => by
    obtain ⟨a, kvs, rfl, f, z, q, r⟩ := h
    have ne : a ≠ D1 := fun e => f.2 (by rw [e]; exact List.mem_cons_self)
    exact ⟨a, kvs, rfl, f, by unfold Rd; rw [upd_ne ne]; exact z, q, RDs.unseen ds r⟩
  | .ins c ids ds, _, h => by
    obtain ⟨a, dx, vs, rfl, f, z, q, r⟩ := h
    have ne : a ≠ D1 := fun e => f.2 (by rw [e]; exact List.mem_cons_self)
    exact ⟨a, dx, vs, rfl, f, by rw [upd_ne ne]; exact z, q, RDs.unseen ds r⟩
  | .ref l, _, h => h
theorem RDs.unseen {o : HO} : ∀ (ds : List D) {vs : List V}, RDs (t.hide D1) μ H ds vs → RDs (t.hide D1) μ (upd H D1 o) ds vs
  | [], _, h => h
  | d :: ds, _, h => by
    obtain ⟨v, vr, rfl, h1, h2⟩ := h
    exact ⟨v, vr, rfl, RD.unseen d h1, RDs.unseen ds h2⟩
end
theorem RS.unseen (s : RS (t.hide D1) μ S H) {o : HO} : RS (t.hide D1) μ S (upd H D1 o) where
  len := s.len
  nd := s.nd
  get := fun l u a e1 e2 => by
    have ne : a ≠ D1 := fun e => s.dis a (List.mem_of_getElem? e2) (by rw [e]; exact List.mem_cons_self)
    have h := s.get l u a e1 e2
    cases u with
    | lst ds => obtain ⟨vs, h, r⟩ := h; exact ⟨vs, by rw [upd_ne ne]; exact h, RDs.unseen ds r⟩
    | dic ks ds => obtain ⟨kvs, h, q, r⟩ := h; exact ⟨kvs, by rw [upd_ne ne]; exact h, q, RDs.unseen ds r⟩
    | ins c ids ds => obtain ⟨dx, vs, h, q, r⟩ := h; exact ⟨dx, vs, by rw [upd_ne ne]; exact h, q, RDs.unseen ds r⟩
  hid := hid_upd s.hid
  dis := s.dis
  lens := s.lens
theorem RE.wipe {ρ : Env} {σ : L2.St} (r : RE t none μ H ρ σ) : ∀ vs : List Nat, RE t none μ H (Dn.wipe ρ vs) (L2.wipe σ vs)
  | [] => r
  | v :: vs => by
    unfold Dn.wipe L2.wipe
    exact (RE.wipe r vs).unset v none
end

abbrev W0 : Wi := { w := fun _ _ _ _ => False }
theorem RE.hide {t : Tb} {μ : List Addr} {H : Hp} {ρ : Env} {σ : L2.St} {p : Addr} (r : RE t none μ H ρ σ) (hp : H p = none) : RE (t.hide p) none μ H ρ σ :=
  ⟨fun _ z => (nomatch z), r.len, fun i d h => let ⟨v, h1, h2⟩ := r.get i d h; ⟨v, h1, RD.hide hp d h2⟩⟩
theorem RE.unseen {t : Tb} {μ : List Addr} {H : Hp} {ρ : Env} {σ : L2.St} {D1 : Addr} (r : RE (t.hide D1) none μ H ρ σ) {o : HO} : RE (t.hide D1) none μ (upd H D1 o) ρ σ :=
  ⟨fun _ z => (nomatch z), r.len, fun i d h => let ⟨v, h1, h2⟩ := r.get i d h; ⟨v, h1, RD.unseen d h2⟩⟩
theorem wipe_get {σ : L2.St} : ∀ {vs : List Nat} {i : Nat}, i ∈ vs → i < σ.length → (L2.wipe σ vs)[i]? = some none
  | [], _, h, _ => by simp at h
  | v :: vs, i, h, hl => by
    unfold L2.wipe
    by_cases e : v = i
    · subst e
      rw [List.getElem?_set_self (by rw [wipe_length]; exact hl)]
    · rw [List.getElem?_set_ne e]
      exact wipe_get ((List.mem_cons.mp h).resolve_left fun z => e z.symm) hl
theorem wipe_out2 {σ : L2.St} {i : Nat} : ∀ {vs : List Nat}, i ∉ vs → (L2.wipe σ vs)[i]? = σ[i]?
  | [], _ => rfl
  | v :: vs, h => by
    unfold L2.wipe
    rw [List.getElem?_set_ne fun z => h (by rw [z]; exact List.mem_cons_self)]
    exact wipe_out2 fun z => h (List.mem_cons_of_mem _ z)
theorem wipe_twice (σ : L2.St) (vs : List Nat) : L2.wipe (L2.wipe σ vs) vs = L2.wipe σ vs := by
  refine List.ext_getElem? fun i => ?_
  by_cases h : i ∈ vs
  · by_cases hl : i < σ.length
    · rw [wipe_get h (by rw [wipe_length]; exact hl), wipe_get h hl]
    · rw [List.getElem?_eq_none (by rw [wipe_length, wipe_length]; omega), List.getElem?_eq_none (by rw [wipe_length]; omega)]
  · rw [wipe_out2 h]
/-- a turn's element, or none -/
def compF (cx : Dn.Cx) (own : List Nat) (T1 : T) (te : Option Te) (ee : E) (ρ : Env) : D → Sto → R (Option D) := fun x S => match tgt T1 x (Dn.wipe ρ own) with
  | none => .bad
  | some ρ' => (evc cx te ρ' S).bind fun c S => if c then (ev cx ee ρ' S).bind fun y S => .ok (some y) S else .ok none S
/-- what is wished of the rest, acc the elements so far -/
def PcL (K : List D → Sto → Prop) (acc : List D) (r : R (List D)) : Prop :=
  match r with
  | .ok ys S => K (acc ++ ys) S
  | _ => False
theorem pcl_bind {K : List D → Sto → Prop} {acc : List D} {r : R (Option D)} {g : Sto → R (List D)} (h : PcL K acc (r.bind fun o S => (g S).bind fun ys S => .ok (consO o ys) S)) :
    ∃ o S2, r = .ok o S2 ∧ PcL K (acc ++ o.toList) (g S2) := by
  cases r with
  | bad => exact h.elim
  | exc x S => exact h.elim
  | ok o S =>
    refine ⟨o, S, rfl, ?_⟩
    have h' : PcL K acc ((g S).bind fun ys S => .ok (consO o ys) S) := h
    cases z : g S with
    | bad => rw [z] at h'; exact h'
    | exc x S2 => rw [z] at h'; exact h'
    | ok ys S2 =>
      rw [z] at h'
      show K (acc ++ o.toList ++ ys) S2
      cases o with
      | none => rw [Option.toList_none, List.append_nil]; exact h'
      | some y => rw [Option.toList_some, List.append_assoc]; exact h'
section
variable {t : Tb} {cx : Dn.Cx} {N : List Str} {sc scope : Scope} {mg : Str → Option Value} {W : Wi} {fi : Nat → Option Fi} {k : Nat} {X : L2.Cx} {tg iter elt : Expr} {ifs : List Expr} {ei ee : E} {te : Option Te} {T1 : T} {pos p : Pos} {own : List (Str × Nat)}
def aT (t : Tb) (W : Wi) (f : Env → Sto → R Bool) : TT := fun σ H Q => ∃ xi, tT { t with xi := xi } W f σ H Q
def aE (t : Tb) (W : Wi) (f : Env → Sto → R D) : TE := fun σ H Q => ∃ xi, tE { t with xi := xi } W f σ H Q
def aG (t : Tb) (W : Wi) (T1 : T) : TG := fun v σ H Q => ∃ xi, tG { t with xi := xi } W T1 v σ H Q
theorem turn_c {σ : L2.St} {ρ : Env} {vs : List Nat} (hv : ∀ i ∈ varsT T1, i ∈ vs) {μ : List Addr} {H2 : Hp} {S S2 : Sto} {D1 : Addr} {d : D} {x : V} {acc : List V} {o : Option D} {Nx : Hp → Prop} (re : RE (t.hide D1) none μ H2 (Dn.wipe ρ vs) (L2.wipe σ vs)) (rs : RS (t.hide D1) μ S H2)
    (rd : RD (t.hide D1) μ H2 d x) (hf : compF cx vs T1 te ee ρ d S = .ok o S2) (hD : ∀ μ3 H3, Ext μ H2 μ3 H3 → H3 D1 = some (.lst acc)) (hl : acc.length < sizeLine)
    (n0 : o = none → ∀ μ3 H3, Ext μ H2 μ3 H3 → RS (t.hide D1) μ3 S2 H3 → Nx H3) (n1 : ∀ y, o = some y → ∀ μ3 H3 v, Ext μ H2 μ3 H3 → RS (t.hide D1) μ3 S2 H3 → RD (t.hide D1) μ3 H3 y v → Nx (upd H3 D1 (.lst (acc ++ [v])))) :
    aG t W0 T1 x (L2.wipe σ vs) H2 fun σ2 H2 => L2.wipe σ2 vs = L2.wipe σ vs ∧ aT t W0 (evc cx te) σ2 H2 fun b H3 => if b = true then aE t W0 (ev cx ee) σ2 H3 fun y H4 => ∃ acc, H4 D1 = some (.lst acc) ∧ acc.length < sizeLine ∧ Nx (upd H4 D1 (.lst (acc ++ [y]))) else Nx H3 := by
  unfold compF at hf
  cases z : tgt T1 d (Dn.wipe ρ vs) with
  | none => rw [z] at hf; cases hf
  | some ρ' =>
    rw [z] at hf
    refine ⟨D1 :: t.xi, μ, _, S, d, ρ', re, rs, rd, z, fun σ' re' bt => ⟨(bt vs hv).trans (wipe_twice σ vs), D1 :: t.xi, μ, ρ', S, re', rs, ?_⟩⟩
    dsimp only at hf
    cases z1 : evc cx te ρ' S with
    | bad => rw [z1] at hf; cases hf
    | exc y Sa => rw [z1] at hf; cases hf
    | ok c Sa =>
      rw [z1] at hf
      simp only [R.bind_ok] at hf
      intro μ3 H3 e3 s3
      cases c with
      | false =>
        simp only [Bool.false_eq_true, if_false] at hf ⊢
        cases hf
        exact n0 rfl μ3 H3 e3 s3
      | true =>
        simp only [if_true] at hf ⊢
        refine ⟨D1 :: t.xi, μ3, ρ', Sa, re'.ext e3, s3, ?_⟩
        cases z2 : ev cx ee ρ' Sa with
        | bad => rw [z2] at hf; cases hf
        | exc y Sb => rw [z2] at hf; cases hf
        | ok y Sb =>
          rw [z2] at hf
          cases hf
          exact fun μ4 H4 e4 s4 v rv => ⟨acc, hD μ4 H4 (e3.trans e4), hl, n1 y rfl μ4 H4 v (e3.trans e4) s4 rv⟩
/-- the list that was made -/
theorem made_ok {cell : Bool} {μ1 : List Addr} {H1 : Hp} {zs : List D} {S : Sto} {Q : VK} (h : Aft t μ1 H1 (mkL cell zs S) (fun d _ μ' H' => ∀ v, RD t μ' H' d v → Q v H') (fun _ _ _ _ => False)) {D1 : Addr} (h1 : H1 D1 = none) (hx : D1 ∉ t.xi) (hm : D1 ∉ μ1) {μ : List Addr} {H : Hp}
    (e : Ext μ1 H1 μ H) (rs : RS (t.hide D1) μ S H) {acc : List V} (hD : H D1 = some (.lst acc)) (r : RDs (t.hide D1) μ H zs acc) (hl : zs.length ≤ sizeLine) : Q (.ref D1) H := by
  cases cell with
  | false =>
    refine h μ H e rs.show _ ⟨D1, acc, rfl, ⟨⟨fun m => ?_, hx, by rw [← r.length]; exact hl⟩, hD⟩, RDs.show zs r⟩
    exact rs.dis _ m List.mem_cons_self
  | true =>
    have e2 : Ext μ1 H1 (μ ++ [D1]) H := ⟨e.pre.trans (List.prefix_append _ _), fun a o q n => e.keep a o q n, fun a m => (List.mem_append.mp m).elim (e.new a) fun z => .inr (by rw [List.mem_singleton.mp z]; exact h1)⟩
    refine h (μ ++ [D1]) H e2 (rs.adopt hx hD r hl) _ ⟨D1, ?_, rfl⟩
    rw [← rs.len, List.getElem?_append_right (Nat.le_refl _), Nat.sub_self]
    rfl
theorem lc_ok (hcu : W.cu = none) (hv : ∀ i ∈ varsT T1, i ∈ own.map (·.2)) {cell : Bool} (σ : L2.St) (H : Hp) (Q : VK) (q : tE t W (ev cx (.comp cell (own.map (·.2)) T1 ei te ee)) σ H Q) :
    tLc (tI t W (src cx ei)) (aG t W0 T1) (aT t W0 (evc cx te)) (aE t W0 (ev cx ee)) (own.map (·.2)) σ H Q := by
  obtain ⟨μ, ρ, S, re, rs, q⟩ := q
  generalize hvs : own.map (·.2) = vs at q hv ⊢
  replace q : Aft t μ H ((src cx ei ρ S).bind fun s S => (col (compF cx vs T1 te ee ρ) s S).nox.bind fun ys S => mkL cell ys S) (fun d _ μ' H' => ∀ v, RD t μ' H' d v → Q v H') (fun x _ μ' H' => ∀ cls dd, RX t μ' H' x cls dd → W.w cls dd σ H') := q
  refine ⟨μ, ρ, S, re, rs, q.bind.imp (fun sr S1 μ1 H1 e1 s1 k1 hcell J sj D1 hD1 => ?_) fun _ _ _ _ _ _ z => z⟩
  have re1 : RE t none μ1 H1 ρ σ := by rw [← hcu]; exact re.ext e1
  have nx : D1 ∉ t.xi := s1.nohid hD1
  have nm : D1 ∉ μ1 := s1.nofresh hD1
  -- what is wished of the elements
  have pc : PcL (fun zs S => Aft t μ1 H1 (mkL cell zs S) (fun d _ μ' H' => ∀ v, RD t μ' H' d v → Q v H') (fun _ _ _ _ => False)) [] (col (compF cx vs T1 te ee ρ) sr S1) := by
    cases z : col (compF cx vs T1 te ee ρ) sr S1 with
    | bad => rw [z] at k1; exact k1.elim
    | exc x S2 => rw [z] at k1; exact k1.elim
    | ok ys S2 =>
      rw [z] at k1
      have k2 : Aft t μ1 H1 (mkL cell ys S2) (fun b S2 μ2 H2 => Ext μ H μ2 H2 → ∀ v, RD t μ2 H2 b v → Q v H2) (fun x S2 μ2 H2 => Ext μ H μ2 H2 → ∀ cls dd, RX t μ2 H2 x cls dd → W.w cls dd σ H2) := k1
      show Aft t μ1 H1 (mkL cell ([] ++ ys) S2) _ _
      rw [List.nil_append]
      exact (k2.imp (fun d S3 μ3 H3 e3 s3 z => z (e1.trans e3)) fun _ _ _ _ _ _ z => z).nox fun x S' => mkL_nox
  -- the start
  have r0 : RE (t.hide D1) none μ1 (upd H1 D1 (.lst [])) (Dn.wipe ρ vs) (L2.wipe σ vs) := ((re1.hide hD1).ext (Ext.fresh hD1)).wipe vs
  have s0 : RS (t.hide D1) μ1 S1 (upd H1 D1 (.lst [])) := s1.hide hD1
  cases sr with
  | vals xs =>
    obtain ⟨hs, r, jv, hlx⟩ := sj
    have hlen := r.length
    replace pc : PcL _ [] (colV (compF cx vs T1 te ee ρ) xs S1) := pc
    have rh : RDhs (t.hide D1) μ1 H1 xs hs := Paired.mapP r fun d h z => by
      cases h with
      | v x => exact RD.hide hD1 d z
      | t us => obtain ⟨ds, rfl, z, hl⟩ := z; exact ⟨ds, rfl, RDs.hide hD1 ds z, hl⟩
    refine ⟨fun i m H' => ∃ μ' S' dacc acc, Ext μ1 H1 μ' H' ∧ RE (t.hide D1) none μ' H' (Dn.wipe ρ vs) (L2.wipe σ vs) ∧ RS (t.hide D1) μ' S' H' ∧ RDhs (t.hide D1) μ' H' xs hs ∧ H' D1 = some (.lst acc) ∧ RDs (t.hide D1) μ' H' dacc acc ∧ acc.length ≤ i ∧ i + m = xs.length ∧
        PcL (fun zs S => Aft t μ1 H1 (mkL cell zs S) (fun d _ μ' H' => ∀ v, RD t μ' H' d v → Q v H') (fun _ _ _ _ => False)) dacc (colV (compF cx vs T1 te ee ρ) (xs.drop i) S'),
      ⟨xs.length, μ1, S1, [], [], Ext.fresh hD1, r0, s0, rh.ext (Ext.fresh hD1), upd_same, rfl, Nat.le_refl _, by omega, by rw [List.drop_zero]; exact pc⟩, ?_⟩
    rintro i m H' ⟨μ', S', dacc, acc, e', re', rs', rh', hD, ra, hai, hm, pc'⟩
    cases m with
    | zero =>
      have hz : xs.drop i = [] := List.drop_eq_nil_of_le (by omega)
      rw [hz] at pc'
      have pc2 : Aft t μ1 H1 (mkL cell (dacc ++ []) S') (fun d _ μ' H' => ∀ v, RD t μ' H' d v → Q v H') (fun _ _ _ _ => False) := pc'
      rw [List.append_nil] at pc2
      exact .inl ⟨jv.stop μ' H' e' i (by omega), made_ok pc2 hD1 nx nm e' rs' hD ra (by rw [ra.length]; omega)⟩
    | succ m =>
      have hi : i < xs.length := by omega
      rw [List.drop_eq_getElem_cons hi] at pc'
      obtain ⟨o, S2, hf, pc2⟩ := pcl_bind (g := fun S => colV (compF cx vs T1 te ee ρ) (xs.drop (i + 1)) S) pc'
      refine .inr ⟨jv.go μ' H' e' i (by omega), fun H2 => ∃ μ' S' dacc acc, Ext μ1 H1 μ' H2 ∧ RE (t.hide D1) none μ' H2 (Dn.wipe ρ vs) (L2.wipe σ vs) ∧ RS (t.hide D1) μ' S' H2 ∧ RDhs (t.hide D1) μ' H2 xs hs ∧ H2 D1 = some (.lst acc) ∧ RDs (t.hide D1) μ' H2 dacc acc ∧ acc.length ≤ i + 1 ∧ (i + 1) + m = xs.length ∧
        PcL (fun zs S => Aft t μ1 H1 (mkL cell zs S) (fun d _ μ' H' => ∀ v, RD t μ' H' d v → Q v H') (fun _ _ _ _ => False)) dacc (colV (compF cx vs T1 te ee ρ) (xs.drop (i + 1)) S'),
        fun H2 z => ⟨m, Nat.lt_succ_self m, z⟩, fun x H2 y => ?_⟩
      -- the item
      have it : Ext μ' H' μ' H2 ∧ RS (t.hide D1) μ' S' H2 ∧ RD (t.hide D1) μ' H2 xs[i] x := by
        obtain ⟨h, h1, h2⟩ := rh'.get (List.getElem?_eq_getElem hi)
        have q := jv.yld μ' H' e' i x H2 h y h1
        cases h with
        | v y =>
          obtain ⟨rfl, rfl⟩ := q
          exact ⟨Ext.refl, rs', h2⟩
        | t us =>
          obtain ⟨p, rfl, hp, rfl⟩ := q
          obtain ⟨es, h4, r3, hsh⟩ := h2
          rw [h4]
          exact ⟨Ext.fresh hp, rs'.fresh hp, RD.newTup rs' hp r3 hsh⟩
      obtain ⟨e2, s2, rd⟩ := it
      have hD2 : ∀ μ3 H3, Ext μ' H2 μ3 H3 → H3 D1 = some (.lst acc) := fun μ3 H3 e3 => (e2.trans e3).keep D1 _ hD fun m => rs'.dis _ m List.mem_cons_self
      refine turn_c hv (re'.ext e2) s2 rd hf hD2 (by omega) (fun ho μ3 H3 e3 s3 => ?_) fun y1 ho μ3 H3 v e3 s3 rv => ?_
      · subst ho
        rw [Option.toList_none, List.append_nil] at pc2
        exact ⟨μ3, S2, dacc, acc, e'.trans (e2.trans e3), re'.ext (e2.trans e3), s3, rh'.ext (e2.trans e3), hD2 μ3 H3 e3, RDs.ext (e2.trans e3) _ ra, by omega, by omega, pc2⟩
      · subst ho
        rw [Option.toList_some] at pc2
        refine ⟨μ3, S2, dacc ++ [y1], acc ++ [v], (e'.trans (e2.trans e3)).hid hD1, (re'.ext (e2.trans e3)).unseen, s3.unseen, ?_, upd_same, ?_, by rw [List.length_append, List.length_singleton]; omega, by omega, pc2⟩
        · exact Paired.mapP (rh'.ext (e2.trans e3)) fun d h z => by
            cases h with
            | v x => exact RD.unseen d z
            | t us => obtain ⟨ds, rfl, z, hl⟩ := z; exact ⟨ds, rfl, RDs.unseen ds z, hl⟩
        · exact RDs.append (RDs.unseen _ (RDs.ext (e2.trans e3) _ ra)) ⟨v, [], rfl, RD.unseen y1 rv, rfl⟩
  | cell en l n =>
    obtain ⟨ad, ha, rfl⟩ := sj
    replace pc : PcL _ [] (colC (compF cx vs T1 te ee ρ) en l n n S1) := pc
    refine ⟨fun i m H' => ∃ μ' S' dacc acc, Ext μ1 H1 μ' H' ∧ RE (t.hide D1) none μ' H' (Dn.wipe ρ vs) (L2.wipe σ vs) ∧ RS (t.hide D1) μ' S' H' ∧ H' D1 = some (.lst acc) ∧ RDs (t.hide D1) μ' H' dacc acc ∧ acc.length ≤ i ∧ i + m = n ∧
        PcL (fun zs S => Aft t μ1 H1 (mkL cell zs S) (fun d _ μ' H' => ∀ v, RD t μ' H' d v → Q v H') (fun _ _ _ _ => False)) dacc (colC (compF cx vs T1 te ee ρ) en l n m S'),
      ⟨n, μ1, S1, [], [], Ext.fresh hD1, r0, s0, upd_same, rfl, Nat.le_refl _, by omega, pc⟩, ?_⟩
    rintro i m H' ⟨μ', S', dacc, acc, e', re', rs', hD, ra, hai, hm, pc'⟩
    have ha' := e'.at ha
    cases m with
    | zero =>
      unfold colC at pc'
      split at pc'
      · rename_i xs hx
        split at pc'
        · rename_i hn
          have pc2 : Aft t μ1 H1 (mkL cell (dacc ++ []) S') (fun d _ μ' H' => ∀ v, RD t μ' H' d v → Q v H') (fun _ _ _ _ => False) := pc'
          rw [List.append_nil] at pc2
          have hz : xs.length ≤ sizeLine := rs'.lens _ (List.mem_of_getElem? hx)
          exact .inl ⟨(itl_at rs' ha' hx).2.1 (by omega), made_ok pc2 hD1 nx nm e' rs' hD ra (by rw [ra.length]; omega)⟩
        · exact pc'.elim
      · exact pc'.elim
    | succ m =>
      unfold colC at pc'
      split at pc'
      · rename_i xs hx
        split at pc'
        · rename_i d hd
          have hi : n - (m + 1) = i := by omega
          rw [hi] at hd pc'
          have hl : i < xs.length := (List.getElem?_eq_some_iff.mp hd).1
          have hz : xs.length ≤ sizeLine := rs'.lens _ (List.mem_of_getElem? hx)
          obtain ⟨o, S2, hf, pc2⟩ := pcl_bind (g := fun S => colC (compF cx vs T1 te ee ρ) en l n m S) pc'
          refine .inr ⟨(itl_at rs' ha' hx).1 hl, fun H2 => ∃ μ' S' dacc acc, Ext μ1 H1 μ' H2 ∧ RE (t.hide D1) none μ' H2 (Dn.wipe ρ vs) (L2.wipe σ vs) ∧ RS (t.hide D1) μ' S' H2 ∧ H2 D1 = some (.lst acc) ∧ RDs (t.hide D1) μ' H2 dacc acc ∧ acc.length ≤ i + 1 ∧ (i + 1) + m = n ∧
            PcL (fun zs S => Aft t μ1 H1 (mkL cell zs S) (fun d _ μ' H' => ∀ v, RD t μ' H' d v → Q v H') (fun _ _ _ _ => False)) dacc (colC (compF cx vs T1 te ee ρ) en l n m S'),
            fun H2 z => ⟨m, Nat.lt_succ_self m, z⟩, fun x H2 y => ?_⟩
          obtain ⟨e2, s2, rd⟩ := (itl_at rs' ha' hx).2.2 x H2 d y hd
          have hD2 : ∀ μ3 H3, Ext μ' H2 μ3 H3 → H3 D1 = some (.lst acc) := fun μ3 H3 e3 => (e2.trans e3).keep D1 _ hD fun m => rs'.dis _ m List.mem_cons_self
          refine turn_c hv (re'.ext e2) s2 rd hf hD2 (by omega) (fun ho μ3 H3 e3 s3 => ?_) fun y1 ho μ3 H3 v e3 s3 rv => ?_
          · subst ho
            rw [Option.toList_none, List.append_nil] at pc2
            exact ⟨μ3, S2, dacc, acc, e'.trans (e2.trans e3), re'.ext (e2.trans e3), s3, hD2 μ3 H3 e3, RDs.ext (e2.trans e3) _ ra, by omega, by omega, pc2⟩
          · subst ho
            rw [Option.toList_some] at pc2
            refine ⟨μ3, S2, dacc ++ [y1], acc ++ [v], (e'.trans (e2.trans e3)).hid hD1, (re'.ext (e2.trans e3)).unseen, s3.unseen, upd_same, ?_, by rw [List.length_append, List.length_singleton]; omega, by omega, pc2⟩
            exact RDs.append (RDs.unseen _ (RDs.ext (e2.trans e3) _ ra)) ⟨v, [], rfl, RD.unseen y1 rv, rfl⟩
        · exact pc'.elim
      · exact pc'.elim
end
end Dn
/-! Dn: comprehensions as expressions and stored; methods of lists; list(range). -/
namespace Dn
open PySem L2 -- names

section
variable {t : Tb} {cx : Dn.Cx} {N : List Str} {sc scope : Scope} {mg : Str → Option Value} {W : Wi} {fi : Nat → Option Fi} {k : Nat} {X : L2.Cx} {tg iter elt a b o : Expr} {ifs es : List Expr} {ei ee ea eb eo : E} {Es : List E} {te : Option Te} {t1 : Te} {T1 : T} {pos p px spos py apos : Pos} {own : List (Str × Nat)}
/-- the context of a comprehension's block -/
theorem Fc.blk (h : Fc t cx N sc mg W fi k X) {s : Shared} {H : Hp} {C : Addr} {cl : List (Str × Addr)} {fp xi : List Addr} :
    Fc { t with xi := xi } cx N (relS scope sc) mg W0 fi k (X.blk s H scope (compEnvC scope cl C X.env) fp) where
  kk := h.kk
  nn := h.nn
  nd := h.nd
  ss := by rw [← h.ss]; rfl
  mm := h.mm
  un := h.un
  gd := h.gd
  cur := by rw [h.cur, h.nocu]
  nmi := h.nmi
  calm := h.calm
  nocu := rfl
  room := h.room
  pass := fun σ pins H s e s' I c => by
    obtain ⟨_, _, _, _, _, _, _, _, _, _, _, _, z⟩ := c
    exact z.elim
  fn := h.fn
  bd := h.bd
abbrev VTs (t : Tb) (cx : Dn.Cx) (W : Wi) (X : L2.Cx) (ifs : List Expr) (te : Option Te) : Prop := PTs X ifs (tT t W (evc cx te))
theorem PTs.weak {ifs : List Expr} {t t' : TT} (h : PTs X ifs t) (w : ∀ σ H Q, t' σ H Q → t σ H Q) : PTs X ifs t' := ⟨fun pins s σ H Q I q => h.run pins s σ H Q I (w σ H Q q)⟩
theorem ts_nil : VTs t cx W X [] none := by
  refine PTs.weak pts_nil fun σ H Q q => ?_
  obtain ⟨μ, ρ, S, re, rs, q⟩ := q
  exact Aft.now (a := true) rs q
theorem ts_one (h : VT t cx W X a t1) : VTs t cx W X [a] (some t1) := pts_one h
/-- what a comprehension's parts are to be, in its block -/
structure Blk (t : Tb) (cx : Dn.Cx) (X : L2.Cx) (scope : Scope) (tg : Expr) (ifs : List Expr) (elt : Expr) (T1 : T) (te : Option Te) (e1 : E) : Prop where
  gg : ∀ (s : Shared) (H : Hp) (C : Addr) (cl : List (Str × Addr)) (fp xi : List Addr), VG { t with xi := xi } W0 (X.blk s H scope (compEnvC scope cl C X.env) fp) tg T1
  tt : ∀ (s : Shared) (H : Hp) (C : Addr) (cl : List (Str × Addr)) (fp xi : List Addr), VTs { t with xi := xi } cx W0 (X.blk s H scope (compEnvC scope cl C X.env) fp) ifs te
  ee : ∀ (s : Shared) (H : Hp) (C : Addr) (cl : List (Str × Addr)) (fp xi : List Addr), VE { t with xi := xi } cx W0 (X.blk s H scope (compEnvC scope cl C X.env) fp) elt e1
theorem r_comp (h : Fc t cx N sc mg W fi k X) {cell : Bool} (ok : BlkOk N sc scope own) (hi : VI t cx W X tg iter ei) (B : Blk t cx X scope tg ifs elt T1 te ee) (hv : ∀ i ∈ varsT T1, i ∈ own.map (·.2)) (hs : ∀ x, foldedSetIterable iter X.env x = pure x) :
    VE t cx W X (.ListComp elt [⟨tg, iter, ifs, 0⟩] scope pos) (.comp cell (own.map (·.2)) T1 ei te ee) := by
  have nd : X.N.Nodup := by rw [h.nn]; exact h.nd
  refine PE.weak (pe_lc (te := aE t W0 (ev cx ee)) (tt := aT t W0 (evc cx te)) (g := aG t W0 T1) h.calm nd hi (by rw [h.nn, h.ss]; exact ok) (fun s H C cl fp => ?_) (fun s H C cl fp => ?_) (fun s H C cl fp => ?_) hs) (lc_ok h.nocu hv)
  · exact ⟨fun pins s1 σ H v u Q I r ⟨xi, q⟩ => (B.gg s _ C cl fp xi).run pins s1 σ H v u Q I r q⟩
  · exact ⟨fun pins s1 σ H Q I ⟨xi, q⟩ => (B.tt s _ C cl fp xi).run pins s1 σ H Q I q⟩
  · exact ⟨fun pins s1 σ H Q I ⟨xi, q⟩ => (B.ee s _ C cl fp xi).run pins s1 σ H Q I q⟩
/-- name = [..] -/
theorem s_setC (h : Fc t cx N sc mg W fi k X) {i : Nat} {y : Str} {cell : Bool} (hy : N[i]? = some y) (hyl : sc.names.lookup y = some .local) (hsw : swapsWith (.ListComp elt [⟨tg, iter, ifs, 0⟩] scope pos) (some (.Name y py)) spos.line X.env = pure true)
    (ok : BlkOk N sc scope own) (hi : VI t cx W X tg iter ei) (B : Blk t cx X scope tg ifs elt T1 te ee) (hv : ∀ i ∈ varsT T1, i ∈ own.map (·.2)) (hs : ∀ x, foldedSetIterable iter X.env x = pure x) :
    VS t cx W X (.Assign [.Name y py] (.ListComp elt [⟨tg, iter, ifs, 0⟩] scope pos) spos) (.asg (.var i) (.comp cell (own.map (·.2)) T1 ei te ee)) := by
  have nd : X.N.Nodup := by rw [h.nn]; exact h.nd
  refine PS.weak (ps_setLc (te := aE t W0 (ev cx ee)) (tt := aT t W0 (evc cx te)) (g := aG t W0 T1) h.calm nd (by rw [h.nn]; exact hy) (by rw [h.ss]; exact hyl) hsw hi (by rw [h.nn, h.ss]; exact ok) (fun s H C cl fp => ?_) (fun s H C cl fp => ?_) (fun s H C cl fp => ?_) hs) fun D σ H q => ?_
  · exact ⟨fun pins s1 σ H v u Q I r ⟨xi, q⟩ => (B.gg s _ C cl fp xi).run pins s1 σ H v u Q I r q⟩
  · exact ⟨fun pins s1 σ H Q I ⟨xi, q⟩ => (B.tt s _ C cl fp xi).run pins s1 σ H Q I q⟩
  · exact ⟨fun pins s1 σ H Q I ⟨xi, q⟩ => (B.ee s _ C cl fp xi).run pins s1 σ H Q I q⟩
  · refine lc_ok (cell := cell) h.nocu hv σ H _ ?_
    refine stm_ok (f := fun _ S => .bad) (ρ0 := id) (g := fun ρ d S => match tgt (.var i) d ρ with | some ρ' => .ok (.nx ρ') S | none => .bad) q fun μ ρ S d v H' re rs rd k => ?_
    unfold tgt at k
    exact Aft.now (a := Fl.nx (ρ.set i (some d))) rs k _ (re.set i rd)
/-! ### methods of lists -/
def rM (t : Tb) (f : D → List D → Sto → R D) : V → List V → Hp → VK → Prop := fun v vs H Q => ∃ μ S d ds, RS t μ S H ∧ RD t μ H d v ∧ RDs t μ H ds vs ∧ Aft t μ H (f d ds S) (fun d _ μ' H' => ∀ w, RD t μ' H' d w → Q w H') (fun _ _ _ _ => False)
theorem MtR.by {id : String} {r' : V → List V → Hp → VK → Prop} (h : ∀ v vs H Q, r' v vs H Q → ∃ r, MtR X id r ∧ r v vs H Q) : MtR X id r' :=
  fun pins s σ H x xs v us Q I rx rv q => let ⟨r, h1, h2⟩ := h x xs H Q q; h1 pins s σ H x xs v us Q I rx rv h2
theorem refL_rd {μ : List Addr} {H : Hp} {S : Sto} {d : D} {v : V} {p : Nat × List D} (rs : RS t μ S H) (e : refL S d = some p) (r : RD t μ H d v) :
    ∃ ad vs, v = .ref ad ∧ μ[p.1]? = some ad ∧ H ad = some (.lst vs) ∧ RDs t μ H p.2 vs ∧ p.2.length ≤ sizeLine := by
  unfold refL at e
  split at e
  · split at e
    · rename_i xs hx
      cases e
      obtain ⟨ad, ha, rfl⟩ := r
      obtain ⟨vs, h1, h2⟩ := rs.get _ _ ad hx ha
      exact ⟨ad, vs, rfl, ha, h1, h2, rs.lens _ (List.mem_of_getElem? hx)⟩
    · cases e
  · cases e
theorem m_append : MtR X "list.append" (rM t bAppend) := MtR.by fun v vs H Q ⟨μ, S, d, ds, rs, rd, rv, q⟩ => by
  unfold bAppend at q
  cases e : refL S d with
  | none => rw [e] at q; exact q.elim
  | some p =>
    rw [e] at q
    obtain ⟨ad, us, rfl, ha, h1, h2, hl⟩ := refL_rd rs e rd
    dsimp only at q
    split at q
    · split at q
      · rename_i x hlt
        obtain ⟨u, rfl, ru⟩ := rv.one
        refine ⟨_, mt_append, ad, us, u, rfl, rfl, h1, by rw [← h2.length, line_eq]; exact hlt, ?_⟩
        have e := Ext.chg (H := H) (o := .lst (us ++ [u])) ha
        exact q μ _ e (rs.chg ha ⟨_, upd_same, RDs.ext e _ (h2.append ⟨u, [], rfl, ru, rfl⟩)⟩ (by show (p.2 ++ [x]).length ≤ sizeLine; rw [List.length_append, List.length_singleton, line_eq]; exact hlt)) _ rfl
      · exact q.elim
    · exact q.elim
theorem m_insert : MtR X "list.insert" (rM t bInsert) := MtR.by fun v vs H Q ⟨μ, S, d, ds, rs, rd, rv, q⟩ => by
  unfold bInsert at q
  cases e : refL S d with
  | none => rw [e] at q; exact q.elim
  | some p =>
    rw [e] at q
    obtain ⟨ad, us, rfl, ha, h1, h2, hl⟩ := refL_rd rs e rd
    dsimp only at q
    split at q
    · split at q
      · rename_i i x hlt
        obtain ⟨u, w, rfl, ru, rw'⟩ := rv.two
        cases ru
        refine ⟨_, mt_insert, ad, us, i, w, rfl, rfl, h1, by rw [← h2.length, line_eq]; exact hlt.1, hlt.2.1, by have := hlt.2.2; omega, ?_⟩
        have e := Ext.chg (H := H) (o := .lst (us.take i.toNat ++ [w] ++ us.drop i.toNat)) ha
        refine q μ _ e (rs.chg ha ⟨_, upd_same, RDs.ext e _ (((h2.take i.toNat).append (show RDs t μ H [x] [w] from ⟨w, [], rfl, rw', rfl⟩)).append (h2.drop i.toNat))⟩ ?_) _ rfl
        show (p.2.take i.toNat ++ [x] ++ p.2.drop i.toNat).length ≤ sizeLine
        have h3 := hlt.1
        rw [List.length_append, List.length_append, List.length_take, List.length_drop, List.length_singleton, line_eq]
        omega
      · exact q.elim
    · exact q.elim
theorem m_pop : MtR X "list.pop" (rM t bPop) := MtR.by fun v vs H Q ⟨μ, S, d, ds, rs, rd, rv, q⟩ => by
  unfold bPop at q
  cases e : refL S d with
  | none => rw [e] at q; exact q.elim
  | some p =>
    rw [e] at q
    obtain ⟨ad, us, rfl, ha, h1, h2, hl⟩ := refL_rd rs e rd
    dsimp only at q
    split at q
    · cases rv
      cases z : p.2[p.2.length - 1]? with
      | none => rw [z] at q; exact q.elim
      | some y =>
        rw [z] at q
        obtain ⟨u, e1, ru⟩ := h2.get z
        rw [h2.length] at e1
        refine ⟨_, mt_pop, ad, us, u, rfl, rfl, h1, e1, ?_⟩
        have e := Ext.chg (H := H) (o := .lst us.dropLast) ha
        have hd : RDs t μ H p.2.dropLast us.dropLast := by
          rw [List.dropLast_eq_take, List.dropLast_eq_take, h2.length]
          exact h2.take _
        refine q μ _ e (rs.chg ha ⟨_, upd_same, RDs.ext e _ hd⟩ ?_) _ (ru.ext e)
        show p.2.dropLast.length ≤ sizeLine
        rw [List.length_dropLast]; omega
    · exact q.elim
/-- o.m(e, ..), a method of lists -/
theorem bml_ok {m : Bm} {f : D → List D → Sto → R D} (hK : X.K = t.K) (hf : ∀ d ds S, bm m d ds S = f d ds S) (hx : ∀ d ds S x S', f d ds S ≠ .exc x S') (σ : L2.St) (H : Hp) (Q : VK) (q : tE t W (ev cx (.bm m eo Es)) σ H Q) :
    tBM X.K "list" (rM t f) (tE t W (ev cx eo)) (tA t W (evs cx Es)) σ H Q := by
  obtain ⟨μ, ρ, S, re, rs, q⟩ := q
  refine ⟨μ, ρ, S, re, rs, (Aft.bind (r := ev cx eo ρ S) q).imp (fun x S1 μ1 H1 e1 s1 k1 v rv => ?_) fun _ _ _ _ _ _ z => z⟩
  split at k1
  · rename_i hr
    obtain ⟨p, e⟩ := Option.isSome_iff_exists.mp hr
    obtain ⟨ad, us, rfl, ha, h1, h2, hl⟩ := refL_rd s1 e rv
    refine ⟨.inl ⟨rfl, us, SqL.of h1⟩, μ1, ρ, S1, re.ext e1, s1, k1.bind.imp (fun ds S2 μ2 H2 e2 s2 k2 vs rvs => ?_) fun _ _ _ _ e2 _ z => z (e1.trans e2)⟩
    refine ⟨μ2, S2, x, ds, s2, rv.ext e2, rvs, ?_⟩
    rw [hf] at k2
    exact (k2.imp (fun d S3 μ3 H3 e3 s3 z => z (e2.trans e3) (e1.trans (e2.trans e3))) fun _ _ _ _ _ _ z => z).nox (hx x ds S2)
  · exact k1.elim
/-- o.m(e, ..), a method of lists -/
theorem r_bm (h : Fe t cx N sc mg W X) {m : Bm} {f : D → List D → Sto → R D} (hf : ∀ d ds S, bm m d ds S = f d ds S) (hx : ∀ d ds S x S', f d ds S ≠ .exc x S') {name : Str} {id : String} (slot : Slot "list" name id) (hty : typeOf (.builtin id) = pure (.type "method_descriptor")) (hm : MtR X id (rM t f))
    (ho : VE t cx W X o eo) (ha : VA t cx W X (a :: es) Es) (hbase : attributeBase o name X.env (eval o X.env) = eval o X.env)
    (hfew : ((backTo pos (starEach (a :: es) X.env)).all (fun x => !x.1) && (backToKw pos (keywordEach [] X.env)).all (fun x => x.1.isSome)
      && decide ((a :: es).length + ([] : List Keyword).length + (if ([] : List Keyword).isEmpty then 0 else 1) < 30)) = true)
    (hline : (apos.endLine == pos.line) = true) (hs : starEach (a :: es) X.env = (false, eval a X.env) :: starEach es X.env) (hplain : (backTo pos (starEach es X.env)).any (·.1) = false) :
    VE t cx W X (.Call (.Attribute o name apos) (a :: es) [] pos) (.bm m eo Es) :=
  PE.weak (pe_bm F.plainAttrs_list slot hty hm ho ha hbase hfew hline hs hplain) (bml_ok h.kk hf hx)
theorem r_bm0 (h : Fe t cx N sc mg W X) {m : Bm} {f : D → List D → Sto → R D} (hf : ∀ d ds S, bm m d ds S = f d ds S) (hx : ∀ d ds S x S', f d ds S ≠ .exc x S') {name : Str} {id : String} (slot : Slot "list" name id) (hty : typeOf (.builtin id) = pure (.type "method_descriptor")) (hm : MtR X id (rM t f))
    (ho : VE t cx W X o eo) (hbase : attributeBase o name X.env (eval o X.env) = eval o X.env) (hline : (apos.endLine == pos.line) = true) :
    VE t cx W X (.Call (.Attribute o name apos) [] [] pos) (.bm m eo []) := by
  refine PE.weak (pe_bm0 F.plainAttrs_list slot hty hm ho hbase hline) fun σ H Q q => ?_
  obtain ⟨μ, ρ, S, re, rs, q⟩ := bml_ok h.kk hf hx σ H Q q
  refine ⟨μ, ρ, S, re, rs, q.imp (fun x S1 μ1 H1 e1 s1 k1 v rv => ?_) fun _ _ _ _ _ _ z => z⟩
  obtain ⟨ty, μ2, ρ2, S2, re2, rs2, k2⟩ := k1 v rv
  exact ⟨ty, Aft.now (a := ([] : List D)) rs2 k2 [] rfl⟩
theorem bAppend_nox (d : D) (ds : List D) (S : Sto) (x : Xn) (S' : Sto) : bAppend d ds S ≠ .exc x S' := fun h => by
  unfold bAppend at h
  repeat' (first | (split at h) | cases h)
theorem bInsert_nox (d : D) (ds : List D) (S : Sto) (x : Xn) (S' : Sto) : bInsert d ds S ≠ .exc x S' := fun h => by
  unfold bInsert at h
  repeat' (first | (split at h) | cases h)
theorem bPop_nox (d : D) (ds : List D) (S : Sto) (x : Xn) (S' : Sto) : bPop d ds S ≠ .exc x S' := fun h => by
  unfold bPop at h
  repeat' (first | (split at h) | cases h)
/-! ### list(range(..)) -/
theorem rg_rd {μ : List Addr} {H : Hp} (a b : Int) : RDs t μ H (rangeD a b) (rgV a b) := by
  unfold rangeD rgV
  have : ∀ l : List Nat, RDs t μ H (l.map fun (k : Nat) => D.int (a + (k : Nat))) (l.map fun (k : Nat) => V.int (a + (k : Nat))) := fun l => by
    induction l with
    | nil => rfl
    | cons c l ih => exact ⟨_, _, rfl, rfl, ih⟩
  exact this _
theorem rg_len (a b : Int) : (rangeD a b).length = (b - a).toNat := by unfold rangeD; rw [List.length_map, List.length_range]
theorem r_listRg1 (h : Fc t cx N sc mg W fi k X) {cell : Bool} {p2 pos2 : Pos} (hg : sc.names.lookup ("list" : Str) = some .globalImplicit) (hm : mg ("list" : Str) = none) (hg2 : sc.names.lookup ("range" : Str) = some .globalImplicit) (hm2 : mg ("range" : Str) = none) (ha : VE t cx W X a ea)
    (na : starEach [a] X.env = (false, eval a X.env) :: starEach [] X.env) (na2 : starEach [.Call (.Name "range" p2) [a] [] pos2] X.env = (false, eval (.Call (.Name "range" p2) [a] [] pos2) X.env) :: starEach [] X.env) :
    VE t cx W X (.Call (.Name "list" p) [.Call (.Name "range" p2) [a] [] pos2] [] pos) (.bi cell .range1 [ea]) := by
  refine PE.weak (pe_listRg h.calm (h.gl hg) (by rw [h.mm]; exact hm) (prg_1 (h.gl hg2) (by rw [h.mm]; exact hm2) ha na) na2) fun σ H Q q => ?_
  obtain ⟨μ, ρ, S, re, rs, q⟩ := q
  have rw1 : ev cx (.bi cell .range1 [ea]) ρ S = (ev cx ea ρ S).bind fun d S => bi cx cell .range1 [d] S := by
    simp only [ev, evs]
    cases ev cx ea ρ S <;> rfl
  rw [rw1] at q
  refine ⟨μ, ρ, S, re, rs, q.bind.imp (fun x S1 μ1 H1 e1 s1 k1 v rv => ?_) fun _ _ _ _ _ _ z => z⟩
  simp only [bi, rng] at k1
  cases x with
  | int n =>
    dsimp only at k1
    cases hn : (rgOk n && leI n 16777216) with
    | false => rw [hn] at k1; exact k1.elim
    | true =>
      rw [hn] at k1
      cases rv
      rw [Bool.and_eq_true] at hn
      rw [rgOk_eq] at hn
      have h1 := of_decide_eq_true hn.1
      have h2 := of_leI hn.2
      refine ⟨n, rfl, ⟨by omega, by omega, by omega, by omega, by omega⟩, fun q hq => ?_⟩
      refine mkL_ok (cell := cell) s1 hq (rg_rd 0 n) (Aft.imp k1 (fun d S3 μ3 H3 e3 s3 z => z (e1.trans e3)) fun x S3 μ3 H3 e3 s3 z => z (e1.trans e3)) ?_
      rw [rg_len, sizeLine_eq]; omega
  | _ => exact k1.elim
theorem r_listRg2 (h : Fc t cx N sc mg W fi k X) {cell : Bool} {p2 pos2 : Pos} (hg : sc.names.lookup ("list" : Str) = some .globalImplicit) (hm : mg ("list" : Str) = none) (hg2 : sc.names.lookup ("range" : Str) = some .globalImplicit) (hm2 : mg ("range" : Str) = none) (ha : VE t cx W X a ea) (hb : VE t cx W X b eb)
    (na : starEach [a, b] X.env = (false, eval a X.env) :: starEach [b] X.env) (nb : starEach [b] X.env = (false, eval b X.env) :: starEach [] X.env) (hp : (backTo pos2 (starEach [b] X.env)).any (·.1) = false)
    (na2 : starEach [.Call (.Name "range" p2) [a, b] [] pos2] X.env = (false, eval (.Call (.Name "range" p2) [a, b] [] pos2) X.env) :: starEach [] X.env) :
    VE t cx W X (.Call (.Name "list" p) [.Call (.Name "range" p2) [a, b] [] pos2] [] pos) (.bi cell .range2 [ea, eb]) := by
  refine PE.weak (pe_listRg h.calm (h.gl hg) (by rw [h.mm]; exact hm) (prg_2 (h.gl hg2) (by rw [h.mm]; exact hm2) ha hb na nb hp) na2) fun σ H Q q => ?_
  obtain ⟨μ, ρ, S, re, rs, q⟩ := q
  have rw1 : ev cx (.bi cell .range2 [ea, eb]) ρ S = (ev cx ea ρ S).bind fun d S => (ev cx eb ρ S).bind fun e S => bi cx cell .range2 [d, e] S := by
    simp only [ev, evs]
    cases z : ev cx ea ρ S with
    | ok d S1 =>
      simp only [R.bind_ok]
      cases ev cx eb ρ S1 <;> rfl
    | _ => rfl
  rw [rw1] at q
  refine ⟨μ, ρ, S, re, rs, q.bind.imp (fun x S1 μ1 H1 e1 s1 k1 v rv => ?_) fun _ _ _ _ _ _ z => z⟩
  refine ⟨μ1, ρ, S1, re.ext e1, s1, k1.bind.imp (fun y S2 μ2 H2 e2 s2 k2 u ru => ?_) fun _ _ _ _ e2 _ z => z (e1.trans e2)⟩
  simp only [bi, rng] at k2
  cases x with
  | int lo =>
    cases y with
    | int n =>
      dsimp only at k2
      cases hn : (rgOk lo && rgOk n && leI (n - lo) 16777216) with
      | false => rw [hn] at k2; exact k2.elim
      | true =>
        rw [hn] at k2
        cases rv
        cases ru
        rw [Bool.and_eq_true, Bool.and_eq_true] at hn
        rw [rgOk_eq, rgOk_eq] at hn
        have h1 := of_decide_eq_true hn.1.1
        have h2 := of_decide_eq_true hn.1.2
        have h3 := of_leI hn.2
        refine ⟨lo, n, rfl, rfl, ⟨by omega, by omega, by omega, by omega, by omega⟩, fun q hq => ?_⟩
        refine mkL_ok (cell := cell) s2 hq (rg_rd lo n) (Aft.imp k2 (fun d S3 μ3 H3 e3 s3 z => z (e2.trans e3) (e1.trans (e2.trans e3))) fun x S3 μ3 H3 e3 s3 z => z (e2.trans e3) (e1.trans (e2.trans e3))) ?_
        rw [rg_len, sizeLine_eq]; omega
    | _ => exact k2.elim
  | _ => exact k2.elim
end
end Dn
/-! DnX: an own error over ValueError whose __init__ says super().__init__(v); self.f = v. -/
namespace DnX
open PySem PySem.W PySem.Calls PyProof.Rows PySem.HandSPX -- names

/-- the text of such an __init__ -/
def eArg (f : Str) (p1 p2 : Pos) : Arguments := { posonlyargs := [], args := [{ arg := "self", annotation := none, pos := p1 }, { arg := f, annotation := none, pos := p2 }], vararg := none, kwonlyargs := [], kw_defaults := [], kwarg := none, defaults := [] }
def eBody (f : Str) (p1 p2 p3 p4 p5 p6 q1 q2 q3 q4 : Pos) : List Stmt :=
  [.Expr (.Call (.Attribute (.Call (.Name "super" p1) [] [] p2) "__init__" p3) [.Name f p4] [] p5) p6, .Assign [.Attribute (.Name "self" q1) f q2] (.Name f q3) q4]
def eScope (f : Str) : Scope := { kind := .function, names := [("self", .local), (f, .local), ("__class__", .free), ("super", .globalImplicit)], isGenerator := false, isCoroutine := false, more := [] }
/-- what the text says of the class at C, named nm, with the field f; its __init__ stands at fI -/
structure ETxt (prog : Program) (K : Frag) (C fI : Addr) (f : Str) : Prop where
  cls : ∃ nm q N bs bm sn sub ab col dd k0 k1 k2 k3 k5, K.lookup C = some (excClassObj nm q C N bs bm true sn sub ab col dd k0 k1 k2 k3 k5 "ValueError.__new__") ∧ refsVE bm = true ∧ clsIn K C = some { name := nm, bases := bs, mro := .ref C :: bm, ns := N, qualname := q, hasDict := true, slotNames := sn, subclasses := sub, abstract := ab, collection := col, hasDel := false }
  sa : findIn K (.ref C) "__setattr__" = some (some (.builtin "object.__setattr__"))
  ga : findIn K (.ref C) "__getattribute__" = some (some (.builtin "BaseException.__getattribute__"))
  gg : findIn K (.ref C) "__getattr__" = some none
  noN : findIn K (.ref C) f = some none
  iC : findIn K (.ref C) "__init__" = some (some (.ref fI))
  tC : typeIn K (.ref fI) = some (.type "function")
  kC : keepIn K (.ref C) = true
  exC : subIn K (.ref C) (.type "BaseException") = some true
  veC : subIn K (.ref C) (.type "ValueError") = some true
  tyC : typeIn K (.ref C) = some (.type "type")
  hdC : hasDictIn K C = true
  mr : mroIn K C (.ref C) = some true
  si : ks_superIn K C C "__init__" = some (some (.builtin "ValueError.__init__"))
  op : nsIn K cStatics "thirdparty.any" = some none
  top : (prog.main.scope.names.lookup ("super" : Str)).isSome = false
  f1 : (f == ("self" : Str)) = false
  f2 : (f == ("__class__" : Str)) = false
  f3 : (f == ("__debug__" : Str)) = false
  f4 : (f == ("super" : Str)) = false
  fn : ∃ (oc : Value) (od : Option Addr) (doc pm : Value) (an : Option Addr) (cda : Addr) (ct : Value) (osl : Array (Option Value)) (cc : Addr) (p1 p2 p3 p4 p5 p6 q1 q2 q3 q4 a1 a2 : Pos) (qual : Str) (ccl cl : Value) (cdd cld : Option Addr) (ccs csl : Array (Option Value)) (vs : Array Value) (file : Str) (tf : Tok),
    K.lookup fI = some ⟨oc, od, .func (ksFn "__init__" qual (eArg f a1 a2) (eBody f p1 p2 p3 p4 p5 p6 q1 q2 q3 q4) (eScope f) .none .none doc pm an (.ref cda) ct cc), osl⟩ ∧ codeIn K (.ref cda) qual = true ∧
    K.lookup cda = some ⟨ccl, cdd, .fields vs, ccs⟩ ∧ vs[2]? = some (.str file tf) ∧ ((prog.main.file : Str) == file) = true ∧ K.lookup cc = some ⟨cl, cld, .cell (some (.ref C)), csl⟩ ∧
    (∀ a b : Value, bindArgs (ksFn "__init__" qual (eArg f a1 a2) (eBody f p1 p2 p3 p4 p5 p6 q1 q2 q3 q4) (eScope f) .none .none doc pm an (.ref cda) ct cc) ⟨[a, b], []⟩ = pure [(("self" : Str), a), (f, b)]) ∧
    ∀ env : PySem.Env, ∃ pl : Sem Bool, eval (.Call (.Attribute (.Call (.Name "super" p1) [] [] p2) "__init__" p3) [.Name f p4] [] p5) env = (do
      let ov ← attributeBase (.Call (.Name "super" p1) [] [] p2) "__init__" env (eval (.Call (.Name "super" p1) [] [] p2) env)
      standAt p3.atName
      let (f', first) ← holding [ov] (getMethod ov "__init__" pl)
      callWith p5 f' first (backTo p5 (starEach [.Name f p4] env)) [])
theorem one_fits (v : Value) : [v].length ≤ sizeLine := by
  show 1 ≤ sizeLine
  rw [sizeLine_eq]; omega
theorem still {K : Frag} {h h' : Heap} {x : Addr} (X : K.In h) (hx : K.lookup x = none) (k : ∀ b o, b ≠ x → h.get? b = some o → h'.get? b = some o) : K.In h' := fun a o e =>
  k a o (fun z => by rw [z, hx] at e; cases e) (X a o e)
/-- what __init__ leaves of a fresh error at x -/
structure EEnd (h h' : Heap) (x C dx t1 : Addr) (f : Str) (v : Value) : Prop where
  keep : ∀ b o, b ≠ x → h.get? b = some o → h'.get? b = some o
  obj : h'.get? x = some { cls := .ref C, dict := some dx, data := .fields #[.ref t1, .none, .none, .none, .bool false, .none] }
  dbig : h.objs.size ≤ dx
  dne : dx ≠ x
  ns : h'.Ns1 dx (fun y => if y = f then some v else none)
section
variable {prog : Program} {w : World} {A : Around} {E : Value → Shared → Prop} {h : Heap} {g : Array GenState} {d : Drawn} {t : Nat} {os : OsState}
variable {nm q : Str} {C N : Addr} {bs bm : List Value} {hdct : Bool} {sn : List Str} {sub : List Value} {ab : Bool} {col : Option Bool} {dd : Option Addr} {k0 k1 k2 k3 k5 : Option Value}
/-- the bound ValueError.__init__ called -/
theorem mw_call {u e t0 : Addr} {rest : List Value} {Q : Value → Shared → Prop}
    (hC : h.get? C = some (excClassObj nm q C N bs bm hdct sn sub ab col dd k0 k1 k2 k3 k5 "ValueError.__new__")) (he : h.get? e = some (excO C t0)) (hu : h.get? u = some (kxs_mw "ValueError.__init__" e)) (hrest : rest.length ≤ sizeLine)
    (hq : ∀ h' t1, (∀ b o, b ≠ e → h.get? b = some o → h'.get? b = some o) → h'.get? e = some (excO C t1) → Q .none ⟨h', g, d, t, os⟩) :
    wpAny (model prog w) A (call (.ref u) rest) Q E ⟨h, g, d, t, os⟩ := by
  refine wpAny_call (codeAny_of_tree ?_)
  show wpAny _ A.in1 (callAny (.ref u) ⟨rest, []⟩) _ _ _
  simp only [callAny]
  refine wpAny_bind (wpAny_load hu ?_)
  simp only [kxs_mw, show (Value.type "method-wrapper" == Value.type "method" || Value.type "method-wrapper" == Value.type "builtin_function_or_method" || Value.type "method-wrapper" == Value.type "method-wrapper") = true by decide, if_true]
  refine KFB.if_so (by decide) ?_
  refine wpAny_bind (check_bound_init PySem.F.excBase_ValueError.toExcCallFacts hC he rfl ?_)
  refine wpAny_bind (wpAny_pure (wpAny_pure ?_))
  refine ⟨plainId_quiet PySem.F.excBase_ValueError.init.plain _, codeAny_builtin PySem.F.excBase_ValueError.initEntry ?_⟩
  exact exc_init_tree (cls := .ref C) (t0 := t0) (dv := none) (c2 := .none) (c3 := .none) (b4 := .bool false) he hrest fun h' k e' _ => hq h' h.objs.size k e'
end

section
variable {prog : Program} {w : World} {A : Around} {E : Value → Shared → Prop} {R : Result → Shared → Prop} {s : Shared} {K : Frag} {mg : Str → Option Value} {C fI : Addr} {f : Str}
theorem ld_loc {M : Model} {env : PySem.Env} {m : Str → Option Value} {x : Str} {pos : Pos} {v : Value} {Q : Value → Shared → Prop} (hn : s.heap.Ns env.locals m) (hv : m x = some v) (h : Q v s)
    (hk : env.scope.kind = .function) (hl : env.kindOf x = some .local) (hd : (x == ("__debug__" : Str)) = false) : wpAny M A (eval (.Name x pos) env) Q E s := wpAny_Name (wpAny_loadName_local hk hl hn hv h) hd
theorem mw_with {M : Model} {pos : Pos} {env : PySem.Env} {e : Expr} {rest : List Expr} {u x : Addr} {i : String} {Q : Value → Shared → Prop}
    (h : wpAny M A (spliced (backTo pos (starEach (e :: rest) env))) (fun us s₁ => KxsAt i u x s₁.heap ∧ wpAny M A (call (.ref u) us) Q E s₁) E s)
    (he : starEach (e :: rest) env = (false, eval e env) :: starEach rest env) (hpl : (backTo pos (starEach rest env)).any (·.1) = false) :
    wpAny M A (callWith pos (.ref u) [] (backTo pos (starEach (e :: rest) env)) []) Q E s := by
  rw [he] at h ⊢
  refine kxs_callWith (i := i) (x := x) ?_ (evalArgs_plain h)
  show (false || (backTo pos (starEach rest env)).any (·.1)) = false
  rw [hpl, Bool.or_false]
theorem e_init (T : ETxt prog K C fI f) {x t0 : Addr} {v : Value} (X : K.In s.heap) (hlim : s.heap.NoLimit) (G : s.heap.Ns mainGlobals mg) (hsu : mg "super" = none) {mb : Str → Option Value} (B : s.heap.Ns builtinsNs mb) (hB : ∀ y : Str, y ≠ "__name__" → mb y = bootBuiltins y)
    (hx : s.heap.get? x = some (excO C t0)) (hnx : K.lookup x = none) (hroom : A.depth < recursionLimit)
    (hq : ∀ h' tk dx t1, EEnd s.heap h' x C dx t1 f v → R (.ok (.ret .none)) { s with heap := h', toks := tk }) :
    codeAny (model prog w) A (.call (.ref fI) ⟨[.ref x, v], []⟩) R s := by
  obtain ⟨oc, od, doc, pm, an, cda, ct, osl, cc, p1, p2, p3, p4, p5, p6, q1, q2, q3, q4, a1, a2, qual, ccl, cl, cdd, cld, ccs, csl, vs, file, tf, ho, hcd, hcode, hvs, hfile, hcell, hbind, hev⟩ := T.fn
  obtain ⟨nm, q, N, bs, bm, sn, sub, ab, col, dd, k0, k1, k2, k3, k5, hC, hbm, hcl⟩ := T.cls
  have n1 : ¬ (f = ("self" : Str)) := by simpa using T.f1
  have n2 : ¬ (f = ("__class__" : Str)) := by simpa using T.f2
  have n4 : ¬ (f = ("super" : Str)) := by simpa using T.f4
  have lk0 : (eScope f).names.lookup ("self" : Str) = some .local := by rfl
  have lk1 : (eScope f).names.lookup f = some .local := by
    show List.lookup f [(("self" : Str), NameKind.local), (f, .local), ("__class__", .free), ("super", .globalImplicit)] = _
    rw [List.lookup_cons, T.f1, List.lookup_cons, beq_self_eq_true]
  have e2 : (("__class__" : Str) == f) = false := by simpa using fun z => n2 z.symm
  have e4 : (("super" : Str) == f) = false := by simpa using fun z => n4 z.symm
  have lk2 : (eScope f).names.lookup ("__class__" : Str) = some .free := by
    show List.lookup ("__class__" : Str) [(("self" : Str), NameKind.local), (f, .local), ("__class__", .free), ("super", .globalImplicit)] = _
    rw [List.lookup_cons, show (("__class__" : Str) == ("self" : Str)) = false by decide +kernel, List.lookup_cons, e2]
    rfl
  have lk3 : (eScope f).names.lookup ("super" : Str) = some .globalImplicit := by
    show List.lookup ("super" : Str) [(("self" : Str), NameKind.local), (f, .local), ("__class__", .free), ("super", .globalImplicit)] = _
    rw [List.lookup_cons, show (("super" : Str) == ("self" : Str)) = false by decide +kernel, List.lookup_cons, e4, List.lookup_cons, show (("super" : Str) == ("__class__" : Str)) = false by decide +kernel]
    rfl
  refine ks_codeAny_call_defAt (fd := ksFn "__init__" qual (eArg f a1 a2) (eBody f p1 p2 p3 p4 p5 p6 q1 q2 q3 q4) (eScope f) .none .none doc pm an (.ref cda) ct cc) (body := eBody f p1 p2 p3 p4 p5 p6 q1 q2 q3 q4) (binds := [("self", .ref x), (f, v)])
    hroom (X _ _ ho) rfl hlim (codeRec_of X hcd) rfl (BindsTo.of_eq (hbind _ _)) ?cells ?locs (fun h₀ hns hk => ?run) rfl rfl rfl
  case cells =>
    intro y hy
    rcases List.mem_cons.mp hy with rfl | hy
    · exact fun z => nomatch z
    rcases List.mem_cons.mp hy with rfl | hy
    · exact fun z => nomatch z
    rcases List.mem_cons.mp hy with rfl | hy
    · exact fun z => nomatch z
    rcases List.mem_cons.mp hy with rfl | hy
    · exact fun z => nomatch z
    · cases hy
  case locs =>
    intro y hy
    rcases List.mem_cons.mp hy with rfl | hy
    · exact lk0
    rcases List.mem_cons.mp hy with rfl | hy
    · exact lk1
    · cases hy
  case run =>
    have X₀ : K.In h₀ := X.keeps hk
    have hx₀ := hk _ _ hx
    have mself : (List.lookup ("self" : Str) [(f, v), (("self" : Str), Value.ref x)]) = some (.ref x) := by
      rw [List.lookup_cons, show (("self" : Str) == f) = false by simpa using fun z => n1 z.symm, List.lookup_cons, beq_self_eq_true]
    have mf : (List.lookup f [(f, v), (("self" : Str), Value.ref x)]) = some v := by rw [List.lookup_cons, beq_self_eq_true]
    have hns : h₀.Ns s.heap.objs.size (fun y => List.lookup y [(f, v), (("self" : Str), Value.ref x)]) := hns
    have hxC : x ≠ C := fun z => by rw [z, hC] at hnx; cases hnx
    have hin : ∀ {h : Heap}, K.In h → h.get? x = some (excO C t0) → Looks (model prog w) h (isInstance (.ref x) (.type "ValueError")) true := fun {h} Xh e =>
      ((show InstAt h x (excO C t0) C none from ⟨e, rfl, rfl, trivial⟩).type (M := model prog w)).andThen (looks_subIn Xh T.veC)
    generalize henv : callEnv (ksFn "__init__" qual (eArg f a1 a2) (eBody f p1 p2 p3 p4 p5 p6 q1 q2 q3 q4) (eScope f) .none .none doc pm an (.ref cda) ct cc) s.heap.objs.size fI = env
    have he : env = ksEnv qual (eScope f) s.heap.objs.size fI (.ref cda) cc := henv.symm
    subst he
    clear henv
    obtain ⟨pl, hpl⟩ := hev (ksEnv qual (eScope f) s.heap.objs.size fI (.ref cda) cc)
    refine ks_wpAt_execs_cons (ks_wpAt_Expr_any (ks_wpAt_MethodCall ?_ hpl))
    refine ks_wpAt_super_base (env := ksEnv qual (eScope f) s.heap.objs.size fI (.ref cda) cc) lk3 lk2 (by decide +kernel) rfl (X₀ _ _ ho) rfl rfl rfl (X₀ _ _ hcode) rfl hvs hfile T.top ?_
    refine ks_loadName_global rfl lk3 (loadGlobal_builtin (env := ksEnv qual (eScope f) s.heap.objs.size fI (.ref cda) cc) (G.keeps hk) hsu (B.keeps hk) ((hB _ (by decide +kernel)).trans (by decide +kernel)) ⟨rfl, ?_⟩)
    refine wpAny_loadName_free rfl lk2 rfl ⟨_, X₀ _ _ hcell, rfl⟩ ?_
    refine wpAny_loadName_local rfl lk0 hns mself ?_
    refine ks_wpAny_isType_cls (X₀ _ _ hC) rfl ⟨rfl, ?_⟩
    refine ks_wpAny_call_super (X₀ _ _ hC) rfl hx₀ rfl (fun c e => nomatch e) (looks_mroIn X₀ T.mr) (fun h1 hso k1 => ?_)
    have X₁ : K.In h1 := X₀.keeps k1
    have hal : alongIn K "__init__" (((Value.ref C :: bm).dropWhile (· != .ref C)).drop 1) = some (some (.builtin "ValueError.__init__")) := by
      have := T.si
      unfold ks_superIn at this
      rw [hcl] at this
      exact this
    refine kxs_getMethod kxs_ValueError hso (looks_opaque X₁ T.op) (l₀ := .ref C :: bm) (fun A Q E s k q => wpAny_bind ((looks_clsIn X₁ hcl) A _ E s k (wpAny_pure q))) rfl X₁ hal (hin X₁ (k1 _ _ hx₀)) hxC (by decide +kernel) ?_
    have k2 : ∀ b o, h1.get? b = some o → (h1.push (kxs_mw "ValueError.__init__" x)).get? b = some o := fun b o e => Heap.get?_push_of_some _ e
    have hu : (h1.push (kxs_mw "ValueError.__init__" x)).get? h1.objs.size = some (kxs_mw "ValueError.__init__" x) := Heap.get?_push_at rfl rfl
    refine mw_with (i := "ValueError.__init__") (x := x) ?_ rfl rfl
    refine args_cons (ld_loc (hns.keeps fun b o e => k2 b o (k1 b o e)) mf ?_ rfl lk1 T.f3) rfl
    refine args_nil ⟨hu, ?_⟩
    refine mw_call ((X₁.keeps k2) _ _ hC) (k2 _ _ (k1 _ _ hx₀)) hu (one_fits v) (fun h3 t1 k3 hx3 => ?_)
    have old : ∀ b o, b ≠ x → h₀.get? b = some o → h3.get? b = some o := fun b o hb e => k3 b o hb (k2 b o (k1 b o e))
    have X3 : K.In h3 := still (X₁.keeps k2) hnx k3
    have hxL : s.heap.objs.size ≠ x := Nat.ne_of_gt (Heap.lt_size hx)
    obtain ⟨oL, es, ep, hL, rL⟩ := id hns
    have hns3 : h3.Ns s.heap.objs.size (fun y => List.lookup y [(f, v), (("self" : Str), Value.ref x)]) := ⟨oL, es, ep, old _ _ hxL hL, rL⟩
    refine wpAt_of_wpAny (wpAny_execs_cons (plainObj_wpAny_Assign_Attribute ?_))
    refine ld_loc hns3 mf (ld_loc hns3 mself ?_ rfl lk0 (by decide +kernel)) rfl lk1 T.f3
    refine set_plain X3 (ox := excO C t1) (od := none) ⟨hx3, rfl, rfl, trivial⟩ T.sa ?_
    refine exc_osa X3 hx3 hcl (show refsVE (.ref C :: bm) = true from hbm) rfl T.noN (fun h4 tk4 dx k4 dn dne hx4 hn4 => ?_)
    show wpAny _ _ (execs _ _) _ _ _
    have z : s.heap.objs.size < h3.objs.size := Heap.lt_size (old _ _ hxL hL)
    exact wpAny_execs_nil (hq h4 tk4 dx t1 ⟨fun b o hb e => k4 b o hb (old b o hb (hk b o e)), hx4, Nat.le_trans (Nat.le_of_lt z) dn, dne, hn4⟩)
/-- a made error -/
structure EMade (h h' : Heap) (e C dx : Addr) (f : Str) (v : Value) : Prop where
  keep : ∀ b o, h.get? b = some o → h'.get? b = some o
  new : h.objs.size ≤ e
  obj : ∃ oe vs, h'.get? e = some oe ∧ oe.cls = .ref C ∧ oe.dict = some dx ∧ oe.data = .fields vs ∧ vs[1]? = some .none
  dbig : h.objs.size ≤ dx
  dne : dx ≠ e
  ns : h'.Ns1 dx (fun y => if y = f then some v else none)
theorem e_made (T : ETxt prog K C fI f) {v : Value} (X : K.In s.heap) (hlim : s.heap.NoLimit) (G : s.heap.Ns mainGlobals mg) (hsu : mg "super" = none) {mb : Str → Option Value} (B : s.heap.Ns builtinsNs mb) (hB : ∀ y : Str, y ≠ "__name__" → mb y = bootBuiltins y) (hroom : A.depth + 1 < recursionLimit)
    (hq : ∀ h' tk e dx, EMade s.heap h' e C dx f v → R (.ok (.ret (.ref e))) { s with heap := h', toks := tk }) :
    codeAny (model prog w) A (.call (.ref C) ⟨[v], []⟩) R s := by
  obtain ⟨nm, q, N, bs, bm, sn, sub, ab, col, dd, k0, k1, k2, k3, k5, hC, hbm, hcl⟩ := T.cls
  obtain ⟨hp, g, dr, tk, os⟩ := s
  have k : ∀ b o, hp.get? b = some o → ((hp.push (kdv_tup [v])).push (excO C hp.objs.size)).get? b = some o := fun b o e => Heap.get?_push_of_some _ (Heap.get?_push_of_some _ e)
  have there : ((hp.push (kdv_tup [v])).push (excO C hp.objs.size)).get? (hp.objs.size + 1) = some (excO C hp.objs.size) := by heap_get
  have off : K.lookup (hp.objs.size + 1) = none := by
    cases e : K.lookup (hp.objs.size + 1) with
    | none => rfl
    | some o =>
      have z : hp.get? (hp.objs.size + 1) = some o := X _ _ e
      exact absurd (Nat.lt_of_succ_lt (Heap.lt_size z)) (Nat.lt_irrefl _)
  refine call_own PySem.F.excBase_ValueError (fun X => refsVE_contains X bm hbm) (X _ _ hC) (looks_findIn X T.iC) (fun self => bind_fn X self T.tC) (one_fits v) ?_
  refine e_init (s := ⟨(hp.push (kdv_tup [v])).push (excO C hp.objs.size), g, dr, tk, os⟩) T (X.keeps k) (hlim.keeps k) (G.keeps k) hsu (B.keeps k) hB there off ?_ fun h' tk' dx t1 ⟨k', hx, dn, dne, hns⟩ => ?_
  · show A.depth + 1 < recursionLimit
    exact hroom
  · have old : ∀ b o, hp.get? b = some o → h'.get? b = some o := fun b o e => k' b o (Nat.ne_of_lt (Nat.lt_succ_of_lt (Heap.lt_size e))) (k b o e)
    have z : hp.objs.size + 1 + 1 ≤ dx := by
      have q := dn
      rw [Heap.size_push, Heap.size_push] at q
      exact q
    exact ⟨rfl, hq h' tk' (hp.objs.size + 1) dx ⟨old, Nat.le_succ _, ⟨_, _, hx, rfl, rfl, rfl, rfl⟩, show hp.objs.size ≤ dx by omega, dne, hns⟩⟩
end
end DnX
/-! Dn: exceptions raised, caught, their fields. -/
namespace Dn
open PySem L2 -- names

/-- statements, too -/
structure Fs (t : Tb) (cx : Dn.Cx) (N : List Str) (sc : Scope) (mg : Str → Option Value) (W : Wi) (fi : Nat → Option Fi) (k : Nat) (X : L2.Cx) : Prop extends Fc t cx N sc mg W fi k X where
  tk : Takes X W.w
  stk : X.stack = X.env :: X.outer
  frm : X.env.frame = some X.env.locals
  own : PassesOwn (PySem.model X.prog X.w) X.A X.env X.xe
  fna : X.fn = fun _ => true
/-- what the program's exception classes are: of one field -/
structure XF (prog : Program) (t : Tb) (mg : Str → Option Value) (c : Nat) (x : Str) (i : Nat) : Prop where
  txt : ∃ fI, DnX.ETxt prog t.K (t.xa c) fI (t.nm i)
  ids : t.ids c = [i]
  gC : mg x = some (.ref (t.xa c))
  su : mg "super" = none
  db : (x == ("__debug__" : Str)) = false
theorem relO_one {f : Str} {v : V} {v' : Value} (r : RelV v v') (y : Str) : RelO (List.lookup y [(f, v)]) (if y = f then some v' else none) := by
  rw [List.lookup_cons]
  by_cases h : y = f
  · subst h
    rw [if_pos rfl, beq_self_eq_true]
    exact r
  · rw [if_neg h, show (y == f) = false by simpa using h]
    trivial
section
variable {t : Tb} {cx : Dn.Cx} {N : List Str} {sc : Scope} {mg : Str → Option Value} {W : Wi} {fi : Nat → Option Fi} {k : Nat} {X : L2.Cx} {a b c o tg : Expr} {ea eb ec eo : E} {es : List Expr} {Es : List E} {pos p px apos pos2 : Pos}
/-- C(e) -/
theorem pmk_e {ci i : Nat} {x : Str} {ta : TA} (F : XF X.prog t X.mg ci x i) (hK : X.K = t.K) (hr : Room k X.A) (ha : PA X [a] ta) (hg : Gl X x)
    (he : starEach (a :: []) X.env = (false, eval a X.env) :: starEach [] X.env) :
    PMk X (.Call (.Name x p) [a] [] pos) (fun σ H Q => ta σ H fun vs H1 => ∃ v, vs = [v] ∧ ∀ d, H1 d = none → Q (.ref (t.xa ci)) (some d) (upd H1 d (.xd [(t.nm i, v)]))) := by
  intro pins s σ H Q I q
  obtain ⟨fI, T⟩ := F.txt
  rw [← hK] at T
  refine wpAny_Call_Name_kw (ld_glob I hg F.gC ?_ F.db)
  refine PySem.W.callWith_K (h₀ := X.base) I.ok.mod.kin T.kC (thn (ha.run pos pins s σ H _ I q) fun us s1 hh => ?_) he rfl
  obtain ⟨vs, H1, I1, r1, v, ev, q1⟩ := hh
  subst ev
  refine ⟨I1.kIn, ?_⟩
  obtain ⟨v', rfl, rv⟩ := vals1 r1
  have hlim := I1.nolimit
  obtain ⟨mb, b1, b2⟩ := I1.mod.blt
  have Gk := I1.mod.glob.keeps I1.bk
  have Bk := b1.keeps I1.bk
  have kin := I1.kIn
  obtain ⟨hp, g, dr, tk, os⟩ := s1
  refine wpAny_call (DnX.e_made T kin hlim Gk F.su Bk b2 (by have := hr.dp; omega) fun h' tk' e dx M => ?_)
  show MkP X pins σ Q (.ref e) ⟨h', g, dr, tk', os⟩
  obtain ⟨oe, fv, hoe, hc, hd, hdat, h1⟩ := M.obj
  obtain ⟨G', g1, g2⟩ := restrict h' fun b => decide (b ≠ e)
  have gk : ∀ b, b ≠ e → G'.get? b = h'.get? b := fun b hb => g1 b (decide_eq_true hb)
  have ge : G'.get? e = none := g2 e (by simp)
  have kept : ∀ b u, hp.get? b = some u → G'.get? b = some u := fun b u z => (gk b (Nat.ne_of_lt (Nat.lt_of_lt_of_le (Heap.lt_size z) M.new))).trans (M.keep b u z)
  have ob : ObjOk X.prog X.w (upd H1 dx (.xd [(t.nm i, v)])) G' dx (.xd [(t.nm i, v)]) := ⟨_, M.ns.at (fun u z => (gk dx M.dne).trans z), fun y => relO_one rv y⟩
  have J : Inv X pins σ (upd H1 dx (.xd [(t.nm i, v)])) ⟨G', g, dr, tk', os⟩ := I1.laid (t' := tk') kept M.dbig ob
  refine ⟨e, oe, fv, ⟨G', g, dr, tk', os⟩, _, .ref (t.xa ci), some dx, rfl, J, fun b u z => ?_, ge, hoe, ⟨hc, hd⟩, hdat, h1, ?_, rfl, I1.bare, raises_own T.exC T.tyC, q1 dx (I1.hok.fresh M.dbig)⟩
  · by_cases hb : b = e
    · have z' : G'.get? b = some u := z
      rw [hb, ge] at z'; cases z'
    · exact (gk b hb).symm.trans z
  · rw [upd_ne (Ne.symm M.dne)]
    exact I1.hok.fresh M.new
/-- raise C(e) -/
theorem s_rais (h : Fs t cx N sc mg W fi k X) {ci i : Nat} {x : Str} {xd : XD} (F : XF X.prog t mg ci x i) (hxd : cx.P.xcs[ci]? = some xd) (ha : VA t cx W X [a] [ea]) (hg : sc.names.lookup x = some .globalImplicit)
    (he : starEach (a :: []) X.env = (false, eval a X.env) :: starEach [] X.env) : VS t cx W X (.Raise (some (.Call (.Name x p) [a] [] pos)) none pos2) (.rais ci [ea]) := by
  have F' : XF X.prog t X.mg ci x i := by rw [h.mm]; exact F
  refine PS.weak (ps_raise h.calm h.tk (pmk_e F' h.kk (h.room.room) ha (h.gl hg) he)) fun D σ H q => ?_
  obtain ⟨μ, ρ, S, re, rs, q⟩ := q
  refine ⟨μ, ρ, S, re, rs, (Aft.stm (r := evs cx [ea] ρ S) q).eqn.imp (fun ds S2 μ1 H1 e1 s1 k1 vs rv => ?_) fun x S2 μ1 H1 e1 s1 z cls dd rx => z.2 σ cls dd (re.ext e1) rx⟩
  obtain ⟨k0, k1⟩ := k1
  have hl := evs_len k0
  match ds, hl with
  | [d], _ =>
    obtain ⟨v, rfl, r⟩ := rv.one
    refine ⟨v, rfl, fun dx hdx => ?_⟩
    rw [hxd] at k1
    dsimp only at k1
    split at k1
    · have ef := Ext.fresh (μ := μ1) (o := .xd [(t.nm i, v)]) hdx
      refine k1 μ1 _ ef (s1.fresh hdx) (e1.trans ef) σ _ _ ((re.ext e1).ext ef) ⟨rfl, by rw [F.ids]; rfl, .inr ⟨dx, [v], rfl, ⟨s1.nofresh hdx, s1.nohid hdx⟩, ?_, RDs.ext ef _ rv⟩⟩
      rw [upd_same, F.ids]
      rfl
    · exact k1.elim
end
end Dn
/-! Dn: try .. except C1 as e: .. except C2: .. -/
namespace Dn
open PySem L2 -- names

/-- an except clause: its class, its name (and slot), its suite's reading -/
structure HCl where
  c : Value
  n : Option (Str × Nat)
  ts : Addr → Value → Option Addr → TS
/-- a suite's ends, where its name is gone -/
def goneD (n : Option (Str × Nat)) (D : Ends) : Ends :=
  match n with
  | none => D
  | some p => { nx := fun σ' H' => D.nx (σ'.set p.2 none) H', rt := D.rt, bk := fun σ' H' => D.bk (σ'.set p.2 none) H', ct := fun σ' H' => D.ct (σ'.set p.2 none) H' }
def heldS (n : Option (Str × Nat)) (a : Addr) (σ : L2.St) : L2.St :=
  match n with
  | none => σ
  | some p => σ.set p.2 (some (.ref a))
/-- what the clauses wish of an exception of the body -/
def wHs (K : PySem.W.Frag) (Wout : WX) (D : Ends) : List HCl → WX
  | [] => Wout
  | h :: r => fun cls d σ H => ∃ b, PySem.W.exmOne K cls h.c = some b ∧ (b = true → ∀ a, H a = none → h.ts a cls d (goneD h.n D) (heldS h.n a σ) H) ∧ (b = false → wHs K Wout D r cls d σ H)
inductive HsOk (X : L2.Cx) : List ExceptHandler → List HCl → Prop
  | nil : HsOk X [] []
  | plain {x : Str} {c : Value} {ts : Addr → Value → Option Addr → TS} {st0 : Stmt} {suite : List Stmt} {np hpos : Pos} {hds : List ExceptHandler} {l : List HCl} (hc : Names X x c)
      (hsu : ∀ (a : Addr) (oe : Obj) (cls : Value) (d : Option Addr) (pn : List (Addr × Obj)), Zc cls d oe → (∃ vs, oe.data = .fields vs) → PSs (X.suite a ((a, oe) :: pn)) (st0 :: suite) (ts a cls d)) (r : HsOk X hds l) :
      HsOk X (.ExceptHandler (some (.Name x np)) none (st0 :: suite) hpos :: hds) (⟨c, none, ts⟩ :: l)
  | named {x n : Str} {i : Nat} {c : Value} {ts : Addr → Value → Option Addr → TS} {st0 : Stmt} {suite : List Stmt} {np hpos : Pos} {hds : List ExceptHandler} {l : List HCl} (hc : Names X x c) (hi : X.N[i]? = some n) (hln : X.env.kindOf n = some .local)
      (hsu : ∀ (a : Addr) (oe : Obj) (cls : Value) (d : Option Addr) (pn : List (Addr × Obj)), Zc cls d oe → (∃ vs, oe.data = .fields vs) → PSs (X.suite a ((a, oe) :: pn)) (st0 :: suite) (ts a cls d)) (r : HsOk X hds l) :
      HsOk X (.ExceptHandler (some (.Name x np)) (some n) (st0 :: suite) hpos :: hds) (⟨c, some (n, i), ts⟩ :: l)
section
variable {X : L2.Cx} {body : List Stmt} {hd0 : ExceptHandler} {hds : List ExceptHandler} {l : List HCl} {pos : Pos} {tb : WX → TS} {Wout : WX}
theorem ps_trys (hs : X.stack = X.env :: X.outer) (hf : X.env.frame = some X.env.locals) (hN : X.N.Nodup) (tk : Takes X Wout)
    (hb : ∀ (W : WX) (pn : List (Addr × Obj)) (xe : Value → Shared → Prop), Takes (X.tr pn xe) W → PassesOwn (PySem.model X.prog X.w) X.A X.env xe → PSs (X.tr pn xe) body (tb W))
    (hh : HsOk X (hd0 :: hds) l) : PS X (.Try body (hd0 :: hds) [] [] pos) (fun D σ H => tb (wHs X.K Wout D l) D σ H) := by
  refine ⟨fun pins s σ H D I q => ?_⟩
  have ok := I.ok
  have frs1 : X.A.frames = some (X.env :: X.outer) := by rw [ok.frames, hs]
  refine wpAny_Try_except ?_
  refine wpAny_mono ((hb (wHs X.K Wout D l) (X.pn ++ pins) (fun e s1 => wpAny (PySem.model X.prog X.w) X.A (noteFrame e X.env) (fun _ s2 => wpAny (PySem.model X.prog X.w) X.A (setFlight e none) (fun _ s3 =>
    wpAny (PySem.model X.prog X.w) X.A (handleBy e X.env (hd0 :: hds)) (SP X pins D) X.xe s3) X.xe s2) X.xe s1) (fun u s' xx => ?_) PassesOwn.looking).run [] s σ H D (I.toTry _) q) (fun fl s1 out => ?_) (fun e s1 he => he)
  · obtain ⟨a, B, sI, pins', σ', H', cls, d, rfl, Jt, nb, up, sky, na, os, ag, w⟩ := xx
    have J : Inv X pins σ' H' sI := Jt.ofTry ok
    have sky1 : Sky B (X.env :: X.outer) a (Zc cls d) X.env.locals s'.heap := by rw [← hs]; exact sky
    show wpAny (PySem.model X.prog X.w) X.A (noteFrame (.ref a) X.env) _ _ _
    refine Sky.land Zc.steady frs1 hf sky1 fun h3 fl3 up3 => ?_
    have J3 : Inv X pins σ' H' { s' with heap := h3 } := J.landed nb fl3.1 (up.trans up3) os ag
    obtain ⟨oe3, vs3, he3, hz3, hd3⟩ := fl3.there
    have offFr : a ∉ frs (X.env :: X.outer) := fun hm => by
      obtain ⟨_, ob, eb, hnf⟩ := fl3.2.2.1.mem hm
      rw [he3] at eb; cases eb
      exact hnf _ hd3
    have nL : a ≠ X.env.locals := fun z => offFr (List.mem_filterMap.mpr ⟨X.env, List.mem_cons_self, by rw [hf, z]⟩)
    have nF : a ∉ X.fs := fun hm => by
      obtain ⟨ev1, he, z⟩ := List.mem_filterMap.mp hm
      exact offFr (List.mem_filterMap.mpr ⟨ev1, List.mem_cons_of_mem _ he, z⟩)
    have S3 := J3.suite he3 hd3 na nL nF
    -- the class of a clause is asked
    have asked : ∀ {x : Str} {c : Value} {b : Bool} {np : Pos} {R : Bool → Shared → Prop} {E : Value → Shared → Prop}, Names X x c → PySem.W.exmOne X.K cls c = some b →
        (∀ {Q2 : Value → Shared → Prop}, Q2 c { s' with heap := h3 } → wpAny (PySem.model X.prog X.w) (X.A.mark (some (.ref a))) (eval (.Name x np) X.env) Q2 E { s' with heap := h3 }) := fun {x c b np R E} hc hb1 {Q2} z => by
      obtain ⟨hg, hdb, hm | ⟨hm, hv, hnn⟩⟩ := hc
      · exact ld_glob (X := X.suite a ((a, oe3) :: (X.pn ++ pins))) S3 hg hm z hdb
      · exact ld_blt (X := X.suite a ((a, oe3) :: (X.pn ++ pins))) S3 hg hm hv z hnn hdb
    have LT : PySem.W.Looks (PySem.model X.prog X.w) h3 (typeOf (.ref a)) cls := fun A Q E s k z => wpAny_typeOf_ref (k _ _ he3) (by rw [hz3.1]; exact z)
    have go : ∀ {hds' : List ExceptHandler} {l' : List HCl}, HsOk X hds' l' → wHs X.K Wout D l' cls d σ' H' →
        wpAny (PySem.model X.prog X.w) X.A (handleBy (.ref a) X.env hds') (SP X pins D) X.xe { s' with heap := h3 } := by
      intro hds' l' hk
      induction hk with
      | nil =>
        intro w
        refine wpAny_handleBy_nil ?_
        obtain ⟨_, _, _, oe, vs, T, oT, ts', he, hz, hd, hT, _⟩ := id fl3
        unfold PySem.passOn
        refine wpAny_bind (wpAny_field he hd hT ?_)
        rw [if_neg (show ¬ ((Value.ref T == Value.none) = true) from by simp)]
        have lets : wpAny (PySem.model X.prog X.w) X.A (setFlight (.ref a) X.env.frame) (fun _ s4 => wpAny (PySem.model X.prog X.w) X.A (throw (.ref a) : Sem Flow) (SP X pins D) X.xe s4) X.xe { s' with heap := h3 } := by
          rw [hf]
          refine HandSPX.setFlight_upZ fl3 fun h4 hh4 up4 => wpAny_throw (tk _ _ ?_)
          exact ⟨a, B, sI, pins, σ', H', cls, d, rfl, J, nb, (up.trans up3).trans up4, .inr (.inr (by rw [hs]; exact hh4)), na, os, ag, w⟩
        first
          | exact wpAny_bind (wpAny_pure (wpAny_bind lets))
          | exact wpAny_bind lets
      | @plain x c ts st0 suite np hpos hds2 l2 hc hsu r ih =>
        intro w
        obtain ⟨b, hb1, hyes, hno⟩ := w
        refine wpAny_handleBy_cons (codeAny_handlers_test ?_) (by intro z; cases z)
        have LM := PySem.W.exm_one (M := PySem.model X.prog X.w) (J3.kIn) LT hb1
        refine asked (R := fun _ _ => True) hc hb1 (LM.here ?_)
        cases b with
        | true =>
          refine codeAny_handlers_suite ?_
          refine HandSPX.lands_againZ fl3 fun h4 fl4 up4 => ?_
          have J4 : Inv X pins σ' H' { s' with heap := h4 } := J.landed nb fl4.1 ((up.trans up3).trans up4) os ag
          obtain ⟨oe4, vs4, he4, hz4, hd4⟩ := fl4.there
          have S4 := J4.suite he4 hd4 na nL nF
          refine wpAny_mono ((hsu a oe4 cls d (X.pn ++ pins) hz4 ⟨_, hd4⟩).run [] _ _ H' _ S4 (hyes rfl a na)) (fun fl s6 out => ?_) (fun _ _ z => False.elim z)
          cases fl with
          | ret u =>
            obtain ⟨v6, σ6, H6, S6, r6, q6⟩ := out
            exact ⟨_, _, _, S6.unsuite ok, r6, q6⟩
          | next => obtain ⟨σ6, H6, S6, q6⟩ := out; exact ⟨_, _, S6.unsuite ok, q6⟩
          | brk => obtain ⟨σ6, H6, S6, q6⟩ := out; exact ⟨_, _, S6.unsuite ok, q6⟩
          | cont => obtain ⟨σ6, H6, S6, q6⟩ := out; exact ⟨_, _, S6.unsuite ok, q6⟩
        | false =>
          show wpAny _ X.A (handleBy (.ref a) X.env hds2) _ _ _
          exact ih (hno rfl)
      | @named x n i c ts st0 suite np hpos hds2 l2 hc hi hln hsu r ih =>
        intro w
        obtain ⟨b, hb1, hyes, hno⟩ := w
        refine wpAny_handleBy_cons (codeAny_handlers_test ?_) (by intro z; cases z)
        have LM := PySem.W.exm_one (M := PySem.model X.prog X.w) (J3.kIn) LT hb1
        refine asked (R := fun _ _ => True) hc hb1 (LM.here ?_)
        cases b with
        | true =>
          refine codeAny_handlers_suite_as ?_
          refine HandSPX.lands_againZ fl3 fun h4 fl4 up4 => ?_
          have J4 : Inv X pins σ' H' { s' with heap := h4 } := J.landed nb fl4.1 ((up.trans up3).trans up4) os ag
          obtain ⟨oe4, vs4, he4, hz4, hd4⟩ := fl4.there
          have S4 := J4.suite he4 hd4 na nL nF
          refine store_ok (X := X.suite a ((a, oe4) :: (X.pn ++ pins))) (v := .ref a) S4 hN hi (.inl hln) rfl (fun s5 S5 => ?_) (.inr hln)
          refine wpAny_mono ((hsu a oe4 cls d (X.pn ++ pins) hz4 ⟨_, hd4⟩).run [] s5 _ H' _ S5 (hyes rfl a na)) (fun fl s6 out => ?_) (fun _ _ z => False.elim z)
          have behind : ∀ {σ6 : L2.St} {H6 : Hp} {Q2 : Shared → Prop}, Inv (X.suite a ((a, oe4) :: (X.pn ++ pins))) [] σ6 H6 s6 → (∀ s7, Inv X pins (σ6.set i none) H6 s7 → Q2 s7) →
              wpAny (PySem.model X.prog X.w) X.A (do bindName X.env n .none; unbindBehindTheSuite X.env n hpos) (fun _ s7 => Q2 s7) X.xe s6 := fun {σ6 H6 Q2} S6 hq => gone_ok (S6.unsuite ok) hN hi hln hq
          cases fl with
          | ret u =>
            obtain ⟨v6, σ6, H6, S6, r6, q6⟩ := out
            exact behind S6 fun s7 J7 => ⟨_, _, _, J7, r6, q6⟩
          | next => obtain ⟨σ6, H6, S6, q6⟩ := out; exact behind S6 fun s7 J7 => ⟨_, _, J7, q6⟩
          | brk => obtain ⟨σ6, H6, S6, q6⟩ := out; exact behind S6 fun s7 J7 => ⟨_, _, J7, q6⟩
          | cont => obtain ⟨σ6, H6, S6, q6⟩ := out; exact behind S6 fun s7 J7 => ⟨_, _, J7, q6⟩
        | false =>
          show wpAny _ X.A (handleBy (.ref a) X.env hds2) _ _ _
          exact ih (hno rfl)
    exact go hh w
  · cases fl with
    | next => obtain ⟨σ', H', J', z⟩ := out; exact wpAny_execs_nil ⟨σ', H', J'.ofTry ok, z⟩
    | brk => obtain ⟨σ', H', J', z⟩ := out; exact ⟨σ', H', J'.ofTry ok, z⟩
    | cont => obtain ⟨σ', H', J', z⟩ := out; exact ⟨σ', H', J'.ofTry ok, z⟩
    | ret u => obtain ⟨v, σ', H', J', r, z⟩ := out; exact ⟨v, σ', H', J'.ofTry ok, r, z⟩
end
end Dn
/-! Dn: except suites; the field of an error in hand; try as a statement. -/
namespace Dn
open PySem L2 -- names

/-- what a caught error's class is -/
structure XA (t : Tb) (c : Nat) (xd : XD) : Prop where
  ids : t.ids c = xd.ids
  ga : PySem.W.findIn t.K (.ref (t.xa c)) "__getattribute__" = some (some (.builtin "BaseException.__getattribute__"))
  gg : PySem.W.findIn t.K (.ref (t.xa c)) "__getattr__" = some none
  ex : PySem.W.subIn t.K (.ref (t.xa c)) (.type "BaseException") = some true
  hd : PySem.W.hasDictIn t.K (t.xa c) = true
  no : ∀ f ∈ xd.ids, PySem.W.findIn t.K (.ref (t.xa c)) (t.nm f) = some none
theorem getId_rd {t : Tb} {μ : List Addr} {H : Hp} (inj : ∀ i j, t.nm i = t.nm j → i = j) {f : Nat} : ∀ {ids : List Nat} {ds : List D} {vs : List V} {d : D}, getId f ids ds = some d → RDs t μ H ds vs → ∃ v, (fsOf t ids vs).lookup (t.nm f) = some v ∧ RD t μ H d v ∧ f ∈ ids
  | [], ds, vs, d, e, r => by cases ds <;> (unfold getId at e; cases e)
  | i :: ids, [], vs, d, e, r => by unfold getId at e; cases e
  | i :: ids, x :: ds, vs, d, e, r => by
    obtain ⟨v, vr, rfl, r1, r2⟩ := r
    unfold getId at e
    by_cases h : i = f
    · subst h
      rw [if_pos rfl] at e
      cases e
      refine ⟨v, ?_, r1, List.mem_cons_self⟩
      show List.lookup (t.nm i) ((t.nm i, v) :: _) = _
      rw [List.lookup_cons, beq_self_eq_true]
    · rw [if_neg h] at e
      obtain ⟨w, h1, h2, h3⟩ := getId_rd inj e r2
      refine ⟨w, ?_, h2, List.mem_cons_of_mem _ h3⟩
      show List.lookup (t.nm f) ((t.nm i, v) :: fsOf t ids vr) = _
      rw [List.lookup_cons, show (t.nm f == t.nm i) = false by simpa using fun z => h (inj _ _ z).symm]
      exact h1
section
variable {t : Tb} {cx : Dn.Cx} {N : List Str} {sc : Scope} {mg : Str → Option Value} {W : Wi} {fi : Nat → Option Fi} {k : Nat} {X : L2.Cx} {a : Expr} {pos p : Pos} {body : List Stmt} {SB : List Dn.St} {hds : List ExceptHandler} {hd0 : ExceptHandler} {HS : List Hd}
/-- within a suite -/
abbrev Wi.suite (cu : Cu) : Wi := { w := fun _ _ _ _ => False, cu := some cu }
theorem Fe.suite (h : Fe t cx N sc mg W X) (cu : Cu) {ad : Addr} {pn : List (Addr × Obj)} : Fe t { cx with cur := some cu.x } N sc mg (Wi.suite cu) (X.suite ad pn) where
  kk := h.kk
  nn := h.nn
  nd := h.nd
  ss := h.ss
  mm := h.mm
  un := h.un
  gd := h.gd
  cur := rfl
  nmi := h.nmi
/-- e.f, e the error in hand -/
theorem r_exf (h : Fe t cx N sc mg W X) (xa : ∀ c xd, cx.P.xcs[c]? = some xd → XA t c xd) {cu : Cu} {oe : Obj} {pn : List (Addr × Obj)} {n f : Str} {fid : Nat} (hi : N[cu.i]? = some n) (hv : Vis sc n) (hd : ((n == ("__debug__" : Str)) || (n == ("__classdict__" : Str))) = false) (hf : t.nm fid = f)
    (hz : Zc cu.cls cu.dd oe) (hfl : ∃ vs, oe.data = .fields vs) (hb : attributeBase (.Name n p) f X.env (eval (.Name n p) X.env) = eval (.Name n p) X.env) :
    PE (X.suite cu.a ((cu.a, oe) :: pn)) (.Attribute (.Name n p) f pos) (tE t (Wi.suite cu) (ev { cx with cur := some cu.x } (.exf cu.i fid))) := by
  subst hf
  rw [Bool.or_eq_false_iff] at hd
  have he : PE (X.suite cu.a ((cu.a, oe) :: pn)) (.Name n p) (tVar cu.i) := pe_var (by show X.N[cu.i]? = _; rw [h.nn]; exact hi) (by show Vis X.env.scope n; rw [h.ss]; exact hv) hd.1 hd.2
  refine ⟨fun pins s σ H Q I q => ?_⟩
  obtain ⟨μ, ρ, S, re, rs, q⟩ := q
  obtain ⟨rx, sl⟩ := re.cur cu rfl
  have q1 : Aft t μ H (match ρ[cu.i]? with
    | some none => match cx.P.xcs[cu.x.c]? with
        | some xd => R.of (getId fid xd.ids cu.x.fs) S
        | none => .bad
    | _ => .bad) (fun d _ μ' H' => ∀ v, RD t μ' H' d v → Q v H') (fun x _ μ' H' => ∀ cls dd, RX t μ' H' x cls dd → (Wi.suite cu).w cls dd σ H') := q
  cases z : ρ[cu.i]? with
  | none => rw [z] at q1; exact q1.elim
  | some o =>
    cases o with
    | some d => rw [z] at q1; exact q1.elim
    | none =>
      rw [z] at q1
      have sl := sl z
      cases z2 : cx.P.xcs[cu.x.c]? with
      | none => rw [z2] at q1; exact q1.elim
      | some xd =>
        rw [z2] at q1
        obtain ⟨d, e, q2⟩ := Aft.of q1
        have q3 := q2.now rs
        have A := xa _ _ z2
        obtain ⟨ec, hl, rx⟩ := rx
        rw [A.ids] at rx
        refine attr_of hb (thn (he.run pins s σ H (fun x H1 => x = .ref cu.a ∧ H1 = H) I ⟨_, sl, rfl, rfl⟩) fun u s1 hh => ?_)
        obtain ⟨x, H1, I1, ru, ex, eH⟩ := hh
        subst ex eH
        obtain rfl : u = Value.ref cu.a := ru
        rcases rx with ⟨h0, _⟩ | ⟨dx, vs, h1, h2, h3, h4⟩
        · exfalso
          rw [h0] at e
          unfold getId at e
          split at e <;> first | cases e | contradiction
        · obtain ⟨v, l1, l2, l3⟩ := getId_rd h.nmi e h4
          obtain ⟨ha, _⟩ := I1.pin (cu.a, oe) (List.mem_append_left _ List.mem_cons_self)
          obtain ⟨fs, hdat⟩ := hfl
          obtain ⟨mA, hns, hr⟩ := (show ObjOk X.prog X.w H1 s1.heap dx (.xd (fsOf t xd.ids vs)) from I1.hok dx _ h3)
          obtain ⟨od, ho, hlk⟩ := lookIn_ns hns
          obtain ⟨w, hw, rw1⟩ := RelO.some_of (v := v) (o := mA (t.nm fid)) (by rw [← l1]; exact hr (t.nm fid))
          have K1 : X.K.In s1.heap := I1.kIn
          rw [h.kk] at K1
          have ec' : oe.cls = .ref (t.xa cu.x.c) := hz.1.trans ec
          have J : PySem.W.InstAt s1.heap cu.a oe (t.xa cu.x.c) (some od) := ⟨ha, ec', by unfold PySem.W.notCls; rw [hdat] <;> rfl, by rw [hz.2, h1]; exact ho⟩
          exact HandSPX.exc_get K1 J A.ga A.gg A.ex (PySem.W.findObj_own A.hd (A.no fid l3) rfl (by rw [hlk, hw])) (handed_of rw1) ⟨v, H1, I1.tok _, rw1, q3 v l2⟩
/-- the clauses, one by one -/
inductive HdR (t : Tb) (cx : Dn.Cx) : List Hd → List HCl → Prop
  | nil : HdR t cx [] []
  | plain {c : Nat} {SH : List Dn.St} {hs : List Hd} {l : List HCl} (r : HdR t cx hs l) :
      HdR t cx (.mk c none SH :: hs) (⟨.ref (t.xa c), none, fun a cls d D σ H => ∃ x j, tS t (Wi.suite ⟨x, cls, d, j, a⟩) (sts SH { cx with cur := some x }) D σ H⟩ :: l)
  | named {c i : Nat} {n : Str} {SH : List Dn.St} {hs : List Hd} {l : List HCl} (r : HdR t cx hs l) :
      HdR t cx (.mk c (some i) SH :: hs) (⟨.ref (t.xa c), some (n, i), fun a cls d D σ H => ∃ x, tS t (Wi.suite ⟨x, cls, d, i, a⟩) (sts SH { cx with cur := some x }) D σ H⟩ :: l)
/-- a clause's class, among the program's own -/
abbrev Exm (t : Tb) (P : Prog) : Prop := ∀ c1 xd c2, P.xcs[c1]? = some xd → c2 < P.xcs.length → PySem.W.exmOne t.K (.ref (t.xa c1)) (.ref (t.xa c2)) = some (xd.sup.contains c2)
theorem han_ok (em : Exm t cx.P) (hcu : W.cu = none) {D1 : Ends} : ∀ {HS : List Hd} {l : List HCl}, HdR t cx HS l → (∀ h ∈ HS, match h with | .mk c _ _ => c < cx.P.xcs.length) → ∀ {x : Xn} {ρ : Env} {S : Sto} {μ : List Addr} {H : Hp} {σ : L2.St} {cls : Value} {dd : Option Addr},
    Aft t μ H (han HS cx x ρ S) (fun fl _ μ' H' => endS t W D1 fl μ' H') (fun _ _ _ _ => False) → RE t none μ H ρ σ → RS t μ S H → RX t μ H x cls dd → wHs t.K W.w D1 l cls dd σ H := by
  intro HS l r
  induction r with
  | nil =>
    intro _ x ρ S μ H σ cls dd q re rs rx
    unfold han at q
    exact Aft.now (a := Fl.xc x ρ) rs q σ cls dd (by rw [hcu]; exact re) rx
  | @plain c SH hs l r ih =>
    intro hc x ρ S μ H σ cls dd q re rs rx
    have hcl := hc _ List.mem_cons_self
    unfold han at q
    split at q
    · exact q.elim
    · rename_i xd hx
      have e := em _ _ c hx hcl
      refine ⟨xd.sup.contains c, by rw [rx.1]; exact e, fun hb a na => ?_, fun hb => ?_⟩
      · rw [hb, if_pos rfl] at q
        refine ⟨x, ρ.length, μ, ρ, S, ⟨fun c hc => ?_, re.len, re.get⟩, rs, (Aft.bind (r := sts SH { cx with cur := some x } ρ S) q).imp (fun fl S2 μ2 H2 e2 s2 k => ?_) fun _ _ _ _ _ _ z => z⟩
        · cases hc
          exact ⟨rx, fun z => by rw [List.getElem?_eq_none (Nat.le_refl _)] at z; cases z⟩
        · cases fl with
          | nx ρ2 => exact fun σ' re' => Aft.now (a := Fl.nx ρ2) s2 k e2 σ' (by rw [hcu]; exact ⟨fun _ z => (nomatch z), re'.len, re'.get⟩)
          | bk ρ2 => exact fun σ' re' => Aft.now (a := Fl.bk ρ2) s2 k e2 σ' (by rw [hcu]; exact ⟨fun _ z => (nomatch z), re'.len, re'.get⟩)
          | ct ρ2 => exact fun σ' re' => Aft.now (a := Fl.ct ρ2) s2 k e2 σ' (by rw [hcu]; exact ⟨fun _ z => (nomatch z), re'.len, re'.get⟩)
          | rt d => exact Aft.now (a := Fl.rt d) s2 k e2
          | xc x ρ2 => exact k.elim
      · rw [hb] at q
        exact ih (fun h hm => hc h (List.mem_cons_of_mem _ hm)) q re rs rx
  | @named c i n SH hs l r ih =>
    intro hc x ρ S μ H σ cls dd q re rs rx
    have hcl := hc _ List.mem_cons_self
    unfold han at q
    split at q
    · exact q.elim
    · rename_i xd hx
      have e := em _ _ c hx hcl
      refine ⟨xd.sup.contains c, by rw [rx.1]; exact e, fun hb a na => ?_, fun hb => ?_⟩
      · rw [hb, if_pos rfl] at q
        have re2 := re.unset i (some (.ref a))
        refine ⟨x, μ, ρ.set i none, S, ⟨fun c hc => ?_, re2.len, re2.get⟩, rs, (Aft.bind (r := sts SH { cx with cur := some x } (unO (some i) ρ) S) q).imp (fun fl S2 μ2 H2 e2 s2 k => ?_) fun _ _ _ _ _ _ z => z⟩
        · cases hc
          refine ⟨rx, fun z => ?_⟩
          have hl : i < ρ.length := by
            have := (List.getElem?_eq_some_iff.mp z).1
            rw [List.length_set] at this; exact this
          exact List.getElem?_set_self (by rw [← re.len]; exact hl)
        · cases fl with
          | nx ρ2 => exact fun σ' re' => Aft.now (a := Fl.nx (ρ2.set i none)) s2 k e2 _ (by rw [hcu]; exact RE.unset ⟨fun _ z => (nomatch z), re'.len, re'.get⟩ i none)
          | bk ρ2 => exact fun σ' re' => Aft.now (a := Fl.bk (ρ2.set i none)) s2 k e2 _ (by rw [hcu]; exact RE.unset ⟨fun _ z => (nomatch z), re'.len, re'.get⟩ i none)
          | ct ρ2 => exact fun σ' re' => Aft.now (a := Fl.ct (ρ2.set i none)) s2 k e2 _ (by rw [hcu]; exact RE.unset ⟨fun _ z => (nomatch z), re'.len, re'.get⟩ i none)
          | rt d => exact Aft.now (a := Fl.rt d) s2 k e2
          | xc x ρ2 => exact k.elim
      · rw [hb] at q
        exact ih (fun h hm => hc h (List.mem_cons_of_mem _ hm)) q re rs rx
/-- the context of a try's body -/
theorem Fs.tr (h : Fs t cx N sc mg W fi k X) {W1 : WX} {pn : List (Addr × Obj)} {xe : Value → Shared → Prop} (tk : Takes (X.tr pn xe) W1) (po : PassesOwn (PySem.model X.prog X.w) X.A X.env xe) : Fs t cx N sc mg { w := W1, cu := W.cu } fi k (X.tr pn xe) where
  kk := h.kk
  nn := h.nn
  nd := h.nd
  ss := h.ss
  mm := h.mm
  un := h.un
  gd := h.gd
  cur := h.cur
  nmi := h.nmi
  calm := h.calm
  nocu := h.nocu
  room := h.room
  pass := fun σ => passAt (X := X.tr pn xe) (W := W1) tk σ
  fn := h.fn
  bd := h.bd
  tk := tk
  stk := h.stk
  frm := h.frm
  own := po
  fna := h.fna
theorem s_tri (h : Fs t cx N sc mg W fi k X) (em : Exm t cx.P) {l : List HCl} (hb : ∀ (W1 : WX) (pn : List (Addr × Obj)) (xe : Value → Shared → Prop), Fs t cx N sc mg { w := W1, cu := W.cu } fi k (X.tr pn xe) → VSs t cx { w := W1, cu := W.cu } (X.tr pn xe) body SB)
    (hh : HsOk X (hd0 :: hds) l) (hr : HdR t cx HS l) (hc : ∀ h ∈ HS, match h with | .mk c _ _ => c < cx.P.xcs.length) : VS t cx W X (.Try body (hd0 :: hds) [] [] pos) (.tri SB HS) := by
  refine PS.weak (ps_trys (tb := fun W1 => tS t { w := W1, cu := W.cu } (sts SB cx)) h.stk h.frm (by rw [h.nn]; exact h.nd) h.tk (fun W1 pn xe tk po => hb W1 pn xe (h.tr tk po)) hh) fun D σ H q => ?_
  obtain ⟨μ, ρ, S, re, rs, q⟩ := q
  refine ⟨μ, ρ, S, re, rs, (Aft.bind (r := sts SB cx ρ S) q).imp (fun fl S2 μ1 H1 e1 s1 k1 => ?_) fun _ _ _ _ _ _ z => z⟩
  cases fl with
  | nx ρ' => exact Aft.now (a := Fl.nx ρ') s1 k1 e1
  | bk ρ' => exact Aft.now (a := Fl.bk ρ') s1 k1 e1
  | ct ρ' => exact Aft.now (a := Fl.ct ρ') s1 k1 e1
  | rt d => exact Aft.now (a := Fl.rt d) s1 k1 e1
  | xc x ρ' =>
    intro σ' cls dd re' rx
    rw [h.kk]
    have re2 : RE t none μ1 H1 ρ' σ' := by
      have z : RE t W.cu μ1 H1 ρ' σ' := re'
      rw [h.nocu] at z; exact z
    exact han_ok em h.nocu hr hc (Aft.imp k1 (fun _ _ _ _ e2 _ z => z (e1.trans e2)) fun _ _ _ _ e2 _ z => z (e1.trans e2)) re2 s1 rx
end
end Dn
/-! Dn: a def of the program keeps what its tree form says. -/
namespace Dn
open PySem L2 PyProof.Rows PySem.Spec -- names

theorem finX_ok {t : Tb} {μ0 μ : List Addr} {H0 H : Hp} {S : Sto} {x : Xn} {k : D → Sto → List Addr → Hp → Prop} {kx : Xn → Sto → List Addr → Hp → Prop} (h : Aft t μ0 H0 (finX μ0.length x S) k kx)
    (e : Ext μ0 H0 μ H) (s : RS t μ S H) {cls : Value} {dd : Option Addr} (r : RX t μ H x cls dd) : ∃ S' μ', kx x S' μ' H ∧ RX t μ' H x cls dd := by
  unfold finX at h
  split at h
  · rename_i hk
    rw [Bool.and_eq_true] at hk
    refine ⟨_, _, h _ H e.shrink (s.shrink hk.1), ?_⟩
    obtain ⟨r1, r2, r3⟩ := r
    refine ⟨r1, r2, ?_⟩
    rcases r3 with r3 | ⟨d, vs, h1, h2, h3, h4⟩
    · exact .inl r3
    · exact .inr ⟨d, vs, h1, ⟨take_not h2.1, h2.2⟩, h3, RDs.shrink _ hk.2 h4⟩
  · exact ⟨_, _, h _ H e s, r⟩
theorem re_start {t : Tb} {μ : List Addr} {H : Hp} {N : List Str} {ds : List D} {vs : List V} (r : RDs t μ H ds vs) : RE t none μ H (ds.map some ++ List.replicate (N.length - ds.length) none) (L2.start N vs) where
  cur := fun _ z => nomatch z
  len := by unfold L2.start; rw [List.length_append, List.length_append, List.length_map, List.length_map, List.length_replicate, List.length_replicate, r.length]
  get := fun i d e => by
    by_cases hi : i < ds.length
    · rw [List.getElem?_append_left (by rw [List.length_map]; exact hi), List.getElem?_map] at e
      obtain ⟨d', h1, h2⟩ := map_of e
      cases h2
      obtain ⟨v, h3, h4⟩ := r.get h1
      refine ⟨v, ?_, h4⟩
      unfold L2.start
      rw [List.getElem?_append_left (by rw [List.length_map, ← r.length]; exact hi), List.getElem?_map, h3]
      rfl
    · rw [List.getElem?_append_right (by rw [List.length_map]; omega), List.getElem?_replicate] at e
      split at e <;> cases e
section
variable {prog : Program} {w : World} {K : PySem.W.Frag} {mg : Str → Option Value} {base : Heap} {t : Tb} {P : Prog} {wf n : Nat} {fi : Nat → Option Fi}
theorem spC_len {f : Nat} {fd : FD} {vs : List V} {H : Hp} {Q : VK} {E1 : XK} (hf : P.fns[f]? = some fd) (h : spC t (callF P wf (n + 1)) f vs H Q E1) : vs.length = fd.np := by
  obtain ⟨xi, μ, S, ds, rs, r, q⟩ := h
  unfold callF at q
  rw [hf] at q
  dsimp only at q
  split at q
  · rename_i hl
    rw [← r.length]; exact hl
  · exact q.elim
/-- the body keeps it: the def does -/
theorem okG {f : Nat} {fdn : FD} {x qual : Str} {st : Stmt} {fa : Addr} {fd : FuncData} {N ps : List Str} {k : Nat} (hf : P.fns[f]? = some fdn) (F : Fun K x qual st fa fd) (sco : FnScope N ps (defScope st)) (hps : ps.length = fdn.np) (hN : N.length = fdn.nv)
    (hK : K = t.K) (inj : ∀ i j, t.nm i = t.nm j → i = j)
    (fns : ∀ f i, fi f = some i → FnG prog w K mg base k (t.fa f) i.fd i.ps (spC t (callF P wf n) f)) (bds : ∀ f i, fi f = some i → Binds K i.fd i.ps [])
    (hb : ∀ (xi : List Addr) (W : Wi) (X : L2.Cx), X.prog = prog → X.K = K → Fs { t with xi := xi } ⟨P, callF P wf n, wf, none⟩ N (defScope st) mg W fi k X → VSs { t with xi := xi } ⟨P, callF P wf n, wf, none⟩ W X (defBody st) fdn.body) :
    FnG prog w K mg base (k + 2) fa fd ps (spC t (callF P wf (n + 1)) f) := by
  obtain ⟨oc, od, kV, doc, pm, an, cdv, ct, osl, rfl, lk, hcd⟩ := F.ex
  refine ⟨fun vs H Q E h => (spC_len hf h).trans hps.symm, fun A outer s H args us vs Q E hr e0 hbind r hsp => ?_⟩
  have hl : vs.length = ps.length := (spC_len hf hsp).trans hps.symm
  have kin : K.In s.heap := e0.mod.kin.keeps fun b o e => (e0.bs b o e).1
  have room : s.heap.NoLimit := e0.mod.nolimit.keeps fun b o e => (e0.bs b o e).1
  have kinds : ∀ y ∈ ps.zip us, (defScope st).names.lookup y.1 = some .local ∨ ((defScope st).names.lookup y.1 = some .cell ∧ ((cellsFrom (s.heap.objs.size + 1) (defScope st).names []).lookup y.1).isSome = true) := fun ⟨nm, v⟩ hy => by
    rcases sco.par nm (List.of_mem_zip hy).1 with z | z
    · exact .inl z
    · exact .inr ⟨z, PySem.W.cellsFrom_some _ _ _ (.inl z)⟩
  refine codeAny_call_function hr.room.depth (kin _ _ lk) rfl sco.co sco.gen rfl (PySem.W.codeRec_of kin hcd) (hbind _ _ _ _ ?_)
  refine wpAny_newFunctionEnv_cells sco.kind kinds fun env he s1 x1 => ?_
  subst he
  refine ⟨room.keeps x1.toInCall.keep, codeAny_func ?_⟩
  have I : Inv (cxOf (L2.CX prog w) prog w K mg base N qual (defScope st) fa cdv A outer s H E) [] (L2.start N vs) H s1 := inv_start sco hr.room.hd e0 hl r x1
  obtain ⟨xi, μ, S, ds, rs, rd, q⟩ := hsp
  have X0 : Fs { t with xi := xi } ⟨P, callF P wf n, wf, none⟩ N (defScope st) mg { w := fun cls d _ H => E cls d H } fi k (cxOf (L2.CX prog w) prog w K mg base N qual (defScope st) fa cdv A outer s H E) :=
    { kk := hK, nn := rfl, nd := sco.nd, ss := rfl, mm := rfl, un := (by have := (hr.deeper (envOfC qual (defScope st) s.heap.objs.size fa cdv)).room.un; show (A.deeper _).units + 65 < _; omega), gd := hr.gd, cur := rfl, nmi := inj, calm := rfl, nocu := rfl,
      room := hr.deeper _, pass := fun σ => passAt (takes_of rfl rfl rfl rfl) σ, fn := fns, bd := bds, tk := takes_of rfl rfl rfl rfl, stk := rfl, frm := rfl, own := passes_of rfl, fna := rfl }
  have body := hb xi _ _ rfl rfl X0
  refine wpAny_mono (body.run [] s1 (L2.start N vs) H { nx := fun _ H' => Q .non H', rt := Q } I ?_) (fun fl s' hs => ?_) fun e s' hs => hs
  · -- what the tree form says
    refine ⟨μ, _, S, re_start (N := N) rd, rs, ?_⟩
    unfold callF at q
    rw [hf] at q
    dsimp only at q
    have hdl : ds.length = fdn.np := by rw [rd.length, hl, hps]
    rw [if_pos hdl] at q
    unfold runF at q
    rw [← hN] at q
    have hm : S.length = μ.length := rs.len.symm
    rw [hm] at q
    cases z : sts fdn.body ⟨P, callF P wf n, wf, none⟩ (ds.map some ++ List.replicate (N.length - ds.length) none) S with
    | bad => rw [z] at q; exact q.elim
    | exc y S2 => rw [z] at q; exact q.elim
    | ok fl S2 =>
      rw [z] at q
      intro μ1 H1 e1 s1'
      cases fl with
      | nx ρ' =>
        intro σ' _
        obtain ⟨d', S', μ', h1, h2⟩ := fin_ok (d := .non) q e1 s1' (v := .non) rfl
        exact h1 _ h2
      | rt d =>
        intro v rv
        obtain ⟨d', S', μ', h1, h2⟩ := fin_ok q e1 s1' rv
        exact h1 _ h2
      | bk ρ' => exact q.elim
      | ct ρ' => exact q.elim
      | xc y ρ' =>
        intro σ' cls dd _ rx
        obtain ⟨S', μ', h1, h2⟩ := finX_ok q e1 s1' rx
        exact h1 _ _ h2
  · have done : ∀ {σ' : L2.St} {H' : Hp} {v : V} {u : Value}, Inv (cxOf (L2.CX prog w) prog w K mg base N qual (defScope st) fa cdv A outer s H E) [] σ' H' s' → RelV v u → Q v H' → CE outer prog w H s Q u s' :=
      fun {σ' H' v u} J rv qv => ⟨v, H', J.os, J.bare, J.base, J.hok, rv, qv⟩
    cases fl with
    | ret u =>
      obtain ⟨v, σ', H', J, rv, qv⟩ := hs
      exact done J rv qv
    | next =>
      obtain ⟨σ', H', J, qv⟩ := hs
      exact done (v := V.non) (u := Value.none) J rfl qv
    | brk =>
      obtain ⟨_, _, _, z⟩ := hs
      exact z.elim
    | cont =>
      obtain ⟨_, _, _, z⟩ := hs
      exact z.elim
end
end Dn
/-! Dn: the law's own end. -/
namespace Dn
open PySem L2 PyProof.Rows PySem.Spec -- names

theorem law_runs {P : Program} {w : World} {K : PySem.W.Frag} {mg mb : Str → Option Value} {k : Nat} {fa a : Addr} {fd : FuncData} {x : Str} {sp : Sp} {s1 : Shared} {vs : List Value} {ns : List Int}
    (KX : K.In s1.heap) (hns : s1.heap.Ns mainGlobals mg) (hb : s1.heap.Ns builtinsNs mb) (hbb : ∀ x : Str, x ≠ "__name__" → mb x = bootBuiltins x) (hlim : s1.heap.NoLimit) (hg : s1.gens = #[])
    (ha : s1.heap.get? a = some { cls := .type "list", data := .seq vs.toArray }) (hi : IntsAre vs ns) (hl : ns.length ≤ sizeLine) (hr : RoomG k callerA)
    (F : ∀ base : Heap, K.In base → base.Ns mainGlobals mg → FnG P w K mg base k fa fd [x] sp) (hbind : ∀ (s : Shared) (u : Value), BindsTo s fd ⟨[u], []⟩ [(x, u)])
    (hsp : ∀ H : Hp, Only H → SqL K H a (ns.map V.int) → sp [.ref a] H (fun v _ => v = .bl true) fun _ _ _ => False) :
    codeAny (PySem.model P w) callerA (.call (.ref fa) ⟨[.ref a], []⟩) (fun r s' => r = .ok (.ret (.bool true)) ∧ OldK s1.heap s'.heap ∧ s'.os = s1.os ∧ AllBare s'.gens) s1 := by
  have vals := vals_ints hi
  have many := hi.length
  have from_ : ∀ H : Hp, Only H → SqL K H a (ns.map V.int) → HOk P w H s1.heap → (∀ b, H b ≠ none → b = a) → (H a ≠ none → K.lookup a = none) →
      codeAny (PySem.model P w) callerA (.call (.ref fa) ⟨[.ref a], []⟩) (fun r s' => r = .ok (.ret (.bool true)) ∧ OldK s1.heap s'.heap ∧ s'.os = s1.os ∧ AllBare s'.gens) s1 := by
    intro H hO hS hok only hK
    have low : ∀ {b : Addr} {u : Obj}, s1.heap.get? b = some u → H b = none → (hidT s1.heap H).get? b = some u := fun e n => hidT_get e n
    have noDict : ∀ {b : Addr} {u : Obj} {es : Array DictEntry} {ep : Nat}, s1.heap.get? b = some u → u.data = .dict es ep → H b = none := fun {b u es ep} e d => by
      cases z : H b with
      | none => rfl
      | some v =>
        have eb := only b (by rw [z]; simp)
        subst eb
        rw [ha] at e; cases e
        have d' : Data.seq vs.toArray _ = Data.dict es ep := d
        cases d'
    have names : ∀ {b : Addr} {m : Str → Option Value}, s1.heap.Ns b m → (hidT s1.heap H).Ns b m := fun {b m} ⟨u, es, ep, e, d, r⟩ => ⟨u, es, ep, low e (noDict e d), d, r⟩
    have kin : K.In (hidT s1.heap H) := fun b u e => low (KX b u e) (by
      cases z : H b with
      | none => rfl
      | some v =>
        have eb := only b (by rw [z]; simp)
        subst eb
        rw [hK (by rw [z]; simp)] at e; cases e)
    have hM : Mod K mg (hidT s1.heap H) := ⟨kin, names hns, ⟨mb, names hb, hbb⟩, let ⟨mc, h1, h2⟩ := hlim; ⟨mc, names h1, h2⟩⟩
    have e0 : Env0 P w K mg (hidT s1.heap H) callerA [] s1 H := ⟨rfl, hM, fun b u e => of_hidT e, Nat.le_of_eq (hidT_size _ _), trivial, fun b hb => absurd (show b ∈ ([] : List Addr) from hb) (by simp), hok, .of_eq hg⟩
    refine codeAny_mono ((F _ kin (names hns)).run callerA [] s1 H ⟨[.ref a], []⟩ [.ref a] [.ref a] _ _ hr e0 (hbind s1 (.ref a)) (.cons rfl .nil) (hsp H hO hS)) fun r s' out => ?_
    cases r with
    | error e =>
      have z : L2.CX P w [] H s1 (fun _ _ _ => False) e s' := out
      obtain ⟨_, _, _, _, _, _, _, _, _, _, _, _, f⟩ := z
      exact f.elim
    | ok fl =>
      cases fl with
      | next => exact False.elim out
      | brk => exact False.elim out
      | cont => exact False.elim out
      | ret u =>
        obtain ⟨v, H', os, bare, un, hok', rv, q⟩ := out
        have q' : v = .bl true := q
        subst q'
        obtain rfl : u = Value.bool true := rv
        refine ⟨rfl, OldK.of_keep fun b u e => ?_, os, bare⟩
        cases z : H b with
        | none => exact un.keep b u e z (by intro y; exact absurd (show b ∈ ([] : List Addr) from y) (by simp)) (by simp)
        | some v =>
          rcases hO b with y | ⟨ob, xs, y⟩
          · rw [z] at y; cases y
          · obtain ⟨e1, _⟩ := hok b _ y
            obtain ⟨e2, _⟩ := hok' b _ (un.frzs b ob _ y)
            rw [e] at e1; cases e1
            exact e2
  cases hk : K.lookup a with
  | some u =>
    have e := KX a u hk
    rw [ha] at e
    cases e
    exact from_ (fun _ => none) (fun _ => .inl rfl) (.inr ⟨_, vs.toArray, _, hk, rfl, rfl, rfl, by rw [List.size_toArray, many]; exact hl, by simpa using vals⟩) (fun b u z => nomatch (show (none : Option HO) = some u from z)) (fun b z => absurd rfl z) fun z => absurd rfl z
  | none =>
    refine from_ (fun b => if b = a then some (.frz { cls := .type "list", data := .seq vs.toArray } (.lst (ns.map V.int))) else none) (fun b => ?_) (.inl (.inr ⟨{ cls := .type "list", data := .seq vs.toArray }, if_pos rfl⟩)) (fun b u z => ?_) (fun b z => ?_) fun _ => hk
    · by_cases eb : b = a
      · exact .inr ⟨_, _, if_pos eb⟩
      · exact .inl (if_neg eb)
    · by_cases eb : b = a
      · have z' := (if_pos eb).symm.trans z
        cases z'
        subst eb
        exact ⟨ha, by rw [List.length_map]; exact hl, vs, _, vals, ha⟩
      · have z' := (if_neg eb).symm.trans z
        cases z'
    · by_cases eb : b = a
      · exact eb
      · exact absurd (if_neg eb) z
/-- the goal behind the head -/
theorem walkG {l : PySem.W.OpenLaw} {n k : Nat} {q : Program} {loose : List Str} {XP : (Str → Option Value) → Heap → Prop} {YP : World → Heap → Prop} {d : DefRec} {K : Params → PySem.W.Frag} {sp : World → Sp} {x : Str}
    (hn : l.most = some n) (hn2 : n ≤ sizeLine) (hdf : d.params.defaults = []) (hr : RoomG k callerA)
    (hY : ∀ (w : World) (h : Heap), YP w h → (K w.params).In h)
    (F : ∀ (w : World) (mg : Str → Option Value) (fa : Addr) (h : Heap), (K w.params).In h → h.Ns mainGlobals mg → mg d.name = some (.ref fa) →
      ∃ fd : FuncData, (∀ (s : Shared) (u : Value), BindsTo s fd ⟨[u], []⟩ [(x, u)]) ∧
        ∀ base : Heap, (K w.params).In base → base.Ns mainGlobals mg → FnG l.prog w (K w.params) mg base k fa fd [x] (sp w))
    (hsp : ∀ (w : World) (H : Hp) (a : Addr) (ns : List Int), ns.length ≤ n → Only H → SqL (K w.params) H a (ns.map V.int) → sp w [.ref a] H (fun v _ => v = .bl true) fun _ _ _ => False) :
    PySem.W.WalkO q loose XP YP l.row.toRowW d [] (fun f vs => PySem.call f vs) := by
  refine Att.attach_call hn hdf fun w s0 s1 mg mb fa o pm cd doc a vs ns G Y ho hd hcd hmg hobj hints hlen hg => ?_
  have KX := hY w _ Y
  obtain ⟨fd, hb, hF⟩ := F w mg fa _ KX G.T.g hmg
  exact law_runs KX G.T.g G.T.b G.T.builtins G.T.nolimit hg hobj hints (Nat.le_trans hlen hn2) hr hF hb fun H hO hS => hsp w H a ns hlen hO hS
/-- what is to be shown of the tree form: at every script the law's answer is True -/
theorem sp_law {K : PySem.W.Frag} {t : Tb} {call : Nat → List D → Sto → R D} {f : Nat} (hK : K = t.K) (hxi : t.xi = []) {H : Hp} {a : Addr} {ns : List Int} (hO : Only H) (hl : ns.length ≤ 1000) (hS : SqL K H a (ns.map V.int)) (h : ∃ S', call f [.scr (ns.map .int)] [] = .ok (.bl true) S') :
    spC t call f [.ref a] H (fun v _ => v = .bl true) fun _ _ _ => False := by
  obtain ⟨S', e⟩ := h
  refine ⟨[], [], [], [.scr (ns.map .int)], ⟨rfl, List.nodup_nil, fun l o a e => by simp at e, fun a h => by simp at h, fun a h => by simp at h, fun o h => by simp at h⟩, ⟨_, _, rfl, ⟨a, ns.map V.int, rfl, ?_, rd_ints ns⟩, rfl⟩, ?_⟩
  · rw [hK] at hS
    rcases hS with h | h
    · exact .inl ⟨⟨by simp, by simp, by rw [List.length_map, sizeLine_eq]; omega⟩, h⟩
    · exact .inr (.inr h)
  · rw [e]
    exact fun μ' H' _ _ v r => r
end Dn
/-! Dn: the rules, as the printed proofs name them. -/
namespace Dn
open PySem L2 PyProof.Rows PySem.Spec -- names

structure Cal (K : PySem.W.Frag) (fa : Nat → Addr) (mg : Str → Option Value) (fi : Nat → Option Fi) (f : Nat) (x : Str) : Prop where
  ex : ∃ i, fi f = some i ∧ i.a = fa f ∧ i.x = x ∧ FiOk K mg i
section
variable {t : Tb} {cx : Dn.Cx} {N : List Str} {sc scope : Scope} {mg : Str → Option Value} {W : Wi} {fi : Nat → Option Fi} {k : Nat} {X : L2.Cx} {tg iter elt a b c o : Expr} {ifs es : List Expr} {ei ee ea eb ec eo : E} {Es : List E} {te : Option Te} {t1 : Te} {T1 : T} {pos p px spos py apos pos2 : Pos} {own : List (Str × Nat)} {vs : List Nat}
  {body : List Stmt} {SB SH : List Dn.St} {hds : List ExceptHandler} {hd0 : ExceptHandler} {HS : List Hd} {prog : Program}
theorem r_callF (h : Fc t cx N sc mg W fi k X) {f : Nat} {x : Str} (C : Cal t.K t.fa mg fi f x) (hg : sc.names.lookup x = some .globalImplicit) (ha : VA t cx W X (a :: es) Es)
    (he : starEach (a :: es) X.env = (false, eval a X.env) :: starEach es X.env) (hpl : (backTo pos (starEach es X.env)).any (·.1) = false) : VE t cx W X (.Call (.Name x p) (a :: es) [] pos) (.call f Es) := by
  obtain ⟨i, h1, h2, h3, h4⟩ := C.ex
  subst h3
  exact r_call h h1 h2 (by rw [h.kk]; exact h4) hg ha he hpl
theorem r_callF0 (h : Fc t cx N sc mg W fi k X) {f : Nat} {x : Str} (C : Cal t.K t.fa mg fi f x) (hg : sc.names.lookup x = some .globalImplicit) : VE t cx W X (.Call (.Name x p) [] [] pos) (.call f []) := by
  obtain ⟨i, h1, h2, h3, h4⟩ := C.ex
  subst h3
  exact r_call0 h h1 h2 (by rw [h.kk]; exact h4) hg
/-- the order of the stores hangs on the scope alone -/
theorem sw_env {ts : List Expr} {v : Expr} {e : PySem.Env} (h : e.scope = sc) : swappedStores ts v e = swappedStores ts v (envOfC "" sc 0 0 .none) := by
  have h1 : ∀ x, e.kindOf x = (envOfC "" sc 0 0 .none).kindOf x := fun x => by
    show e.scope.names.lookup x = sc.names.lookup x
    rw [h]
  have h2 : e.blockKind = (envOfC "" sc 0 0 .none).blockKind := by
    show (if e.scope.kind.isAnnotationScope then .function else e.scope.kind) = (if sc.kind.isAnnotationScope then .function else sc.kind)
    rw [h]
  unfold swappedStores
  simp only [h1, h2]
theorem sx_env {tg : Expr} {v : Expr} {l : Nat} {e : PySem.Env} (h : e.scope = sc) : swapsWith v (some tg) l e = swapsWith v (some tg) l (envOfC "" sc 0 0 .none) := by
  have h1 : ∀ x, e.kindOf x = (envOfC "" sc 0 0 .none).kindOf x := fun x => by
    show e.scope.names.lookup x = sc.names.lookup x
    rw [h]
  have h2 : e.blockKind = (envOfC "" sc 0 0 .none).blockKind := by
    show (if e.scope.kind.isAnnotationScope then .function else e.scope.kind) = (if sc.kind.isAnnotationScope then .function else sc.kind)
    rw [h]
  unfold swapsWith
  split <;> rename_i z
  · rw [h2]
    cases tg <;> first | rfl | (dsimp only; rw [h1])
  · rfl
variable {y x z : Str} {pt pz : Pos} {d : Expr}
theorem s_asgB (h : Fe t cx N sc mg W X) (ha : VE t cx W X a ea) (hg : VG t W X tg T1) (hs : swapsWith a (some tg) pos.line (envOfC "" sc 0 0 .none) = pure false) (hw : swappedStores [tg] a (envOfC "" sc 0 0 .none) = pure none) (h1 : (assignEach [tg] X.env).map (·.2) = [assign tg X.env]) :
    VS t cx W X (.Assign [tg] a pos) (.asg T1 ea) := s_asg ha hg ((sx_env h.ss).trans hs) (by rw [sw_env h.ss]; exact hw) h1
theorem s_par2B (h : Fe t cx N sc mg W X) {i j : Nat} {x y : Str} {kt k2 : Nat} {pt2 : Pos} (hc : X.calm = true) (hi : N[i]? = some x) (hj : N[j]? = some y) (hij : i ≠ j)
    (hx : sc.names.lookup x = some .local) (hy : sc.names.lookup y = some .local) (ha : VA t cx W X [a, b] Es)
    (hw : swappedStores [.Tuple [.Name x px, .Name y py] kt pt] (.Tuple [a, b] k2 pt2) (envOfC "" sc 0 0 .none) = pure (some [x, y]))
    (hs : swapsWithSole [.Tuple [.Name x px, .Name y py] kt pt] (.Tuple [a, b] k2 pt2) pos.line X.env = pure false) :
    VS t cx W X (.Assign [.Tuple [.Name x px, .Name y py] kt pt] (.Tuple [a, b] k2 pt2) pos) (.asg (.tup [.var i, .var j]) (.tup Es)) := s_par2 h hc hi hj hij hx hy ha (by rw [sw_env h.ss]; exact hw) hs
theorem s_par3B (h : Fe t cx N sc mg W X) {i j l : Nat} {x y z : Str} {kt k2 : Nat} {pt2 : Pos} (hc : X.calm = true) (hi : N[i]? = some x) (hj : N[j]? = some y) (hl : N[l]? = some z) (hij : i ≠ j) (hil : i ≠ l) (hjl : j ≠ l)
    (hx : sc.names.lookup x = some .local) (hy : sc.names.lookup y = some .local) (hz : sc.names.lookup z = some .local) (ha : VA t cx W X [a, b, c] Es)
    (hw : swappedStores [.Tuple [.Name x px, .Name y py, .Name z pz] kt pt] (.Tuple [a, b, c] k2 pt2) (envOfC "" sc 0 0 .none) = pure (some [x, y, z]))
    (hs : swapsWithSole [.Tuple [.Name x px, .Name y py, .Name z pz] kt pt] (.Tuple [a, b, c] k2 pt2) pos.line X.env = pure false) :
    VS t cx W X (.Assign [.Tuple [.Name x px, .Name y py, .Name z pz] kt pt] (.Tuple [a, b, c] k2 pt2) pos) (.asg (.tup [.var i, .var j, .var l]) (.tup Es)) := s_par3 h hc hi hj hl hij hil hjl hx hy hz ha (by rw [sw_env h.ss]; exact hw) hs
/-- what is to be shown of a comprehension's parts -/
abbrev BlkT (t : Tb) (cx : Dn.Cx) (N : List Str) (sc scope : Scope) (mg : Str → Option Value) (fi : Nat → Option Fi) (k : Nat) (tg : Expr) (ifs : List Expr) (elt : Expr) (T1 : T) (te : Option Te) (ee : E) : Prop :=
  ∀ (xi : List Addr) (X' : L2.Cx), Fc { t with xi := xi } cx N (relS scope sc) mg W0 fi k X' → (X'.fn = fun x => scope.names.lookup x == some .cell) → VG { t with xi := xi } W0 X' tg T1 ∧ VTs { t with xi := xi } cx W0 X' ifs te ∧ VE { t with xi := xi } cx W0 X' elt ee
theorem BlkT.blk (h : Fc t cx N sc mg W fi k X) (B : BlkT t cx N sc scope mg fi k tg ifs elt T1 te ee) : Blk t cx X scope tg ifs elt T1 te ee :=
  ⟨fun s H C cl fp xi => (B xi _ h.blk rfl).1, fun s H C cl fp xi => (B xi _ h.blk rfl).2.1, fun s H C cl fp xi => (B xi _ h.blk rfl).2.2⟩
theorem r_compB (h : Fc t cx N sc mg W fi k X) (own : List (Str × Nat)) {cell : Bool} (hvs : own.map (·.2) = vs) (ok : BlkOk N sc scope own) (hi : VI t cx W X tg iter ei) (B : BlkT t cx N sc scope mg fi k tg ifs elt T1 te ee) (hv : ∀ i ∈ varsT T1, i ∈ vs) (hs : ∀ x, foldedSetIterable iter X.env x = pure x) :
    VE t cx W X (.ListComp elt [⟨tg, iter, ifs, 0⟩] scope pos) (.comp cell vs T1 ei te ee) := by
  subst hvs
  exact r_comp h ok hi (B.blk h) hv hs
theorem s_setB (h : Fc t cx N sc mg W fi k X) (own : List (Str × Nat)) {i : Nat} {y : Str} {cell : Bool} (hvs : own.map (·.2) = vs) (hy : N[i]? = some y) (hyl : sc.names.lookup y = some .local) (hsw : swapsWith (.ListComp elt [⟨tg, iter, ifs, 0⟩] scope pos) (some (.Name y py)) spos.line (envOfC "" sc 0 0 .none) = pure true)
    (ok : BlkOk N sc scope own) (hi : VI t cx W X tg iter ei) (B : BlkT t cx N sc scope mg fi k tg ifs elt T1 te ee) (hv : ∀ i ∈ varsT T1, i ∈ vs) (hs : ∀ x, foldedSetIterable iter X.env x = pure x) :
    VS t cx W X (.Assign [.Name y py] (.ListComp elt [⟨tg, iter, ifs, 0⟩] scope pos) spos) (.asg (.var i) (.comp cell vs T1 ei te ee)) := by
  subst hvs
  exact s_setC h hy hyl (by rw [sx_env h.ss]; exact hsw) ok hi (B.blk h) hv hs
theorem nocls {ts : List Ty} {n : Nat} (h : (ts.all fun y => match y with | .cls _ => false | _ => true) = true) : ∀ y ∈ ts, ∀ c', y = .cls c' → c' < n := fun y hy c' e => by
  have := List.all_eq_true.mp h y hy
  rw [e] at this
  cases this
theorem nocl {y : Ty} {n : Nat} (h : (match y with | .cls _ => false | _ => true) = true) : ∀ c', y = .cls c' → c' < n := fun c' e => by
  rw [e] at h
  cases h
theorem CFs.xi {P : Prog} (h : CFs t P) {xi : List Addr} : CFs { t with xi := xi } P := fun c cd e => ⟨(h c cd e).ins, (h c cd e).noat, (h c cd e).meth, (h c cd e).make, (h c cd e).kit, (h c cd e).tik, (h c cd e).eqm, (h c cd e).lnm, (h c cd e).nf⟩
theorem s_raisX {ci i : Nat} {x : Str} {xd : XD} (h : Fs t cx N sc mg W fi k X) (hp : X.prog = prog) (F : XF prog t mg ci x i) (hxd : cx.P.xcs[ci]? = some xd) (ha : VE t cx W X a ea) (hg : sc.names.lookup x = some .globalImplicit)
    (he : starEach (a :: []) X.env = (false, eval a X.env) :: starEach [] X.env) : VS t cx W X (.Raise (some (.Call (.Name x p) [a] [] pos)) none pos2) (.rais ci [ea]) := by
  subst hp
  exact s_rais h F hxd (r_cons ha r_nil he) hg he
/-- the clauses of a try -/
def HK (t : Tb) (cx : Dn.Cx) (X : L2.Cx) (hds : List ExceptHandler) (HS : List Hd) : Prop := ∃ l, HsOk X hds l ∧ HdR t cx HS l ∧ ∀ h ∈ HS, match h with | .mk c _ _ => c < cx.P.xcs.length
theorem hk_nil : HK t cx X [] [] := ⟨[], .nil, .nil, fun _ h => by simp at h⟩
variable {st0 : Stmt} {suite : List Stmt} {np hpos : Pos}
theorem hk_named (h : Fs t cx N sc mg W fi k X) {x n : Str} {i c : Nat} (hx : mg x = some (.ref (t.xa c))) (hg : sc.names.lookup x = some .globalImplicit) (hd : (x == ("__debug__" : Str)) = false) (hi : N[i]? = some n) (hln : sc.names.lookup n = some .local) (hc : c < cx.P.xcs.length)
    (hsu : ∀ (x : Xn) (cls : Value) (d : Option Addr) (a : Addr) (oe : Obj) (pn : List (Addr × Obj)), Zc cls d oe → (∃ vs, oe.data = .fields vs) → Fe t { cx with cur := some x } N sc mg (Wi.suite ⟨x, cls, d, i, a⟩) (X.suite a ((a, oe) :: pn)) →
      VSs t { cx with cur := some x } (Wi.suite ⟨x, cls, d, i, a⟩) (X.suite a ((a, oe) :: pn)) (st0 :: suite) SH) (r : HK t cx X hds HS) : HK t cx X (.ExceptHandler (some (.Name x np)) (some n) (st0 :: suite) hpos :: hds) (.mk c (some i) SH :: HS) := by
  obtain ⟨l, r1, r2, r3⟩ := r
  refine ⟨_, .named ⟨h.toFe.gl hg, hd, .inl (by rw [h.mm]; exact hx)⟩ (by rw [h.nn]; exact hi) (by show X.env.scope.names.lookup n = _; rw [h.ss]; exact hln) (fun a oe cls d pn hz hf => ?_) r1, .named r2, fun hh hm => ?_⟩
  · exact ⟨fun pins s σ H D I ⟨x1, q⟩ => (hsu x1 cls d a oe pn hz hf (Fe.suite h.toFe ⟨x1, cls, d, i, a⟩)).run pins s σ H D I q⟩
  · rcases List.mem_cons.mp hm with rfl | hm
    · exact hc
    · exact r3 hh hm
theorem hk_plain (h : Fs t cx N sc mg W fi k X) {x : Str} {c : Nat} (hx : mg x = some (.ref (t.xa c))) (hg : sc.names.lookup x = some .globalImplicit) (hd : (x == ("__debug__" : Str)) = false) (hc : c < cx.P.xcs.length)
    (hsu : ∀ (x : Xn) (cls : Value) (d : Option Addr) (a : Addr) (j : Nat) (oe : Obj) (pn : List (Addr × Obj)), Zc cls d oe → (∃ vs, oe.data = .fields vs) → Fe t { cx with cur := some x } N sc mg (Wi.suite ⟨x, cls, d, j, a⟩) (X.suite a ((a, oe) :: pn)) →
      VSs t { cx with cur := some x } (Wi.suite ⟨x, cls, d, j, a⟩) (X.suite a ((a, oe) :: pn)) (st0 :: suite) SH) (r : HK t cx X hds HS) : HK t cx X (.ExceptHandler (some (.Name x np)) none (st0 :: suite) hpos :: hds) (.mk c none SH :: HS) := by
  obtain ⟨l, r1, r2, r3⟩ := r
  refine ⟨_, .plain ⟨h.toFe.gl hg, hd, .inl (by rw [h.mm]; exact hx)⟩ (fun a oe cls d pn hz hf => ?_) r1, .plain r2, fun hh hm => ?_⟩
  · exact ⟨fun pins s σ H D I ⟨x1, j, q⟩ => (hsu x1 cls d a j oe pn hz hf (Fe.suite h.toFe ⟨x1, cls, d, j, a⟩)).run pins s σ H D I q⟩
  · rcases List.mem_cons.mp hm with rfl | hm
    · exact hc
    · exact r3 hh hm
theorem s_triB (h : Fs t cx N sc mg W fi k X) (em : Exm t cx.P) (hb : ∀ (W1 : Wi) (X1 : L2.Cx), X1.prog = X.prog → Fs t cx N sc mg W1 fi k X1 → VSs t cx W1 X1 body SB) (hh : HK t cx X (hd0 :: hds) HS) : VS t cx W X (.Try body (hd0 :: hds) [] [] pos) (.tri SB HS) := by
  obtain ⟨l, r1, r2, r3⟩ := hh
  exact s_tri h em (fun W1 pn xe h1 => hb _ _ rfl h1) r1 r2 r3
end
end Dn
/-! Dn: a whole program: its table, all its defs, its law. -/
namespace Dn
open PySem L2 PyProof.Rows PySem.Spec -- names

/-- the names of the attributes -/
def nmOf (ns : List Str) (i : Nat) : Str := match ns[i]? with
  | some x => x
  | none => ⟨(List.replicate (i + 1) 0).toArray⟩
theorem nmOf_inj {ns : List Str} (nd : ns.Nodup) (h0 : (ns.all fun x => x.cps[0]? != some 0) = true) (i j : Nat) (h : nmOf ns i = nmOf ns j) : i = j := by
  have out : ∀ {i : Nat}, ns[i]? = none → nmOf ns i = ⟨(List.replicate (i + 1) 0).toArray⟩ := fun {i} e => by unfold nmOf; rw [e]
  have ins : ∀ {i : Nat} {x : Str}, ns[i]? = some x → nmOf ns i = x ∧ x.cps[0]? ≠ some 0 := fun {i x} e => by
    refine ⟨by unfold nmOf; rw [e], ?_⟩
    have := List.all_eq_true.mp h0 x (List.mem_of_getElem? e)
    simpa using this
  have hd : ∀ n : Nat, (⟨(List.replicate (n + 1) 0).toArray⟩ : Str).cps[0]? = some 0 := fun n => by simp
  cases e1 : ns[i]? with
  | none =>
    cases e2 : ns[j]? with
    | none =>
      rw [out e1, out e2] at h
      have : (List.replicate (i + 1) 0).toArray.size = (List.replicate (j + 1) 0).toArray.size := by injection h with h; rw [h]
      simpa using this
    | some y =>
      rw [out e1, (ins e2).1] at h
      exact absurd (h ▸ hd i) (ins e2).2
  | some x =>
    cases e2 : ns[j]? with
    | none =>
      rw [out e2, (ins e1).1] at h
      exact absurd (h ▸ hd j) (ins e1).2
    | some y =>
      rw [(ins e1).1, (ins e2).1] at h
      subst h
      obtain ⟨h1, h2⟩ := List.getElem?_eq_some_iff.mp e1
      obtain ⟨h3, h4⟩ := List.getElem?_eq_some_iff.mp e2
      exact (List.getElem_inj nd).mp (h2.trans h4.symm)
def mkTb (K : PySem.W.Frag) (fA cA xA : List Addr) (names : List Str) (ids : List (List Nat)) (xi : List Addr) : Tb where
  K := K
  fa := fun i => fA.getD i 0
  ca := fun i => cA.getD i 0
  xa := fun i => xA.getD i 0
  nm := nmOf names
  ids := fun i => ids.getD i []
  xi := xi
def fiOf (fs : List Fi) : Nat → Option Fi := fun f => fs[f]?
def AllI (p : Nat → Fi → Prop) : Nat → List Fi → Prop
  | _, [] => True
  | k, i :: r => p k i ∧ AllI p (k + 1) r
theorem AllI.at_ {p : Nat → Fi → Prop} : ∀ {l : List Fi} {k : Nat}, AllI p k l → ∀ (f : Nat) (i : Fi), l[f]? = some i → p (k + f) i
  | [], _, _, f, i, e => by simp at e
  | i :: r, k, h, 0, j, e => by simp at e; subst e; exact h.1
  | i :: r, k, h, f + 1, j, e => by
    have := AllI.at_ h.2 f j (by simpa using e)
    rw [show k + (f + 1) = k + 1 + f by omega]
    exact this
theorem AllI.all {p : Nat → Fi → Prop} {l : List Fi} (h : AllI p 0 l) (f : Nat) (i : Fi) (e : fiOf l f = some i) : p f i := by
  have := AllI.at_ h f i e
  rwa [Nat.zero_add] at this
section
variable {prog : Program} {w : World} {K : PySem.W.Frag} {mg : Str → Option Value} {base : Heap} {t : Tb} {P : Prog} {wf : Nat} {fi : Nat → Option Fi}
/-- all defs, at every depth -/
theorem all_fn (step : ∀ n k : Nat, (∀ f i, fi f = some i → FnG prog w K mg base k (t.fa f) i.fd i.ps (spC t (callF P wf n) f)) → ∀ f i, fi f = some i → FnG prog w K mg base (k + 2) (t.fa f) i.fd i.ps (spC t (callF P wf (n + 1)) f)) :
    ∀ n f i, fi f = some i → FnG prog w K mg base (2 * n) (t.fa f) i.fd i.ps (spC t (callF P wf n) f)
  | 0, f, i, _ => by
    have no : ∀ {vs H Q E}, spC t (callF P wf 0) f vs H Q E → False := fun {vs H Q E} h => by
      obtain ⟨xi, μ, S, ds, _, _, h⟩ := h
      unfold callF at h
      exact h
    exact ⟨fun _ _ _ _ h => (no h).elim, fun _ _ _ _ _ _ _ _ _ _ _ _ _ h => (no h).elim⟩
  | n + 1, f, i, e => step n (2 * n) (all_fn step n) f i e
/-- one def: its text runs as its tree form says -/
theorem one_fn {n k f : Nat} {fdn : FD} {x qual : Str} {st : Stmt} {fd : FuncData} {N ps : List Str} (hf : P.fns[f]? = some fdn) (F : Fun K x qual st (t.fa f) fd) (sco : FnScope N ps (defScope st)) (hps : ps.length = fdn.np) (hN : N.length = fdn.nv)
    (hK : K = t.K) (inj : ∀ i j, t.nm i = t.nm j → i = j) (bds : ∀ f i, fi f = some i → Binds K i.fd i.ps [])
    (hb : ∀ (xi : List Addr) (call : Nat → List D → Sto → R D) (k : Nat) (W : Wi) (X : L2.Cx), X.prog = prog → Fs { t with xi := xi } ⟨P, call, wf, none⟩ N (defScope st) mg W fi k X → VSs { t with xi := xi } ⟨P, call, wf, none⟩ W X (defBody st) fdn.body)
    (fns : ∀ f i, fi f = some i → FnG prog w K mg base k (t.fa f) i.fd i.ps (spC t (callF P wf n) f)) :
    FnG prog w K mg base (k + 2) (t.fa f) fd ps (spC t (callF P wf (n + 1)) f) :=
  okG hf F sco hps hN hK inj fns bds fun xi W X hp _ h => hb xi _ k W X hp h
/-- the law's promise -/
def spLaw (K : PySem.W.Frag) : Sp := fun vs H Q _ => ∃ (a : Addr) (ns : List Int), vs = [.ref a] ∧ ns.length ≤ 63 ∧ Only H ∧ SqL K H a (ns.map V.int) ∧ ∀ H', Q (.bl true) H'
theorem law_fn {k f n : Nat} {fa : Addr} {fd : FuncData} {x : Str} (F : FnG prog w K mg base k fa fd [x] (spC t (callF P wf n) f)) (hK : K = t.K) (hxi : t.xi = []) (math : ∀ ns : List Int, ns.length ≤ 63 → ∃ S', callF P wf n f [.scr (ns.map .int)] [] = .ok (.bl true) S') :
    FnG prog w K mg base k fa fd [x] (spLaw K) := by
  have weak : ∀ {vs H Q E}, spLaw K vs H Q E → spC t (callF P wf n) f vs H Q E := fun {vs H Q E} h => by
    obtain ⟨a, ns, rfl, hl, hO, hS, q⟩ := h
    obtain ⟨xi, μ, S, ds, rs, r, z⟩ := sp_law (call := callF P wf n) (f := f) hK hxi hO (by omega) hS (math ns hl)
    refine ⟨xi, μ, S, ds, rs, r, z.imp (fun d S3 μ3 H3 e3 s3 z w rw2 => ?_) fun _ _ _ _ _ _ z cls dd rx => (z cls dd rx).elim⟩
    have := z w rw2
    subst this
    exact q _
  exact ⟨fun vs H Q E h => F.len vs H Q E (weak h), fun A outer s H args us vs Q E hr e0 hb r h => F.run A outer s H args us vs Q E hr e0 hb r (weak h)⟩
theorem exm_of {a b : Addr} {r : Bool} (h1 : PySem.W.subIn K (.ref a) (.type "BaseException") = some true) (h1' : PySem.W.subIn K (.ref b) (.type "BaseException") = some true) (h2 : PySem.W.isClsIn K b = true) (h3 : PySem.W.typeIn K (.ref b) = some (.type "type")) (h4 : PySem.W.subIn K (.ref a) (.ref b) = some r) :
    PySem.W.exmOne K (.ref a) (.ref b) = some r := by
  have e1 : (PySem.W.subIn K (.ref b) (.type "BaseException") == some true) = true := by rw [h1'] <;> rfl
  have e2 : ((PySem.W.clsIn K b).isSome && PySem.W.typeIn K (.ref b) == some (.type "type")) = true := by
    have h2' : (PySem.W.clsIn K b).isSome = true := h2
    rw [h2', h3] <;> rfl
  show (if (PySem.W.subIn K (.ref b) (.type "BaseException") == some true) = true then (if ((PySem.W.clsIn K b).isSome && PySem.W.typeIn K (.ref b) == some (.type "type")) = true then PySem.W.subIn K (.ref a) (.ref b) else none) else none) = some r
  rw [if_pos e1, if_pos e2]
  exact h4
end
end Dn
/-! Dn: objects of the program's own classes: fields, methods, making. -/
namespace Dn
open PySem L2 PyProof.Rows PySem.Spec -- names

section
variable {t : Tb} {cx : Dn.Cx} {N : List Str} {sc scope : Scope} {mg : Str → Option Value} {W : Wi} {fi : Nat → Option Fi} {k : Nat} {X : L2.Cx} {a b o : Expr} {es : List Expr} {ea eb eo : E} {Es : List E} {pos p pos' apos : Pos}
/-- an object, as the store has it -/
theorem ins_rd {μ : List Addr} {H : Hp} {S : Sto} {c : Nat} {ids : List Nat} {ds : List D} {x : D} {v : V} (rs : RS t μ S H) (rx : RD t μ H x v)
    (e : x = .ins c ids ds ∨ ∃ l, x = .ref l ∧ S[l]? = some (.ins c ids ds)) : ∃ a dx vs, v = .ref a ∧ H a = some (.ins (t.ca c) dx (fsOf t ids vs)) ∧ ids.length = ds.length ∧ RDs t μ H ds vs := by
  rcases e with rfl | ⟨l, rfl, e⟩
  · obtain ⟨a, dx, vs, rfl, _, h1, h2, h3⟩ := rx
    exact ⟨a, dx, vs, rfl, h1, h2, h3⟩
  · obtain ⟨a, hl, rfl⟩ := rx
    obtain ⟨dx, vs, h1, h2, h3⟩ := rs.get l _ a e hl
    exact ⟨a, dx, vs, rfl, h1, h2, h3⟩
theorem hasF_of {P : Prog} {c f : Nat} (h : hasF P c f = true) : ∃ cd, P.cls[c]? = some cd ∧ f ∈ cd.fields := by
  unfold hasF at h
  split at h
  · rename_i cd e
    exact ⟨cd, e, by simpa using h⟩
  · cases h
theorem getF_of {P : Prog} {S : Sto} {x d : D} {f : Nat} (h : getF P S x f = some d) : ∃ c ids ds, (x = .ins c ids ds ∨ ∃ l, x = .ref l ∧ S[l]? = some (.ins c ids ds)) ∧ hasF P c f = true ∧ getId f ids ds = some d := by
  unfold getF at h
  split at h
  · rename_i c ids ds
    split at h
    · rename_i hf; exact ⟨c, ids, ds, .inl rfl, hf, h⟩
    · cases h
  · rename_i l
    split at h
    · rename_i c ids ds e
      split at h
      · rename_i hf; exact ⟨c, ids, ds, .inr ⟨l, rfl, e⟩, hf, h⟩
      · cases h
    · cases h
  · cases h
/-- e.f -/
theorem r_fld (h : Fe t cx N sc mg W X) (cf : CFs t cx.P) {f : Str} {fid : Nat} (hf : t.nm fid = f) (ha : VE t cx W X a ea) (hb : attributeBase a f X.env (eval a X.env) = eval a X.env) : VE t cx W X (.Attribute a f pos) (.fld fid ea) := by
  subst hf
  refine PE.weak (pe_fld ha hb) fun σ H Q q => ?_
  obtain ⟨μ, ρ, S, re, rs, q⟩ := q
  refine ⟨μ, ρ, S, re, rs, (Aft.bind (r := ev cx ea ρ S) q).imp (fun x S1 μ1 H1 e1 s1 k1 v rv => ?_) fun _ _ _ _ _ _ z => z⟩
  obtain ⟨d, e, k1⟩ := k1.of
  obtain ⟨c, ids, ds, hx, hF, hg⟩ := getF_of e
  obtain ⟨ad, dx, vs, rfl, h1, h2, h3⟩ := ins_rd s1 rv hx
  obtain ⟨cd, hcd, hm⟩ := hasF_of hF
  obtain ⟨u, l1, l2, _⟩ := getId_rd h.nmi hg h3
  rw [h.kk]
  exact ⟨ad, _, dx, _, u, rfl, h1, (cf c cd hcd).ins.cl, (cf c cd hcd).noat _ hm, l1, k1.now s1 e1 _ l2⟩
/-- putF, by ids -/
theorem putId_fs (inj : ∀ i j, t.nm i = t.nm j → i = j) {f : Nat} {v : V} {d : D} : ∀ {ids : List Nat} {ds : List D} {vs : List V}, ids.length = ds.length → ds.length = vs.length →
    putF (t.nm f) v (fsOf t ids vs) = fsOf t (putId f d ids ds).1 (match ids.findIdx? (· = f) with | some j => vs.set j v | none => vs ++ [v])
  | [], [], [], _, _ => rfl
  | i :: ids, x :: ds, u :: vs, h1, h2 => by
    have ih := putId_fs inj (f := f) (v := v) (d := d) (ids := ids) (ds := ds) (vs := vs) (by simpa using h1) (by simpa using h2)
    show (if t.nm i = t.nm f then (t.nm i, v) :: fsOf t ids vs else (t.nm i, u) :: putF (t.nm f) v (fsOf t ids vs)) = _
    by_cases e : i = f
    · subst e
      rw [if_pos rfl, putId, if_pos rfl]
      simp [List.findIdx?_cons, fsOf]
    · rw [if_neg fun z => e (inj _ _ z), putId, if_neg e, ih]
      simp [List.findIdx?_cons, e, fsOf]
      cases List.findIdx? (fun x => decide (x = f)) ids <;> simp
  | [], _ :: _, _, h, _ => by simp at h
  | _ :: _, [], _, h, _ => by simp at h
  | [], [], _ :: _, _, h => by simp at h
  | _ :: _, _ :: _, [], _, h => by simp at h
theorem putId_rd {μ : List Addr} {H : Hp} {f : Nat} {v : V} {d : D} (r : RD t μ H d v) : ∀ {ids : List Nat} {ds : List D} {vs : List V}, ids.length = ds.length → RDs t μ H ds vs →
    RDs t μ H (putId f d ids ds).2 (match ids.findIdx? (· = f) with | some j => vs.set j v | none => vs ++ [v]) ∧ (putId f d ids ds).1.length = (putId f d ids ds).2.length
  | [], [], _, _, h => by cases h; exact ⟨⟨v, [], rfl, r, rfl⟩, rfl⟩
  | i :: ids, x :: ds, _, h1, h => by
    obtain ⟨u, vs, rfl, h2, h3⟩ := h
    obtain ⟨ih, il⟩ := putId_rd r (f := f) (ids := ids) (ds := ds) (vs := vs) (by simpa using h1) h3
    by_cases e : i = f
    · subst e
      rw [putId, if_pos rfl]
      refine ⟨?_, by simpa using h1⟩
      simp [List.findIdx?_cons]
      exact ⟨v, vs, rfl, r, h3⟩
    · rw [putId, if_neg e]
      refine ⟨?_, by simpa using il⟩
      simp [List.findIdx?_cons, e]
      cases q : List.findIdx? (fun x => decide (x = f)) ids with
      | none => rw [q] at ih; exact ⟨u, _, rfl, h2, ih⟩
      | some j => rw [q] at ih; exact ⟨u, _, rfl, h2, ih⟩
  | [], _ :: _, _, h, _ => by simp at h
  | _ :: _, [], _, h, _ => by simp at h
theorem setF_of {P : Prog} {S S' : Sto} {x d : D} {f : Nat} (h : setF P S x f d = some S') : ∃ l c ids ds, x = .ref l ∧ S[l]? = some (.ins c ids ds) ∧ hasF P c f = true ∧ ids.length < 1000 ∧ S' = S.set l (.ins c (putId f d ids ds).1 (putId f d ids ds).2) := by
  unfold setF at h
  split at h
  · rename_i l
    split at h
    · rename_i c ids ds e
      split at h
      · rename_i hc
        rw [Bool.and_eq_true] at hc
        cases h
        exact ⟨l, c, ids, ds, rfl, e, hc.1, of_decide_eq_true hc.2, rfl⟩
      · cases h
    · cases h
  · cases h
/-- o.f = e -/
theorem s_setF (h : Fe t cx N sc mg W X) (cf : CFs t cx.P) {f : Str} {fid : Nat} {e : Expr} {ee : E} (hf : t.nm fid = f) (ho : VE t cx W X o eo) (he : VE t cx W X e ee) (hs : swapsWith e (some (.Attribute o f pos')) pos.line X.env = pure false) :
    VS t cx W X (.Assign [.Attribute o f pos'] e pos) (.setF eo fid ee) := by
  subst hf
  refine PS.weak (ps_fld ho he hs) fun D σ H q => ?_
  refine stm_ok (f := fun _ S => .bad) (ρ0 := id) (g := fun ρ v S => (ev cx eo ρ S).stm ρ fun x S => match setF cx.P S x fid v with | some S' => .ok (.nx ρ) S' | none => .bad) q fun μ ρ S d v H' re rs rd k => ?_
  refine ⟨μ, ρ, S, re, rs, (Aft.stm (r := ev cx eo ρ S) k).imp (fun x S2 μ1 H1 e1 s1 k1 vo rv => ?_) fun x S2 μ1 H1 e1 s1 z cls dd rx => z σ cls dd (re.ext e1) rx⟩
  cases z : setF cx.P S2 x fid d with
  | none => rw [z] at k1; exact k1.elim
  | some S4 =>
    rw [z] at k1
    obtain ⟨l, c, ids, ds, rfl, hl, hF, hn, rfl⟩ := setF_of z
    obtain ⟨ad, ha, rfl⟩ := rv
    obtain ⟨dx, vs, h1, h2, h3⟩ := s1.get l _ ad hl ha
    obtain ⟨cd, hcd, hm⟩ := hasF_of hF
    have ex := Ext.chg (H := H1) (o := .ins (t.ca c) dx (putF (t.nm fid) v (fsOf t ids vs))) ha
    have fl : (fsOf t ids vs).length < 1000 := by
      unfold fsOf
      rw [List.length_zip, List.length_map]
      omega
    rw [h.kk]
    refine ⟨ad, _, dx, _, rfl, h1, (cf c cd hcd).ins.cl, (cf c cd hcd).noat _ hm, fl, ?_⟩
    have rd1 := rd.ext e1
    obtain ⟨p1, p2⟩ := putId_rd rd1 (f := fid) h2 h3
    refine k1 μ1 _ ex (s1.chg ha ⟨dx, _, ?_, p2, RDs.ext ex _ p1⟩ trivial) (e1.trans ex) σ ((re.ext e1).ext ex)
    rw [upd_same, putId_fs h.nmi (d := d) h2 h3.length]
theorem free_fs (inj : ∀ i j, t.nm i = t.nm j → i = j) {m : Nat} : ∀ {ids : List Nat} {vs : List V}, ids.contains m = false → (fsOf t ids vs).lookup (t.nm m) = none
  | [], _, _ => rfl
  | i :: ids, [], _ => rfl
  | i :: ids, v :: vs, h => by
    rw [List.contains_cons, Bool.or_eq_false_iff] at h
    show List.lookup (t.nm m) ((t.nm i, v) :: fsOf t ids vs) = _
    rw [List.lookup_cons, show (t.nm m == t.nm i) = false by
      rw [beq_eq_false_iff_ne]
      intro z
      have := inj _ _ z
      simp [this] at h]
    exact free_fs inj h.2
theorem methOf_of {P : Prog} {S : Sto} {x : D} {m f : Nat} (h : methOf P S x m = some f) (hf : freeOf S x m = true) : ∃ c cd ids ds, (x = .ins c ids ds ∨ ∃ l, x = .ref l ∧ S[l]? = some (.ins c ids ds)) ∧ P.cls[c]? = some cd ∧ cd.meths.lookup m = some f ∧ ids.contains m = false := by
  unfold methOf at h
  obtain ⟨c, h1, h2⟩ := bind_of h
  obtain ⟨cd, h3, h4⟩ := bind_of h2
  unfold clsOf at h1
  split at h1
  · rename_i c' ids ds
    cases h1
    exact ⟨c, cd, ids, ds, .inl rfl, h3, h4, by simpa [freeOf] using hf⟩
  · rename_i l
    split at h1
    · rename_i c' ids ds e
      cases h1
      refine ⟨c, cd, ids, ds, .inr ⟨l, rfl, e⟩, h3, h4, ?_⟩
      have hf2 : (match S[l]? with | some (LO.ins _ ids _) => !ids.contains m | _ => false) = true := hf
      rw [e] at hf2
      simpa using hf2
    · cases h1
  · cases h1
/-- the methods of the program's classes are among its defs -/
abbrev MFi (P : Prog) (fa : Nat → Addr) (fi : Nat → Option Fi) : Prop := ∀ (c : Nat) (cd : CD) (m f : Nat), P.cls[c]? = some cd → cd.meths.lookup m = some f → ∃ i, fi f = some i ∧ i.a = fa f
theorem meth_ok (h : Fc t cx N sc mg W fi k X) (cf : CFs t cx.P) (mf : MFi cx.P t.fa fi) {m : Nat} {σ : L2.St} {H : Hp} {Q : VK} (q : tE t W (ev cx (.meth m eo Es)) σ H Q) :
    tE t W (ev cx eo) σ H (fun v H1 => ∃ a C dx fs f i, v = .ref a ∧ H1 a = some (.ins C dx fs) ∧ Cls X.K C ∧ Meth X.K C (t.nm m) (t.fa f) ∧ fs.lookup (t.nm m) = none ∧ fi f = some i ∧ i.a = t.fa f ∧ tA t W (evs cx Es) σ H1 (fun vs H2 => spC t cx.call f (.ref a :: vs) H2 Q (WE W.w σ))) := by
  obtain ⟨μ, ρ, S, re, rs, q⟩ := q
  refine ⟨μ, ρ, S, re, rs, (Aft.bind (r := ev cx eo ρ S) q).imp (fun x S1 μ1 H1 e1 s1 k1 v rv => ?_) fun _ _ _ _ _ _ z => z⟩
  cases z : methOf cx.P S1 x m with
  | none => rw [z] at k1; exact k1.elim
  | some f =>
    rw [z] at k1
    dsimp only at k1
    split at k1
    · rename_i hf
      obtain ⟨c, cd, ids, ds, hx, hcd, hm, hfr⟩ := methOf_of z hf
      obtain ⟨a, dx, vs, rfl, h1, h2, h3⟩ := ins_rd s1 rv hx
      obtain ⟨i, hi, ia⟩ := mf c cd m f hcd hm
      rw [h.kk]
      refine ⟨a, _, dx, _, f, i, rfl, h1, (cf c cd hcd).ins.cl, (cf c cd hcd).meth m f hm, free_fs h.nmi hfr, hi, ia, μ1, ρ, S1, re.ext e1, s1, (Aft.bind (r := evs cx Es ρ S1) k1).imp (fun ds S2 μ2 H2 e2 s2 k2 us ru => ?_) fun _ _ _ _ e2 _ z => z (e1.trans e2)⟩
      exact ⟨t.xi, μ2, S2, x :: ds, s2, ⟨.ref a, us, rfl, rv.ext e2, ru⟩, k2.imp (fun d S3 μ3 H3 e3 s3 z => z (e2.trans e3) (e1.trans (e2.trans e3))) fun x S3 μ3 H3 e3 s3 z => z (e2.trans e3) (e1.trans (e2.trans e3))⟩
    · exact k1.elim
/-- o.m(e, ..) -/
theorem r_meth (h : Fc t cx N sc mg W fi k X) (cf : CFs t cx.P) (mf : MFi cx.P t.fa fi) {m : Str} {mid : Nat} (hm : t.nm mid = m) {pl : Sem Bool} (ho : VE t cx W X o eo) (hA : VA t cx W X (a :: es) Es)
    (hst : starEach (a :: es) X.env = (false, eval a X.env) :: starEach es X.env) (hpl : (backTo pos (starEach es X.env)).any (·.1) = false)
    (ht : eval (.Call (.Attribute o m apos) (a :: es) [] pos) X.env = (do
      let ov ← eval o X.env
      standAt apos.atName
      let (f, first) ← holding [ov] (getMethod ov m pl)
      callWith pos f first (backTo pos (starEach (a :: es) X.env)) (backToKw pos (keywordEach [] X.env)))) : VE t cx W X (.Call (.Attribute o m apos) (a :: es) [] pos) (.meth mid eo Es) := by
  subst hm
  refine ⟨fun pins s σ H Q I q => ?_⟩
  refine PySem.W.methodCall_KW (pl := pl) (thn (ho.run pins s σ H _ I (meth_ok h cf mf q)) fun u s1 ⟨x, H1, I1, rx, ad, C, dx, fs, f, i, ex, ea', c, hm, l, hi, ia, q1⟩ => ?_) ht
  subst ex
  obtain rfl : u = Value.ref ad := rx
  refine getmeth_ok I1 ea' c hm l ?_
  refine PySem.W.callWith_K (first := [.ref ad]) (h₀ := X.base) I.ok.mod.kin hm.kp (thn (hA.run pos pins s1 σ H1 _ I1 q1) fun us s2 ⟨vs, H2, I2, r, q2⟩ => ⟨I2.kIn, ?_⟩) hst hpl
  rw [← ia]
  exact h.run (us := .ref ad :: us) (vs := .ref ad :: vs) hi ia I2 (.cons rfl r) q2
/-- o.m() -/
theorem r_meth0 (h : Fc t cx N sc mg W fi k X) (cf : CFs t cx.P) (mf : MFi cx.P t.fa fi) {m : Str} {mid : Nat} (hm : t.nm mid = m) {pl : Sem Bool} (ho : VE t cx W X o eo)
    (ht : eval (.Call (.Attribute o m apos) [] [] pos) X.env = (do
      let ov ← eval o X.env
      standAt apos.atName
      let (f, first) ← holding [ov] (getMethod ov m pl)
      callWith pos f first (backTo pos (starEach [] X.env)) (backToKw pos (keywordEach [] X.env)))) : VE t cx W X (.Call (.Attribute o m apos) [] [] pos) (.meth mid eo []) := by
  subst hm
  refine ⟨fun pins s σ H Q I q => ?_⟩
  refine PySem.W.methodCall_KW (pl := pl) (thn (ho.run pins s σ H _ I (meth_ok h cf mf q)) fun u s1 ⟨x, H1, I1, rx, ad, C, dx, fs, f, i, ex, ea', c, hm, l, hi, ia, q1⟩ => ?_) ht
  subst ex
  obtain rfl : u = Value.ref ad := rx
  refine getmeth_ok I1 ea' c hm l ?_
  obtain ⟨μ, ρ, S, re, rs, q2⟩ := q1
  refine PySem.W.callWith_K0 (first := [.ref ad]) I1.kIn hm.kp ?_
  rw [← ia]
  exact h.run (us := [.ref ad]) (vs := [.ref ad]) hi ia I1 (.cons rfl .nil) (Aft.now (a := ([] : List D)) rs q2 [] rfl)
theorem mk_ok {c : Nat} {cd : CD} (hcd : cx.P.cls[c]? = some cd) {σ : L2.St} {H : Hp} {Q : VK} (q : tE t W (ev cx (.mk c Es)) σ H Q) :
    tA t W (evs cx Es) σ H (fun vs H1 => ∀ x dx, H1 x = none → H1 dx = none → dx ≠ x → spC t cx.call cd.init (.ref x :: vs) (upd (upd H1 dx (.own x)) x (.ins (t.ca c) dx [])) (fun v H2 => v = .non ∧ Q (.ref x) H2) (WE W.w σ)) := by
  obtain ⟨μ, ρ, S, re, rs, q⟩ := q
  refine ⟨μ, ρ, S, re, rs, (Aft.bind (r := evs cx Es ρ S) q).imp (fun ds S1 μ1 H1 e1 s1 k1 vs rv x dx hx hdx hne => ?_) fun _ _ _ _ _ _ z => z⟩
  have e2 := Ext.fresh (μ := μ1) (o := .own x) hdx
  have s2 := s1.fresh (o := .own x) hdx
  have hx2 : upd H1 dx (.own x) x = none := by rw [upd_ne (Ne.symm hne)]; exact hx
  have e3 := Ext.cell (μ := μ1) (o := .ins (t.ca c) dx []) hx2
  have s3 : RS t (μ1 ++ [x]) (S1 ++ [.ins c [] []]) (upd (upd H1 dx (.own x)) x (.ins (t.ca c) dx [])) := s2.cell hx2 ⟨dx, [], upd_same, rfl, rfl⟩ trivial
  have at_ : (μ1 ++ [x])[S1.length]? = some x := by
    rw [← s1.len, List.getElem?_append_right (Nat.le_refl _), Nat.sub_self]
    rfl
  refine ⟨t.xi, μ1 ++ [x], S1 ++ [.ins c [] []], .ref S1.length :: ds, s3, ⟨.ref x, vs, rfl, ⟨x, at_, rfl⟩, RDs.ext (e2.trans e3) _ rv⟩, ?_⟩
  unfold mkC at k1
  rw [hcd] at k1
  dsimp only at k1
  cases z : cx.call cd.init (.ref S1.length :: ds) (S1 ++ [.ins c [] []]) with
  | bad => rw [z] at k1; exact k1.elim
  | exc y S2 =>
    rw [z] at k1
    intro μ' H' e s cls dd rx
    have k2 : Aft t μ1 H1 (finX μ1.length y S2) (fun d S3 μ3 H3 => Ext μ H μ3 H3 → ∀ v, RD t μ3 H3 d v → Q v H3) (fun x S3 μ3 H3 => Ext μ H μ3 H3 → ∀ cls dd, RX t μ3 H3 x cls dd → W.w cls dd σ H3) := by rw [s1.len]; exact k1
    have ee := (e2.trans e3).trans e
    obtain ⟨S', μ2, h1, h2⟩ := finX_ok (k2.imp (k' := fun _ _ _ _ => True) (kx' := fun x S3 μ3 H3 => ∀ cls dd, RX t μ3 H3 x cls dd → W.w cls dd σ H3) (fun _ _ _ _ _ _ _ => trivial) (fun x S3 μ3 H3 e4 s4 z => z (e1.trans e4))) ee s rx
    exact h1 cls dd h2
  | ok d S2 =>
    rw [z] at k1
    dsimp only at k1
    intro μ' H' e s v r
    have ee := (e2.trans e3).trans e
    cases d with
    | non =>
      cases r
      refine ⟨rfl, ?_⟩
      dsimp only at k1
      have hat : μ'[S1.length]? = some x := e.at at_
      split at k1
      · exact k1 μ' H' ee s (e1.trans ee) _ ⟨x, hat, rfl⟩
      · split at k1
        · rename_i c' ids us ho
          split at k1
          · rename_i hk
            rw [Bool.and_eq_true] at hk
            obtain ⟨dx', ws, g1, g2, g3⟩ := s.get _ _ x ho hat
            have co := cell_out s (Nat.le_refl _) hat
            have k1' := k1 (μ'.take S1.length) H' (by rw [← s1.len]; exact ee.shrink) (s.shrink hk.2) (e1.trans (by rw [← s1.len]; exact ee.shrink)) (.ref x)
            exact k1' ⟨x, dx', ws, rfl, co, g1, g2, RDs.shrink us hk.1 g3⟩
          · exact k1.elim
        · exact k1.elim
    | _ => exact k1.elim
theorem run_mk (h : Fc t cx N sc mg W fi k X) {f : Nat} {C : Addr} {i : Fi} (hf : fi f = some i) (ia : i.a = t.fa f) (M : Mk X.K C (t.fa f)) {pins : List (Addr × Obj)} {σ : L2.St} {H : Hp} {s : Shared} {Q : VK} {us : List Value} {vs : List V} (I : Inv X pins σ H s) (r : Vals vs us)
    (q : ∀ x dx, H x = none → H dx = none → dx ≠ x → spC t cx.call f (.ref x :: vs) (upd (upd H dx (.own x)) x (.ins C dx [])) (fun v H2 => v = .non ∧ Q (.ref x) H2) (WE W.w σ)) :
    wpAny (PySem.model X.prog X.w) X.A (call (.ref C) us) (EP X pins σ Q) X.xe s := by
  have hq := q (s.heap.objs.size + 1) s.heap.objs.size (I.hok.fresh (Nat.le_succ _)) (I.hok.fresh (Nat.le_refl _)) (Nat.ne_of_lt (Nat.lt_succ_self _))
  have I2 := Inv.made (C := C) I
  have F := h.fn f i hf
  have r2 : Vals (V.ref (s.heap.objs.size + 1) :: vs) (Value.ref (s.heap.objs.size + 1) :: us) := .cons rfl r
  have hl : (Value.ref (s.heap.objs.size + 1) :: us).length = i.ps.length := by
    rw [← r2.length]; exact F.len _ _ _ _ hq
  have bound := h.bd f i hf ⟨(s.heap.push PySem.W.emptyDict).push (PySem.W.instObj C s.heap.objs.size), s.gens, s.drawn, s.toks, s.os⟩ (Value.ref (s.heap.objs.size + 1) :: us) I2.kIn (by rw [List.append_nil]; exact hl)
  rw [List.append_nil] at bound
  refine wpAny_call (make_map (f := t.fa f) I.kIn M.makes M.init (beq_iff_eq.mp M.fn) (codeAny_mono (F.run _ X.stack _ _ ⟨Value.ref (s.heap.objs.size + 1) :: us, []⟩ (Value.ref (s.heap.objs.size + 1) :: us) _ _ (WE W.w σ) (h.room.make C us [])
    (I2.env0.make C us []) bound r2 hq) fun r s' hq' => ?_))
  cases r with
  | error e => exact h.pass σ pins _ _ e s' I2 hq'
  | ok fl =>
    cases fl with
    | ret u =>
      obtain ⟨v, H', I3, rv, ev, q3⟩ := I2.after hq'
      subst ev
      exact ⟨rv, ⟨V.ref (s.heap.objs.size + 1), H', I3, rfl, q3⟩⟩
    | next => exact False.elim hq'
    | brk => exact False.elim hq'
    | cont => exact False.elim hq'
/-- C(e, ..) -/
theorem r_mk (h : Fc t cx N sc mg W fi k X) (cf : CFs t cx.P) {c : Nat} {cd : CD} (hcd : cx.P.cls[c]? = some cd) {i : Fi} (hi : fi cd.init = some i) (ia : i.a = t.fa cd.init) {x : Str} (hg : sc.names.lookup x = some .globalImplicit) (hm : mg x = some (.ref (t.ca c))) (hdb : (x == ("__debug__" : Str)) = false)
    (ha : VA t cx W X (a :: es) Es) (he : starEach (a :: es) X.env = (false, eval a X.env) :: starEach es X.env) (hpl : (backTo pos (starEach es X.env)).any (·.1) = false) : VE t cx W X (.Call (.Name x p) (a :: es) [] pos) (.mk c Es) := by
  have M : Mk X.K (t.ca c) (t.fa cd.init) := by rw [h.kk]; exact (cf c cd hcd).make
  refine ⟨fun pins s σ H Q I q => ?_⟩
  refine wpAny_Call_Name_kw (ld_glob I (h.gl hg) (by rw [h.mm]; exact hm) ?_ hdb)
  refine PySem.W.callWith_K (h₀ := X.base) I.ok.mod.kin M.kp (thn (ha.run pos pins s σ H _ I (mk_ok hcd q)) fun us s1 ⟨vs, H1, I1, r, q1⟩ => ⟨I1.kIn, ?_⟩) he hpl
  exact run_mk h hi ia M I1 r q1
/-- C() -/
theorem r_mk0 (h : Fc t cx N sc mg W fi k X) (cf : CFs t cx.P) {c : Nat} {cd : CD} (hcd : cx.P.cls[c]? = some cd) {i : Fi} (hi : fi cd.init = some i) (ia : i.a = t.fa cd.init) {x : Str} (hg : sc.names.lookup x = some .globalImplicit) (hm : mg x = some (.ref (t.ca c))) (hdb : (x == ("__debug__" : Str)) = false) :
    VE t cx W X (.Call (.Name x p) [] [] pos) (.mk c []) := by
  have M : Mk X.K (t.ca c) (t.fa cd.init) := by rw [h.kk]; exact (cf c cd hcd).make
  refine ⟨fun pins s σ H Q I q => ?_⟩
  refine wpAny_Call_Name_kw (ld_glob I (h.gl hg) (by rw [h.mm]; exact hm) ?_ hdb)
  obtain ⟨μ, ρ, S, re, rs, q1⟩ := mk_ok hcd q
  exact PySem.W.callWith_K0 I.kIn M.kp (run_mk (us := []) (vs := []) h hi ia M I .nil (Aft.now (a := ([] : List D)) rs q1 [] rfl))
end
end Dn
/-! Dn: == and len of own classes. -/
namespace PySem.W
open PySem PySem.Calls PyProof.Rows Builtin
section
variable {prog : Program} {w : World} {A : Around} {E : Value → Shared → Prop} {s : Shared} {K : Frag} {x C f : Addr} {ox : Obj} {od : Option Obj} {b tb : Value}
/-- a special name that is a slot of the library -/
theorem dn_bound {M : Model} {name : Str} {id : String} {args : List Value} {Q : Option Value → Shared → Prop} (X : K.In s.heap) (I : InstAt s.heap x ox C od) (hs : findIn K (.ref C) name = some (some (.builtin id))) (bd : bindSpecial (.builtin id) (.ref x) = pure (.builtin id, [.ref x]))
    (h : wpAny M A (call (.builtin id) (.ref x :: args)) (fun v => Q (some v)) E s) : wpAny M A (callSpecialIfBound? (.ref x) name args) Q E s := by
  have step : wpAny M A (call (.builtin id) ([.ref x] ++ args) >>= fun v => pure (some v)) Q E s := wpAny_bind (wpAny_mono h (fun _ _ q => wpAny_pure q) fun _ _ q => q)
  simp only [callSpecialIfBound?, bindSpecialIfBound?, bd]
  refine wpAny_holding (wpAny_bind (wpAny_bind (wpAny_bind (I.type.here ((looks_findIn X hs).here ?_)))))
  simp only [bd]
  refine wpAny_bind (wpAny_askSetting (wpAny_ite ?_))
  split
  · exact wpAny_bind (wpAny_pure (wpAny_pure step))
  · exact wpAny_tryCatch (wpAny_bind (wpAny_pure (wpAny_pure step)))
/-- x != b, by the class's own __eq__ -/
theorem dn_ne {Q : Value → Shared → Prop} (hu : A.units + 1 < cLine) (X : K.In s.heap) (I : InstAt s.heap x ox C od) (hb : Looks (model prog w) s.heap (typeOf b) tb) (hn : notFirst K C tb = true)
    (hs : findIn K (.ref C) "__eq__" = some (some (.ref f))) (hf : isFn K (.ref f) = true) (hne : findIn K (.ref C) "__ne__" = some (some (.builtin "object.__ne__"))) (hm : mroIn K C (.type "object") = some true)
    (h : wpAny (model prog w) A.in1 (call (.ref f) [.ref x, b]) (fun v s' => ∃ c, v = .bool c ∧ Q (.bool (!c)) s') E s) : wpAny (model prog w) A (richCompare .NotEq (.ref x) b) Q E s := by
  have inst : Looks (model prog w) s.heap (isInstance (.ref x) (.type "object")) true := by
    unfold isInstance
    exact I.type.andThen (looks_subIn X (t := .ref C) hm)
  have body : wpAny (model prog w) A (call (.builtin "object.__ne__") [.ref x, b]) (fun v s' => ∃ c, v = .bool c ∧ Q v s') E s := by
    refine wpAny_call (codeAny_call_builtin (by decide +kernel) F.cmpEntry_ne (check_slot F.cmpKind_ne F.cmpSplit_ne inst (F.cmpArgs_ne _ _) ?_))
    unfold Builtin.«object.__ne__»
    refine wpAny_bind (m := slotArgs "__ne__" 1 _) (wpAny_pure ?_)
    refine wpAny_bind (wpAny_cRoomFor hu (wpAny_bind ?_))
    refine ifBound_K X I hs hf (wpAny_mono h (fun v s' hv => ?_) fun _ _ e => e)
    obtain ⟨c, rfl, q⟩ := hv
    exact wpAny_bind (wpAny_truthy_bool (wpAny_pure ⟨_, rfl, q⟩))
  have one : wpAny (model prog w) A (tryCompare (.ref x) "__ne__" b) (fun r s' => ∃ v, r = some v ∧ v ≠ .notImplemented ∧ Q v s') E s := by
    unfold tryCompare
    refine wpAny_bind (dn_bound X I hne (F.cmp_object.ne.bind (.ref x)) (wpAny_mono body (fun v t hv => ?_) fun _ _ e => e))
    obtain ⟨c, e1, q⟩ := hv
    subst e1
    exact wpAny_pure ⟨.bool c, rfl, fun z => (nomatch z), q⟩
  unfold richCompare
  simp only [oneThing_ref]
  refine wpAny_holding (wpAny_bind (wpAny_cRoomFor (Nat.lt_of_succ_lt hu) ?_))
  rw [cmpInfo_NotEq]
  dsimp only
  refine wpAny_bind (I.type.here (wpAny_bind (hb.here ?_)))
  split
  · rename_i q
    have e : subIn K tb (.ref C) = some false := (Bool.or_eq_true_iff.mp hn).elim (fun e => by rw [beq_iff_eq.mp e] at q; simp at q) beq_iff_eq.mp
    refine wpAny_bind ((looks_subIn X e).here ?_)
    simp only [Bool.false_eq_true, if_false]
    refine wpAny_bind (wpAny_mono one (fun r1 t1 got => ?_) fun _ _ e => e)
    obtain ⟨v1, e1, _, q1⟩ := got
    subst e1
    exact wpAny_pure q1
  · refine wpAny_bind (wpAny_pure ?_)
    simp only [Bool.false_eq_true, if_false]
    refine wpAny_bind (wpAny_mono one (fun r1 t1 got => ?_) fun _ _ e => e)
    obtain ⟨v1, e1, _, q1⟩ := got
    subst e1
    exact wpAny_pure q1
end
end PySem.W
namespace Dn
open PySem L2 PyProof.Rows PySem.Spec -- names
section
variable {t : Tb} {cx : Dn.Cx} {N : List Str} {sc scope : Scope} {mg : Str → Option Value} {W : Wi} {fi : Nat → Option Fi} {k : Nat} {X : L2.Cx} {a b o : Expr} {es : List Expr} {ea eb eo : E} {Es : List E} {pos p apos : Pos}
/-- a value's type, as the machine finds it -/
theorem looks_ty {pins : List (Addr × Obj)} {σ : L2.St} {H : Hp} {s : Shared} {x : V} {u ty : Value} (I : Inv X pins σ H s) (rx : RelV x u) (h : TyX X.K H x ty) {M : Model} : PySem.W.Looks M s.heap (typeOf u) ty := by
  have at_ : ∀ {a : Addr} {o : Obj}, s.heap.get? a = some o → o.cls = ty → u = .ref a → PySem.W.Looks M s.heap (typeOf u) ty := fun {a o} e c eu => by
    subst c eu
    exact (PySem.W.Looks.ld e).andThen .now
  cases h with
  | base b =>
    cases b with
    | non => cases (show u = Value.none from rx); exact .of_pure rfl
    | bl y => cases (show u = Value.bool y from rx); exact .of_pure rfl
    | int i => obtain ⟨t, q⟩ := (show ∃ t, u = Value.int i t from rx); cases q; exact .of_pure rfl
    | str y => obtain ⟨t, q⟩ := (show ∃ t, u = Value.str y t from rx); cases q; exact .of_pure rfl
    | flt y => obtain ⟨t, q⟩ := (show ∃ t, u = Value.float y t from rx); cases q; exact .of_pure rfl
    | lst ea => obtain ⟨_, _, n, _, h1⟩ := (show ObjOk X.prog X.w H s.heap _ (.lst _) from I.hok _ _ ea); exact at_ h1 rfl rx
    | frz ea => obtain ⟨_, _, _, n, _, h1⟩ := (show ObjOk X.prog X.w H s.heap _ (.frz _ (.lst _)) from I.hok _ _ ea); exact at_ h1 rfl rx
    | tup ea => obtain ⟨_, _, _, o, h1, h2, _⟩ := (show ObjOk X.prog X.w H s.heap _ (.tup _) from I.hok _ _ ea); exact at_ h1 h2 rx
    | dK ea => obtain ⟨_, _, vs, _, o, es, ep, h1, h2, _⟩ := (show ObjOk X.prog X.w H s.heap _ (.dK _) from I.hok _ _ ea); exact at_ h1 h2.1 rx
    | dT ea => obtain ⟨_, _, xs, _, o, es, ep, h1, h2, _⟩ := (show ObjOk X.prog X.w H s.heap _ (.dT _) from I.hok _ _ ea); exact at_ h1 h2.1 rx
    | ins ea cl ha hn htk hm =>
      obtain ⟨mA, O, _⟩ := ins_get I.hok ea
      exact at_ O.obj rfl rx
  | byt y => obtain ⟨t, q⟩ := (show ∃ t, u = Value.bytes y t from rx); cases q; exact .of_pure rfl
  | set ea => obtain ⟨o, _, _, _, e, ex, _⟩ := I.hok _ _ ea; exact at_ e ex.1 rx
  | kList e c => exact at_ (I.kIn _ _ e) c rx
  | kTuple e c => exact at_ (I.kIn _ _ e) c rx
  | kDict e c => exact at_ (I.kIn _ _ e) c rx
  | fTuple ea => obtain ⟨_, _, _, _, o, h1, h2, _⟩ := (show ObjOk X.prog X.w H s.heap _ (.frz _ (.tup _)) from I.hok _ _ ea); exact at_ h1 h2 rx
  | fDict ea => obtain ⟨_, _, _, vs, _, o, es, ep, h1, h2, _⟩ := (show ObjOk X.prog X.w H s.heap _ (.frz _ (.dK _)) from I.hok _ _ ea); exact at_ h1 h2.1 rx
/-- the defs that stand for == and len are among the program's -/
abbrev EFi (P : Prog) (fa : Nat → Addr) (fi : Nat → Option Fi) : Prop := ∀ (c : Nat) (cd : CD) (f : Nat), P.cls[c]? = some cd → (cd.eq = some f ∨ cd.len = some f) → ∃ i, fi f = some i ∧ i.a = fa f
theorem RoomG.in1 {k : Nat} {A : Around} (r : RoomG (k + 1) A) : RoomG k A.in1 := ⟨r.room.in1, r.gd⟩
/-- a def is called out of a built-in function -/
theorem run_in1 (h : Fc t cx N sc mg W fi k X) {f : Nat} {i : Fi} (hf : fi f = some i) (ia : i.a = t.fa f) {pins : List (Addr × Obj)} {σ : L2.St} {H : Hp} {s : Shared} {Q : VK} {us : List Value} {vs : List V} (I : Inv X pins σ H s) (r : Vals vs us)
    (q : spC t cx.call f vs H Q (WE W.w σ)) : wpAny (PySem.model X.prog X.w) X.A.in1 (call (.ref (t.fa f)) us) (EP X pins σ Q) X.xe s := by
  have F := h.fn f i hf
  have many : us.length = i.ps.length := by rw [← r.length]; exact F.len _ _ _ _ q
  have bound := h.bd f i hf s us I.kIn (by rw [List.append_nil]; exact many)
  rw [List.append_nil] at bound
  have e0 : Env0 X.prog X.w X.K X.mg X.base X.A.in1 X.stack s H := by
    have e := I.env0
    exact ⟨e.frames, e.mod, e.bs, e.bsz, e.funs, e.frf, e.hok, e.bare⟩
  refine wpAny_call (codeAny_mono (F.run X.A.in1 X.stack s H ⟨us, []⟩ us vs Q (WE W.w σ) h.room.in1 e0 bound r q) fun out s' fin => ?_)
  cases out with
  | error ex => exact h.pass σ pins H s ex s' I fin
  | ok fl =>
    cases fl with
    | ret u => exact I.after fin
    | next => exact fin.elim
    | brk => exact fin.elim
    | cont => exact fin.elim
theorem clsOf_of {S : Sto} {x : D} {c : Nat} (h : clsOf S x = some c) : ∃ ids ds, x = .ins c ids ds ∨ ∃ l, x = .ref l ∧ S[l]? = some (.ins c ids ds) := by
  unfold clsOf at h
  split at h
  · cases h; exact ⟨_, _, .inl rfl⟩
  · split at h
    · rename_i e; cases h; exact ⟨_, _, .inr ⟨_, rfl, e⟩⟩
    · cases h
  · cases h
/-- what the comparison asks: the step at two values -/
def rX (t : Tb) (cx : Dn.Cx) (W : Wi) (o : Co) (σ : L2.St) : V → V → Hp → VK → Prop := fun v u H Q => ∃ μ S x y, RS t μ S H ∧ RD t μ H x v ∧ RD t μ H y u ∧
  Aft t μ H (cmpx cx o x y S) (fun b _ _ H' => Q (.bl b) H') (fun x _ μ' H' => ∀ cls dd, RX t μ' H' x cls dd → W.w cls dd σ H')
theorem step_cmpx (h : Fc t cx N sc mg W fi k X) (cf : CFs t cx.P) (ef : EFi cx.P t.fa fi) (o : Co) {pins : List (Addr × Obj)} {σ : L2.St} {H : Hp} {s : Shared} {x y : V} {v u : Value} {Q : VK} (I : Inv X pins σ H s) (rx : RelV x v) (ry : RelV y u) (q : rX t cx W o σ x y H Q) :
    wpAny (PySem.model X.prog X.w) X.A (compareOp (coP o) v u) (EP X pins σ Q) X.xe s := by
  obtain ⟨μ, S, dx, dy, rs, dvx, dvy, q⟩ := q
  have plain : ∀ {c : Option Bool}, c = cmpop S o dx dy → Aft t μ H (R.of c S) (fun b _ _ H' => Q (.bl b) H') (fun x _ μ' H' => ∀ cls dd, RX t μ' H' x cls dd → W.w cls dd σ H') → wpAny (PySem.model X.prog X.w) X.A (compareOp (coP o) v u) (EP X pins σ Q) X.xe s := fun {c} e q => by
    subst e
    obtain ⟨b, e1, q2⟩ := q.of
    exact (o_cmp h.toFe o) pins s σ H x y v u Q I rx ry ⟨μ, S, dx, dy, b, rs, dvx, dvy, e1, q2.now rs⟩
  unfold cmpx at q
  split at q
  · rename_i c hc
    cases hq : (cx.P.cls[c]?).bind (·.eq) with
    | none =>
      rw [hq] at q
      cases o <;> first | exact q.elim | exact plain rfl q
    | some f =>
      rw [hq] at q
      dsimp only at q
      split at q
      · exact q.elim
      · rename_i hk
        obtain ⟨cd, h1, h2⟩ := bind_of hq
        obtain ⟨i, hi, ia⟩ := ef c cd f h1 (.inl h2)
        have CFc := cf c cd h1
        obtain ⟨ids, ds, hx⟩ := clsOf_of hc
        obtain ⟨a, dx', vs, e1, g1, _, _⟩ := ins_rd rs dvx hx
        subst e1
        cases (show v = Value.ref a from rx)
        obtain ⟨m1, m2, m3⟩ := CFc.eqm f h2
        obtain ⟨kd, hkd⟩ : ∃ kd, kdOf cx.P S dy = some kd := by
          cases z : kdOf cx.P S dy with
          | none => rw [z] at hk; exact absurd rfl hk
          | some kd => exact ⟨kd, rfl⟩
        obtain ⟨ty, tl⟩ := tyX_of cf rs dvy hkd
        have ly : ∀ {M : Model}, PySem.W.Looks M s.heap (typeOf u) (kdU t kd) := fun {M} => looks_ty I ry (by rw [h.kk]; exact ty)
        have nf := CFc.nf kd tl
        obtain ⟨mA, O, _⟩ := ins_get I.hok g1
        obtain ⟨od, J, _⟩ := O.look
        obtain ⟨m, hF⟩ := I.fr
        have r2 : Vals [V.ref a, y] [Value.ref a, u] := .cons rfl (.cons ry .nil)
        have kIn := I.kIn
        rw [h.kk] at kIn
        have un := h.un
        have ask : ∀ (g : Bool → Bool), Aft t μ H ((cx.call f [dx, dy] S).bind fun r S => match r with | .bl b => .ok (g b) S | _ => .bad) (fun b _ _ H' => Q (.bl b) H') (fun x _ μ' H' => ∀ cls dd, RX t μ' H' x cls dd → W.w cls dd σ H') → spC t cx.call f [V.ref a, y] H (fun w H' => ∃ b, w = .bl b ∧ Q (.bl (g b)) H') (WE W.w σ) := fun g q => by
          refine ⟨t.xi, μ, S, [dx, dy], rs, ⟨_, _, rfl, dvx, _, _, rfl, dvy, rfl⟩, ?_⟩
          refine (Aft.bind q).imp (fun d S1 μ1 H1 e1 s1 k1 w rw_ => ?_) fun _ _ _ _ _ _ z => z
          cases d with
          | bl b => cases rw_; exact ⟨b, rfl, k1.now s1 e1⟩
          | _ => exact k1.elim
        cases o with
        | eq =>
          show wpAny _ _ (richCompare .Eq (.ref a) u) _ _ _
          have kB : X.K.In X.base := I.ok.mod.kin
          rw [h.kk] at kB
          have run := h.run hi ia I r2 (ask id q)
          rw [ia] at run
          refine PySem.W.cmp_K (op := .Eq) (Nat.lt_of_le_of_lt (Nat.le_add_right _ 65) un) hF kB J ly nf m1 m2 (wpAny_mono run (fun w s' z => ?_) fun _ _ e => e)
          obtain ⟨v1, H1, I1, r1, b, e1, q1⟩ := z
          subst e1
          obtain rfl : w = Value.bool b := r1
          exact ⟨.bl b, H1, I1, rfl, q1⟩
        | ne =>
          show wpAny _ _ (richCompare .NotEq (.ref a) u) _ _ _
          refine PySem.W.dn_ne (by omega) kIn J ly nf m1 m2 m3 CFc.ins.hm (wpAny_mono (run_in1 h hi ia I r2 (ask (!·) q)) (fun w s' z => ?_) fun _ _ e => e)
          obtain ⟨v1, H1, I1, r1, b, e1, q1⟩ := z
          subst e1
          obtain rfl : w = Value.bool b := r1
          exact ⟨b, rfl, .bl (!b), H1, I1, rfl, q1⟩
        | isn => exact plain rfl q
        | notn => exact plain rfl q
        | _ => exact q.elim
  · exact plain rfl q
theorem cmpo_ok {o : Co} (σ : L2.St) (H : Hp) (Q : VK) (q : tE t W (ev cx (.cmpo o ea eb)) σ H Q) : tE t W (ev cx ea) σ H fun v H1 => tE t W (ev cx eb) σ H1 fun u H2 => rX t cx W o σ v u H2 Q := by
  obtain ⟨μ, ρ, S, re, rs, q⟩ := q
  refine ⟨μ, ρ, S, re, rs, (Aft.bind (r := ev cx ea ρ S) q).imp (fun x S1 μ1 H1 e1 s1 k1 v rv => ?_) fun _ _ _ _ _ _ z => z⟩
  refine ⟨μ1, ρ, S1, re.ext e1, s1, (Aft.bind (r := ev cx eb ρ S1) k1).imp (fun y S2 μ2 H2 e2 s2 k2 u ru => ?_) fun _ _ _ _ e2 _ z => z (e1.trans e2)⟩
  refine ⟨μ2, S2, x, y, s2, rv.ext e2, ru, (Aft.bind (r := cmpx cx o x y S2) k2).imp (fun b S3 μ3 H3 e3 s3 k3 => ?_) fun _ _ _ _ e3 _ z => z (e2.trans e3) (e1.trans (e2.trans e3))⟩
  exact k3.now s3 e3 (e2.trans e3) (e1.trans (e2.trans e3)) _ rfl
/-- a == b, a != b where a may be an object of the program's own -/
theorem r_cmpo (h : Fc t cx N sc mg W fi k X) (cf : CFs t cx.P) (ef : EFi cx.P t.fa fi) (o : Co) (ha : VE t cx W X a ea) (hb : VE t cx W X b eb) (hm : behindInMarks (coP o) b = false) : VE t cx W X (.Compare a [coP o] [b] pos) (.cmpo o ea eb) := by
  refine ⟨fun pins s σ H Q I q => ?_⟩
  exact wpAny_Compare1 (binT ha hb I (cmpo_ok σ H Q q) fun v u s2 x y H2 I2 rx ry q2 => step_cmpx h cf ef o I2 rx ry q2) hm
theorem cmpo_bl {o : Co} : ∀ ρ S d S', ev cx (.cmpo o ea eb) ρ S = .ok d S' → ∃ b, d = .bl b := fun ρ S d S' h => by
  simp only [ev] at h
  cases q : ev cx ea ρ S with
  | bad => rw [q] at h; cases h
  | exc x S1 => rw [q] at h; cases h
  | ok x S1 =>
    rw [q] at h
    simp only [R.bind_ok] at h
    cases q2 : ev cx eb ρ S1 with
    | bad => rw [q2] at h; cases h
    | exc x S1 => rw [q2] at h; cases h
    | ok y S2 =>
      rw [q2] at h
      simp only [R.bind_ok] at h
      cases q3 : cmpx cx o x y S2 with
      | bad => rw [q3] at h; cases h
      | exc x S1 => rw [q3] at h; cases h
      | ok c S3 => rw [q3] at h; cases h; exact ⟨c, rfl⟩
theorem t_cmpo (h : Fc t cx N sc mg W fi k X) (cf : CFs t cx.P) (ef : EFi cx.P t.fa fi) (o : Co) (ha : VE t cx W X a ea) (hb : VE t cx W X b eb) (hm : behindInMarks (coP o) b = false) : VT t cx W X (.Compare a [coP o] [b] pos) (.val (.cmpo o ea eb)) := by
  refine ⟨fun pins s σ H Q I q => ?_⟩
  refine wpAny_isTrue_Compare1 (thn (ha.run pins s σ H _ I (cmpo_ok σ H _ (tT_bl cmpo_bl σ H Q q))) fun v s1 ⟨x, H1, I1, r1, q1⟩ => thn (hb.run pins s1 σ H1 _ I1 q1) fun u s2 ⟨y, H2, I2, r2, q2⟩ =>
    thn (step_cmpx h cf ef o I2 r1 r2 q2) fun c s3 ⟨z, H3, I3, r3, b, e, q3⟩ => ?_) hm
  subst e
  cases r3
  exact wpAny_truthy_bool ⟨H3, I3, q3⟩
/-- len(o) by the class's own def -/
theorem leno_ok (σ : L2.St) (H : Hp) (Q : VK) (q : tE t W (ev cx (.leno ea)) σ H Q) : tE t W (ev cx ea) σ H fun v H1 => ∃ μ S x c cd f, RS t μ S H1 ∧ RD t μ H1 x v ∧ clsOf S x = some c ∧ cx.P.cls[c]? = some cd ∧ cd.len = some f ∧
    spC t cx.call f [v] H1 (fun w H' => ∃ n : Int, w = .int n ∧ (0 ≤ n ∧ n < 9223372036854775808) ∧ Q (.int n) H') (WE W.w σ) := by
  obtain ⟨μ, ρ, S, re, rs, q⟩ := q
  refine ⟨μ, ρ, S, re, rs, (Aft.bind (r := ev cx ea ρ S) q).imp (fun x S1 μ1 H1 e1 s1 k1 v rv => ?_) fun _ _ _ _ _ _ z => z⟩
  cases hc : clsOf S1 x with
  | none => rw [hc] at k1; exact k1.elim
  | some c =>
    rw [hc] at k1
    dsimp only at k1
    cases hq : (cx.P.cls[c]?).bind (·.len) with
    | none => rw [hq] at k1; exact k1.elim
    | some f =>
      rw [hq] at k1
      dsimp only at k1
      obtain ⟨cd, h1, h2⟩ := bind_of hq
      refine ⟨μ1, S1, x, c, cd, f, s1, rv, hc, h1, h2, t.xi, μ1, S1, [x], s1, ⟨v, [], rfl, rv, rfl⟩, ?_⟩
      refine (Aft.bind k1).imp (fun d S2 μ2 H2 e2 s2 k2 w rw_ => ?_) fun _ _ _ _ e2 _ z => z (e1.trans e2)
      cases d with
      | int n =>
        cases rw_
        dsimp only at k2
        split at k2
        · rename_i hn
          exact ⟨n, rfl, hn, k2.now s2 e2 (e1.trans e2) _ rfl⟩
        · exact k2.elim
      | _ => exact k2.elim
theorem r_leno (h : Fc t cx N sc mg W fi k X) (cf : CFs t cx.P) (ef : EFi cx.P t.fa fi) (hg : sc.names.lookup ("len" : Str) = some .globalImplicit) (hm : mg ("len" : Str) = none) (ha : VE t cx W X a ea) (hs : starEach [a] X.env = [(false, eval a X.env)]) :
    VE t cx W X (.Call (.Name "len" p) [a] [] pos) (.leno ea) := by
  refine ⟨fun pins s σ H Q I q => ?_⟩
  refine Call_ (ld_blt I (h.gl hg) (by rw [h.mm]; exact hm) boot_len ?_)
  refine PyProof.Rows.callWith_builtin1 (PyProof.Rows.args_cons (thn (ha.run pins s σ H _ I (leno_ok σ H Q q)) fun v s1 ⟨x, H1, I1, r1, μ, S, d, c, cd, f, rs, rd, hc, h1, h2, q1⟩ => PyProof.Rows.args_nil ?_) hs) hs rfl
  obtain ⟨i, hi, ia⟩ := ef c cd f h1 (.inr h2)
  obtain ⟨ids, ds, hx⟩ := clsOf_of hc
  obtain ⟨ad, dx', vs, e1, g1, _, _⟩ := ins_rd rs rd hx
  subst e1
  cases (show v = Value.ref ad from r1)
  obtain ⟨m1, m2⟩ := (cf c cd h1).lnm f h2
  obtain ⟨mA, O, _⟩ := ins_get I1.hok g1
  obtain ⟨od, J, _⟩ := O.look
  obtain ⟨m, hF⟩ := I1.fr
  have kB : X.K.In X.base := I1.ok.mod.kin
  rw [h.kk] at kB
  refine PySem.W.len_K hF kB J m1 m2 (wpAny_mono (run_in1 h hi ia I1 (us := [.ref ad]) (vs := [.ref ad]) (.cons rfl .nil) q1) (fun w s' z => ?_) fun _ _ e => e)
  obtain ⟨v1, H2, I2, r2, n, e1, hn, q2⟩ := z
  subst e1
  obtain ⟨tk, rfl⟩ := (show ∃ tk, w = Value.int n tk from r2)
  exact ⟨hn, .int n, H2, I2.tok _, ⟨_, rfl⟩, q2⟩
/-! making, with the facts in one -/
structure Mkl (t : Tb) (P : Prog) (mg : Str → Option Value) (fi : Nat → Option Fi) (c : Nat) (x : Str) : Prop where
  ex : ∃ cd i, P.cls[c]? = some cd ∧ fi cd.init = some i ∧ i.a = t.fa cd.init ∧ mg x = some (.ref (t.ca c))
theorem r_mkF (h : Fc t cx N sc mg W fi k X) (cf : CFs t cx.P) {c : Nat} {x : Str} (M : Mkl t cx.P mg fi c x) (hg : sc.names.lookup x = some .globalImplicit) (hdb : (x == ("__debug__" : Str)) = false)
    (ha : VA t cx W X (a :: es) Es) (he : starEach (a :: es) X.env = (false, eval a X.env) :: starEach es X.env) (hpl : (backTo pos (starEach es X.env)).any (·.1) = false) : VE t cx W X (.Call (.Name x p) (a :: es) [] pos) (.mk c Es) := by
  obtain ⟨cd, i, h1, h2, h3, h4⟩ := M.ex
  exact r_mk h cf h1 h2 h3 hg h4 hdb ha he hpl
theorem r_mkF0 (h : Fc t cx N sc mg W fi k X) (cf : CFs t cx.P) {c : Nat} {x : Str} (M : Mkl t cx.P mg fi c x) (hg : sc.names.lookup x = some .globalImplicit) (hdb : (x == ("__debug__" : Str)) = false) : VE t cx W X (.Call (.Name x p) [] [] pos) (.mk c []) := by
  obtain ⟨cd, i, h1, h2, h3, h4⟩ := M.ex
  exact r_mk0 h cf h1 h2 h3 hg h4 hdb
theorem Mkl.xi {P : Prog} {c : Nat} {x : Str} (M : Mkl t P mg fi c x) {xi : List Addr} : Mkl { t with xi := xi } P mg fi c x := ⟨M.ex⟩
/-! a global of the module -/
theorem r_globI (h : Fe t cx N sc mg W X) {g : Nat} {i : Int} {x : Str} (hg : sc.names.lookup x = some .globalImplicit) (hm : ∃ tk, mg x = some (.int i tk)) (hdb : (x == ("__debug__" : Str)) = false) (e : cx.P.globs[g]? = some (.int i)) : VE t cx W X (.Name x p) (.glob g) := by
  obtain ⟨tk, hm⟩ := hm
  refine PE.weak (pe_glob (h.gl hg) (by rw [h.mm]; exact hm) (v := .int i) ⟨_, rfl⟩ hdb) fun σ H Q q => ?_
  obtain ⟨μ, ρ, S, re, rs, q⟩ := q
  rw [ev, e] at q
  exact q.now rs (.int i) rfl
theorem r_globS (h : Fe t cx N sc mg W X) {g : Nat} {s : List Nat} {x : Str} (hg : sc.names.lookup x = some .globalImplicit) (hm : ∃ y tk, mg x = some (.str y tk) ∧ y = ⟨s.toArray⟩) (hs : s.all (fun c => decide (c < 1114112)) = true) (hdb : (x == ("__debug__" : Str)) = false) (e : cx.P.globs[g]? = some (.str s)) : VE t cx W X (.Name x p) (.glob g) := by
  obtain ⟨y, tk, hm, ey⟩ := hm
  subst ey
  refine PE.weak (pe_glob (h.gl hg) (by rw [h.mm]; exact hm) (v := .str ⟨s.toArray⟩) ⟨_, rfl⟩ hdb) fun σ H Q q => ?_
  obtain ⟨μ, ρ, S, re, rs, q⟩ := q
  rw [ev, e] at q
  exact q.now rs _ ⟨rfl, fun c hc => of_decide_eq_true (List.all_eq_true.mp hs c hc)⟩
/-- a def's name, as a value -/
theorem r_fnv (h : Fe t cx N sc mg W X) {f : Nat} {x : Str} (C : Cal t.K t.fa mg fi f x) (hg : sc.names.lookup x = some .globalImplicit) : VE t cx W X (.Name x p) (.cst (.fn f)) := by
  obtain ⟨i, h1, h2, h3, h4⟩ := C.ex
  subst h3
  refine d_const (PE.weak (pe_glob (h.gl hg) (by rw [h.mm]; exact h4.at_) (v := .ref i.a) rfl h4.db) fun _ _ _ q => q) fun μ H => ?_
  show V.ref i.a = V.ref (t.fa f)
  rw [h2]
end
end Dn
/-! Dn: enumerate, calls by a name, sorted(set(..)). -/
namespace PySem.W
open PySem PySem.Calls PyProof.Rows Builtin
/-- enumerate(v) begins -/
theorem dn_enum_new {v : Value} {o : Obj} {H : Heap → Prop} (B : Begins v o H) :
    Meets (Builtin.«enumerate.__new__» ⟨[.type "enumerate", v], []⟩) (fun _ R s => H s.heap ∧
      R (.ok (.ret (.ref (s.heap.push o).objs.size))) { s with heap := (s.heap.push o).push { cls := .type "enumerate", data := .fields #[.none, .bool false, .ref s.heap.objs.size, rawInt 0, .none, .none] } }) :=
  .of_wp fun prog w A R s hs => by
    obtain ⟨h0, g0, d0, t0, os0⟩ := s
    obtain ⟨hH, last⟩ := hs
    have same := sub_enumerate
    have starts : ∀ {A' : Around} {E : Value → Shared → Prop} {Q : Value → Shared → Prop}, Q (.ref h0.objs.size) ⟨h0.push o, g0, d0, t0, os0⟩ → wpAny (model prog w) A' (pyIter v) Q E ⟨h0, g0, d0, t0, os0⟩ :=
      fun q => B.iter prog w _ _ ⟨h0, g0, d0, t0, os0⟩ _ hH q
    wp_walk using starts
    refine wpAny_stack_any fun st => wpAny_pure ?_
    split
    · rename_i c1 _ _ _ _ _
      cases (c1 == Value.type "enumerate") <;> (wp_walk using starts; exact ⟨_, rfl, last⟩)
    · wp_walk using starts
      exact ⟨_, rfl, last⟩
section
variable {prog : Program} {w : World} {A : Around} {E : Value → Shared → Prop} {s : Shared}
theorem dn_enum_tuple {l : Addr} {items : Array Value} {Q : Value → Shared → Prop} (hL : s.heap.IsTuple l items)
    (h : ∀ h', IsEnum h' (s.heap.objs.size + 1) s.heap.objs.size 0 .none → h'.IsTupleIter s.heap.objs.size l 0 → (∀ b o, s.heap.get? b = some o → h'.get? b = some o) → Q (.ref (s.heap.objs.size + 1)) { s with heap := h' }) :
    wpAny (model prog w) A (call (.type "enumerate") [.ref l]) Q E s := by
  refine callType_new F.called_enumerate (by decide) (F.typeCall_enumerate_1 _) (F.newCall_enumerate_1 _) (fun obj => F.args_object_init_2 obj _) F.entry_enumerate_new (dn_enum_new (begins_tuple l items)) ⟨hL, ?_⟩
  show _ ∧ _
  have one : (s.heap.push { cls := .type "tuple_iterator", data := .fields #[.ref l, .int 0 0] }).objs.size = s.heap.objs.size + 1 := Heap.size_push ..
  rw [one]
  have there := Heap.get?_push_size (s.heap.push { cls := .type "tuple_iterator", data := .fields #[.ref l, .int 0 0] }) (o := { cls := .type "enumerate", data := .fields #[.none, .bool false, .ref s.heap.objs.size, rawInt 0, .none, .none] }) rfl
  rw [one] at there
  exact ⟨⟨_, there, rfl⟩, h _ there ⟨_, Heap.get?_push_of_some _ (Heap.get?_push_size _ rfl), rfl, rfl⟩ fun b o x => Heap.get?_push_of_some _ (Heap.get?_push_of_some _ x)⟩
end
end PySem.W
namespace L2
open PySem PySem.Spec PyProof.Rows -- names
/-- an iterator at a tuple's end -/
theorem dn_end {prog : Program} {w : World} {A : Around} (hh : A.handled = none) (it t : Addr) (i : Nat) (items : Array Value) (hx : items[i]? = none) :
    Draws prog w A it [it, t] i (fun _ _ => False) (fun j h => j = i ∧ h.IsTupleIter it t i ∧ h.IsTuple t items) where
  live := fun _ _ st => let ⟨_, ⟨o, ho, _⟩, _⟩ := st; ⟨o, ho⟩
  frame := fun _ _ _ st hk => ⟨st.1, st.2.1.at fun o e => hk it (by simp) o e, st.2.2.at fun o e => hk t (by simp) o e⟩
  item := fun j s Q E hi st hQ => absurd st.1 (by omega)
  done := fun s Q E st hE => wpAny_nextOf_tuple_end hh st.2.1 st.2.2 hx hE
/-- the tuple at a, each item in a new pair -/
def dnIte (K : PySem.W.Frag) (a : Addr) : It :=
  ⟨fun i H => ∃ (xs : List V) (x : V), SqT K H a xs ∧ xs[i]? = some x, fun i H v H' => ∃ T x, v = .ref T ∧ H T = none ∧ H' = upd H T (.tup [.int (i : Nat), x]) ∧ ∀ xs, SqT K H a xs → xs[i]? = some x, fun i H => ∃ xs : List V, SqT K H a xs ∧ xs.length ≤ i⟩
theorem dn_turn {P : Program} {w : World} {K : PySem.W.Frag} {elts : List Expr} {kk : Nat} {tpos : Pos} (a e it : Addr) :
    Turn P w K (.Tuple elts kk tpos) (dnIte K a) [e, it] e (fun i h => (∃ old, IsEnum h e it ((i : Nat) : Int) old) ∧ h.IsTupleIter it a i ∧ e ≠ it ∧ e ≠ a ∧ a ≠ it) where
  mem := List.mem_cons_self
  obj := fun i h st b hb => by
    obtain ⟨⟨old, he⟩, ⟨o, ho, hc, hd⟩, _⟩ := st
    rcases List.mem_cons.mp hb with z | z
    · rw [z]; exact ⟨_, he, fun v q => nomatch q⟩
    · rw [List.mem_singleton.mp z]; exact ⟨o, ho, fun v q => by rw [hd] at q; cases q⟩
  keep := fun i h h' st k => by
    obtain ⟨⟨old, he⟩, hi, rest⟩ := st
    exact ⟨⟨old, k e List.mem_cons_self _ he⟩, hi.at fun o q => k it (by simp) o q, rest⟩
  item := by
    intro X hP hw hK hc i pins s σ H E I hf st hg
    subst hP hw hK
    obtain ⟨⟨old, he⟩, hit, n1, n2, n3⟩ := st
    obtain ⟨xs, x, hq, hx⟩ := hg
    obtain ⟨its, rv, p, hz⟩ := I.tuple hq
    obtain ⟨u, hu, ru⟩ := rv.get hx
    have le : e < s.heap.objs.size := Heap.lt_size he
    have li : it < s.heap.objs.size := by obtain ⟨_, q, _⟩ := hit; exact Heap.lt_size q
    have many : i < its.toArray.size := by
      have := (List.getElem?_eq_some_iff.mp hu).1
      simpa using this
    refine wpAny_pyNext_enum_itemD (Draws.tuple (A := X.A.in1) (I.ok.hd hc) it a n3 its.toArray) he ⟨hit, p⟩ many n1 (by simp [n1, n2]) fun z h' tk hz' ho st' hT hsz hk => ?_
    have ez : z = u := by
      have : its[i]? = some z := by simpa using hz'
      rw [hu] at this
      exact (Option.some.inj this).symm
    subst ez
    refine ⟨_, rfl, wpAny_letOwnedTupleGo_enum (s := { s with heap := h', toks := tk + 1 }) ho fun h2 he' sb => ?_⟩
    have there : h2.get? s.heap.objs.size = some { cls := .type "tuple", data := .seq #[.int i tk, z] } := (sb.2 _ (Nat.ne_of_gt le)).trans hT
    have made : ObjOk X.prog X.w (upd H s.heap.objs.size (.tup [.int (i : Nat), x])) h2 s.heap.objs.size (.tup [.int (i : Nat), x]) :=
      ⟨by show 2 ≤ sizeLine; decide, [.int i tk, z], .cons ⟨_, rfl⟩ (.cons ru .nil), ⟨_, there, rfl, _, rfl⟩⟩
    have J : Inv X pins σ (upd H s.heap.objs.size (.tup [.int (i : Nat), x])) { s with heap := h2, toks := tk + 1 } :=
      I.turnedNew (ch := [e, it]) (fun b ob hb q => (sb.2 b (fun z => hb (by simp [z]))).trans (hk b ob (fun z => hb (by simp [z])) (fun z => hb (by simp [z])) q)) hf (Nat.le_refl _) made
    have next : ((i + 1 : Nat) : Int) = (i : Int) + 1 := by omega
    refine ⟨.ref s.heap.objs.size, _, J, rfl, ⟨_, x, rfl, I.hok.fresh (Nat.le_refl _), rfl, fun ys hy => by rw [I.tuple_inj hy hq]; exact hx⟩, ⟨⟨z, by rw [next]; exact he'⟩, st'.1.at fun o q => (sb.2 it (Ne.symm n1)).trans q, n1, n2, n3⟩, fun b hb => ?_⟩
    have lb : b < s.heap.objs.size := by
      rcases List.mem_cons.mp hb with q | q
      · rw [q]; exact le
      · rw [List.mem_singleton.mp q]; exact li
    rw [upd_ne (Nat.ne_of_lt lb)]
    exact (hf b hb).1
  done := by
    intro X hP hw hK hc i pins s σ H E I hf st hg
    subst hP hw hK
    obtain ⟨⟨old, he⟩, hit, n1, n2, n3⟩ := st
    obtain ⟨xs, hq, hx⟩ := hg
    obtain ⟨its, rv, p, hz⟩ := I.tuple hq
    obtain ⟨f0, f1, f2, f3, f4, f5⟩ := hf it (by simp)
    have hl := rv.length
    exact wpAny_pyNext_enum_endD (dn_end (A := X.A.in1) (I.ok.hd hc) it a i its.toArray (by simp; omega)) he ⟨rfl, hit, p⟩ fun h' eb => ⟨rfl, I.turned (t' := s.toks) (fun b o hb q => eb b o hb q) f0 f1 f3 f4 f5⟩
  self := fun A i s Q E st h => by
    obtain ⟨⟨_, he⟩, _⟩ := st
    exact wpAny_pyIter_enum he h
end L2
namespace Dn
open PySem L2 PyProof.Rows PySem.Spec -- names
section
variable {t : Tb} {cx : Dn.Cx} {N : List Str} {sc scope : Scope} {mg : Str → Option Value} {W : Wi} {fi : Nat → Option Fi} {k : Nat} {X : L2.Cx} {a b o : Expr} {es elts : List Expr} {ea eb eo : E} {Es : List E} {pos p apos tpos : Pos} {kk : Nat}
theorem pi_enumA {ta : TA} {e : Expr} (hg : Gl X "enumerate") (hm : X.mg "enumerate" = none) (ha : PA X [e] ta) (hs : starEach [e] X.env = [(false, eval e X.env)]) :
    PI X (.Tuple elts kk tpos) (.Call (.Name "enumerate" p) [e] [] pos) (fun σ H R => ta σ H fun vs H1 => ∃ a, vs = [.ref a] ∧ ((∃ xs, SqL X.K H1 a xs) ∧ R (Ite X.K a) H1 ∨ (∃ xs, SqT X.K H1 a xs) ∧ R (dnIte X.K a) H1)) := by
  refine ⟨fun pins s σ H R I h => ?_⟩
  refine Call_ (ld_blt I hg hm boot_enumerate (PyProof.Rows.callWith_type1 (thn (ha.run pos pins s σ H _ I h) fun us s1 ⟨vs, H1, I1, r1, q1⟩ => ?_) hs rfl))
  obtain ⟨a, ex, q⟩ := q1
  subst ex
  cases r1 with
  | cons r rr =>
    cases rr
    cases r
    have fresh : ∀ b ∈ [s1.heap.objs.size + 1, s1.heap.objs.size], FpOk X pins H1 b := fun b hb => by
      have le : s1.heap.objs.size ≤ b := by
        rcases List.mem_cons.mp hb with z | z
        · rw [z]; exact Nat.le_add_right _ _
        · rw [List.mem_singleton.mp z]; exact Nat.le_refl _
      exact I1.fpOk le (I1.hok.fresh le)
    rcases q with ⟨⟨xs, hq⟩, q⟩ | ⟨⟨xs, hq⟩, q⟩
    · obtain ⟨its, rv, p', hz⟩ := I1.list hq
      refine call_enumerate_list p'.isList fun h' he hit hsz hk => wpAny_pyIter_enum he ?_
      exact ⟨_, _, _, _, H1, rfl, I1.kept (t' := s1.toks) hk, turn_enum a (s1.heap.objs.size + 1) s1.heap.objs.size, ⟨⟨.none, he⟩, hit, Nat.succ_ne_self _⟩, fresh, q⟩
    · obtain ⟨its, rv, p', hz⟩ := I1.tuple hq
      have lt : a < s1.heap.objs.size := p'.lt
      refine PySem.W.dn_enum_tuple p' fun h' he hit hk => wpAny_pyIter_enum he ?_
      exact ⟨_, _, _, _, H1, rfl, I1.kept (t' := s1.toks) hk, dn_turn a (s1.heap.objs.size + 1) s1.heap.objs.size, ⟨⟨.none, he⟩, hit, Nat.succ_ne_self _, Nat.ne_of_gt (Nat.lt_succ_of_lt lt), Nat.ne_of_lt lt⟩, fresh, q⟩
def enumV (k : Nat) : List V → List Sh
  | [] => []
  | x :: xs => .t [.int k, x] :: enumV (k + 1) xs
theorem enumV_get : ∀ {vs : List V} {k i : Nat}, (enumV k vs)[i]? = (vs[i]?).map fun v => Sh.t [.int ((k + i : Nat) : Int), v]
  | [], _, _ => by simp [enumV]
  | v :: vs, k, 0 => by simp [enumV]
  | v :: vs, k, i + 1 => by
    rw [enumV, List.getElem?_cons_succ, enumV_get, List.getElem?_cons_succ, show k + 1 + i = k + (i + 1) by omega]
theorem enumV_len : ∀ {vs : List V} {k : Nat}, (enumV k vs).length = vs.length
  | [], _ => rfl
  | v :: vs, k => by rw [enumV, List.length_cons, List.length_cons, enumV_len]
theorem enumV_rd {μ : List Addr} {H : Hp} : ∀ {ds : List D} {vs : List V} {k : Nat}, RDs t μ H ds vs → RDhs t μ H (enumD k ds) (enumV k vs)
  | [], _, _, h => by cases h; exact .nil
  | d :: ds, _, k, h => by
    obtain ⟨v, vr, rfl, h1, h2⟩ := h
    exact .cons ⟨_, rfl, ⟨_, _, rfl, rfl, _, _, rfl, h1, rfl⟩, by show 2 ≤ sizeLine; decide⟩ (enumV_rd h2)
theorem enumD_len : ∀ {ds : List D} {k : Nat}, (enumD k ds).length = ds.length
  | [], _ => rfl
  | d :: ds, k => by rw [enumD, List.length_cons, List.length_cons, enumD_len]
theorem jv_enumL {μ : List Addr} {H : Hp} {a : Addr} {vs : List V} (hs : ∀ μ' H', Ext μ H μ' H' → SqL t.K H' a vs) : JV μ H (enumV 0 vs) (Ite t.K a) where
  go := fun μ' H' e i hi => by
    rw [enumV_len] at hi
    exact ⟨vs, vs[i], hs μ' H' e, List.getElem?_eq_getElem hi⟩
  stop := fun μ' H' e i hi => by
    rw [enumV_len] at hi
    exact ⟨vs, hs μ' H' e, hi⟩
  yld := fun μ' H' e i x H2 h y e2 => by
    rw [enumV_get] at e2
    obtain ⟨v, h1, h2⟩ := map_of e2
    subst h2
    obtain ⟨T, x', h3, h4, h5, h6⟩ := y
    have := h6 vs (hs μ' H' e)
    rw [h1] at this
    cases this
    exact ⟨T, h3, h4, by rw [h5, Nat.zero_add]⟩
theorem jv_enumT {μ : List Addr} {H : Hp} {a : Addr} {vs : List V} (hs : ∀ μ' H', Ext μ H μ' H' → SqT t.K H' a vs) : JV μ H (enumV 0 vs) (dnIte t.K a) where
  go := fun μ' H' e i hi => by
    rw [enumV_len] at hi
    exact ⟨vs, vs[i], hs μ' H' e, List.getElem?_eq_getElem hi⟩
  stop := fun μ' H' e i hi => by
    rw [enumV_len] at hi
    exact ⟨vs, hs μ' H' e, hi⟩
  yld := fun μ' H' e i x H2 h y e2 => by
    rw [enumV_get] at e2
    obtain ⟨v, h1, h2⟩ := map_of e2
    subst h2
    obtain ⟨T, x', h3, h4, h5, h6⟩ := y
    have := h6 vs (hs μ' H' e)
    rw [h1] at this
    cases this
    exact ⟨T, h3, h4, by rw [h5, Nat.zero_add]⟩
theorem i_enum (h : Fe t cx N sc mg W X) (hg : sc.names.lookup ("enumerate" : Str) = some .globalImplicit) (hm : mg ("enumerate" : Str) = none) (ha : VE t cx W X a ea) (hs : starEach [a] X.env = [(false, eval a X.env)]) :
    VI t cx W X (.Tuple elts kk tpos) (.Call (.Name "enumerate" p) [a] [] pos) (.enum ea) := by
  refine PI.weak (pi_enumA (h.gl hg) (by rw [h.mm]; exact hm) (pa_cons ha pa_nil hs) hs) fun σ H R q => ?_
  obtain ⟨μ, ρ, S, re, rs, q⟩ := q
  refine ⟨μ, ρ, S, re, rs, (Aft.bind (r := ev cx ea ρ S) q).imp (fun x S1 μ1 H1 e1 s1 k1 v rv => ?_) fun _ _ _ _ _ _ z => z⟩
  obtain ⟨sr, e, k1⟩ := k1.of
  have k2 := k1.now s1 e1
  rw [h.kk]
  cases x with
  | lst xs =>
    cases e
    obtain ⟨ad, vs, rfl, f, r⟩ := rv
    exact ⟨ad, rfl, .inl ⟨⟨vs, SqL.of f.2⟩, k2 (fun _ _ _ z => nomatch z) _ ⟨_, enumV_rd r, jv_enumL fun μ' H' e => SqL.of (f.ext e).2, by rw [enumD_len, r.length]; exact f.1.2.2⟩⟩⟩
  | scr xs =>
    cases e
    obtain ⟨ad, vs, rfl, f, r⟩ := rv
    exact ⟨ad, rfl, .inl ⟨⟨vs, f.seq⟩, k2 (fun _ _ _ z => nomatch z) _ ⟨_, enumV_rd r, jv_enumL fun μ' H' e => (f.ext e).seq, by rw [enumD_len, r.length]; exact f.len⟩⟩⟩
  | tup xs =>
    cases e
    obtain ⟨ad, vs, rfl, f, r⟩ := rv
    exact ⟨ad, rfl, .inr ⟨⟨vs, f.seq⟩, k2 (fun _ _ _ z => nomatch z) _ ⟨_, enumV_rd r, jv_enumT fun μ' H' e => (f.ext e).seq, by rw [enumD_len, r.length]; exact f.len⟩⟩⟩
  | ref l =>
    obtain ⟨ad, hl, rfl⟩ := rv
    obtain ⟨s0, h0, rfl⟩ := map_of (show (srcOf S1 (.ref l)).map _ = some sr from e)
    simp only [srcOf] at h0
    split at h0
    · rename_i ys q
      cases h0
      obtain ⟨vs, h1, h2⟩ := s1.get l _ ad q hl
      refine ⟨ad, rfl, .inl ⟨⟨vs, SqL.of h1⟩, k2 (fun en l' n z => ?_) _ ⟨ad, hl, by rw [if_pos rfl]⟩⟩⟩
      cases z
      exact ⟨ys, q, rfl⟩
    · cases h0
  | _ => cases e
/-! a call by a local name -/
abbrev KFi (K : PySem.W.Frag) (fi : Nat → Option Fi) : Prop := ∀ f i, fi f = some i → PySem.W.keepIn K (.ref i.a) = true
abbrev AFi (fa : Nat → Addr) (fi : Nat → Option Fi) (P : Prog) : Prop := ∀ f, f < P.fns.length → ∃ i, fi f = some i ∧ i.a = fa f
theorem calv_ok {i : Nat} (σ : L2.St) (H : Hp) (Q : VK) (q : tE t W (ev cx (.calv i Es)) σ H Q) : ∃ f, σ[i]? = some (some (.ref (t.fa f))) ∧ f < cx.P.fns.length ∧ tA t W (evs cx Es) σ H (fun vs H1 => spC t cx.call f vs H1 Q (WE W.w σ)) := by
  obtain ⟨μ, ρ, S, re, rs, q⟩ := q
  dsimp only [ev] at q
  split at q
  · rename_i f e
    split at q
    · rename_i hf
      obtain ⟨v, h1, h2⟩ := re.get i _ e
      cases h2
      refine ⟨f, h1, hf, μ, ρ, S, re, rs, (Aft.bind (r := evs cx Es ρ S) q).imp (fun ds S1 μ1 H1 e1 s1 k1 vs rv => ?_) fun _ _ _ _ _ _ z => z⟩
      exact ⟨t.xi, μ1, S1, ds, s1, rv, k1.imp (fun d S3 μ3 H3 e3 s3 z => z (e1.trans e3)) fun x S3 μ3 H3 e3 s3 z => z (e1.trans e3)⟩
    · exact q.elim
  · exact q.elim
theorem r_calv (h : Fc t cx N sc mg W fi k X) (kf : KFi t.K fi) (af : AFi t.fa fi cx.P) {i : Nat} {x : Str} (hN : N[i]? = some x) (hv : Vis sc x) (hd : ((x == ("__debug__" : Str)) || (x == ("__classdict__" : Str))) = false) (ha : VA t cx W X (a :: es) Es)
    (he : starEach (a :: es) X.env = (false, eval a X.env) :: starEach es X.env) (hpl : (backTo pos (starEach es X.env)).any (·.1) = false) : VE t cx W X (.Call (.Name x p) (a :: es) [] pos) (.calv i Es) := by
  rw [Bool.or_eq_false_iff] at hd
  refine ⟨fun pins s σ H Q I q => ?_⟩
  obtain ⟨f, h1, h2, q1⟩ := calv_ok σ H Q q
  obtain ⟨j, hj, ja⟩ := af f h2
  refine wpAny_Call_Name_kw (thn ((pe_var (pos := p) (by rw [h.nn]; exact hN) (by show Vis X.env.scope x; rw [h.ss]; exact hv) hd.1 hd.2).run pins s σ H (fun v H1 => v = .ref (t.fa f) ∧ H1 = H) I ⟨.ref (t.fa f), h1, rfl, rfl⟩) fun u s1 ⟨v, H1, I1, r1, q2⟩ => ?_)
  obtain ⟨rfl, rfl⟩ := q2
  cases r1
  have kp := kf f j hj
  rw [ja, ← h.kk] at kp
  refine PySem.W.callWith_K (h₀ := X.base) I.ok.mod.kin kp (thn (ha.run pos pins s1 σ _ _ I1 q1) fun us s2 ⟨vs, H2, I2, r, q⟩ => ⟨I2.kIn, ?_⟩) he hpl
  rw [← ja]
  exact h.run hj ja I2 r q
/-! sorted(set(..)) of ints -/
theorem insU_mem {x y : Int} : ∀ {xs : List Int}, y ∈ insU x xs ↔ y = x ∨ y ∈ xs
  | [] => by simp [insU]
  | z :: zs => by
    unfold insU
    split
    · simp
    · split
      · rename_i e; subst e; simp
      · simp [insU_mem (xs := zs)]; constructor <;> rintro (h | h | h) <;> simp [h]
theorem insU_lt {x : Int} : ∀ {xs : List Int}, xs.Pairwise (· < ·) → (insU x xs).Pairwise (· < ·)
  | [], _ => by simp [insU]
  | z :: zs, h => by
    obtain ⟨h1, h2⟩ := List.pairwise_cons.mp h
    unfold insU
    split
    · rename_i l
      refine List.pairwise_cons.mpr ⟨fun y hy => ?_, h⟩
      rcases List.mem_cons.mp hy with rfl | hy
      · exact l
      · have := h1 y hy; omega
    · split
      · exact h
      · refine List.pairwise_cons.mpr ⟨fun y hy => ?_, insU_lt h2⟩
        rcases insU_mem.mp hy with rfl | hy
        · omega
        · exact h1 y hy
theorem usort_mem {y : Int} : ∀ {xs : List Int}, y ∈ usort xs ↔ y ∈ xs
  | [] => by simp [usort]
  | x :: xs => by rw [usort, insU_mem, usort_mem]; simp
theorem usort_lt : ∀ xs : List Int, (usort xs).Pairwise (· < ·)
  | [] => .nil
  | x :: xs => insU_lt (usort_lt xs)
theorem usort_one {a b : List Int} (ha : a.Pairwise (· < ·)) (hb : b.Pairwise (· < ·)) (h : ∀ y, y ∈ a ↔ y ∈ b) : a = b := by
  have p : a.Perm b := (List.perm_ext_iff_of_nodup (ha.imp fun h => by omega) (hb.imp fun h => by omega)).mpr h
  exact List.Perm.eq_of_pairwise (fun x y _ _ h1 h2 => by omega) ha hb p
theorem usort_len : ∀ xs : List Int, (usort xs).length ≤ xs.length
  | [] => Nat.le_refl _
  | x :: xs => by
    have go : ∀ ys : List Int, (insU x ys).length ≤ ys.length + 1 := fun ys => by
      induction ys with
      | nil => simp [insU]
      | cons y ys ih =>
        unfold insU
        split
        · simp
        · split
          · simp
          · simp; omega
    have := go (usort xs)
    have := usort_len xs
    rw [usort, List.length_cons]
    omega
/-- set(x), x of ints -/
def rSetI (K : PySem.W.Frag) (w : World) : List V → Hp → VK → Prop := fun vs H Q => ∃ (l : Addr) (ns : List Int), vs = [V.ref l] ∧ (SqL K H l (ns.map V.int) ∨ SqT K H l (ns.map V.int)) ∧ ns.length < 64 ∧
  ∀ (a : Addr) (c : Nat), H a = none → c ≤ ns.length → Q (.ref a) (upd H a (SetO w a (fun j => decide (j ∈ ns)) c))
theorem cr_setI (hc : X.calm = true) : CallR X (.type "set") (rSetI X.K X.w) := by
  intro pins s σ H vs us Q I r ⟨l, ns, ev, hs, h64, q⟩
  subst ev
  rw [Vals.ref1 r]
  have few : ns.length + 1 < scanBound := by unfold scanBound; omega
  have fin : ∀ (g : Heap) (tk c : Nat), SetR X.w g s.heap.objs.size (fun j => decide (j ∈ ns)) c → c ≤ ns.length → (∀ b o, s.heap.get? b = some o → g.get? b = some o) → EP X pins σ Q (.ref s.heap.objs.size) { s with heap := g, toks := tk } := fun g tk c R le k =>
    ⟨.ref _, _, I.laid (t' := tk) k (Nat.le_refl _) (setO_new R), rfl, q _ c (I.hok.fresh (Nat.le_refl _)) le⟩
  rcases hs with hs | hs
  · obtain ⟨its, rv, hl, hz⟩ := I.list hs
    exact DnSet.set_list (I.ok.hd hc) hl.isList (by simpa using rv.ints) few fin
  · obtain ⟨its, rv, hl, hz⟩ := I.tuple hs
    exact call_set_tupI ns (I.ok.hd hc) hl (by simpa using rv.ints) few fin
theorem seq_intsD {S : Sto} {x : D} {xs : List D} {ns : List Int} (h : seqOf S x = some xs) (h2 : intsD xs = some ns) : (seqOf S x).bind intsD = some ns := by rw [h]; exact h2
theorem sset_ok {cell : Bool} (hK : X.K = t.K) (σ : L2.St) (H : Hp) (Q : VK) (q : tE t W (ev cx (.bi cell .sset Es)) σ H Q) : tA t W (evs cx Es) σ H fun vs H1 => rSetI X.K X.w vs H1 fun v H2 => rSortedSet X.w [v] H2 Q := by
  refine args_ok (cx := cx) (Es := Es) (op := fun ds S => bi cx cell .sset ds S) (r := fun vs H1 Q => rSetI X.K X.w vs H1 fun v H2 => rSortedSet X.w [v] H2 Q) (fun σ μ H S ds vs Q rs r hd k => ?_) σ H Q q
  obtain ⟨x, ys, rfl, e, k1⟩ := l1_of k
  obtain ⟨v, rfl, rx⟩ := r.one
  obtain ⟨ns, h1, h2⟩ := bind_of e
  obtain ⟨xs, h3, h4⟩ := bind_of h1
  split at h2
  · rename_i h64
    cases h2
    obtain ⟨a, us, rfl, hs, r2⟩ := seqOf_rd rs h3 rx
    rw [intsD_rd h4 r2] at hs
    refine ⟨a, ns, rfl, by rw [hK]; exact hs, h64, fun p c hp hc => ⟨p, _, c, rfl, upd_same, by omega, fun ms p2 hlt hm hlen hp2 => ?_⟩⟩
    have em : ms = usort ns := usort_one hlt (usort_lt ns) fun y => by rw [hm, usort_mem]; simp
    subst em
    have s2 := rs.fresh (o := SetO X.w p (fun j => decide (j ∈ ns)) c) hp
    have ex := Ext.fresh (μ := μ) (o := SetO X.w p (fun j => decide (j ∈ ns)) c) hp
    refine mkL_ok s2 hp2 (rd_ints _) (Aft.ext ex k1) ?_
    rw [List.length_map]
    have := usort_len ns
    show _ ≤ sizeLine
    rw [sizeLine_eq]
    omega
  · cases h2
theorem r_sset (h : Fc t cx N sc mg W fi k X) {cell : Bool} {p2 pos2 : Pos} (hg : sc.names.lookup ("sorted" : Str) = some .globalImplicit) (hm : mg ("sorted" : Str) = none) (hg2 : sc.names.lookup ("set" : Str) = some .globalImplicit) (hm2 : mg ("set" : Str) = none) (ha : VE t cx W X a ea)
    (hs : starEach [a] X.env = [(false, eval a X.env)]) (hs2 : starEach [Expr.Call (.Name "set" p2) [a] [] pos2] X.env = [(false, eval (.Call (.Name "set" p2) [a] [] pos2) X.env)]) :
    VE t cx W X (.Call (.Name "sorted" p) [.Call (.Name "set" p2) [a] [] pos2] [] pos) (.bi cell .sset [ea]) := by
  have inner : PE X (.Call (.Name "set" p2) [a] [] pos2) (tCB (rSetI X.K X.w) (tA t W (evs cx [ea]))) := pe_callTy (cr_setI h.calm) (h.gl hg2) (by rw [h.mm]; exact hm2) boot_set (r_cons ha r_nil hs) (by decide) (by decide +kernel) hs rfl
  refine PE.weak (pe_callB (cr_sortedSet h.calm) (h.gl hg) (by rw [h.mm]; exact hm) boot_sorted (pa_cons inner pa_nil hs2) (by decide) (by decide +kernel) hs2 rfl) fun σ H Q q => ?_
  exact sset_ok h.kk σ H Q q
end
end Dn
/-! Dn: op= of ints, reversed lists, texts of ints, ranges with a step, extend. -/
namespace Dn
open PySem L2 PyProof.Rows PySem.Spec -- names
section
variable {t : Tb} {cx : Dn.Cx} {N : List Str} {sc scope : Scope} {mg : Str → Option Value} {W : Wi} {fi : Nat → Option Fi} {k : Nat} {X : L2.Cx} {a b c o tg : Expr} {es elts : List Expr} {ea eb ec eo : E} {Es : List E} {pos p px apos tpos : Pos} {kk : Nat}
/-- x += e, of ints -/
theorem s_augAdd (h : Fe t cx N sc mg W X) {i : Nat} {x : Str} (hN : N[i]? = some x) (hx : Loc sc x) (hf : X.fn x = true ∨ sc.names.lookup x = some .local) (ha : VE t cx W X a ea) : VS t cx W X (.AugAssign (.Name x px) .Add a pos) (.aug i .add ea) := by
  refine PS.weak (ps_aug (i := i) (by rw [h.nn]; exact h.nd) (by rw [h.nn]; exact hN) (by show Loc X.env.scope x; rw [h.ss]; exact hx) ha ip_add (hf := by rw [h.ss]; exact hf)) fun D1 σ H q => ?_
  obtain ⟨μ, ρ, S, re, rs, q⟩ := q
  dsimp only [st] at q
  split at q
  · rename_i d e
    obtain ⟨v, h1, h2⟩ := re.get i d e
    refine ⟨v, h1, μ, ρ, S, re, rs, (Aft.stm (r := ev cx ea ρ S) q).imp (fun y S1 μ1 H1 e1 s1 k1 u ru => ?_) fun x S1 μ1 H1 e1 s1 z cls dd rx => z σ cls dd (re.ext e1) rx⟩
    unfold augop at k1
    split at k1
    · rename_i w hw
      split at hw
      · rename_i i1 i2
        cases hw
        cases h2
        cases ru
        refine ⟨i1, i2, rfl, rfl, ?_⟩
        exact k1.now s1 e1 _ ((re.ext e1).set i (d := .int (i1 + i2)) (v := .int (i1 + i2)) rfl)
      · cases hw
    · exact k1.elim
  · exact q.elim
/-- xs[::-1] -/
theorem r_rev (h : Fe t cx N sc mg W X) {kc : Nat} {p1 p2 p3 : Pos} (ha : VE t cx W X a ea) : VE t cx W X (.Subscript a (.Slice none none (some (.UnaryOp .USub (.Constant (.int 1) kc p1) p2)) p3) pos) (.rev ea) := by
  refine PE.weak (pe_revL ha) fun σ H Q q => ?_
  obtain ⟨μ, ρ, S, re, rs, q⟩ := q
  refine ⟨μ, ρ, S, re, rs, (Aft.bind (r := ev cx ea ρ S) q).imp (fun x S1 μ1 H1 e1 s1 k1 v rv => ?_) fun _ _ _ _ _ _ z => z⟩
  cases e : lsqOf S1 x with
  | none => rw [e] at k1; exact k1.elim
  | some xs =>
    rw [e] at k1
    obtain ⟨ad, vs, rfl, hs, r⟩ := lsq s1 e rv
    refine ⟨ad, vs, rfl, by rw [h.kk]; exact hs, fun p hp => ?_⟩
    have hl : xs.length ≤ sizeLine := seq_len s1 (lsq_seq e) rv
    have ex := Ext.fresh (μ := μ1) (o := .lst vs.reverse) hp
    exact k1 _ _ ex (s1.fresh hp) (e1.trans ex) _ (RD.newLst s1 hp r.reverse (by rw [List.length_reverse]; exact hl))
/-- str(an int) -/
theorem c_str (cx : Dn.Cx) (cell : Bool) : CallR X (.type "str") (rC t (bi cx cell .str)) := CallR.by fun vs H Q ⟨μ, S, ds, rs, r, h⟩ => by
  obtain ⟨d, e1, k⟩ := ofc (op := f1 fStr) rs h
  obtain ⟨x, rfl, e⟩ := f1_of e1
  obtain ⟨v, rfl, rx⟩ := r.one
  unfold fStr at e
  split at e
  · split at e
    · rename_i i hl
      cases e
      cases rx
      refine ⟨_, call_str_int, i, rfl, by omega, k μ H _ Ext.refl rs ⟨?_, fun c hc => ?_⟩⟩
      · show V.str (PySem.Str.ofString (toString i)) = _
        rw [PySem.Str.ofString_eq_toList]
        rfl
      · unfold intStr at hc
        obtain ⟨z, _, rfl⟩ := List.mem_map.mp hc
        have := z.valid
        rcases this with h | h
        · exact Nat.lt_trans h (by decide)
        · exact h.2
    · cases e
  · cases e
end
end Dn
namespace Dn
open PySem L2 PyProof.Rows PySem.Spec -- names
/-! facts about all defs of a program -/
def AllL (p : Nat → Nat → Prop) : List (Nat × Nat) → Prop
  | [] => True
  | x :: r => p x.1 x.2 ∧ AllL p r
theorem look_all {p : Nat → Nat → Prop} : ∀ {l : List (Nat × Nat)} {m f : Nat}, AllL p l → l.lookup m = some f → p m f
  | [], _, _, _, h => by simp at h
  | (a, b) :: r, m, f, h, e => by
    rw [List.lookup_cons] at e
    split at e
    · rename_i q
      cases e
      rw [beq_iff_eq.mp q]
      exact h.1
    · exact look_all h.2 e
theorem afi_of (fs : List Fi) (f : Nat) (hf : f < fs.length) : ∃ i, fiOf fs f = some i ∧ i.a = (fs.map (·.a)).getD f 0 := by
  refine ⟨fs[f], List.getElem?_eq_getElem hf, ?_⟩
  rw [List.getD_eq_getElem?_getD, List.getElem?_map, List.getElem?_eq_getElem hf]
  rfl
theorem mfi_of {P : Prog} {fa : Nat → Addr} {fi : Nat → Option Fi} (af : AFi fa fi P) (h : (P.cls.all fun cd => cd.meths.all fun p => decide (p.2 < P.fns.length)) = true) : MFi P fa fi := fun c cd m f h1 h2 => by
  have h3 := List.all_eq_true.mp (List.all_eq_true.mp h cd (List.mem_of_getElem? h1))
  have : ∀ {l : List (Nat × Nat)}, l.lookup m = some f → (m, f) ∈ l := fun {l} => by
    induction l with
    | nil => intro h; simp at h
    | cons x r ih =>
      intro h
      obtain ⟨a, b⟩ := x
      rw [List.lookup_cons] at h
      split at h
      · rename_i q
        cases h
        rw [beq_iff_eq.mp q]
        exact List.mem_cons_self
      · exact List.mem_cons_of_mem _ (ih h)
  exact af f (of_decide_eq_true (h3 _ (this h2)))
theorem efi_of {P : Prog} {fa : Nat → Addr} {fi : Nat → Option Fi} (af : AFi fa fi P) (h : (P.cls.all fun cd => (match cd.eq with | some f => decide (f < P.fns.length) | none => true) && (match cd.len with | some f => decide (f < P.fns.length) | none => true)) = true) : EFi P fa fi := fun c cd f h1 h2 => by
  have h3 := List.all_eq_true.mp h cd (List.mem_of_getElem? h1)
  rw [Bool.and_eq_true] at h3
  rcases h2 with h2 | h2
  · rw [h2] at h3
    exact af f (of_decide_eq_true h3.1)
  · rw [h2] at h3
    exact af f (of_decide_eq_true h3.2)
end Dn
/-! Dn: the evaluator's equations, for simp. -/
namespace Dn
section
variable (cx : Cx) (ρ : Env) (S : Sto)
@[simp] theorem ev_var (i : Nat) : ev cx (.var i) ρ S = (match ρ[i]? with | some (some d) => .ok d S | _ => .bad) := by first | (simp only [ev]; done) | (simp only [ev]; rfl)
@[simp] theorem ev_cst (d : D) : ev cx (.cst d) ρ S = .ok d S := by first | (simp only [ev]; done) | (simp only [ev]; rfl)
@[simp] theorem ev_tup (es : List E) : ev cx (.tup es) ρ S = (evs cx es ρ S).bind fun ds S => .ok (.tup ds) S := by first | (simp only [ev]; done) | (simp only [ev]; rfl)
@[simp] theorem ev_lst (c : Bool) (es : List E) : ev cx (.lst c es) ρ S = (evs cx es ρ S).bind fun ds S => mkL c ds S := by first | (simp only [ev]; done) | (simp only [ev]; rfl)
@[simp] theorem ev_bin (o : Bo) (a b : E) : ev cx (.bin o a b) ρ S = (ev cx a ρ S).bind fun x S => (ev cx b ρ S).bind fun y S => R.of (binop S o x y) S := by first | (simp only [ev]; done) | (simp only [ev]; rfl)
@[simp] theorem ev_neg (a : E) : ev cx (.neg a) ρ S = (ev cx a ρ S).bind fun x S => match x with | .int i => .ok (.int (-i)) S | _ => .bad := by first | (simp only [ev]; done) | (simp only [ev]; rfl)
@[simp] theorem ev_cmp (o : Co) (a b : E) : ev cx (.cmp o a b) ρ S = (ev cx a ρ S).bind fun x S => (ev cx b ρ S).bind fun y S => (R.of (cmpop S o x y) S).bind fun c S => .ok (.bl c) S := by first | (simp only [ev]; done) | (simp only [ev]; rfl)
@[simp] theorem ev_chain (o p : Co) (a b c : E) : ev cx (.chain o p a b c) ρ S = (ev cx a ρ S).bind fun x S => (ev cx b ρ S).bind fun y S => (R.of (cmpop S o x y) S).bind fun t S =>
      if t then (ev cx c ρ S).bind fun z S => (R.of (cmpop S p y z) S).bind fun t S => .ok (.bl t) S else .ok (.bl false) S := by first | (simp only [ev]; done) | (simp only [ev]; rfl)
@[simp] theorem ev_and (es : List E) : ev cx (.and es) ρ S = evAnd cx es ρ S := by first | (simp only [ev]; done) | (simp only [ev]; rfl)
@[simp] theorem ev_or (es : List E) : ev cx (.or es) ρ S = evOr cx es ρ S := by first | (simp only [ev]; done) | (simp only [ev]; rfl)
@[simp] theorem ev_not (a : E) : ev cx (.not a) ρ S = (ev cx a ρ S).bind fun x S => match x with | .bl b => .ok (.bl (!b)) S | _ => .bad := by first | (simp only [ev]; done) | (simp only [ev]; rfl)
@[simp] theorem ev_ite (t : Te) (a b : E) : ev cx (.ite t a b) ρ S = (evt cx t ρ S).bind fun c S => if c then ev cx a ρ S else ev cx b ρ S := by first | (simp only [ev]; done) | (simp only [ev]; rfl)
@[simp] theorem ev_idx (a b : E) : ev cx (.idx a b) ρ S = (ev cx a ρ S).bind fun x S => (ev cx b ρ S).bind fun y S => R.of (getI S x y) S := by first | (simp only [ev]; done) | (simp only [ev]; rfl)
@[simp] theorem ev_slc (c : Bool) (a : E) (l h : Option E) : ev cx (.slc c a l h) ρ S = (ev cx a ρ S).bind fun x S => (evo cx l ρ S).bind fun l S => (evo cx h ρ S).bind fun h S => opSl c x l h S := by first | (simp only [ev]; done) | (simp only [ev]; rfl)
@[simp] theorem ev_call (f : Nat) (es : List E) : ev cx (.call f es) ρ S = (evs cx es ρ S).bind fun ds S => cx.call f ds S := by first | (simp only [ev]; done) | (simp only [ev]; rfl)
@[simp] theorem ev_bi (c : Bool) (b : Bi) (es : List E) : ev cx (.bi c b es) ρ S = (evs cx es ρ S).bind fun ds S => bi cx c b ds S := by first | (simp only [ev]; done) | (simp only [ev]; rfl)
@[simp] theorem ev_bm (m : Bm) (o : E) (es : List E) : ev cx (.bm m o es) ρ S = (ev cx o ρ S).bind fun x S => if (refL S x).isSome then (evs cx es ρ S).bind fun ds S => bm m x ds S else .bad := by first | (simp only [ev]; done) | (simp only [ev]; rfl)
@[simp] theorem ev_isi (a : E) (ts : List Ty) : ev cx (.isi a ts) ρ S = (ev cx a ρ S).bind fun x S => (R.of (isTys cx.P S x ts) S).bind fun b S => .ok (.bl b) S := by first | (simp only [ev]; done) | (simp only [ev]; rfl)
/-- a comprehension's turn -/
def cturn (cx : Cx) (own : List Nat) (t : T) (cond : Option Te) (elt : E) (ρ : Env) (x : D) (S : Sto) : R (Option D) := match tgt t x (wipe ρ own) with
        | none => .bad
        | some ρ' => (evc cx cond ρ' S).bind fun c S => if c then (ev cx elt ρ' S).bind fun y S => .ok (some y) S else .ok none S
@[simp] theorem ev_comp (c : Bool) (own : List Nat) (t : T) (it : E) (cond : Option Te) (elt : E) : ev cx (.comp c own t it cond elt) ρ S = (src cx it ρ S).bind fun s S => (col (cturn cx own t cond elt ρ) s S).nox.bind fun ys S => mkL c ys S := by first | (simp only [ev]; done) | (simp only [ev]; rfl)
@[simp] theorem ev_repne (a b : E) : ev cx (.repne a b) ρ S = (ev cx a ρ S).bind fun x S1 => if reprOk (rdOf S1 x) then (ev cx b ρ S1).bind fun y S => if same (rdOf S1 x) (rdOf S y) then .ok (.bl false) S else .bad else .bad := by first | (simp only [ev]; done) | (simp only [ev]; rfl)
@[simp] theorem ev_exf (i f : Nat) : ev cx (.exf i f) ρ S = (match ρ[i]? with
    | some none => match cx.cur with
      | some x => match cx.P.xcs[x.c]? with
        | some xd => R.of (getId f xd.ids x.fs) S
        | none => .bad
      | none => .bad
    | _ => .bad) := by first | (simp only [ev]; done) | (simp only [ev]; rfl)
@[simp] theorem evs_nil : evs cx [] ρ S = .ok [] S := by first | (simp only [evs]; done) | (simp only [evs]; rfl)
@[simp] theorem evs_cons (e : E) (es : List E) : evs cx (e :: es) ρ S = (ev cx e ρ S).bind fun d S => (evs cx es ρ S).bind fun ds S => .ok (d :: ds) S := by first | (simp only [evs]; done) | (simp only [evs]; rfl)
@[simp] theorem evAnd_one (e : E) : evAnd cx [e] ρ S = ev cx e ρ S := by first | (simp only [evAnd]; done) | (simp only [evAnd]; rfl)
@[simp] theorem evAnd_cons (e f : E) (es : List E) : evAnd cx (e :: f :: es) ρ S = (ev cx e ρ S).bind fun x S => match x with | .bl b => if b then evAnd cx (f :: es) ρ S else .ok (.bl false) S | _ => .bad := by first | (rw [evAnd]; done) | (rw [evAnd]; rfl)
@[simp] theorem evOr_one (e : E) : evOr cx [e] ρ S = ev cx e ρ S := by first | (simp only [evOr]; done) | (simp only [evOr]; rfl)
@[simp] theorem evOr_cons (e f : E) (es : List E) : evOr cx (e :: f :: es) ρ S = (ev cx e ρ S).bind fun x S => match x with | .bl b => if b then .ok (.bl true) S else evOr cx (f :: es) ρ S | _ => .bad := by first | (rw [evOr]; done) | (rw [evOr]; rfl)
@[simp] theorem evo_none : evo cx none ρ S = .ok none S := by first | (simp only [evo]; done) | (simp only [evo]; rfl)
@[simp] theorem evo_some (e : E) : evo cx (some e) ρ S = (ev cx e ρ S).bind fun x S => match x with | .int i => .ok (some i) S | _ => .bad := by first | (simp only [evo]; done) | (simp only [evo]; rfl)
@[simp] theorem evc_none : evc cx none ρ S = .ok true S := by first | (simp only [evc]; done) | (simp only [evc]; rfl)
@[simp] theorem evc_some (e : Te) : evc cx (some e) ρ S = evt cx e ρ S := by first | (simp only [evc]; done) | (simp only [evc]; rfl)
@[simp] theorem evt_val (e : E) : evt cx (.val e) ρ S = tru (ev cx e ρ S) := by first | (simp only [evt]; done) | (simp only [evt]; rfl)
@[simp] theorem evt_and (ts : List Te) : evt cx (.and ts) ρ S = evtAnd cx ts ρ S := by first | (simp only [evt]; done) | (simp only [evt]; rfl)
@[simp] theorem evt_or (ts : List Te) : evt cx (.or ts) ρ S = evtOr cx ts ρ S := by first | (simp only [evt]; done) | (simp only [evt]; rfl)
@[simp] theorem evt_not (t : Te) : evt cx (.not t) ρ S = (evt cx t ρ S).bind fun b S => .ok (!b) S := by first | (simp only [evt]; done) | (simp only [evt]; rfl)
@[simp] theorem evtAnd_one (e : Te) : evtAnd cx [e] ρ S = evt cx e ρ S := by first | (simp only [evtAnd]; done) | (simp only [evtAnd]; rfl)
@[simp] theorem evtAnd_cons (e f : Te) (es : List Te) : evtAnd cx (e :: f :: es) ρ S = (evt cx e ρ S).bind fun b S => if b then evtAnd cx (f :: es) ρ S else .ok false S := by first | (rw [evtAnd]; done) | (rw [evtAnd]; rfl)
@[simp] theorem evtOr_one (e : Te) : evtOr cx [e] ρ S = evt cx e ρ S := by first | (simp only [evtOr]; done) | (simp only [evtOr]; rfl)
@[simp] theorem evtOr_cons (e f : Te) (es : List Te) : evtOr cx (e :: f :: es) ρ S = (evt cx e ρ S).bind fun b S => if b then .ok true S else evtOr cx (f :: es) ρ S := by first | (rw [evtOr]; done) | (rw [evtOr]; rfl)
@[simp] theorem src_bi (c : Bool) (b : Bi) (es : List E) : src cx (.bi c b es) ρ S = (evs cx es ρ S).bind fun ds S => R.of ((rng b ds).map .vals) S := by first | (simp only [src]; done) | (simp only [src]; rfl)
@[simp] theorem src_val (a : E) : src cx (.val a) ρ S = (ev cx a ρ S).bind fun x S => R.of (srcOf S x) S := by first | (simp only [src]; done) | (simp only [src]; rfl)
@[simp] theorem src_enum (a : E) : src cx (.enum a) ρ S = (ev cx a ρ S).bind fun x S => R.of (enumOf S x) S := by first | (simp only [src]; done) | (simp only [src]; rfl)
@[simp] theorem src_zip (a b : E) : src cx (.zip a b) ρ S = (ev cx a ρ S).bind fun x S => (ev cx b ρ S).bind fun y S => R.of (zipOf S x y) S := by first | (simp only [src]; done) | (simp only [src]; rfl)
/-! statements -/
@[simp] theorem st_asg (t : T) (e : E) : st (.asg t e) cx ρ S = (ev cx e ρ S).stm ρ fun d S => match tgt t d ρ with | some ρ' => .ok (.nx ρ') S | none => .bad := by first | (simp only [st]; done) | (simp only [st]; rfl)
@[simp] theorem st_setI (o i e : E) : st (.setI o i e) cx ρ S = (ev cx e ρ S).stm ρ fun v S => (ev cx o ρ S).stm ρ fun x S => (ev cx i ρ S).stm ρ fun y S => match setI S x y v with | some S' => .ok (.nx ρ) S' | none => .bad := by first | (simp only [st]; done) | (simp only [st]; rfl)
@[simp] theorem st_exp (e : E) : st (.exp e) cx ρ S = (ev cx e ρ S).stm ρ fun _ S => .ok (.nx ρ) S := by first | (simp only [st]; done) | (simp only [st]; rfl)
@[simp] theorem st_ite (t : Te) (a b : List St) : st (.ite t a b) cx ρ S = (evt cx t ρ S).stm ρ fun c S => if c then sts a cx ρ S else sts b cx ρ S := by first | (simp only [st]; done) | (simp only [st]; rfl)
/-- a loop's body -/
def turn (cx : Cx) (t : T) (b : List St) (x : D) (ρ : Env) (S : Sto) : R Fl := match tgt t x ρ with
    | none => .bad
    | some ρ => sts b cx ρ S
/-- a block, as a loop runs it -/
def blkS (b : List St) (cx : Cx) (ρ : Env) (S : Sto) : R Fl := sts b cx ρ S
@[simp] theorem st_whl (t : Te) (b : List St) : st (.whl t b) cx ρ S = whl (evt cx t) (blkS b cx) cx.w ρ S := by first | (simp only [st]; done) | (simp only [st]; rfl)
@[simp] theorem st_for (t : T) (it : E) (b : List St) : st (.for t it b) cx ρ S = (src cx it ρ S).stm ρ fun s S => forS (turn cx t b) s ρ S := by first | (simp only [st]; done) | (simp only [st]; rfl)
@[simp] theorem st_ret (e : E) : st (.ret e) cx ρ S = (ev cx e ρ S).stm ρ fun d S => .ok (.rt d) S := by first | (simp only [st]; done) | (simp only [st]; rfl)
@[simp] theorem st_retN : st .retN cx ρ S = .ok (.rt .non) S := by first | (simp only [st]; done) | (simp only [st]; rfl)
@[simp] theorem st_rais (c : Nat) (es : List E) : st (.rais c es) cx ρ S = (evs cx es ρ S).stm ρ fun ds S => match cx.P.xcs[c]? with
    | some xd => if ds.length = xd.ids.length then .ok (.xc ⟨c, ds⟩ ρ) S else .bad
    | none => .bad := by first | (simp only [st]; done) | (simp only [st]; rfl)
/-- behind a try's body -/
def aft (hs : List Hd) (cx : Cx) (r : Fl) (S : Sto) : R Fl := match r with
    | .xc x ρ' => han hs cx x ρ' S
    | r => .ok r S
@[simp] theorem st_tri (b : List St) (hs : List Hd) : st (.tri b hs) cx ρ S = (sts b cx ρ S).bind fun r S => aft hs cx r S := by first | (simp only [st]; done) | (simp only [st]; rfl)
@[simp] theorem aft_xc (hs : List Hd) (x : Xn) : aft hs cx (.xc x ρ) S = han hs cx x ρ S := rfl
@[simp] theorem aft_nx (hs : List Hd) : aft hs cx (.nx ρ) S = .ok (.nx ρ) S := rfl
@[simp] theorem aft_rt (hs : List Hd) (d : D) : aft hs cx (.rt d) S = .ok (.rt d) S := rfl
@[simp] theorem han_nil (x : Xn) : han [] cx x ρ S = .ok (.xc x ρ) S := by first | (simp only [han]; done) | (simp only [han]; rfl)
/-- behind a clause's suite -/
def suf (n : Option Nat) (r : Fl) (S : Sto) : R Fl := match r with
        | .nx ρ => .ok (.nx (unO n ρ)) S
        | .bk ρ => .ok (.bk (unO n ρ)) S
        | .ct ρ => .ok (.ct (unO n ρ)) S
        | .rt d => .ok (.rt d) S
        | .xc _ _ => .bad
theorem han_cons {c : Nat} {n : Option Nat} {b : List St} {hs : List Hd} {x : Xn} {xd : XD} (h : cx.P.xcs[x.c]? = some xd) : han (.mk c n b :: hs) cx x ρ S = if xd.sup.contains c then (sts b { cx with cur := some x } (unO n ρ) S).bind fun r S => suf n r S else han hs cx x ρ S := by
  rw [han, h]
  rfl
@[simp] theorem suf_nx (n : Option Nat) : suf n (.nx ρ) S = .ok (.nx (unO n ρ)) S := rfl
@[simp] theorem suf_rt (n : Option Nat) (d : D) : suf n (.rt d) S = .ok (.rt d) S := rfl
@[simp] theorem unO_some (i : Nat) : unO (some i) ρ = ρ.set i none := rfl
@[simp] theorem st_pass : st .pass cx ρ S = .ok (.nx ρ) S := by first | (simp only [st]; done) | (simp only [st]; rfl)
@[simp] theorem st_brk : st .brk cx ρ S = .ok (.bk ρ) S := by first | (simp only [st]; done) | (simp only [st]; rfl)
@[simp] theorem st_cnt : st .cnt cx ρ S = .ok (.ct ρ) S := by first | (simp only [st]; done) | (simp only [st]; rfl)
/-- the statements behind -/
def thn (ss : List St) (cx : Cx) (r : Fl) (S : Sto) : R Fl := match r with
    | .nx ρ => sts ss cx ρ S
    | r => .ok r S
@[simp] theorem sts_nil : sts [] cx ρ S = .ok (.nx ρ) S := by first | (simp only [sts]; done) | (simp only [sts]; rfl)
@[simp] theorem sts_cons (s : St) (ss : List St) : sts (s :: ss) cx ρ S = (st s cx ρ S).bind fun r S => thn ss cx r S := by first | (simp only [sts]; done) | (simp only [sts]; rfl)
@[simp] theorem thn_nx (ss : List St) : thn ss cx (.nx ρ) S = sts ss cx ρ S := rfl
@[simp] theorem thn_rt (ss : List St) (d : D) : thn ss cx (.rt d) S = .ok (.rt d) S := rfl
@[simp] theorem thn_bk (ss : List St) : thn ss cx (.bk ρ) S = .ok (.bk ρ) S := rfl
@[simp] theorem thn_ct (ss : List St) : thn ss cx (.ct ρ) S = .ok (.ct ρ) S := rfl
@[simp] theorem thn_xc (ss : List St) (x : Xn) : thn ss cx (.xc x ρ) S = .ok (.xc x ρ) S := rfl
end
theorem whl_go {t : Env → Sto → R Bool} {b : Env → Sto → R Fl} {n : Nat} {ρ ρ' : Env} {S S1 S2 : Sto} (h1 : t ρ S = .ok true S1) (h2 : b ρ S1 = .ok (.nx ρ') S2) : whl t b (n + 1) ρ S = whl t b n ρ' S2 := by
  rw [whl, h1, R.stm_ok, if_pos rfl, h2]; rfl
theorem whl_end {t : Env → Sto → R Bool} {b : Env → Sto → R Fl} {n : Nat} {ρ : Env} {S S1 : Sto} (h1 : t ρ S = .ok false S1) : whl t b (n + 1) ρ S = .ok (.nx ρ) S1 := by
  rw [whl, h1, R.stm_ok, if_neg (by decide)]
@[simp] theorem env_0 (x : Option D) (ρ : Env) : (x :: ρ)[0]? = some x := rfl
/-! if over results -/
@[simp] theorem R.bind_ite {α β : Type} (p : Prop) [Decidable p] (a b : R α) (f : α → Sto → R β) : (if p then a else b).bind f = if p then a.bind f else b.bind f := by split <;> rfl
@[simp] theorem R.stm_ite {α : Type} (p : Prop) [Decidable p] (a b : R α) (ρ : Env) (f : α → Sto → R Fl) : (if p then a else b).stm ρ f = if p then a.stm ρ f else b.stm ρ f := by split <;> rfl
@[simp] theorem tru_bl (b : Bool) (S : Sto) : tru (.ok (.bl b) S) = .ok b S := rfl
@[simp] theorem tru_ok (d : D) (S : Sto) : tru (.ok d S) = R.of (truth S d) S := rfl
/-- a call's end, where the answer holds no cell of its own -/
theorem fin_same {n : Nat} {d : D} {S : Sto} (hd : lt n d = true) (hn : S.length = n) : fin n d S = .ok d S := by
  unfold fin frz2
  rw [if_pos hd]
  have : S.take n = S := by rw [← hn, List.take_length]
  rw [this]
  split <;> rfl

/-! operators on what is known -/
section
variable (S : Sto)
@[simp] theorem op_add (i j : Int) : binop S .add (.int i) (.int j) = some (.int (i + j)) := rfl
@[simp] theorem op_sub (i j : Int) : binop S .sub (.int i) (.int j) = some (.int (i - j)) := rfl
theorem mulOk_l {i j : Int} (h1 : -18446744073709551616 < i) (h2 : i < 18446744073709551616) : mulOk i j = true := by
  rw [mulOk_eq]; rw [decide_eq_true ⟨h1, h2⟩]; rfl
theorem mulOk_r {i j : Int} (h1 : -18446744073709551616 < j) (h2 : j < 18446744073709551616) : mulOk i j = true := by
  rw [mulOk_eq]; rw [decide_eq_true (p := -18446744073709551616 < j ∧ j < 18446744073709551616) ⟨h1, h2⟩, Bool.or_true]; rfl
@[simp] theorem op_mul_l {i j : Int} (h1 : -18446744073709551616 < i) (h2 : i < 18446744073709551616) : binop S .mul (.int i) (.int j) = some (.int (i * j)) := by
  show (if mulOk i j then some (D.int (i * j)) else none) = _
  rw [mulOk_l h1 h2]; rfl
@[simp] theorem op_mul_r {i j : Int} (h1 : -18446744073709551616 < j) (h2 : j < 18446744073709551616) : binop S .mul (.int i) (.int j) = some (.int (i * j)) := by
  show (if mulOk i j then some (D.int (i * j)) else none) = _
  rw [mulOk_r h1 h2]; rfl
theorem divOk_of {j : Int} (h1 : 0 < j) (h2 : j < 1073741824) : divOk j = true := by
  rw [divOk_eq]; rw [decide_eq_true h1, decide_eq_true h2]; rfl
@[simp] theorem op_div {i j : Int} (h1 : 0 < j) (h2 : j < 1073741824) : binop S .fdiv (.int i) (.int j) = some (.int (i / j)) := by
  show (if divOk j then some (D.int (i / j)) else none) = _
  rw [divOk_of h1 h2]; rfl
@[simp] theorem op_mod {i j : Int} (h1 : 0 < j) : binop S .mod (.int i) (.int j) = some (.int (i % j)) := by
  show (if 0 < j then some (D.int (i % j)) else none) = _
  rw [if_pos h1]
@[simp] theorem cm_lt (i j : Int) : cmpop S .lt (.int i) (.int j) = some (decide (i < j)) := rfl
@[simp] theorem cm_gt (i j : Int) : cmpop S .gt (.int i) (.int j) = some (decide (j < i)) := rfl
@[simp] theorem cm_le (i j : Int) : cmpop S .le (.int i) (.int j) = some (decide (i ≤ j)) := rfl
@[simp] theorem cm_ge (i j : Int) : cmpop S .ge (.int i) (.int j) = some (decide (j ≤ i)) := rfl
@[simp] theorem cm_eq (i j : Int) : cmpop S .eq (.int i) (.int j) = some (decide (i = j)) := rfl
@[simp] theorem cm_ne (i j : Int) : cmpop S .ne (.int i) (.int j) = some (!decide (i = j)) := rfl
@[simp] theorem cm_eqb (a b : Bool) : cmpop S .eq (.bl a) (.bl b) = some (a == b) := rfl
@[simp] theorem cm_neb (a b : Bool) : cmpop S .ne (.bl a) (.bl b) = some (!(a == b)) := rfl
@[simp] theorem get_tup (xs : List D) (i : Int) : getI S (.tup xs) (.int i) = atI xs i := rfl
@[simp] theorem get_lst (xs : List D) (i : Int) : getI S (.lst xs) (.int i) = atI xs i := rfl
@[simp] theorem get_scr (xs : List D) (i : Int) : getI S (.scr xs) (.int i) = atI xs i := rfl
theorem get_ref {l : Nat} {xs : List D} (i : Int) (h : S[l]? = some (.lst xs)) : getI S (.ref l) (.int i) = atI xs i := by
  show (match S[l]? with | some (.dic ks vs) => none | some (.lst xs) => atI xs i | _ => none) = _
  rw [h]
theorem at_nat {α : Type} {xs : List α} {i : Nat} (h : i < xs.length) : atI xs (i : Int) = some xs[i] := by
  unfold atI ixN
  rw [if_pos (by omega), if_pos (by omega)]
  simp [h]
@[simp] theorem at_0 {α : Type} (x : α) (xs : List α) : atI (x :: xs) 0 = some x := by
  have := at_nat (xs := x :: xs) (i := 0) (by simp); simpa using this
@[simp] theorem at_1 {α : Type} (x y : α) (xs : List α) : atI (x :: y :: xs) 1 = some y := by
  have := at_nat (xs := x :: y :: xs) (i := 1) (by simp); simpa using this
@[simp] theorem at_2 {α : Type} (x y z : α) (xs : List α) : atI (x :: y :: z :: xs) 2 = some z := by
  have := at_nat (xs := x :: y :: z :: xs) (i := 2) (by simp); simpa using this
@[simp] theorem at_3 {α : Type} (x y z u : α) (xs : List α) : atI (x :: y :: z :: u :: xs) 3 = some u := by
  have := at_nat (xs := x :: y :: z :: u :: xs) (i := 3) (by simp); simpa using this
@[simp] theorem at_4 {α : Type} (x y z u v : α) (xs : List α) : atI (x :: y :: z :: u :: v :: xs) 4 = some v := by
  have := at_nat (xs := x :: y :: z :: u :: v :: xs) (i := 4) (by simp); simpa using this
@[simp] theorem tgt_var (i : Nat) (d : D) (ρ : Env) : tgt (.var i) d ρ = some (ρ.set i (some d)) := by simp only [tgt]
@[simp] theorem tgt_tup (ts : List T) (ds : List D) (ρ : Env) : tgt (.tup ts) (.tup ds) ρ = tgts ts ds ρ := by simp only [tgt]
@[simp] theorem tgts_nil (ρ : Env) : tgts [] [] ρ = some ρ := by simp only [tgts]
@[simp] theorem tgts_cons (t : T) (ts : List T) (d : D) (ds : List D) (ρ : Env) : tgts (t :: ts) (d :: ds) ρ = (tgt t d ρ).bind fun ρ => tgts ts ds ρ := by simp only [tgts]
@[simp] theorem bi_abs (cx : Cx) (c : Bool) (i : Int) : bi cx c .abs [.int i] S = .ok (.int (i.natAbs : Int)) S := by
  show R.ok (D.int (if i < 0 then -i else i)) S = _
  congr 2
  split <;> omega
@[simp] theorem bi_int (cx : Cx) (c : Bool) (i : Int) : bi cx c .int [.int i] S = .ok (.int i) S := rfl
@[simp] theorem bi_len_tup (cx : Cx) (c : Bool) (xs : List D) : bi cx c .len [.tup xs] S = .ok (.int xs.length) S := rfl
@[simp] theorem bi_len_lst (cx : Cx) (c : Bool) (xs : List D) : bi cx c .len [.lst xs] S = .ok (.int xs.length) S := rfl
@[simp] theorem bi_len_scr (cx : Cx) (c : Bool) (xs : List D) : bi cx c .len [.scr xs] S = .ok (.int xs.length) S := rfl
theorem bi_len_ref (cx : Cx) (c : Bool) {l : Nat} {xs : List D} (h : S[l]? = some (.lst xs)) : bi cx c .len [.ref l] S = .ok (.int xs.length) S := by
  show R.of ((match S[l]? with | some (.lst xs) => some (xs.length : Int) | some (.dic ks _) => some (ks.length : Int) | _ => none).map D.int) S = _
  rw [h]; rfl
@[simp] theorem bi_max2 (cx : Cx) (c : Bool) (i j : Int) : bi cx c .max2 [.int i, .int j] S = .ok (.int (max i j)) S := by
  show R.ok (D.int (if i < j then j else i)) S = _
  congr 2
  split <;> omega
@[simp] theorem bi_min2 (cx : Cx) (c : Bool) (i j : Int) : bi cx c .min2 [.int i, .int j] S = .ok (.int (min i j)) S := by
  show R.ok (D.int (if j < i then j else i)) S = _
  congr 2
  split <;> omega
@[simp] theorem isi_int (P : Prog) (i : Int) (ts : List Ty) : isTys P S (.int i) ts = some (ts.any (subK (.ty .int))) := rfl
@[simp] theorem isi_bl (P : Prog) (b : Bool) (ts : List Ty) : isTys P S (.bl b) ts = some (ts.any (subK (.ty .bool))) := rfl
@[simp] theorem isi_tup (P : Prog) (xs : List D) (ts : List Ty) : isTys P S (.tup xs) ts = some (ts.any (subK (.ty .tuple))) := rfl
@[simp] theorem isi_lst (P : Prog) (xs : List D) (ts : List Ty) : isTys P S (.lst xs) ts = some (ts.any (subK (.ty .list))) := rfl
@[simp] theorem isi_str (P : Prog) (xs : List Nat) (ts : List Ty) : isTys P S (.str xs) ts = some (ts.any (subK (.ty .str))) := rfl
@[simp] theorem isi_non (P : Prog) (ts : List Ty) : isTys P S .non ts = some (ts.any (subK .non)) := rfl
@[simp] theorem isn_non (x : D) : cmpop S .isn x .non = some (cNon x) := rfl
@[simp] theorem notn_non (x : D) : cmpop S .notn x .non = some (!cNon x) := rfl
@[simp] theorem cNon_int (i : Int) : cNon (.int i) = false := rfl
@[simp] theorem cNon_bl (i : Bool) : cNon (.bl i) = false := rfl
@[simp] theorem cNon_str (i : List Nat) : cNon (.str i) = false := rfl
@[simp] theorem cNon_tup (i : List D) : cNon (.tup i) = false := rfl
@[simp] theorem cNon_lst (i : List D) : cNon (.lst i) = false := rfl
@[simp] theorem cNon_non : cNon .non = true := rfl
@[simp] theorem mkL_f (xs : List D) : mkL false xs S = .ok (.lst xs) S := rfl
@[simp] theorem mkL_t (xs : List D) : mkL true xs S = .ok (.ref S.length) (S ++ [.lst xs]) := rfl
@[simp] theorem tr_bl (b : Bool) : truth S (.bl b) = some b := rfl
@[simp] theorem tr_int (i : Int) : truth S (.int i) = some (i != 0) := rfl
@[simp] theorem tr_non : truth S .non = some false := rfl
@[simp] theorem tr_lst (xs : List D) : truth S (.lst xs) = some (!xs.isEmpty) := rfl
@[simp] theorem tr_tup (xs : List D) : truth S (.tup xs) = some (!xs.isEmpty) := rfl
@[simp] theorem src_lst (xs : List D) : srcOf S (.lst xs) = some (.vals xs) := rfl
@[simp] theorem src_tup (xs : List D) : srcOf S (.tup xs) = some (.vals xs) := rfl
@[simp] theorem src_scr (xs : List D) : srcOf S (.scr xs) = some (.vals xs) := rfl
end
/-! a def's run -/
def endF (n : Nat) (r : R Fl) : R D := match r with
  | .ok r S' => match r with
    | .rt d => fin n d S'
    | .nx _ => fin n .non S'
    | .xc x _ => finX n x S'
    | _ => .bad
  | _ => .bad
theorem callF_at {P : Prog} {w n f : Nat} {fd : FD} {args : List D} {S : Sto} (h : P.fns[f]? = some fd) (hl : args.length = fd.np) :
    callF P w (n + 1) f args S = endF S.length (sts fd.body ⟨P, callF P w n, w, none⟩ (args.map some ++ List.replicate (fd.nv - args.length) none) S) := by
  unfold callF
  rw [h]
  show (if args.length = fd.np then runF P (callF P w n) w fd args S else .bad) = _
  rw [if_pos hl]
  rfl
@[simp] theorem endF_rt (n : Nat) (d : D) (S : Sto) : endF n (.ok (.rt d) S) = fin n d S := rfl
@[simp] theorem endF_nx (n : Nat) (ρ : Env) (S : Sto) : endF n (.ok (.nx ρ) S) = fin n .non S := rfl
@[simp] theorem endF_xc (n : Nat) (x : Xn) (ρ : Env) (S : Sto) : endF n (.ok (.xc x ρ) S) = finX n x S := rfl
@[simp] theorem endF_ite (n : Nat) (p : Prop) [Decidable p] (a b : R Fl) : endF n (if p then a else b) = if p then endF n a else endF n b := by split <;> rfl
@[simp] theorem fin_int (i : Int) (S : Sto) : fin S.length (.int i) S = .ok (.int i) S := fin_same rfl rfl
@[simp] theorem fin_bl (i : Bool) (S : Sto) : fin S.length (.bl i) S = .ok (.bl i) S := fin_same rfl rfl
@[simp] theorem fin_non (S : Sto) : fin S.length .non S = .ok .non S := fin_same rfl rfl
@[simp] theorem fin_str (s : List Nat) (S : Sto) : fin S.length (.str s) S = .ok (.str s) S := fin_same rfl rfl
@[simp] theorem fin_tup {xs : List D} {S : Sto} (h : lts S.length xs = true) : fin S.length (.tup xs) S = .ok (.tup xs) S := fin_same (by simpa [lt] using h) rfl
@[simp] theorem fin_lst {xs : List D} {S : Sto} (h : lts S.length xs = true) : fin S.length (.lst xs) S = .ok (.lst xs) S := fin_same (by simpa [lt] using h) rfl
@[simp] theorem lts_nil (n : Nat) : lts n [] = true := by simp [lts]
@[simp] theorem lts_cons (n : Nat) (x : D) (xs : List D) : lts n (x :: xs) = (lt n x && lts n xs) := by simp [lts]
@[simp] theorem lt_int (n : Nat) (i : Int) : lt n (.int i) = true := by simp [lt]
@[simp] theorem lt_bl (n : Nat) (i : Bool) : lt n (.bl i) = true := by simp [lt]
@[simp] theorem lt_str (n : Nat) (i : List Nat) : lt n (.str i) = true := by simp [lt]
@[simp] theorem lt_non (n : Nat) : lt n .non = true := by simp [lt]
@[simp] theorem lt_tup (n : Nat) (xs : List D) : lt n (.tup xs) = lts n xs := by simp [lt]
@[simp] theorem lt_lst (n : Nat) (xs : List D) : lt n (.lst xs) = lts n xs := by simp [lt]
@[simp] theorem lt_scr (n : Nat) (xs : List D) : lt n (.scr xs) = lts n xs := by simp [lt]
@[simp] theorem lts_ints (n : Nat) (xs : List Int) : lts n (xs.map .int) = true := by
  induction xs with
  | nil => simp [lts]
  | cons x xs ih => simp [ih]
end Dn
/-! Dn: loops over known values; the functions that all the laws share. -/
namespace Dn
/-- a call's end where the cells ahead of it hold no new cell -/
theorem fin_back {n : Nat} {d : D} {S S' : Sto} (hd : lt n d = true) (ht : S'.take n = S) (h : S.all (LO.lt n) = true) : fin n d S' = .ok d S := by
  unfold fin frz2
  rw [ht, if_pos h, if_pos hd]
/-- a loop by its states -/
theorem forV_run {f : D → Env → Sto → R Fl} : ∀ (xs : List D) (e : Nat → Env) (s : Nat → Sto), (∀ i (h : i < xs.length), f xs[i] (e i) (s i) = .ok (.nx (e (i + 1))) (s (i + 1))) → forV f xs (e 0) (s 0) = .ok (.nx (e xs.length)) (s xs.length)
  | [], e, s, h => rfl
  | x :: xs, e, s, h => by
    have h0 := h 0 (by simp)
    simp only [List.getElem_cons_zero] at h0
    rw [forV, h0]
    simp only [R.bind_ok]
    exact forV_run xs (fun i => e (i + 1)) (fun i => s (i + 1)) fun i hi => by
      have := h (i + 1) (by simp; omega)
      simpa using this
/-- a comprehension that asks nothing of the store -/
theorem colV_pure {f : D → Sto → R (Option D)} {S : Sto} {g : D → Option D} : ∀ xs : List D, (∀ x ∈ xs, f x S = .ok (g x) S) → colV f xs S = .ok (xs.filterMap g) S
  | [], h => rfl
  | x :: xs, h => by
    rw [colV, h x List.mem_cons_self]
    simp only [R.bind_ok]
    rw [colV_pure xs fun y hy => h y (List.mem_cons_of_mem _ hy)]
    simp only [R.bind_ok, List.filterMap_cons]
    cases g x <;> rfl
/-- with states -/
theorem colV_run {f : D → Sto → R (Option D)} : ∀ (xs : List D) (g : Nat → Option D) (s : Nat → Sto), (∀ i (h : i < xs.length), f xs[i] (s i) = .ok (g i) (s (i + 1))) → colV f xs (s 0) = .ok ((List.range xs.length).filterMap g) (s xs.length)
  | [], g, s, h => rfl
  | x :: xs, g, s, h => by
    have h0 := h 0 (by simp)
    simp only [List.getElem_cons_zero] at h0
    rw [colV, h0]
    simp only [R.bind_ok]
    rw [colV_run xs (fun i => g (i + 1)) (fun i => s (i + 1)) fun i hi => by
      have := h (i + 1) (by simp; omega)
      simpa using this]
    simp only [R.bind_ok, List.length_cons, List.range_succ_eq_map, List.filterMap_cons, List.filterMap_map, Function.comp_def, Nat.succ_eq_add_one]
    cases g 0 <;> rfl
/-- over a cell that nothing changes -/
theorem colC_pure {f : D → Sto → R (Option D)} {S : Sto} {l : Nat} {xs : List D} {g : D → Option D} (hl : S[l]? = some (.lst xs)) (h : ∀ x ∈ xs, f x S = .ok (g x) S) : ∀ k, k ≤ xs.length → colC f false l xs.length k S = .ok ((xs.drop (xs.length - k)).filterMap g) S
  | 0, _ => by
    rw [colC, hl]
    simp
  | k + 1, hk => by
    have hi : xs.length - (k + 1) < xs.length := by omega
    rw [colC, hl]
    dsimp only
    rw [List.getElem?_eq_getElem hi]
    dsimp only
    have e : itm false (xs.length - (k + 1)) xs[xs.length - (k + 1)] = xs[xs.length - (k + 1)] := rfl
    rw [e, h _ (List.getElem_mem hi), R.bind_ok, colC_pure hl h k (by omega), R.bind_ok, List.drop_eq_getElem_cons hi, List.filterMap_cons, show xs.length - (k + 1) + 1 = xs.length - k by omega]
    cases g xs[xs.length - (k + 1)] <;> rfl
theorem col_cell {f : D → Sto → R (Option D)} {S : Sto} {l : Nat} {xs : List D} {g : D → Option D} (hl : S[l]? = some (.lst xs)) (h : ∀ x ∈ xs, f x S = .ok (g x) S) : col f (.cell false l xs.length) S = .ok (xs.filterMap g) S := by
  have := colC_pure hl h xs.length (Nat.le_refl _)
  rw [Nat.sub_self, List.drop_zero] at this
  exact this
theorem src_ref {S : Sto} {l : Nat} {xs : List D} (hl : S[l]? = some (.lst xs)) : srcOf S (.ref l) = some (.cell false l xs.length) := by
  show (match S[l]? with | some (.lst xs) => some (Src.cell false l xs.length) | _ => none) = _
  rw [hl]
theorem refL_at {S : Sto} {l : Nat} {xs : List D} (hl : S[l]? = some (.lst xs)) : refL S (.ref l) = some (l, xs) := by
  show (match S[l]? with | some (.lst xs) => some (l, xs) | _ => none) = _
  rw [hl]
theorem line_is : line = 16777216 := rfl
theorem bm_insert {S : Sto} {l : Nat} {xs : List D} {k : Nat} {x : D} (hl : S[l]? = some (.lst xs)) (h : xs.length < 16777216) (hk : k ≤ xs.length) : bm .insert (.ref l) [.int k, x] S = .ok .non (setL S l (xs.take k ++ [x] ++ xs.drop k)) := by
  show bInsert (.ref l) [.int k, x] S = _
  unfold bInsert
  rw [refL_at hl]
  dsimp only
  rw [if_pos ⟨by rw [line_is]; exact h, by omega, by omega⟩]
  rfl
theorem rangeD_get {a b : Int} {i : Nat} (h : i < (rangeD a b).length) : (rangeD a b)[i] = .int (a + (i : Nat)) := by
  unfold rangeD at h ⊢
  simp
theorem rangeD_len (a b : Int) : (rangeD a b).length = (b - a).toNat := by unfold rangeD; simp
@[simp] theorem rng_1 {n : Int} (h1 : -4611686018427387904 ≤ n) (h2 : n ≤ 16777216) : rng .range1 [.int n] = some (rangeD 0 n) := by
  show (if rgOk n && leI n 16777216 then some (rangeD 0 n) else none) = _
  rw [if_pos]
  rw [rgOk_eq, leI_eq]
  simp
  omega
@[simp] theorem rng_2 {a n : Int} (h1 : -4611686018427387904 ≤ a) (h2 : a < 4611686018427387904) (h3 : -4611686018427387904 ≤ n) (h4 : n < 4611686018427387904) (h5 : n - a ≤ 16777216) : rng .range2 [.int a, .int n] = some (rangeD a n) := by
  show (if rgOk a && rgOk n && leI (n - a) 16777216 then some (rangeD a n) else none) = _
  rw [if_pos]
  rw [rgOk_eq, rgOk_eq, leI_eq]
  simp
  omega
@[simp] theorem forS_vals (f : D → Env → Sto → R Fl) (xs : List D) (ρ : Env) (S : Sto) : forS f (.vals xs) ρ S = forV f xs ρ S := rfl
@[simp] theorem col_vals (f : D → Sto → R (Option D)) (xs : List D) (S : Sto) : col f (.vals xs) S = colV f xs S := rfl

/-! ### row[..] of a law -/
def rowD (ns : List Int) (p s c : Int) : List D := [.scr (ns.map .int), .int p, .int s, .int c]
def takenB : List St :=
  [(.ite (.val (.cmp .gt (.idx (.var 0) (.cst (.int 3))) (.cst (.int 0)))) [(.asg (.var 3) (.bin .mod (.bi false .int [(.idx (.var 0) (.cst (.int 3)))]) (.var 1))), (.setI (.var 0) (.cst (.int 3)) (.bin .fdiv (.idx (.var 0) (.cst (.int 3))) (.var 1))), (.ret (.var 3))] []),
   (.setI (.var 0) (.cst (.int 1)) (.bin .add (.idx (.var 0) (.cst (.int 1))) (.cst (.int 1)))),
   (.ite (.val (.cmp .gt (.idx (.var 0) (.cst (.int 1))) (.bi false .len [(.idx (.var 0) (.cst (.int 0)))]))) [(.setI (.var 0) (.cst (.int 2)) (.bin .mod (.bi false .int [(.bin .add (.bin .mul (.idx (.var 0) (.cst (.int 2))) (.cst (.int 48271))) (.cst (.int 11)))]) (.cst (.int 2147483647)))), (.ret (.bin .mod (.bi false .int [(.bin .fdiv (.idx (.var 0) (.cst (.int 2))) (.cst (.int 7)))]) (.var 1)))] []),
   (.asg (.var 2) (.idx (.idx (.var 0) (.cst (.int 0))) (.bin .sub (.idx (.var 0) (.cst (.int 1))) (.cst (.int 1))))),
   (.setI (.var 0) (.cst (.int 2)) (.bin .mod (.bi false .int [(.bin .add (.bin .add (.bin .mul (.idx (.var 0) (.cst (.int 2))) (.cst (.int 48271))) (.var 2)) (.cst (.int 11)))]) (.cst (.int 2147483647)))),
   (.ite (.val (.cmp .ge (.var 2) (.bin .pow (.cst (.int 10)) (.cst (.int 18))))) [(.setI (.var 0) (.cst (.int 3)) (.bin .fdiv (.var 2) (.var 1)))] []),
   (.ret (.bin .mod (.bi false .int [(.var 2)]) (.var 1)))]
@[simp] theorem op_pow18 (S : Sto) : binop S .pow (.int 10) (.int 18) = some (.int 1000000000000000000) := by
  show (if 0 ≤ (18 : Int) ∧ (18 : Int) ≤ 1000000 ∧ (10 : Int).natAbs < 18446744073709551616 then some (D.int (10 ^ (18 : Int).toNat)) else none) = _
  rw [if_pos (by decide)]
  rfl
theorem setI_ref {S : Sto} {l : Nat} {xs : List D} {i : Nat} (v : D) (h : S[l]? = some (.lst xs)) (hi : i < xs.length) : setI S (.ref l) (.int i) v = some (setL S l (xs.set i v)) := by
  show (match S[l]? with | some (.lst xs) => (ixN xs.length i).map fun j => setL S l (xs.set j v) | _ => none) = _
  rw [h]
  have : ixN xs.length (i : Int) = some i := by
    unfold ixN
    rw [if_pos (by omega), if_pos (by omega)]
    rfl
  show (ixN xs.length (i : Int)).map _ = _
  rw [this]
  rfl
theorem setL_get {S : Sto} {l : Nat} {xs ys : List D} (h : S[l]? = some (.lst xs)) : (setL S l ys)[l]? = some (.lst ys) := by
  unfold setL
  rw [List.getElem?_set_self (List.getElem?_eq_some_iff.mp h).1]
theorem setL_set (S : Sto) (l : Nat) (xs ys : List D) : setL (setL S l xs) l ys = setL S l ys := by
  unfold setL; rw [List.set_set]
theorem setL_len (S : Sto) (l : Nat) (xs : List D) : (setL S l xs).length = S.length := by unfold setL; rw [List.length_set]
/-- one number of the script: what it is, and the row behind it -/
theorem run_taken {P : Prog} {w n f l : Nat} {S : Sto} {ns : List Int} {p s c many : Int} (hf : P.fns[f]? = some ⟨2, 4, takenB⟩) (hS : S[l]? = some (.lst (rowD ns p s c))) (hp : 0 ≤ p) (hs : 0 ≤ s ∧ s < 2147483647) (hm : 0 < many) (hm2 : many < 1073741824) :
    ∃ v p' s' c', 0 ≤ v ∧ v < many ∧ 0 ≤ p' ∧ (0 ≤ s' ∧ s' < 2147483647) ∧ callF P w (n + 1) f [.ref l, .int many] S = .ok (.int v) (setL S l (rowD ns p' s' c')) := by
  rw [callF_at hf rfl]
  have g : ∀ {p s c : Int} {T : Sto}, T[l]? = some (.lst (rowD ns p s c)) → getI T (.ref l) (.int 0) = some (.scr (ns.map .int)) ∧ getI T (.ref l) (.int 1) = some (.int p) ∧ getI T (.ref l) (.int 2) = some (.int s) ∧ getI T (.ref l) (.int 3) = some (.int c) := fun {p s c T} h => by
    refine ⟨?_, ?_, ?_, ?_⟩ <;> rw [get_ref _ _ h] <;> simp [rowD]
  have u : ∀ {p s c : Int} {T : Sto} (v : Int), T[l]? = some (.lst (rowD ns p s c)) → setI T (.ref l) (.int 1) (.int v) = some (setL T l (rowD ns v s c)) ∧ setI T (.ref l) (.int 2) (.int v) = some (setL T l (rowD ns p v c)) ∧ setI T (.ref l) (.int 3) (.int v) = some (setL T l (rowD ns p s v)) := fun {p s c T} v h =>
    ⟨setI_ref (i := 1) _ h (by simp [rowD]), setI_ref (i := 2) _ h (by simp [rowD]), setI_ref (i := 3) _ h (by simp [rowD])⟩
  have md : ∀ x : Int, 0 ≤ x % many ∧ x % many < many := fun x => ⟨Int.emod_nonneg _ (by omega), Int.emod_lt_of_pos _ hm⟩
  have ms : ∀ x : Int, 0 ≤ x % 2147483647 ∧ x % 2147483647 < 2147483647 := fun x => ⟨by omega, by omega⟩
  have hn : ∀ {p s c : Int} (v : Int), fin S.length (.int v) (setL S l (rowD ns p s c)) = .ok (.int v) (setL S l (rowD ns p s c)) := fun v => fin_same rfl (setL_len _ _ _)
  obtain ⟨g0, g1, g2, g3⟩ := g hS
  by_cases hc : 0 < c
  · refine ⟨c % many, p, s, c / many, (md c).1, (md c).2, hp, hs, ?_⟩
    simp (disch := first | omega | (simp; done) | fail) [takenB, g3, hc, (u (c / many) hS).2.2, hn]
  · have e1 := (u (p + 1) hS).1
    have S1 := setL_get (ys := rowD ns (p + 1) s c) hS
    obtain ⟨g0', g1', g2', g3'⟩ := g S1
    by_cases hl : (ns.length : Int) < p + 1
    · refine ⟨((s * 48271 + 11) % 2147483647 / 7) % many, p + 1, (s * 48271 + 11) % 2147483647, c, (md _).1, (md _).2, by omega, ms _, ?_⟩
      have e2 := (u ((s * 48271 + 11) % 2147483647) S1).2.1
      have S2 := setL_get (ys := rowD ns (p + 1) ((s * 48271 + 11) % 2147483647) c) S1
      obtain ⟨g0'', g1'', g2'', g3''⟩ := g S2
      rw [setL_set] at e2 S2 g2''
      simp (disch := first | omega | (simp; done) | fail) [takenB, g3, hc, g1, e1, g1', g0', hl, g2', e2, g2'', hn]
    · have hx : atI (ns.map D.int) p = some (.int (ns[p.toNat]'(by omega))) := by
        have := at_nat (xs := ns.map D.int) (i := p.toNat) (by simp; omega)
        rw [show ((p.toNat : Nat) : Int) = p by omega] at this
        simpa using this
      generalize ns[p.toNat]'(by omega) = x at hx
      have e2 := (u ((s * 48271 + x + 11) % 2147483647) S1).2.1
      have S2 := setL_get (ys := rowD ns (p + 1) ((s * 48271 + x + 11) % 2147483647) c) S1
      have e3 := (u (x / many) S2).2.2
      rw [setL_set] at e2
      rw [setL_set] at e3
      rw [setL_set] at e3
      have pp : p + 1 - 1 = p := by omega
      by_cases hb : 1000000000000000000 ≤ x
      · refine ⟨x % many, p + 1, (s * 48271 + x + 11) % 2147483647, x / many, (md _).1, (md _).2, by omega, ms _, ?_⟩
        simp (disch := first | omega | (simp; done) | fail) [takenB, g3, hc, g1, e1, g1', g0', hl, g2', pp, hx, e2, hb, e3, hn]
      · refine ⟨x % many, p + 1, (s * 48271 + x + 11) % 2147483647, c, (md _).1, (md _).2, by omega, ms _, ?_⟩
        simp (disch := first | omega | (simp; done) | fail) [takenB, g3, hc, g1, e1, g1', g0', hl, g2', pp, hx, e2, hb, hn]

/-! ### _law_alike: a value is like itself -/
def alikeB (f : Nat) : List St :=
  [(.ite (.val (.isi (.var 1) [.tuple, .list])) [(.ite (.or [(.not (.val (.isi (.var 0) [.tuple, .list]))), (.val (.cmp .ne (.isi (.var 0) [.list]) (.isi (.var 1) [.list])))]) [(.ret (.cst (.bl false)))] []), (.ite (.val (.cmp .ne (.bi false .len [(.var 0)]) (.bi false .len [(.var 1)]))) [(.ret (.cst (.bl false)))] []), (.ret (.cmp .eq (.comp false [2] (.var 2) (.bi false .range1 [(.bi false .len [(.var 1)])]) (some (.not (.val (.call f [(.idx (.var 0) (.var 2)), (.idx (.var 1) (.var 2))])))) (.var 2)) (.lst false [])))] []),
   (.ite (.or [(.val (.cmp .isn (.var 1) (.cst .non))), (.val (.isi (.var 1) [.str]))]) [(.ret (.and [(.cmp .eq (.var 0) (.var 1)), (.cmp .eq (.isi (.var 0) [.str]) (.isi (.var 1) [.str]))]))] []),
   (.ret (.and [(.isi (.var 0) [.int]), (.cmp .eq (.isi (.var 0) [.bool]) (.isi (.var 1) [.bool])), (.cmp .eq (.var 0) (.var 1))]))]
mutual
/-- plain data, n deep at most, no row longer than a range may be -/
def pln : Nat → D → Bool
  | _, .non => true
  | _, .bl _ => true
  | _, .int _ => true
  | _, .str _ => true
  | 0, .tup _ => false
  | 0, .lst _ => false
  | n + 1, .tup xs => decide (xs.length ≤ 16777216) && plns n xs
  | n + 1, .lst xs => decide (xs.length ≤ 16777216) && plns n xs
  | _, _ => false
def plns : Nat → List D → Bool
  | _, [] => true
  | n, x :: xs => pln n x && plns n xs
end
theorem plns_mem {n : Nat} : ∀ {xs : List D}, plns n xs = true → ∀ x ∈ xs, pln n x = true
  | [], _, x, h => by simp at h
  | y :: ys, h, x, hx => by
    simp only [plns, Bool.and_eq_true] at h
    rcases List.mem_cons.mp hx with rfl | hx
    · exact h.1
    · exact plns_mem h.2 x hx
@[simp] theorem cm_str (S : Sto) (a b : List Nat) : cmpop S .eq (.str a) (.str b) = some (decide (a = b)) := rfl
@[simp] theorem cm_non (S : Sto) : cmpop S .eq .non .non = some true := rfl
@[simp] theorem cm_nil (S : Sto) : cmpop S .eq (.lst []) (.lst []) = some true := rfl
/-- the comprehension of a row like itself is empty -/
theorem alike_row {P : Prog} {w n f : Nat} {S : Sto} {d : D} {xs : List D} (hd : d = .tup xs ∨ d = .lst xs) (ih : ∀ x ∈ xs, callF P w n f [x, x] S = .ok (.bl true) S) :
    colV (cturn ⟨P, callF P w n, w, none⟩ [2] (.var 2) (some (.not (.val (.call f [(.idx (.var 0) (.var 2)), (.idx (.var 1) (.var 2))])))) (.var 2) [some d, some d, none]) (rangeD 0 xs.length) S = .ok [] S := by
  have get : ∀ i : Int, getI S d (.int i) = atI xs i := fun i => by rcases hd with rfl | rfl <;> rfl
  rw [colV_pure (g := fun _ => none)]
  · simp
  · intro x hx
    obtain ⟨i, hi, rfl⟩ := List.getElem_of_mem hx
    rw [rangeD_get]
    rw [rangeD_len] at hi
    have hi' : i < xs.length := by omega
    have e : atI xs (i : Int) = some xs[i] := at_nat hi'
    simp [cturn, wipe, get, e, ih _ (List.getElem_mem hi')]
theorem run_alike {P : Prog} {w f : Nat} {S : Sto} (hf : P.fns[f]? = some ⟨2, 3, alikeB f⟩) : ∀ (n : Nat) (d : D), pln n d = true → ∀ m, callF P w (n + m + 1) f [d, d] S = .ok (.bl true) S := by
  intro n
  induction n with
  | zero =>
    intro d h m
    rw [callF_at hf rfl]
    cases d <;> first | (simp [pln] at h; done) | simp [alikeB, subK]
  | succ n ih =>
    intro d h m
    rw [callF_at hf rfl]
    have row : ∀ xs : List D, (d = .tup xs ∨ d = .lst xs) → plns n xs = true → colV (cturn ⟨P, callF P w (n + 1 + m), w, none⟩ [2] (.var 2) (some (.not (.val (.call f [(.idx (.var 0) (.var 2)), (.idx (.var 1) (.var 2))])))) (.var 2) [some d, some d, none]) (rangeD 0 xs.length) S = .ok [] S := fun xs hd hp =>
      alike_row hd fun x hx => by
        have := ih x (plns_mem hp x hx) m
        rwa [show n + m + 1 = n + 1 + m by omega] at this
    cases d with
    | tup xs =>
      simp only [pln, Bool.and_eq_true, decide_eq_true_eq] at h
      have r1 : rng .range1 [.int xs.length] = some (rangeD 0 xs.length) := rng_1 (by omega) (by omega)
      simp [alikeB, subK, r1, row xs (.inl rfl) h.2]
    | lst xs =>
      simp only [pln, Bool.and_eq_true, decide_eq_true_eq] at h
      have r1 : rng .range1 [.int xs.length] = some (rangeD 0 xs.length) := rng_1 (by omega) (by omega)
      simp [alikeB, subK, r1, row xs (.inr rfl) h.2]
    | _ => first | (simp [pln] at h; done) | simp [alikeB, subK]
end Dn
/-! Dn: more equations; tools for loops and comprehensions; objects. -/
namespace Dn
section
variable (cx : Cx) (ρ : Env) (S : Sto)
@[simp] theorem ev_fld (f : Nat) (a : E) : ev cx (.fld f a) ρ S = (ev cx a ρ S).bind fun x S => R.of (getF cx.P S x f) S := by first | (simp only [ev]; done) | (simp only [ev]; rfl)
@[simp] theorem ev_glob (g : Nat) : ev cx (.glob g) ρ S = R.of cx.P.globs[g]? S := by first | (simp only [ev]; done) | (simp only [ev]; rfl)
@[simp] theorem ev_meth (m : Nat) (o : E) (es : List E) : ev cx (.meth m o es) ρ S = (ev cx o ρ S).bind fun x S => match methOf cx.P S x m with
    | some f => if freeOf S x m then (evs cx es ρ S).bind fun ds S => cx.call f (x :: ds) S else .bad
    | none => .bad := by first | (simp only [ev]; done) | (simp only [ev]; rfl)
@[simp] theorem ev_mk (c : Nat) (es : List E) : ev cx (.mk c es) ρ S = (evs cx es ρ S).bind fun ds S => mkC cx c ds S := by first | (simp only [ev]; done) | (simp only [ev]; rfl)
@[simp] theorem ev_rev (a : E) : ev cx (.rev a) ρ S = (ev cx a ρ S).bind fun x S => match lsqOf S x with
    | some xs => .ok (.lst xs.reverse) S
    | none => .bad := by first | (simp only [ev]; done) | (simp only [ev]; rfl)
@[simp] theorem ev_calv (i : Nat) (es : List E) : ev cx (.calv i es) ρ S = (match ρ[i]? with
    | some (some (.fn f)) => if f < cx.P.fns.length then (evs cx es ρ S).bind fun ds S => cx.call f ds S else .bad
    | _ => .bad) := by first | (simp only [ev]; done) | (simp only [ev]; rfl)
/-- the number that len asks of a class's own def -/
def lenN (r : R D) : R D := r.bind fun r S => match r with
        | .int n => if 0 ≤ n ∧ n < 9223372036854775808 then .ok (.int n) S else .bad
        | _ => .bad
@[simp] theorem lenN_ok {n : Int} (h : 0 ≤ n ∧ n < 9223372036854775808) : lenN (.ok (.int n) S) = .ok (.int n) S := by
  show (if 0 ≤ n ∧ n < 9223372036854775808 then R.ok (D.int n) S else .bad) = _
  rw [if_pos h]
@[simp] theorem ev_leno (a : E) : ev cx (.leno a) ρ S = (ev cx a ρ S).bind fun x S => match clsOf S x with
    | some c => match (cx.P.cls[c]?).bind (·.len) with
      | some f => lenN (cx.call f [x] S)
      | none => .bad
    | none => .bad := by first | (simp only [ev]; done) | (simp only [ev]; rfl)
@[simp] theorem ev_cmpo (o : Co) (a b : E) : ev cx (.cmpo o a b) ρ S = (ev cx a ρ S).bind fun x S => (ev cx b ρ S).bind fun y S => (cmpx cx o x y S).bind fun c S => .ok (.bl c) S := by first | (simp only [ev]; done) | (simp only [ev]; rfl)
@[simp] theorem st_setF (o : E) (f : Nat) (e : E) : st (.setF o f e) cx ρ S = (ev cx e ρ S).stm ρ fun v S => (ev cx o ρ S).stm ρ fun x S => match setF cx.P S x f v with | some S' => .ok (.nx ρ) S' | none => .bad := by first | (simp only [st]; done) | (simp only [st]; rfl)
@[simp] theorem st_aug (i : Nat) (o : Bo) (e : E) : st (.aug i o e) cx ρ S = (match ρ[i]? with
    | some (some x) => (ev cx e ρ S).stm ρ fun y S => match augop S o x y with
      | some z => .ok (.nx (ρ.set i (some z))) S
      | none => .bad
    | _ => .bad) := by first | (simp only [st]; done) | (simp only [st]; rfl)
@[simp] theorem aug_int (o : Bo) (i j : Int) : augop S o (.int i) (.int j) = binop S o (.int i) (.int j) := rfl
@[simp] theorem R.nox_ite {α : Type} (p : Prop) [Decidable p] (a b : R α) : (if p then a else b).nox = if p then a.nox else b.nox := by split <;> rfl
@[simp] theorem clsOf_ins (c : Nat) (ids : List Nat) (vs : List D) : clsOf S (.ins c ids vs) = some c := rfl
@[simp] theorem lsq_lst (xs : List D) : lsqOf S (.lst xs) = some xs := rfl
@[simp] theorem seq_lst (xs : List D) : seqOf S (.lst xs) = some xs := rfl
@[simp] theorem seq_tup (xs : List D) : seqOf S (.tup xs) = some xs := rfl
@[simp] theorem bi_tuple_lst (c : Bool) (xs : List D) : bi cx c .tuple [.lst xs] S = .ok (.tup xs) S := rfl
@[simp] theorem bi_tuple_tup (c : Bool) (xs : List D) : bi cx c .tuple [.tup xs] S = .ok (.tup xs) S := rfl
@[simp] theorem bi_list_lst (xs : List D) : bi cx false .list [.lst xs] S = .ok (.lst xs) S := rfl
@[simp] theorem bi_list_tup (xs : List D) : bi cx false .list [.tup xs] S = .ok (.lst xs) S := rfl
@[simp] theorem enum_lst (xs : List D) : enumOf S (.lst xs) = some (.vals (enumD 0 xs)) := rfl
@[simp] theorem enum_tup (xs : List D) : enumOf S (.tup xs) = some (.vals (enumD 0 xs)) := rfl
@[simp] theorem bi_int_bl (c b : Bool) : bi cx c .int [.bl b] S = .ok (.int (if b then 1 else 0)) S := rfl
@[simp] theorem isi_ins (P : Prog) (c : Nat) (ids : List Nat) (vs : List D) (ts : List Ty) (h : c < P.cls.length) : isTys P S (.ins c ids vs) ts = some (ts.any (subK (.ty (.cls c)))) := by
  show (if c < P.cls.length then some (Kd.ty (.cls c)) else none).map _ = _
  rw [if_pos h]; rfl
theorem bi_sum_lst (c : Bool) (ns : List Int) : bi cx c .sum [.lst (ns.map .int)] S = .ok (.int ns.sum) S := by
  have : ∀ ns : List Int, intsD (ns.map .int) = some ns := fun ns => by
    induction ns with
    | nil => rfl
    | cons n ns ih => rw [List.map_cons, intsD, ih]; rfl
  show R.of ((intsD (ns.map .int)).map fun ns => D.int ns.sum) S = _
  rw [this]; rfl
theorem bi_sum_tup (c : Bool) (ns : List Int) : bi cx c .sum [.tup (ns.map .int)] S = .ok (.int ns.sum) S := bi_sum_lst cx S c ns
end
theorem intsD_map (ns : List Int) : intsD (ns.map .int) = some ns := by
  induction ns with
  | nil => rfl
  | cons n ns ih => rw [List.map_cons, intsD, ih]; rfl
theorem boolsD_map (ns : List Bool) : boolsD (ns.map .bl) = some ns := by
  induction ns with
  | nil => rfl
  | cons n ns ih => rw [List.map_cons, boolsD, ih]; rfl
theorem bi_all (cx : Cx) (S : Sto) (c : Bool) (bs : List Bool) : bi cx c .all [.lst (bs.map .bl)] S = .ok (.bl (bs.all id)) S := by
  show R.of ((boolsD (bs.map .bl)).map fun bs => D.bl (bs.all id)) S = _
  rw [boolsD_map]; rfl
/-- a well-formed store -/
abbrev WS (S : Sto) : Prop := S.all (LO.lt S.length) = true
/-! ### loops -/
def sets (ρ : Env) : List Nat → List (Option D) → Env
  | v :: vs, x :: xs => sets (ρ.set v x) vs xs
  | _, _ => ρ
@[simp] theorem sets_nil (ρ : Env) (xs : List (Option D)) : sets ρ [] xs = ρ := by cases xs <;> rfl
@[simp] theorem sets_cons (ρ : Env) (v : Nat) (vs : List Nat) (x : Option D) (xs : List (Option D)) : sets ρ (v :: vs) (x :: xs) = sets (ρ.set v x) vs xs := rfl
/-- a loop by its states: the slots vs hold e i, the slots tv hold something -/
theorem forV_go {f : D → Env → Sto → R Fl} {ρ0 : Env} {tv vs : List Nat} {e : Nat → List (Option D)} {s : Nat → Sto} : ∀ (xs : List D) (k : Nat) (os : List (Option D)), os.length = tv.length →
    (∀ i x os, i < xs.length → os.length = tv.length → xs[i]? = some x → ∃ os', os'.length = tv.length ∧ f x (sets (sets ρ0 vs (e (k + i))) tv os) (s (k + i)) = .ok (.nx (sets (sets ρ0 vs (e (k + i + 1))) tv os')) (s (k + i + 1))) →
    ∃ os', os'.length = tv.length ∧ forV f xs (sets (sets ρ0 vs (e k)) tv os) (s k) = .ok (.nx (sets (sets ρ0 vs (e (k + xs.length))) tv os')) (s (k + xs.length))
  | [], k, os, ho, h => ⟨os, ho, rfl⟩
  | x :: xs, k, os, ho, h => by
    obtain ⟨os1, h1, h2⟩ := h 0 x os (by simp) ho rfl
    obtain ⟨os2, h3, h4⟩ := forV_go (f := f) (ρ0 := ρ0) (tv := tv) (vs := vs) (e := e) (s := s) xs (k + 1) os1 h1 fun i y os hi ho he => by
      obtain ⟨o, a, b⟩ := h (i + 1) y os (by simp; omega) ho (by simpa using he)
      have e1 : k + 1 + i = k + (i + 1) := by omega
      exact ⟨o, a, by rw [e1]; exact b⟩
    refine ⟨os2, h3, ?_⟩
    have e2 : k + (x :: xs).length = k + 1 + xs.length := by rw [List.length_cons]; omega
    rw [e2, forV, show f x (sets (sets ρ0 vs (e k)) tv os) (s k) = _ from h2]
    exact h4
/-- the loop as it stands in a goal -/
theorem forV_use {f : D → Env → Sto → R Fl} {xs : List D} {ρ0 : Env} {S0 : Sto} {F : R Fl} (hF : forV f xs ρ0 S0 = F) (tv vs : List Nat) (os : List (Option D)) (e : Nat → List (Option D)) (s : Nat → Sto) (hs : s 0 = S0) (ho : os.length = tv.length) (h0 : sets (sets ρ0 vs (e 0)) tv os = ρ0)
    (h : ∀ i x os, i < xs.length → os.length = tv.length → xs[i]? = some x → ∃ os', os'.length = tv.length ∧ f x (sets (sets ρ0 vs (e i)) tv os) (s i) = .ok (.nx (sets (sets ρ0 vs (e (i + 1))) tv os')) (s (i + 1))) :
    ∃ os', os'.length = tv.length ∧ F = .ok (.nx (sets (sets ρ0 vs (e xs.length)) tv os')) (s xs.length) := by
  obtain ⟨os', h1, h2⟩ := forV_go (k := 0) xs os ho fun i x os hi ho he => by
    have := h i x os hi ho he
    simpa using this
  rw [h0, hs, hF] at h2
  exact ⟨os', h1, by simpa using h2⟩
/-- a loop that may end by a return -/
theorem forV_ret {f : D → Env → Sto → R Fl} {d : D} {S : Sto} : ∀ (xs : List D) (ρ : Env) (k : Nat) (P : Nat → Env → Prop), P 0 ρ → (∀ i x ρ, i < k → xs[i]? = some x → P i ρ → ∃ ρ', f x ρ S = .ok (.nx ρ') S ∧ P (i + 1) ρ') → (∀ x ρ, xs[k]? = some x → P k ρ → f x ρ S = .ok (.rt d) S) → k < xs.length → forV f xs ρ S = .ok (.rt d) S
  | [], _, _, _, _, _, _, h => by simp at h
  | x :: xs, ρ, 0, P, h0, _, h2, _ => by
    rw [forV, h2 x ρ rfl h0]; rfl
  | x :: xs, ρ, k + 1, P, h0, h1, h2, hk => by
    obtain ⟨ρ', a, b⟩ := h1 0 x ρ (by omega) rfl h0
    rw [forV, a]
    simp only [R.bind_ok]
    exact forV_ret xs ρ' k (fun i => P (i + 1)) b (fun i x ρ hi hx => h1 (i + 1) x ρ (by omega) (by simpa using hx)) (fun x ρ hx => h2 x ρ (by simpa using hx)) (by simpa using hk)
/-! ### comprehensions -/
theorem colV_fm {α : Type} {f : D → Sto → R (Option D)} {S : Sto} {enc : α → D} (p : α → Bool) (h : α → D) : ∀ ys : List α, (∀ y ∈ ys, f (enc y) S = .ok (if p y then some (h y) else none) S) → colV f (ys.map enc) S = .ok ((ys.filter p).map h) S
  | [], _ => rfl
  | y :: ys, hy => by
    rw [List.map_cons, colV, hy y List.mem_cons_self]
    simp only [R.bind_ok]
    rw [colV_fm p h ys fun z hz => hy z (List.mem_cons_of_mem _ hz)]
    simp only [R.bind_ok, List.filter_cons]
    cases p y <;> rfl
theorem colV_map {α : Type} {f : D → Sto → R (Option D)} {S : Sto} {enc : α → D} (h : α → D) (ys : List α) (hy : ∀ y ∈ ys, f (enc y) S = .ok (some (h y)) S) : colV f (ys.map enc) S = .ok (ys.map h) S := by
  have := colV_fm (f := f) (S := S) (enc := enc) (fun _ => true) h ys (fun y hm => by rw [hy y hm]; rfl)
  rwa [List.filter_eq_self.mpr (by simp)] at this
theorem rangeD_map (lo hi : Int) : rangeD lo hi = (List.range (hi - lo).toNat).map fun (k : Nat) => D.int (lo + k) := rfl
/-- with a state that each turn may change -/
theorem colV_ex {α : Type} {f : D → Sto → R (Option D)} (I : Sto → Prop) (Q : α → Prop) (h : α → D) : ∀ (xs : List D) (S : Sto), I S → (∀ x ∈ xs, ∀ S, I S → ∃ a S', Q a ∧ I S' ∧ f x S = .ok (some (h a)) S') → ∃ (as : List α) (S' : Sto), as.length = xs.length ∧ (∀ a ∈ as, Q a) ∧ I S' ∧ colV f xs S = .ok (as.map h) S'
  | [], S, hS, _ => ⟨[], S, rfl, fun _ h => by simp at h, hS, rfl⟩
  | x :: xs, S, hS, hx => by
    obtain ⟨a, S1, h1, h2, h3⟩ := hx x List.mem_cons_self S hS
    obtain ⟨as, S2, h4, h5, h6, h7⟩ := colV_ex I Q h xs S1 h2 fun y hy => hx y (List.mem_cons_of_mem _ hy)
    refine ⟨a :: as, S2, by simp [h4], fun b hb => (List.mem_cons.mp hb).elim (fun e => by rw [e]; exact h1) (h5 b), h6, ?_⟩
    rw [colV, h3]
    simp only [R.bind_ok]
    rw [h7]; rfl
/-! ### objects -/
theorem mkC_ok {cx : Cx} {c : Nat} {cd : CD} {args : List D} {S : Sto} {ids : List Nat} {vs : List D} (h : cx.P.cls[c]? = some cd) (hc : cd.cell = false) (hl : lts S.length vs = true) (hw : WS S)
    (hi : cx.call cd.init (.ref S.length :: args) (S ++ [.ins c [] []]) = .ok .non (S ++ [.ins c ids vs])) : mkC cx c args S = .ok (.ins c ids vs) S := by
  unfold mkC
  rw [h]
  dsimp only
  rw [hi]
  dsimp only
  rw [hc, if_neg (by decide), List.getElem?_append_right (Nat.le_refl _), Nat.sub_self]
  dsimp only [List.getElem?_cons_zero]
  rw [List.take_left]
  have : (lts S.length vs && S.all (LO.lt S.length)) = true := by rw [hl]; exact hw
  rw [if_pos this]
theorem mkC_exc {cx : Cx} {c : Nat} {cd : CD} {args : List D} {S S' : Sto} {x : Xn} (h : cx.P.cls[c]? = some cd) (hi : cx.call cd.init (.ref S.length :: args) (S ++ [.ins c [] []]) = .exc x S') : mkC cx c args S = finX S.length x S' := by
  unfold mkC
  rw [h]
  dsimp only
  rw [hi]
theorem finX_back {n : Nat} {x : Xn} {S S' : Sto} (hd : lts n x.fs = true) (ht : S'.take n = S) (h : S.all (LO.lt n) = true) : finX n x S' = .exc x S := by
  unfold finX
  rw [ht, h, hd]; rfl
theorem finX_id {x : Xn} {S : Sto} : finX S.length x S = .exc x S := by
  unfold finX
  rw [List.take_length]
  split <;> rfl
/-- what an own == answers, and its not -/
def eqR (r : R D) : R Bool := r.bind fun r S => match r with
        | .bl b => .ok b S
        | _ => .bad
def neR (r : R D) : R Bool := r.bind fun r S => match r with
        | .bl b => .ok (!b) S
        | _ => .bad
@[simp] theorem eqR_ok (b : Bool) (S : Sto) : eqR (.ok (.bl b) S) = .ok b S := rfl
@[simp] theorem neR_ok (b : Bool) (S : Sto) : neR (.ok (.bl b) S) = .ok (!b) S := rfl
theorem cmpx_eqI {cx : Cx} {c f : Nat} {ids : List Nat} {vs : List D} {y : D} {S : Sto} (h : (cx.P.cls[c]?).bind (·.eq) = some f) (hk : (kdOf cx.P S y).isNone = false) : cmpx cx .eq (.ins c ids vs) y S = eqR (cx.call f [.ins c ids vs, y] S) := by
  unfold cmpx
  dsimp only [clsOf]
  rw [h]
  dsimp only
  rw [hk, if_neg (by decide)]
  rfl
theorem cmpx_neI {cx : Cx} {c f : Nat} {ids : List Nat} {vs : List D} {y : D} {S : Sto} (h : (cx.P.cls[c]?).bind (·.eq) = some f) (hk : (kdOf cx.P S y).isNone = false) : cmpx cx .ne (.ins c ids vs) y S = neR (cx.call f [.ins c ids vs, y] S) := by
  unfold cmpx
  dsimp only [clsOf]
  rw [h]
  dsimp only
  rw [hk, if_neg (by decide)]
  rfl
/-! ### == of data without bools -/
mutual
def nb : D → Bool
  | .bl _ => false
  | .tup xs => nbs xs
  | .lst xs => nbs xs
  | .non => true
  | .int _ => true
  | .str _ => true
  | _ => false
def nbs : List D → Bool
  | [] => true
  | x :: xs => nb x && nbs xs
end
mutual
theorem eqB_nb : ∀ a b : D, nb a = true → nb b = true → (eqB a b = true ↔ a = b)
  | .non, b, ha, hb => by cases b <;> simp [eqB, nb] at hb ⊢
  | .int i, b, ha, hb => by cases b <;> simp [eqB, nb] at hb ⊢
  | .str s, b, ha, hb => by cases b <;> simp [eqB, nb] at hb ⊢
  | .tup xs, b, ha, hb => by
    cases b <;> simp [eqB, nb] at ha hb ⊢
    exact eqBs_nb xs _ ha hb
  | .lst xs, b, ha, hb => by
    cases b <;> simp [eqB, nb] at ha hb ⊢
    exact eqBs_nb xs _ ha hb
  | .bl _, _, h, _ => by simp [nb] at h
  | .dic _ _, _, h, _ => by simp [nb] at h
  | .ins _ _ _, _, h, _ => by simp [nb] at h
  | .ref _, _, h, _ => by simp [nb] at h
  | .fn _, _, h, _ => by simp [nb] at h
  | .scr _, _, h, _ => by simp [nb] at h
theorem eqBs_nb : ∀ as bs : List D, nbs as = true → nbs bs = true → (eqBs as bs = true ↔ as = bs)
  | [], [], _, _ => by simp [eqBs]
  | [], b :: bs, _, _ => by simp [eqBs]
  | a :: as, [], _, _ => by simp [eqBs]
  | a :: as, b :: bs, ha, hb => by
    have ha' : nb a = true ∧ nbs as = true := by simpa [nbs] using ha
    have hb' : nb b = true ∧ nbs bs = true := by simpa [nbs] using hb
    simp only [eqBs, Bool.and_eq_true, eqB_nb a b ha'.1 hb'.1, eqBs_nb as bs ha'.2 hb'.2, List.cons.injEq]
end
mutual
theorem eqB_refl : ∀ (n : Nat) (a : D), pd n a = true → eqB a a = true
  | _, .non, _ => by simp [eqB]
  | _, .bl x, _ => by simp [eqB]
  | _, .int x, _ => by simp [eqB]
  | _, .str x, _ => by simp [eqB]
  | 0, .tup xs, h => by simp [pd] at h
  | 0, .lst xs, h => by simp [pd] at h
  | n + 1, .tup xs, h => by rw [eqB]; exact eqBs_refl n xs (by simpa [pd] using h)
  | n + 1, .lst xs, h => by rw [eqB]; exact eqBs_refl n xs (by simpa [pd] using h)
  | _, .dic _ _, h => by simp [pd] at h
  | _, .ins _ _ _, h => by simp [pd] at h
  | _, .ref _, h => by simp [pd] at h
  | _, .fn _, h => by simp [pd] at h
  | _, .scr _, h => by simp [pd] at h
theorem eqBs_refl : ∀ (n : Nat) (as : List D), pds n as = true → eqBs as as = true
  | _, [], _ => by simp [eqBs]
  | n, a :: as, h => by
    have h' : pd n a = true ∧ pds n as = true := by simpa [pds] using h
    rw [eqBs, eqB_refl n a h'.1, eqBs_refl n as h'.2]; rfl
end
theorem eqd_self {a : D} (h : pd 60 a = true) : eqd a a = some true := by
  unfold eqd
  rw [h, eqB_refl 60 a h]; rfl
theorem eqd_nb {a b : D} [Decidable (a = b)] (h1 : pd 60 a = true) (h2 : pd 60 b = true) (n1 : nb a = true) (n2 : nb b = true) : eqd a b = some (decide (a = b)) := by
  unfold eqd
  rw [h1, h2]
  show some (eqB a b) = _
  congr 1
  rw [Bool.eq_iff_iff, eqB_nb a b n1 n2, decide_eq_true_eq]
theorem pds_ints (n : Nat) : ∀ ns : List Int, pds n (ns.map .int) = true
  | [] => by simp [pds]
  | x :: xs => by simp [pds, pd, pds_ints n xs]
theorem nbs_ints : ∀ ns : List Int, nbs (ns.map .int) = true
  | [] => by simp [nbs]
  | x :: xs => by simp [nbs, nb, nbs_ints xs]
theorem map_int_inj {a b : List Int} : a.map D.int = b.map D.int ↔ a = b := by
  constructor
  · intro h
    exact List.map_inj_right (fun x y h => by injection h) |>.mp h
  · intro h; rw [h]
theorem eqd_ints (a b : List Int) : eqd (.tup (a.map .int)) (.tup (b.map .int)) = some (decide (a = b)) ∧ eqd (.lst (a.map .int)) (.lst (b.map .int)) = some (decide (a = b)) := by
  constructor <;>
  · unfold eqd
    have p1 := pds_ints 59 a
    have p2 := pds_ints 59 b
    simp only [pd, p1, p2, Bool.and_self, if_true]
    show some (eqBs (a.map .int) (b.map .int)) = _
    congr 1
    rw [Bool.eq_iff_iff, eqBs_nb _ _ (nbs_ints a) (nbs_ints b), map_int_inj, decide_eq_true_eq]
/-- a value is like itself: the law's own test -/
theorem alike_eq {P : Prog} {w f k : Nat} {S : Sto} {x y : D} (hf : P.fns[f]? = some ⟨2, 3, alikeB f⟩) (hp : pln 3 y = true) (h : x = y) (hk : 4 ≤ k) : callF P w k f [x, y] S = .ok (.bl true) S := by
  subst h
  have := run_alike (P := P) (w := w) (f := f) (S := S) hf 3 x hp (k - 4)
  rwa [show 3 + (k - 4) + 1 = k by omega] at this
theorem plns_ints (n : Nat) : ∀ ns : List Int, plns n (ns.map .int) = true
  | [] => by simp [plns]
  | x :: xs => by
    have : pln n (.int x) = true := by cases n <;> simp [pln]
    simp [plns, this, plns_ints n xs]
/-! ### the row of draws -/
/-- the row as the law keeps it, ahead of the other cells -/
def Rw (ns : List Int) (T : Sto) (S : Sto) : Prop := ∃ p s c, 0 ≤ p ∧ (0 ≤ s ∧ s < 2147483647) ∧ S = .lst (rowD ns p s c) :: T
theorem Rw.taken {P : Prog} {w n f : Nat} {ns : List Int} {T S : Sto} (h : Rw ns T S) (hf : P.fns[f]? = some ⟨2, 4, takenB⟩) (many : Int) (hm : 0 < many) (hm2 : many < 1073741824) (hn : 1 ≤ n) :
    ∃ v S', Rw ns T S' ∧ 0 ≤ v ∧ v < many ∧ callF P w n f [.ref 0, .int many] S = .ok (.int v) S' := by
  obtain ⟨p, s, c, hp, hs, rfl⟩ := h
  obtain ⟨k, rfl⟩ : ∃ k, n = k + 1 := ⟨n - 1, by omega⟩
  obtain ⟨v, p', s', c', h1, h2, h3, h4, h5⟩ := run_taken (P := P) (w := w) (n := k) (f := f) (l := 0) (S := .lst (rowD ns p s c) :: T) hf rfl hp hs hm hm2
  exact ⟨v, _, ⟨p', s', c', h3, h4, rfl⟩, h1, h2, h5⟩
theorem Rw.len {ns : List Int} {T S : Sto} (h : Rw ns T S) : S.length = T.length + 1 := by
  obtain ⟨p, s, c, _, _, rfl⟩ := h; rfl
theorem Rw.at0 {ns : List Int} {T S : Sto} (h : Rw ns T S) : ∃ xs, S[0]? = some (.lst xs) := by
  obtain ⟨p, s, c, _, _, rfl⟩ := h; exact ⟨_, rfl⟩
theorem lts_scr (n : Nat) (ns : List Int) (p s c : Int) : lts n (rowD ns p s c) = true := by simp [rowD]
theorem Rw.ws {ns : List Int} {T S : Sto} (h : Rw ns T S) (hT : T.all (LO.lt (T.length + 1)) = true) : WS S := by
  have hl := h.len
  obtain ⟨p, s, c, _, _, rfl⟩ := h
  show (_ && _) = true
  rw [Bool.and_eq_true]
  refine ⟨lts_scr _ _ _ _ _, ?_⟩
  rw [hl]; exact hT
end Dn
/-! Dn: the functions of checks.py and fractions_of.py, in any program that has them. -/
namespace Dn
def isWholeB : List St := [(.ret (.and [(.isi (.var 0) [.int]), (.not (.isi (.var 0) [.bool]))]))]
def isNumberB (f : Nat) : List St := [(.ret (.and [(.call f [(.var 0)]), (.chain .le .le (.var 1) (.var 0) (.var 2))]))]
def isRowB : List St := [(.ret (.isi (.var 0) [.list, .tuple]))]
def frozenB (f : Nat) : List St :=
  [(.ite (.val (.isi (.var 0) [.list, .tuple])) [(.ret (.bi false .tuple [(.comp false [1] (.var 1) (.val (.var 0)) none (.call f [(.var 1)]))]))] []),
   (.ret (.var 0))]
def wantRowB (fR fZ xB xM : Nat) : List St :=
  [(.ite (.not (.val (.call fR [(.var 0)]))) [(.rais xB [(.cst .non)])] []),
   (.for (.tup [(.var 3), (.var 4)]) (.enum (.var 0)) [(.ite (.not (.val (.calv 1 [(.var 4)]))) [(.rais xB [(.var 3)])] [])]),
   (.ite (.val (.cmp .gt (.bi false .len [(.var 0)]) (.var 2))) [(.rais xM [(.var 2)])] []),
   (.ret (.call fZ [(.var 0)]))]
/-- a whole number? -/
def isW : D → Bool
  | .int _ => true
  | _ => false
/-- a list, a tuple? -/
def isR : D → Bool
  | .tup _ => true
  | .lst _ => true
  | _ => false
/-- what such a test can look at -/
def flatD : D → Bool
  | .non => true
  | .bl _ => true
  | .int _ => true
  | .str _ => true
  | .tup _ => true
  | .lst _ => true
  | _ => false
section
variable {P : Prog} {w n : Nat} {S : Sto}
theorem run_whole {f : Nat} (hf : P.fns[f]? = some ⟨1, 1, isWholeB⟩) (d : D) (h : flatD d = true) : callF P w (n + 1) f [d] S = .ok (.bl (isW d)) S := by
  rw [callF_at hf rfl]
  cases d <;> first | (simp [flatD] at h; done) | simp [isWholeB, subK, isW]
theorem run_row {f : Nat} (hf : P.fns[f]? = some ⟨1, 1, isRowB⟩) (d : D) (h : flatD d = true) : callF P w (n + 1) f [d] S = .ok (.bl (isR d)) S := by
  rw [callF_at hf rfl]
  cases d <;> first | (simp [flatD] at h; done) | simp [isRowB, subK, isR]
/-- a number within bounds? -/
def isN (lo hi : Int) : D → Bool
  | .int i => decide (lo ≤ i) && decide (i ≤ hi)
  | _ => false
theorem run_number {f fW : Nat} (hf : P.fns[f]? = some ⟨3, 3, isNumberB fW⟩) (hW : P.fns[fW]? = some ⟨1, 1, isWholeB⟩) (d : D) (h : flatD d = true) (lo hi : Int) : callF P w (n + 2) f [d, .int lo, .int hi] S = .ok (.bl (isN lo hi d)) S := by
  have e := run_whole (w := w) (n := n) (S := S) hW d h
  rw [callF_at hf rfl]
  cases d with
  | int i =>
    simp [isNumberB, e, isW, isN]
    by_cases h1 : lo ≤ i
    · simp [h1]
    · simp [h1]
  | _ => first | (simp [flatD] at h; done) | simp [isNumberB, e, isW, isN]
mutual
/-- tuples in the place of lists -/
def frzD : D → D
  | .tup xs => .tup (frzDs xs)
  | .lst xs => .tup (frzDs xs)
  | d => d
def frzDs : List D → List D
  | [] => []
  | x :: xs => frzD x :: frzDs xs
end
theorem frzDs_map : ∀ xs : List D, frzDs xs = xs.map frzD
  | [] => by simp [frzDs]
  | x :: xs => by rw [frzDs, frzDs_map xs]; rfl
mutual
theorem lt_frz : ∀ (k n : Nat) (d : D), pln k d = true → lt n (frzD d) = true
  | _, _, .non, _ => by simp [frzD]
  | _, _, .bl _, _ => by simp [frzD]
  | _, _, .int _, _ => by simp [frzD]
  | _, _, .str _, _ => by simp [frzD]
  | 0, _, .tup _, h => by simp [pln] at h
  | 0, _, .lst _, h => by simp [pln] at h
  | k + 1, n, .tup xs, h => by
    have h2 : plns k xs = true := by simp only [pln, Bool.and_eq_true] at h; exact h.2
    rw [frzD, lt_tup]; exact lts_frz k n xs h2
  | k + 1, n, .lst xs, h => by
    have h2 : plns k xs = true := by simp only [pln, Bool.and_eq_true] at h; exact h.2
    rw [frzD, lt_tup]; exact lts_frz k n xs h2
  | k, _, .dic _ _, h => by cases k <;> simp [pln] at h
  | k, _, .ins _ _ _, h => by cases k <;> simp [pln] at h
  | k, _, .ref _, h => by cases k <;> simp [pln] at h
  | k, _, .fn _, h => by cases k <;> simp [pln] at h
  | k, _, .scr _, h => by cases k <;> simp [pln] at h
theorem lts_frz : ∀ (k n : Nat) (ds : List D), plns k ds = true → lts n (frzDs ds) = true
  | _, _, [], _ => by simp [frzDs]
  | k, n, d :: ds, h => by
    have h' : pln k d = true ∧ plns k ds = true := by simpa [plns] using h
    rw [frzDs, lts_cons, lt_frz k n d h'.1, lts_frz k n ds h'.2]; rfl
end
mutual
theorem lt_pln : ∀ (k n : Nat) (d : D), pln k d = true → lt n d = true
  | _, _, .non, _ => by simp
  | _, _, .bl _, _ => by simp
  | _, _, .int _, _ => by simp
  | _, _, .str _, _ => by simp
  | 0, _, .tup _, h => by simp [pln] at h
  | 0, _, .lst _, h => by simp [pln] at h
  | k + 1, n, .tup xs, h => by
    have h2 : plns k xs = true := by simp only [pln, Bool.and_eq_true] at h; exact h.2
    rw [lt_tup]; exact lts_pln k n xs h2
  | k + 1, n, .lst xs, h => by
    have h2 : plns k xs = true := by simp only [pln, Bool.and_eq_true] at h; exact h.2
    rw [lt_lst]; exact lts_pln k n xs h2
  | k, _, .dic _ _, h => by cases k <;> simp [pln] at h
  | k, _, .ins _ _ _, h => by cases k <;> simp [pln] at h
  | k, _, .ref _, h => by cases k <;> simp [pln] at h
  | k, _, .fn _, h => by cases k <;> simp [pln] at h
  | k, _, .scr _, h => by cases k <;> simp [pln] at h
theorem lts_pln : ∀ (k n : Nat) (ds : List D), plns k ds = true → lts n ds = true
  | _, _, [], _ => by simp
  | k, n, d :: ds, h => by
    have h' : pln k d = true ∧ plns k ds = true := by simpa [plns] using h
    rw [lts_cons, lt_pln k n d h'.1, lts_pln k n ds h'.2]; rfl
end
theorem run_frozen {f : Nat} (hf : P.fns[f]? = some ⟨1, 2, frozenB f⟩) : ∀ (k : Nat) (d : D), pln k d = true → ∀ m, callF P w (k + m + 1) f [d] S = .ok (frzD d) S := by
  intro k
  induction k with
  | zero =>
    intro d h m
    rw [callF_at hf rfl]
    cases d <;> first | (simp [pln] at h; done) | simp [frozenB, subK, frzD]
  | succ k ih =>
    intro d h m
    rw [callF_at hf rfl]
    have row : ∀ (xs : List D) (o1 o2 : Option D), plns k xs = true → colV (cturn ⟨P, callF P w (k + 1 + m), w, none⟩ [1] (.var 1) none (.call f [(.var 1)]) [o1, o2]) xs S = .ok (frzDs xs) S := fun xs o1 o2 hp => by
      have := colV_map (f := cturn ⟨P, callF P w (k + 1 + m), w, none⟩ [1] (.var 1) none (.call f [(.var 1)]) [o1, o2]) (S := S) (enc := id) frzD xs fun x hx => by
        have := ih x (plns_mem hp x hx) m
        rw [show k + m + 1 = k + 1 + m by omega] at this
        simp [cturn, wipe, this]
      rw [List.map_id] at this
      rw [this, frzDs_map]
    cases d with
    | tup xs =>
      have hp : plns k xs = true := by simp only [pln, Bool.and_eq_true] at h; exact h.2
      simp [frozenB, subK, row xs _ _ hp, frzD, lts_frz k _ xs hp]
    | lst xs =>
      have hp : plns k xs = true := by simp only [pln, Bool.and_eq_true] at h; exact h.2
      simp [frozenB, subK, row xs _ _ hp, frzD, lts_frz k _ xs hp]
    | _ => first | (simp [pln] at h; done) | simp [frozenB, subK, frzD]
/-! want_row -/
theorem enumD_get : ∀ {xs : List D} {k i : Nat}, (enumD k xs)[i]? = (xs[i]?).map fun x => D.tup [.int ((k + i : Nat) : Int), x]
  | [], _, _ => by simp [enumD]
  | x :: xs, k, 0 => by simp [enumD]
  | x :: xs, k, i + 1 => by
    rw [enumD, List.getElem?_cons_succ, enumD_get, List.getElem?_cons_succ, show k + 1 + i = k + (i + 1) by omega]
theorem enD_len : ∀ {xs : List D} {k : Nat}, (enumD k xs).length = xs.length
  | [], _ => rfl
  | x :: xs, k => by rw [enumD, List.length_cons, List.length_cons, enD_len]
abbrev wrT (P : Prog) (call : Nat → List D → Sto → R D) (w xB : Nat) : D → Env → Sto → R Fl := turn ⟨P, call, w, none⟩ (.tup [(.var 3), (.var 4)]) [(.ite (.not (.val (.calv 1 [(.var 4)]))) [(.rais xB [(.var 3)])] [])]
theorem wr_one {g xB : Nat} {call : Nat → List D → Sto → R D} {a0 a2 o3 o4 : Option D} {i : Int} {x : D} (hg : g < P.fns.length) (h : call g [x] S = .ok (.bl true) S) : wrT P call w xB (.tup [.int i, x]) [a0, some (.fn g), a2, o3, o4] S = .ok (.nx [a0, some (.fn g), a2, some (.int i), some x]) S := by
  simp [wrT, turn, hg, h]
theorem wr_no {g xB : Nat} {call : Nat → List D → Sto → R D} {a0 a2 o3 o4 : Option D} {xd : XD} {i : Int} {x : D} (hg : g < P.fns.length) (hx : P.xcs[xB]? = some xd) (h1 : xd.ids.length = 1) (h : call g [x] S = .ok (.bl false) S) : wrT P call w xB (.tup [.int i, x]) [a0, some (.fn g), a2, o3, o4] S = .ok (.xc ⟨xB, [.int i]⟩ [a0, some (.fn g), a2, some (.int i), some x]) S := by
  simp [wrT, turn, hg, h, hx, h1]
/-- the loop over a row: all items are right -/
theorem wr_all {g xB : Nat} {call : Nat → List D → Sto → R D} {a0 a2 : Option D} (hg : g < P.fns.length) : ∀ (xs : List D) (k : Nat) (o3 o4 : Option D), (∀ x ∈ xs, call g [x] S = .ok (.bl true) S) →
    ∃ p3 p4, forV (wrT P call w xB) (enumD k xs) [a0, some (.fn g), a2, o3, o4] S = .ok (.nx [a0, some (.fn g), a2, p3, p4]) S
  | [], k, o3, o4, _ => ⟨o3, o4, rfl⟩
  | x :: xs, k, o3, o4, h => by
    obtain ⟨p3, p4, e⟩ := wr_all (xB := xB) (a0 := a0) (a2 := a2) hg xs (k + 1) (some (.int k)) (some x) fun y hy => h y (List.mem_cons_of_mem _ hy)
    refine ⟨p3, p4, ?_⟩
    rw [enumD, forV, wr_one hg (h x List.mem_cons_self)]
    exact e
/-- .. one is not: the first of them -/
theorem wr_bad {g xB : Nat} {call : Nat → List D → Sto → R D} {a0 a2 : Option D} {xd : XD} (hg : g < P.fns.length) (hx : P.xcs[xB]? = some xd) (h1 : xd.ids.length = 1) : ∀ (xs : List D) (k j : Nat) (o3 o4 : Option D) (x : D), xs[j]? = some x → call g [x] S = .ok (.bl false) S → (∀ i y, i < j → xs[i]? = some y → call g [y] S = .ok (.bl true) S) →
    ∃ ρ, forV (wrT P call w xB) (enumD k xs) [a0, some (.fn g), a2, o3, o4] S = .ok (.xc ⟨xB, [.int ((k + j : Nat) : Int)]⟩ ρ) S
  | [], _, _, _, _, _, h, _, _ => by simp at h
  | x :: xs, k, 0, o3, o4, y, h, hb, _ => by
    simp at h
    subst h
    refine ⟨[a0, some (.fn g), a2, some (.int k), some x], ?_⟩
    rw [enumD, forV, wr_no hg hx h1 hb]
    rfl
  | x :: xs, k, j + 1, o3, o4, y, h, hb, ha => by
    obtain ⟨ρ, e⟩ := wr_bad (a0 := a0) (a2 := a2) hg hx h1 xs (k + 1) j (some (.int k)) (some x) y (by simpa using h) hb fun i z hi hz => ha (i + 1) z (by omega) (by simpa using hz)
    refine ⟨ρ, ?_⟩
    rw [enumD, forV, wr_one hg (ha 0 x (by omega) rfl), show k + (j + 1) = k + 1 + j by omega]
    exact e
theorem run_want {f fR fZ xB xM g : Nat} {xB' xM' : XD} (hf : P.fns[f]? = some ⟨3, 5, wantRowB fR fZ xB xM⟩) (hR : P.fns[fR]? = some ⟨1, 1, isRowB⟩) (hZ : P.fns[fZ]? = some ⟨1, 2, frozenB fZ⟩) (hB : P.xcs[xB]? = some xB') (hM : P.xcs[xM]? = some xM') (h1 : xB'.ids.length = 1) (h2 : xM'.ids.length = 1) (hg : g < P.fns.length) (most : Int) {v : D} {xs : List D} (hv : v = .tup xs ∨ v = .lst xs) (hp : pln 4 v = true) (hn : 5 ≤ n) :
    ((∀ x ∈ xs, callF P w n g [x] S = .ok (.bl true) S) → callF P w (n + 1) f [v, .fn g, .int most] S = if (xs.length : Int) ≤ most then .ok (frzD v) S else .exc ⟨xM, [.int most]⟩ S) ∧
    (∀ (j : Nat) x, xs[j]? = some x → callF P w n g [x] S = .ok (.bl false) S → (∀ (i : Nat) y, i < j → xs[i]? = some y → callF P w n g [y] S = .ok (.bl true) S) → callF P w (n + 1) f [v, .fn g, .int most] S = .exc ⟨xB, [.int j]⟩ S) := by
  obtain ⟨m, rfl⟩ : ∃ m, n = m + 5 := ⟨n - 5, by omega⟩
  have hr : callF P w (m + 5) fR [v] S = .ok (.bl true) S := by
    have := run_row (w := w) (n := m + 4) (S := S) hR v (by rcases hv with rfl | rfl <;> rfl)
    rw [this]
    rcases hv with rfl | rfl <;> rfl
  have hen : enumOf S v = some (.vals (enumD 0 xs)) := by rcases hv with rfl | rfl <;> rfl
  have hlen : ∀ cx : Cx, bi cx false .len [v] S = .ok (.int xs.length) S := fun cx => by rcases hv with rfl | rfl <;> rfl
  have hz := run_frozen (w := w) (S := S) hZ 4 v hp m
  rw [show 4 + m + 1 = m + 5 by omega] at hz
  have hl := lt_frz 4 S.length v hp
  constructor
  · intro hall
    rw [callF_at hf rfl]
    obtain ⟨o3, o4, e⟩ := wr_all (w := w) (xB := xB) (call := callF P w (m + 5)) (a0 := some v) (a2 := some (.int most)) hg xs 0 none none hall
    unfold wrT at e
    simp [wantRowB, hr, hen, e]
    simp [hlen]
    by_cases hm : most < xs.length
    · rw [if_pos hm, if_neg (by omega)]
      simp [hM, h2, finX_id]
    · rw [if_neg hm, if_pos (by omega)]
      simp [hz]
      exact fin_same hl rfl
  · intro j x hj hb ha
    rw [callF_at hf rfl]
    obtain ⟨ρ, e⟩ := wr_bad (w := w) (call := callF P w (m + 5)) (a0 := some v) (a2 := some (.int most)) hg hB h1 xs 0 j none none x hj hb ha
    unfold wrT at e
    simp [wantRowB, hr, hen, e, finX_id]
theorem run_wantN {f fR fZ xB xM g : Nat} {xB' : XD} (hf : P.fns[f]? = some ⟨3, 5, wantRowB fR fZ xB xM⟩) (hR : P.fns[fR]? = some ⟨1, 1, isRowB⟩) (hB : P.xcs[xB]? = some xB') (h1 : xB'.ids.length = 1) (most : Int) {v : D} (hv : flatD v = true) (hr : isR v = false) :
    callF P w (n + 2) f [v, .fn g, .int most] S = .exc ⟨xB, [.non]⟩ S := by
  have e := run_row (w := w) (n := n) (S := S) hR v hv
  rw [hr] at e
  rw [callF_at hf rfl]
  simp [wantRowB, e, hB, h1, finX_id]
/-! ### fractions -/
def reducedB : List St :=
  [(.asg (.tup [(.var 2), (.var 3)]) (.tup [(.bi false .abs [(.var 0)]), (.var 1)])),
   (.whl (.val (.cmp .gt (.var 3) (.cst (.int 0)))) [(.asg (.tup [(.var 2), (.var 3)]) (.tup [(.var 3), (.bin .mod (.var 2) (.var 3))]))]),
   (.ret (.ite (.val (.cmp .gt (.var 2) (.cst (.int 0)))) (.tup [(.bin .fdiv (.var 0) (.var 2)), (.bin .fdiv (.var 1) (.var 2))]) (.tup [(.cst (.int 0)), (.cst (.int 1))])))]
def frq (p : Int × Int) : D := .tup [.int p.1, .int p.2]
/-- a fraction in lowest terms -/
def lowq (a b : Int) : Int × Int := (a / (Int.gcd a b), b / (Int.gcd a b))
theorem red_loop {cx : Cx} {A B : Option D} : ∀ (k m x y : Nat), y < 2 ^ k → 2 * k < m → whl (evt cx (.val (.cmp .gt (.var 3) (.cst (.int 0))))) (blkS [(.asg (.tup [(.var 2), (.var 3)]) (.tup [(.var 3), (.bin .mod (.var 2) (.var 3))]))] cx) m [A, B, some (.int x), some (.int y)] S
    = .ok (.nx [A, B, some (.int (Nat.gcd x y : Nat)), some (.int 0)]) S
  | 0, m, x, y, h, hm => by
    have hy0 : y = 0 := by simpa using h
    subst hy0
    obtain ⟨j, rfl⟩ : ∃ j, m = j + 1 := ⟨m - 1, by omega⟩
    rw [whl_end (S1 := S) (by simp)]
    simp
  | k + 1, m, x, y, h, hm => by
    by_cases hy0 : y = 0
    · subst hy0
      obtain ⟨j, rfl⟩ : ∃ j, m = j + 1 := ⟨m - 1, by omega⟩
      rw [whl_end (S1 := S) (by simp)]
      simp
    obtain ⟨j, rfl⟩ : ∃ j, m = j + 2 := ⟨m - 2, by omega⟩
    rw [whl_go (S1 := S) (S2 := S) (ρ' := [A, B, some (.int y), some (.int (x % y : Nat))]) (by simp; omega) (by simp (disch := first | omega | fail) [blkS])]
    have h2 : x % y < y := Nat.mod_lt _ (by omega)
    by_cases hz0 : x % y = 0
    · rw [hz0, whl_end (S1 := S) (by simp)]
      have : Nat.gcd x y = y := Nat.gcd_eq_right (Nat.dvd_of_mod_eq_zero hz0)
      rw [this]
      simp
    · rw [whl_go (S1 := S) (S2 := S) (ρ' := [A, B, some (.int (x % y : Nat)), some (.int (y % (x % y) : Nat))]) (by simp; omega) (by simp (disch := first | omega | fail) [blkS])]
      have h3 : y % (x % y) < 2 ^ k := by
        have a1 : y % (x % y) < x % y := Nat.mod_lt _ (by omega)
        have a2 : x % y + y % (x % y) ≤ y := by
          have h5 := Nat.div_add_mod y (x % y)
          have h6 : 1 ≤ y / (x % y) := (Nat.one_le_div_iff (by omega)).mpr (by omega)
          have h7 := Nat.mul_le_mul_left (x % y) h6
          omega
        rw [Nat.pow_succ] at h
        omega
      rw [red_loop k j (x % y) (y % (x % y)) h3 (by omega)]
      have e1 : Nat.gcd (x % y) (y % (x % y)) = Nat.gcd x y := by rw [Nat.gcd_comm (x % y), ← Nat.gcd_rec, ← Nat.gcd_rec, Nat.gcd_comm]
      rw [e1]
theorem divOk_big {j : Int} (h1 : 0 < j) (h2 : j < 2 ^ 9000) : divOk j = true := by
  rw [divOk_eq, decide_eq_true h1]
  have : j.natAbs.log2 < 9000 := by
    have h0 : j.natAbs ≠ 0 := by omega
    rw [Nat.log2_lt h0]
    omega
  rw [decide_eq_true this]
  simp
theorem op_divB {i j : Int} (h1 : 0 < j) (h2 : j < 2 ^ 9000) : binop S .fdiv (.int i) (.int j) = some (.int (i / j)) := by
  show (if divOk j then some (D.int (i / j)) else none) = _
  rw [divOk_big h1 h2]; rfl
theorem mulOk_big {i j : Int} {a b : Nat} (h1 : i.natAbs < 2 ^ a) (h2 : j.natAbs < 2 ^ b) (h : a + b < 900000) : mulOk i j = true := by
  rw [mulOk_eq]
  have l : ∀ {x c : Nat}, x < 2 ^ c → x.log2 ≤ c := fun {x c} hx => by
    by_cases h0 : x = 0
    · subst h0; simp
    · exact Nat.le_of_lt ((Nat.log2_lt h0).mpr hx)
  have := l h1
  have := l h2
  rw [decide_eq_true (p := i.natAbs.log2 + j.natAbs.log2 < 1000000) (by omega), Bool.or_true]
theorem op_mulB {i j : Int} {a b : Nat} (h1 : i.natAbs < 2 ^ a) (h2 : j.natAbs < 2 ^ b) (h : a + b < 900000) : binop S .mul (.int i) (.int j) = some (.int (i * j)) := by
  show (if mulOk i j then some (D.int (i * j)) else none) = _
  rw [mulOk_big h1 h2 h]; rfl
theorem gcdq_pos {a b : Int} (h : 0 < b) : 0 < (Int.gcd a b : Int) ∧ (Int.gcd a b : Int) ≤ b := by
  have h1 : 0 < Int.gcd a b := Int.gcd_pos_of_ne_zero_right a (by omega)
  have h2 : (Int.gcd a b : Int) ∣ b := Int.gcd_dvd_right ..
  exact ⟨by omega, Int.le_of_dvd h h2⟩
theorem run_reduced {f : Nat} (hf : P.fns[f]? = some ⟨2, 4, reducedB⟩) (a b : Int) (h : 0 < b) (h2 : b < 2 ^ 9000) (hw : 18002 < w) : callF P w (n + 1) f [.int a, .int b] S = .ok (frq (lowq a b)) S := by
  rw [callF_at hf rfl]
  unfold lowq frq
  have ⟨g1, g2⟩ := gcdq_pos (a := a) h
  obtain ⟨bn, rfl⟩ := Int.eq_ofNat_of_zero_le (Int.le_of_lt h)
  simp (disch := first | omega | fail) [reducedB]
  have h2' : bn < 2 ^ 9000 := by
    have p : ((2 ^ 9000 : Nat) : Int) = (2 : Int) ^ 9000 := Int.natCast_pow 2 9000
    rw [← p] at h2
    exact Int.ofNat_lt.mp h2
  rw [red_loop 9000 w _ _ h2' (by omega)]
  have e : Nat.gcd a.natAbs bn = Int.gcd a bn := rfl
  rw [e]
  generalize Int.gcd a bn = g at g1 g2 ⊢
  have hgb : (g : Int) < 2 ^ 9000 := Int.lt_of_le_of_lt g2 h2
  have d1 := fun i => op_divB (S := S) (i := i) g1 hgb
  simp [d1, g1]
  intro h0
  omega
end
end Dn
/-! Dn: fractions in lowest terms. -/
namespace Dn
/-- plain numbers are small -/
theorem sm {x : Int} (h : x < 1000000000) : x < 2 ^ 9000 := by
  have : (2 : Nat) ^ 30 ≤ 2 ^ 9000 := Nat.pow_le_pow_right (by decide) (by decide)
  have p : ((2 ^ 9000 : Nat) : Int) = (2 : Int) ^ 9000 := Int.natCast_pow 2 9000
  rw [← p]
  generalize (2 : Nat) ^ 9000 = B at *
  omega
/-! ### fractions in lowest terms -/
theorem low_den {a b : Int} (h : 0 < b) : 0 < (lowq a b).2 ∧ (lowq a b).2 ≤ b := by
  have ⟨g1, g2⟩ := gcdq_pos (a := a) h
  have h2 : (Int.gcd a b : Int) ∣ b := Int.gcd_dvd_right ..
  obtain ⟨k, hk⟩ := h2
  unfold lowq
  dsimp only
  generalize (Int.gcd a b : Int) = g at *
  subst hk
  rw [Int.mul_ediv_cancel_left _ (by omega)]
  have k0 : 0 < k := by
    rcases Int.lt_trichotomy k 0 with z | z | z
    · have := Int.mul_neg_of_pos_of_neg g1 z; omega
    · subst z; omega
    · exact z
  refine ⟨k0, ?_⟩
  have := Int.mul_le_mul_of_nonneg_right (show (1 : Int) ≤ g by omega) (show 0 ≤ k by omega)
  omega
/-- the two parts, out of the lowest terms -/
theorem low_parts (a : Int) {b : Int} (h : 0 < b) : ∃ g : Int, 0 < g ∧ a = g * (lowq a b).1 ∧ b = g * (lowq a b).2 := by
  have ⟨g1, g2⟩ := gcdq_pos (a := a) h
  refine ⟨Int.gcd a b, g1, ?_, ?_⟩
  · exact (Int.mul_ediv_cancel' (Int.gcd_dvd_left ..)).symm
  · exact (Int.mul_ediv_cancel' (Int.gcd_dvd_right ..)).symm
theorem low_mul {g : Int} (hg : 0 < g) (a : Int) {b : Int} (h : 0 < b) : lowq (g * a) (g * b) = lowq a b := by
  have ⟨g1, g2⟩ := gcdq_pos (a := a) h
  unfold lowq
  rw [Int.gcd_mul_left]
  have : ((g.natAbs * Int.gcd a b : Nat) : Int) = g * (Int.gcd a b : Int) := by
    rw [Int.natCast_mul, Int.natAbs_of_nonneg (by omega)]
  rw [this, Int.mul_ediv_mul_of_pos _ _ hg, Int.mul_ediv_mul_of_pos _ _ hg]
theorem low_nn {a b : Int} (ha : 0 ≤ a) (h : 0 < b) : 0 ≤ (lowq a b).1 ∧ (lowq a b).1 ≤ a := by
  have ⟨g1, g2⟩ := gcdq_pos (a := a) h
  unfold lowq
  exact ⟨Int.ediv_nonneg ha (by omega), Int.ediv_le_self _ ha⟩
/-- products of fractions -/
theorem low_times (a c : Int) {b d : Int} (hb : 0 < b) (hd : 0 < d) : lowq ((lowq a b).1 * (lowq c d).1) ((lowq a b).2 * (lowq c d).2) = lowq (a * c) (b * d) := by
  obtain ⟨g, g0, e1, e2⟩ := low_parts a hb
  obtain ⟨h, h0, e3, e4⟩ := low_parts c hd
  have d1 := (low_den (a := a) hb).1
  have d2 := (low_den (a := c) hd).1
  generalize lowq a b = p at *
  generalize lowq c d = q at *
  subst e1 e2 e3 e4
  rw [show g * p.1 * (h * q.1) = g * h * (p.1 * q.1) by rw [Int.mul_assoc, Int.mul_assoc, Int.mul_left_comm p.1], show g * p.2 * (h * q.2) = g * h * (p.2 * q.2) by rw [Int.mul_assoc, Int.mul_assoc, Int.mul_left_comm p.2]]
  exact (low_mul (Int.mul_pos g0 h0) _ (Int.mul_pos d1 d2)).symm
/-- one less a fraction -/
theorem low_minus (a : Int) {b : Int} (hb : 0 < b) : lowq (1 * (lowq a b).2 - (lowq a b).1 * 1) (1 * (lowq a b).2) = lowq (b - a) b := by
  obtain ⟨g, g0, e1, e2⟩ := low_parts a hb
  have d1 := (low_den (a := a) hb).1
  generalize lowq a b = p at *
  subst e1 e2
  rw [← Int.mul_sub, low_mul g0 _ d1, Int.one_mul, Int.mul_one]
/-- a fraction less than another -/
theorem low_lt (a : Int) {b : Int} (hb : 0 < b) (c d : Int) : (lowq a b).1 * d < c * (lowq a b).2 ↔ a * d < c * b := by
  obtain ⟨g, g0, e1, e2⟩ := low_parts a hb
  generalize lowq a b = p at *
  subst e1 e2
  rw [Int.mul_assoc, Int.mul_left_comm c]
  exact (Int.mul_lt_mul_left g0).symm
theorem lt_low (a : Int) {b : Int} (hb : 0 < b) (c d : Int) : c * (lowq a b).2 < (lowq a b).1 * d ↔ c * b < a * d := by
  obtain ⟨g, g0, e1, e2⟩ := low_parts a hb
  generalize lowq a b = p at *
  subst e1 e2
  rw [Int.mul_assoc, Int.mul_left_comm c]
  exact (Int.mul_lt_mul_left g0).symm
theorem plnF (p : Int × Int) (k : Nat) : pln (k + 1) (frq p) = true := by cases k <;> simp [frq, pln, plns]
/-! the functions -/
def minusB (fR : Nat) : List St :=
  [(.ret (.call fR [(.bin .sub (.bin .mul (.idx (.var 0) (.cst (.int 0))) (.idx (.var 1) (.cst (.int 1)))) (.bin .mul (.idx (.var 1) (.cst (.int 0))) (.idx (.var 0) (.cst (.int 1))))), (.bin .mul (.idx (.var 0) (.cst (.int 1))) (.idx (.var 1) (.cst (.int 1))))]))]
def timesB (fR : Nat) : List St :=
  [(.ret (.call fR [(.bin .mul (.idx (.var 0) (.cst (.int 0))) (.idx (.var 1) (.cst (.int 0)))), (.bin .mul (.idx (.var 0) (.cst (.int 1))) (.idx (.var 1) (.cst (.int 1))))]))]
def isLessB : List St :=
  [(.ret (.cmp .lt (.bin .mul (.idx (.var 0) (.cst (.int 0))) (.idx (.var 1) (.cst (.int 1)))) (.bin .mul (.idx (.var 1) (.cst (.int 0))) (.idx (.var 0) (.cst (.int 1))))))]
/-- no more than so many digits -/
def Sz (k : Nat) (i : Int) : Prop := i.natAbs < 2 ^ k
section
variable {P : Prog} {w n : Nat} {S : Sto}
theorem op_mulS {i j : Int} {a b : Nat} (h1 : Sz a i) (h2 : Sz b j) (h : a + b < 900000) : binop S .mul (.int i) (.int j) = some (.int (i * j)) := op_mulB h1 h2 h
theorem pow_i (k : Nat) : ((2 ^ k : Nat) : Int) = (2 : Int) ^ k := Int.natCast_pow 2 k
theorem run_times {f fR : Nat} (hf : P.fns[f]? = some ⟨2, 2, timesB fR⟩) (hR : P.fns[fR]? = some ⟨2, 4, reducedB⟩) {p q : Int × Int} (h1 : Sz 8990 p.1) (h2 : Sz 8990 p.2) (h3 : Sz 8990 q.1) (h4 : Sz 8990 q.2) (h0 : 0 < p.2 * q.2) (h5 : p.2 * q.2 < 2 ^ 9000) (hw : 18002 < w) :
    callF P w (n + 2) f [frq p, frq q] S = .ok (frq (lowq (p.1 * q.1) (p.2 * q.2))) S := by
  rw [callF_at hf rfl]
  have e := run_reduced (n := n) (w := w) (S := S) hR (p.1 * q.1) (p.2 * q.2) h0 h5 hw
  have m1 := op_mulS (S := S) h1 h3 (by decide)
  have m2 := op_mulS (S := S) h2 h4 (by decide)
  simp [timesB, frq, m1, m2]
  simp [e]
  simp [frq]
theorem run_minus {f fR : Nat} (hf : P.fns[f]? = some ⟨2, 2, minusB fR⟩) (hR : P.fns[fR]? = some ⟨2, 4, reducedB⟩) {p q : Int × Int} (h1 : Sz 8990 p.1) (h2 : Sz 8990 p.2) (h3 : Sz 8990 q.1) (h4 : Sz 8990 q.2) (h0 : 0 < p.2 * q.2) (h5 : p.2 * q.2 < 2 ^ 9000) (hw : 18002 < w) :
    callF P w (n + 2) f [frq p, frq q] S = .ok (frq (lowq (p.1 * q.2 - q.1 * p.2) (p.2 * q.2))) S := by
  rw [callF_at hf rfl]
  have e := run_reduced (n := n) (w := w) (S := S) hR (p.1 * q.2 - q.1 * p.2) (p.2 * q.2) h0 h5 hw
  have m1 := op_mulS (S := S) h1 h4 (by decide)
  have m2 := op_mulS (S := S) h3 h2 (by decide)
  have m3 := op_mulS (S := S) h2 h4 (by decide)
  simp [minusB, frq, m1, m2, m3]
  simp [e]
  simp [frq]
theorem run_less {f : Nat} (hf : P.fns[f]? = some ⟨2, 2, isLessB⟩) {p q : Int × Int} (h1 : Sz 8990 p.1) (h2 : Sz 8990 p.2) (h3 : Sz 8990 q.1) (h4 : Sz 8990 q.2) :
    callF P w (n + 1) f [frq p, frq q] S = .ok (.bl (decide (p.1 * q.2 < q.1 * p.2))) S := by
  rw [callF_at hf rfl]
  have m1 := op_mulS (S := S) h1 h4 (by decide)
  have m2 := op_mulS (S := S) h3 h2 (by decide)
  simp [isLessB, frq, m1, m2]
theorem Sz.of {k : Nat} {i : Int} (h1 : 0 ≤ i) (h2 : i < 2 ^ k) : Sz k i := by
  rw [← pow_i] at h2
  unfold Sz
  generalize 2 ^ k = B at *
  omega
theorem Sz.sm {k : Nat} {i : Int} (h1 : -1000000000 < i) (h2 : i < 1000000000) (hk : 30 ≤ k) : Sz k i := by
  have : (2 : Nat) ^ 30 ≤ 2 ^ k := Nat.pow_le_pow_right (by decide) hk
  unfold Sz
  generalize 2 ^ k = B at *
  omega
theorem Sz.le {k : Nat} {i j : Int} (h : Sz k j) (h1 : 0 ≤ i) (h2 : i ≤ j) : Sz k i := by
  unfold Sz at *
  omega
end
/-! lowest terms, the law's own loop -/
def low3B : List St :=
  [(.asg (.tup [(.var 2), (.var 3)]) (.tup [(.var 0), (.var 1)])),
   (.whl (.val (.cmp .ne (.bin .mod (.var 2) (.var 3)) (.cst (.int 0)))) [(.asg (.tup [(.var 2), (.var 3)]) (.tup [(.var 3), (.bin .mod (.var 2) (.var 3))]))]),
   (.ret (.tup [(.bin .fdiv (.var 0) (.var 3)), (.bin .fdiv (.var 1) (.var 3))]))]
section
variable {P : Prog} {w n : Nat} {S : Sto}
theorem low3_loop {cx : Cx} {A B : Option D} : ∀ (k m x y : Nat), 0 < y → y < 2 ^ k → 2 * k < m → ∃ o, whl (evt cx (.val (.cmp .ne (.bin .mod (.var 2) (.var 3)) (.cst (.int 0))))) (blkS [(.asg (.tup [(.var 2), (.var 3)]) (.tup [(.var 3), (.bin .mod (.var 2) (.var 3))]))] cx) m [A, B, some (.int x), some (.int y)] S
    = .ok (.nx [A, B, o, some (.int (Nat.gcd x y : Nat))]) S
  | 0, m, x, y, h0, h, hm => by
    have hy0 : y = 0 := by simpa using h
    omega
  | k + 1, m, x, y, h0, h, hm => by
    have hy : (0 : Int) < (y : Int) := by omega
    by_cases hz : x % y = 0
    · obtain ⟨j, rfl⟩ : ∃ j, m = j + 1 := ⟨m - 1, by omega⟩
      have hz' : (x : Int) % (y : Int) = 0 := by exact_mod_cast hz
      rw [whl_end (S1 := S) (by simp (disch := first | omega | fail) [hz'])]
      have : Nat.gcd x y = y := Nat.gcd_eq_right (Nat.dvd_of_mod_eq_zero hz)
      rw [this]
      exact ⟨_, rfl⟩
    have hz' : ¬ (x : Int) % (y : Int) = 0 := by exact_mod_cast hz
    obtain ⟨j, rfl⟩ : ∃ j, m = j + 2 := ⟨m - 2, by omega⟩
    rw [whl_go (S1 := S) (S2 := S) (ρ' := [A, B, some (.int y), some (.int (x % y : Nat))]) (by simp (disch := first | omega | fail) [hz']) (by simp (disch := first | omega | fail) [blkS])]
    have h2 : x % y < y := Nat.mod_lt _ (by omega)
    have e0 : Nat.gcd y (x % y) = Nat.gcd x y := by rw [Nat.gcd_comm y, ← Nat.gcd_rec, Nat.gcd_comm]
    by_cases hz0 : y % (x % y) = 0
    · have hz1 : (y : Int) % ((x % y : Nat) : Int) = 0 := by exact_mod_cast hz0
      rw [whl_end (S1 := S) (by simp only [evt_val, ev_cmp, ev_bin, ev_var, ev_cst, List.getElem?_cons_succ, List.getElem?_cons_zero, R.bind_ok]; rw [op_mod _ (by omega), hz1]; simp)]
      have : Nat.gcd y (x % y) = x % y := Nat.gcd_eq_right (Nat.dvd_of_mod_eq_zero hz0)
      rw [← e0, this]
      exact ⟨_, rfl⟩
    · have hz1 : ¬ (y : Int) % ((x % y : Nat) : Int) = 0 := by exact_mod_cast hz0
      rw [whl_go (S1 := S) (S2 := S) (ρ' := [A, B, some (.int (x % y : Nat)), some (.int (y % (x % y) : Nat))]) (by simp only [evt_val, ev_cmp, ev_bin, ev_var, ev_cst, List.getElem?_cons_succ, List.getElem?_cons_zero, R.bind_ok]; rw [op_mod _ (by omega)]; simp; exact_mod_cast hz0) (by simp (disch := first | omega | fail) [blkS])]
      have h3 : y % (x % y) < 2 ^ k := by
        have a1 : y % (x % y) < x % y := Nat.mod_lt _ (by omega)
        have a2 : x % y + y % (x % y) ≤ y := by
          have h5 := Nat.div_add_mod y (x % y)
          have h6 : 1 ≤ y / (x % y) := (Nat.one_le_div_iff (by omega)).mpr (by omega)
          have h7 := Nat.mul_le_mul_left (x % y) h6
          omega
        rw [Nat.pow_succ] at h
        omega
      obtain ⟨o, e⟩ := low3_loop k j (x % y) (y % (x % y)) (by omega) h3 (by omega)
      rw [e]
      have e1 : Nat.gcd (x % y) (y % (x % y)) = Nat.gcd x y := by rw [Nat.gcd_comm (x % y), ← Nat.gcd_rec, ← Nat.gcd_rec, Nat.gcd_comm]
      rw [e1]
      exact ⟨_, rfl⟩
theorem run_low3 {f : Nat} (hf : P.fns[f]? = some ⟨2, 4, low3B⟩) (a b : Int) (ha : 0 ≤ a) (h : 0 < b) (h2 : b < 2 ^ 9000) (hw : 18002 < w) : callF P w (n + 1) f [.int a, .int b] S = .ok (frq (lowq a b)) S := by
  rw [callF_at hf rfl]
  unfold lowq frq
  have ⟨g1, g2⟩ := gcdq_pos (a := a) h
  obtain ⟨bn, rfl⟩ := Int.eq_ofNat_of_zero_le (Int.le_of_lt h)
  obtain ⟨an, rfl⟩ := Int.eq_ofNat_of_zero_le ha
  have h2' : bn < 2 ^ 9000 := by
    rw [← pow_i] at h2
    exact Int.ofNat_lt.mp h2
  obtain ⟨o, e0⟩ := low3_loop (cx := ⟨P, callF P w n, w, none⟩) (S := S) (A := some (.int an)) (B := some (.int bn)) 9000 w an bn (by omega) h2' (by omega)
  simp (disch := first | omega | fail) [low3B, e0]
  have e : Nat.gcd an bn = Int.gcd an bn := rfl
  rw [e]
  generalize Int.gcd an bn = g at g1 g2 ⊢
  have hgb : (g : Int) < 2 ^ 9000 := Int.lt_of_le_of_lt g2 h2
  have d1 := fun i => op_divB (S := S) (i := i) g1 hgb
  simp [d1]
end
end Dn
/-! Dn: lists of ints and of pairs: sorted, set, min, max, slices; loops that find. -/
namespace Dn
section
variable (S : Sto)
@[simp] theorem op_addL {a b : List D} (h : a.length + b.length ≤ 16777216) : binop S .add (.lst a) (.lst b) = some (.lst (a ++ b)) := by
  show (if a.length + b.length ≤ line then some (D.lst (a ++ b)) else none) = _
  rw [if_pos (by rw [line_is]; exact h)]
@[simp] theorem op_addT {a b : List D} (h : a.length + b.length ≤ 16777216) : binop S .add (.tup a) (.tup b) = some (.tup (a ++ b)) := by
  show (if a.length + b.length ≤ line then some (D.tup (a ++ b)) else none) = _
  rw [if_pos (by rw [line_is]; exact h)]
@[simp] theorem sl_tup (c : Bool) (xs : List D) (l h : Option Int) : opSl c (.tup xs) l h S = .ok (.tup (cut xs l h)) S := rfl
@[simp] theorem sl_lst (xs : List D) (l h : Option Int) : opSl false (.lst xs) l h S = .ok (.lst (cut xs l h)) S := rfl
end
theorem sIx_nat (n d k : Nat) : sIx n d (some (k : Int)) = min k n := by
  show (if (k : Int) < 0 then ((k : Int) + n).toNat else min (k : Int).toNat n) = _
  rw [if_neg (by omega)]; rfl
theorem cut_to {α : Type} (xs : List α) (k : Nat) : cut xs none (some (k : Int)) = xs.take k := by
  unfold cut
  rw [sIx_nat]
  show (xs.drop 0).take (min k xs.length - 0) = _
  rw [List.drop_zero, Nat.sub_zero]
  by_cases h : k ≤ xs.length
  · rw [Nat.min_eq_left h]
  · rw [Nat.min_eq_right (by omega), List.take_length, List.take_of_length_le (by omega)]
theorem cut_from {α : Type} (xs : List α) (k : Nat) : cut xs (some (k : Int)) none = xs.drop k := by
  unfold cut
  rw [sIx_nat]
  show (xs.drop (min k xs.length)).take (xs.length - min k xs.length) = _
  by_cases h : k ≤ xs.length
  · rw [Nat.min_eq_left h, List.take_of_length_le (by rw [List.length_drop]; omega)]
  · rw [Nat.min_eq_right (by omega), Nat.sub_self, List.take_zero, List.drop_eq_nil_of_le (by omega)]
theorem cut_mid {α : Type} (xs : List α) (a b : Nat) : cut xs (some (a : Int)) (some (b : Int)) = (xs.drop a).take (b - a) := by
  unfold cut
  rw [sIx_nat, sIx_nat]
  by_cases h : a ≤ xs.length
  · rw [Nat.min_eq_left h]
    by_cases h2 : b ≤ xs.length
    · rw [Nat.min_eq_left h2]
    · rw [Nat.min_eq_right (by omega), List.take_of_length_le (by rw [List.length_drop]; omega), List.take_of_length_le (by rw [List.length_drop]; omega)]
  · rw [Nat.min_eq_right (show xs.length ≤ a by omega), List.drop_eq_nil_of_le (Nat.le_refl _), List.drop_eq_nil_of_le (show xs.length ≤ a by omega), List.take_nil, List.take_nil]
theorem cut_map {α β : Type} (f : α → β) (xs : List α) (l h : Option Int) : cut (xs.map f) l h = (cut xs l h).map f := by
  unfold cut
  rw [List.length_map, ← List.map_drop, ← List.map_take]
/-! alike data -/
/-- what min, max and sorted ask of the items -/
structure Ord1 (xs : List D) : Prop where
  pd : pds 60 xs = true
  alk : alkAll xs = true
theorem alk_ints (ns : List Int) : alkAll (ns.map .int) = true := by
  unfold alkAll
  simp [Dn.alk, isNon]
theorem alk_frqs (ps : List (Int × Int)) : alkAll (ps.map frq) = true := by
  unfold alkAll
  simp [frq, Dn.alk, alks, isNon]
theorem pds_frqs : ∀ (ps : List (Int × Int)), pds 60 (ps.map frq) = true
  | [] => by simp [pds]
  | p :: ps => by
    have : pd 60 (frq p) = true := by simp [frq, pd, pds]
    rw [List.map_cons, pds, this, pds_frqs ps]; rfl
theorem srt_ints (ns : List Int) : srtOk (ns.map .int) = true := by
  unfold srtOk
  simp [isT0]
/-- in order -/
def sortI (ns : List Int) : List Int := ns.mergeSort fun a b => !decide (b < a)
theorem sortB_ints (ns : List Int) : sortB (ns.map .int) = (sortI ns).map .int := by
  unfold sortB sortI
  rw [List.map_mergeSort]
  intro a _ b _
  simp [ltB]
section
variable (cx : Cx) (S : Sto)
theorem srt_go {xs : List D} {ns : List Int} (h : seqOf S (.lst xs) = some (ns.map .int)) : fSorted S (.lst xs) = some ((sortI ns).map .int) := by
  unfold fSorted
  rw [h]
  dsimp only
  rw [pds_ints, alk_ints, srt_ints, sortB_ints]; rfl
theorem bi_sorted_lst (ns : List Int) : bi cx false .sorted [.lst (ns.map .int)] S = .ok (.lst ((sortI ns).map .int)) S := by
  have : fSorted S (.lst (ns.map .int)) = some ((sortI ns).map .int) := srt_go S rfl
  show (match fSorted S (.lst (ns.map .int)) with | some xs => mkL false xs S | none => .bad) = _
  rw [this]; rfl
theorem bi_sorted_tup (ns : List Int) : bi cx false .sorted [.tup (ns.map .int)] S = .ok (.lst ((sortI ns).map .int)) S := by
  have : fSorted S (.tup (ns.map .int)) = some ((sortI ns).map .int) := by
    show (if pds 60 (ns.map .int) && alkAll (ns.map .int) && srtOk (ns.map .int) then some (sortB (ns.map .int)) else none) = _
    rw [pds_ints, alk_ints, srt_ints, sortB_ints]; rfl
  show (match fSorted S (.tup (ns.map .int)) with | some xs => mkL false xs S | none => .bad) = _
  rw [this]; rfl
theorem bi_sset_lst (ns : List Int) (h : ns.length < 64) : bi cx false .sset [.lst (ns.map .int)] S = .ok (.lst ((usort ns).map .int)) S := by
  have : fSset S (.lst (ns.map .int)) = some ((usort ns).map .int) := by
    show (intsD (ns.map .int)).bind _ = _
    rw [intsD_map]
    show (if ns.length < 64 then _ else _) = _
    rw [if_pos h]
  show (match fSset S (.lst (ns.map .int)) with | some xs => mkL false xs S | none => .bad) = _
  rw [this]; rfl
theorem bi_sset_tup (ns : List Int) (h : ns.length < 64) : bi cx false .sset [.tup (ns.map .int)] S = .ok (.lst ((usort ns).map .int)) S := bi_sset_lst cx S ns h
end
theorem insU_m {x y : Int} : ∀ {ns : List Int}, y ∈ insU x ns ↔ y = x ∨ y ∈ ns
  | [] => by simp [insU]
  | z :: ns => by
    rw [insU]
    split
    · simp
    · split
      · rename_i h; subst h; simp
      · rw [List.mem_cons, insU_m, List.mem_cons]; constructor <;> (intro h; rcases h with h | h | h <;> simp [h])
theorem us_mem {y : Int} : ∀ {ns : List Int}, y ∈ usort ns ↔ y ∈ ns
  | [] => by simp [usort]
  | x :: ns => by rw [usort, insU_m, us_mem, List.mem_cons]
theorem us_len : ∀ ns : List Int, (usort ns).length ≤ ns.length
  | [] => Nat.le_refl _
  | x :: ns => by
    have one : ∀ (x : Int) (ns : List Int), (insU x ns).length ≤ ns.length + 1 := fun x ns => by
      induction ns with
      | nil => simp [insU]
      | cons y ns ih => rw [insU]; split <;> (try split) <;> simp <;> omega
    rw [usort, List.length_cons]
    have := one x (usort ns)
    have := us_len ns
    omega
/-! greatest and least -/
theorem maxB_ints (x : Int) : ∀ ns : List Int, maxB (.int x) (ns.map .int) = .int (ns.foldl max x) := fun ns => by
  unfold maxB
  induction ns generalizing x with
  | nil => rfl
  | cons n ns ih =>
    rw [List.map_cons, List.foldl_cons, List.foldl_cons]
    have : (if ltB (.int x) (.int n) then D.int n else .int x) = .int (max x n) := by
      simp only [ltB, decide_eq_true_eq]
      split <;> (congr 1; omega)
    rw [this, ih]
theorem minB_ints (x : Int) : ∀ ns : List Int, minB (.int x) (ns.map .int) = .int (ns.foldl min x) := fun ns => by
  unfold minB
  induction ns generalizing x with
  | nil => rfl
  | cons n ns ih =>
    rw [List.map_cons, List.foldl_cons, List.foldl_cons]
    have : (if ltB (.int n) (.int x) then D.int n else .int x) = .int (min x n) := by
      simp only [ltB, decide_eq_true_eq]
      split <;> (congr 1; omega)
    rw [this, ih]
/-- pairs in order -/
def ltP (p q : Int × Int) : Bool := if p.1 = q.1 then decide (p.2 < q.2) else decide (p.1 < q.1)
def minP (p : Int × Int) (ps : List (Int × Int)) : Int × Int := ps.foldl (fun a y => if ltP y a then y else a) p
theorem ltB_frq (p q : Int × Int) : ltB (frq p) (frq q) = ltP p q := by
  obtain ⟨a, b⟩ := p
  obtain ⟨c, d⟩ := q
  simp [frq, ltB, ltBs, eqB, ltP]
  split
  · by_cases h : b < d
    · have : ¬ b = d := by omega
      simp [h, this]
    · simp [h]
  · rfl
theorem minB_frqs (p : Int × Int) : ∀ ps : List (Int × Int), minB (frq p) (ps.map frq) = frq (minP p ps) := fun ps => by
  unfold minB minP
  induction ps generalizing p with
  | nil => rfl
  | cons q ps ih =>
    rw [List.map_cons, List.foldl_cons, List.foldl_cons, ltB_frq]
    have : (if ltP q p then frq q else frq p) = frq (if ltP q p then q else p) := by split <;> rfl
    rw [this, ih]
theorem minP_mem (p : Int × Int) : ∀ ps : List (Int × Int), minP p ps ∈ p :: ps := fun ps => by
  unfold minP
  induction ps generalizing p with
  | nil => simp
  | cons q ps ih =>
    rw [List.foldl_cons]
    rcases List.mem_cons.mp (ih (if ltP q p then q else p)) with h | h
    · rw [h]; split <;> simp
    · simp [h]
theorem minP_le (p : Int × Int) : ∀ (ps : List (Int × Int)), ∀ q ∈ p :: ps, (minP p ps).1 ≤ q.1 := fun ps => by
  unfold minP
  induction ps generalizing p with
  | nil => intro q hq; simp at hq; rw [hq]; exact Int.le_refl _
  | cons r ps ih =>
    intro q hq
    rw [List.foldl_cons]
    have hm := ih (if ltP r p then r else p) _ List.mem_cons_self
    have key : (if ltP r p then r else p).1 ≤ p.1 ∧ (if ltP r p then r else p).1 ≤ r.1 := by
      unfold ltP
      by_cases h : r.1 = p.1
      · rw [if_pos h]; split <;> omega
      · rw [if_neg h]
        by_cases h2 : r.1 < p.1
        · rw [if_pos (by simpa using h2)]; omega
        · rw [if_neg (by simpa using h2)]; omega
    rcases List.mem_cons.mp hq with h | h
    · rw [h]; omega
    · rcases List.mem_cons.mp h with h | h
      · rw [h]; omega
      · exact ih _ q (List.mem_cons_of_mem _ h)
section
variable (cx : Cx) (S : Sto)
theorem bi_max_lst (c : Bool) (x : Int) (ns : List Int) : bi cx c .max1 [.lst ((x :: ns).map .int)] S = .ok (.int (ns.foldl max x)) S := by
  show R.of (if pds 60 ((x :: ns).map .int) && alkAll ((x :: ns).map .int) then some (maxB (.int x) (ns.map .int)) else none) S = _
  rw [pds_ints, alk_ints, maxB_ints]; rfl
theorem bi_max_tup (c : Bool) (x : Int) (ns : List Int) : bi cx c .max1 [.tup ((x :: ns).map .int)] S = .ok (.int (ns.foldl max x)) S := bi_max_lst cx S c x ns
theorem bi_max_ref (c : Bool) {l : Nat} (x : Int) (ns : List Int) (h : S[l]? = some (.lst ((x :: ns).map .int))) : bi cx c .max1 [.ref l] S = .ok (.int (ns.foldl max x)) S := by
  have : fMax S (.ref l) = fMax S (.lst ((x :: ns).map .int)) := by
    unfold fMax
    have : seqOf S (.ref l) = some ((x :: ns).map .int) := by
      show (match S[l]? with | some (.lst xs) => some xs | _ => none) = _
      rw [h]
    rw [this]; rfl
  show R.of (fMax S (.ref l)) S = _
  rw [this]
  exact bi_max_lst cx S c x ns
theorem bi_min_lst (c : Bool) (x : Int) (ns : List Int) : bi cx c .min1 [.lst ((x :: ns).map .int)] S = .ok (.int (ns.foldl min x)) S := by
  show R.of (if pds 60 ((x :: ns).map .int) && alkAll ((x :: ns).map .int) then some (minB (.int x) (ns.map .int)) else none) S = _
  rw [pds_ints, alk_ints, minB_ints]; rfl
theorem bi_min_frq (c : Bool) (p : Int × Int) (ps : List (Int × Int)) : bi cx c .min1 [.lst ((p :: ps).map frq)] S = .ok (frq (minP p ps)) S := by
  show R.of (if pds 60 ((p :: ps).map frq) && alkAll ((p :: ps).map frq) then some (minB (frq p) (ps.map frq)) else none) S = _
  rw [pds_frqs, alk_frqs, minB_frqs]; rfl
end
/-! a loop that returns the first of its kind -/
theorem forV_find {α : Type} {f : D → Env → Sto → R Fl} {S : Sto} {enc : α → D} (p : α → Bool) (I : Env → Prop) (r : α → D) : ∀ (xs : List α) (ρ : Env), I ρ → (∀ x ∈ xs, ∀ ρ, I ρ → (p x = true → f (enc x) ρ S = .ok (.rt (r x)) S) ∧ (p x = false → ∃ ρ', I ρ' ∧ f (enc x) ρ S = .ok (.nx ρ') S)) →
    (∀ y ys, xs.filter p = y :: ys → forV f (xs.map enc) ρ S = .ok (.rt (r y)) S) ∧ (xs.filter p = [] → ∃ ρ', I ρ' ∧ forV f (xs.map enc) ρ S = .ok (.nx ρ') S)
  | [], ρ, h, _ => ⟨fun _ _ h => by simp at h, fun _ => ⟨ρ, h, rfl⟩⟩
  | x :: xs, ρ, h, hx => by
    obtain ⟨h1, h2⟩ := hx x List.mem_cons_self ρ h
    cases hp : p x with
    | true =>
      rw [List.filter_cons_of_pos hp]
      refine ⟨fun y ys e => ?_, fun e => by simp at e⟩
      injection e with e _
      subst e
      rw [List.map_cons, forV, h1 hp]; rfl
    | false =>
      rw [List.filter_cons_of_neg (by simp [hp])]
      obtain ⟨ρ', i1, i2⟩ := h2 hp
      have := forV_find p I r xs ρ' i1 fun y hy => hx y (List.mem_cons_of_mem _ hy)
      rw [List.map_cons, forV, i2]
      exact this
/-! cells -/
theorem bm_append {S : Sto} {l : Nat} {xs : List D} {x : D} (hl : S[l]? = some (.lst xs)) (h : xs.length < 16777216) : bm .append (.ref l) [x] S = .ok .non (setL S l (xs ++ [x])) := by
  show bAppend (.ref l) [x] S = _
  unfold bAppend
  rw [refL_at hl]
  dsimp only
  rw [if_pos (by rw [line_is]; exact h)]
theorem end_get (S : Sto) (a : LO) : (S ++ [a])[S.length]? = some a := by simp
theorem end_set (S : Sto) (a : LO) (ys : List D) : setL (S ++ [a]) S.length ys = S ++ [.lst ys] := by
  unfold setL
  rw [List.set_append_right _ _ (Nat.le_refl _), Nat.sub_self]; rfl
@[simp] theorem end_append (S : Sto) (xs : List D) (x : D) (h : xs.length < 16777216) : bm .append (.ref S.length) [x] (S ++ [.lst xs]) = .ok .non (S ++ [.lst (xs ++ [x])]) := by
  rw [bm_append (end_get S _) h, end_set]
@[simp] theorem end_refL (S : Sto) (xs : List D) : refL (S ++ [.lst xs]) (.ref S.length) = some (S.length, xs) := refL_at (end_get S _)
@[simp] theorem end_tuple (cx : Cx) (c : Bool) (S : Sto) (xs : List D) : bi cx c .tuple [.ref S.length] (S ++ [.lst xs]) = .ok (.tup xs) (S ++ [.lst xs]) := by
  have : seqOf (S ++ [.lst xs]) (.ref S.length) = some xs := by
    show (match (S ++ [LO.lst xs])[S.length]? with | some (.lst xs) => some xs | _ => none) = _
    rw [end_get]
  show R.of ((seqOf (S ++ [.lst xs]) (.ref S.length)).map D.tup) _ = _
  rw [this]; rfl
theorem end_fin {S : Sto} {d : D} {a : LO} (hd : lt S.length d = true) (hw : WS S) : fin S.length d (S ++ [a]) = .ok d S := fin_back hd (by simp) hw
/-! _law_pairs -/
@[simp] theorem rangeD0 (k : Nat) : rangeD 0 (k : Int) = (List.range k).map fun (i : Nat) => D.int i := by
  unfold rangeD
  simp
theorem rng_nat (k : Nat) (h : k ≤ 16777216) : rng .range1 [.int (k : Int)] = some ((List.range k).map fun (i : Nat) => D.int i) := by
  rw [← rangeD0]
  exact rng_1 (by omega) (by omega)
def pairsB : List St :=
  [(.asg (.var 2) (.lst false [])),
   (.for (.var 3) (.bi false .range1 [(.var 0)]) [(.asg (.var 2) (.bin .add (.var 2) (.comp false [4] (.var 4) (.bi false .range1 [(.var 1)]) none (.tup [(.var 3), (.var 4)]))))]),
   (.ret (.var 2))]
def prs (a b : Nat) : List (Nat × Nat) := (List.range a).flatMap fun x => (List.range b).map fun y => (x, y)
def prD (p : Nat × Nat) : D := .tup [.int p.1, .int p.2]
theorem prs_len (a b : Nat) : (prs a b).length = a * b := by
  unfold prs
  induction a with
  | zero => simp
  | succ a ih => rw [List.range_succ, List.flatMap_append, List.length_append, ih]; simp [Nat.succ_mul]
theorem lts_prs (m : Nat) : ∀ ps : List (Nat × Nat), lts m (ps.map prD) = true
  | [] => by simp
  | p :: ps => by rw [List.map_cons, lts_cons, lts_prs m ps]; simp [prD]
theorem run_pairs {P : Prog} {w n f : Nat} {S : Sto} (hf : P.fns[f]? = some ⟨2, 5, pairsB⟩) (a b : Nat) (h1 : a ≤ 1000) (h2 : b ≤ 1000) : callF P w (n + 1) f [.int a, .int b] S = .ok (.lst ((prs a b).map prD)) S := by
  rw [callF_at hf rfl]
  simp (disch := first | omega | fail) [pairsB]
  generalize hF : forV _ _ _ _ = F
  obtain ⟨os, ho, e⟩ := forV_use hF [3] [2] [none] (fun i => [some (.lst ((prs i b).map prD))]) (fun _ => S) rfl rfl rfl fun i x os hi ho hx => by
    obtain ⟨o, rfl⟩ := List.length_eq_one_iff.mp ho
    rw [List.length_map, List.length_range] at hi
    have : x = .int i := by
      rw [List.getElem?_map, List.getElem?_range hi] at hx
      simp at hx
      exact hx.symm
    subst this
    refine ⟨[some (.int i)], rfl, ?_⟩
    have c := colV_map (f := cturn ⟨P, callF P w n, w, none⟩ [4] (.var 4) none (.tup [(.var 3), (.var 4)]) [some (.int a), some (.int b), some (.lst ((prs i b).map prD)), some (.int i), none]) (S := S) (enc := fun (k : Nat) => D.int k) (fun k => prD (i, k)) (List.range b) fun y _ => by simp [cturn, wipe, prD]
    have ln : ((prs i b).map prD).length + ((List.range b).map fun k => prD (i, k)).length ≤ 16777216 := by
      rw [List.length_map, List.length_map, prs_len, List.length_range]
      have := Nat.mul_le_mul (show i ≤ 1000 by omega) h2
      omega
    simp (disch := first | omega | fail) [turn, c]
    simp [prs, List.range_succ]
  rw [e]
  obtain ⟨o, rfl⟩ := List.length_eq_one_iff.mp ho
  rw [List.length_map, List.length_range]
  simp
  exact fin_lst (lts_prs _ _)
theorem rangeDI (x : Int) : rangeD 0 x = (List.range x.toNat).map fun (i : Nat) => D.int i := by
  unfold rangeD
  simp
/-! _law_pick, _law_mixed -/
def pickB (f : Nat) : List St := [(.ret (.idx (.var 1) (.call f [(.var 0), (.bi false .len [(.var 1)])])))]
def mixedB (f : Nat) : List St :=
  [(.ite (.val (.cmp .eq (.call f [(.var 0), (.cst (.int 2))]) (.cst (.int 0)))) [(.ret (.bi false .list [(.var 1)]))] []),
   (.ret (.bi false .tuple [(.var 1)]))]
theorem Rw.pick {P : Prog} {w n f fT : Nat} {ns : List Int} {T S : Sto} (h : Rw ns T S) (hf : P.fns[f]? = some ⟨2, 2, pickB fT⟩) (hT : P.fns[fT]? = some ⟨2, 4, takenB⟩) (xs : List D) (hl : 0 < xs.length) (hm2 : xs.length < 1073741824) (hn : 2 ≤ n) (hx : lts S.length xs = true) :
    ∃ (i : Nat) (x : D) (S' : Sto), Rw ns T S' ∧ xs[i]? = some x ∧ callF P w n f [.ref 0, .lst xs] S = .ok x S' := by
  obtain ⟨k, rfl⟩ : ∃ k, n = k + 1 := ⟨n - 1, by omega⟩
  obtain ⟨v, S', r, v0, v1, e⟩ := h.taken (w := w) (n := k) hT xs.length (by omega) (by omega) (by omega)
  obtain ⟨i, rfl⟩ := Int.eq_ofNat_of_zero_le v0
  have hi : i < xs.length := by omega
  refine ⟨i, xs[i], S', r, List.getElem?_eq_getElem hi, ?_⟩
  rw [callF_at hf rfl]
  simp [pickB, e, at_nat hi]
  have ln : S'.length = S.length := by rw [r.len, h.len]
  refine fin_same ?_ ln
  have one : ∀ {xs : List D} {m i : Nat} (hi : i < xs.length), lts m xs = true → lt m xs[i] = true := fun {xs m} => by
    induction xs with
    | nil => intro i hi; simp at hi
    | cons x xs ih =>
      intro i hi h
      rw [lts_cons, Bool.and_eq_true] at h
      cases i with
      | zero => exact h.1
      | succ i => exact ih (by simpa using hi) h.2
  exact one hi hx
/-- a row as a list or as a tuple -/
theorem Rw.mixed {P : Prog} {w n f fT : Nat} {ns : List Int} {T S : Sto} (h : Rw ns T S) (hf : P.fns[f]? = some ⟨2, 2, mixedB fT⟩) (hT : P.fns[fT]? = some ⟨2, 4, takenB⟩) {v : D} {xs : List D} (hv : v = .tup xs ∨ v = .lst xs) (hn : 2 ≤ n) (hx : lts S.length xs = true) :
    ∃ (x : D) (S' : Sto), Rw ns T S' ∧ (x = .tup xs ∨ x = .lst xs) ∧ callF P w n f [.ref 0, v] S = .ok x S' := by
  obtain ⟨k, rfl⟩ : ∃ k, n = k + 1 := ⟨n - 1, by omega⟩
  obtain ⟨i, S', r, v0, v1, e⟩ := h.taken (w := w) (n := k) hT 2 (by omega) (by omega) (by omega)
  have ln : S'.length = S.length := by rw [r.len, h.len]
  have e1 : ∀ cx : Cx, bi cx false .list [v] S' = .ok (.lst xs) S' := fun cx => by rcases hv with rfl | rfl <;> rfl
  have e2 : ∀ cx : Cx, bi cx false .tuple [v] S' = .ok (.tup xs) S' := fun cx => by rcases hv with rfl | rfl <;> rfl
  by_cases h0 : i = 0
  · refine ⟨.lst xs, S', r, .inr rfl, ?_⟩
    rw [callF_at hf rfl]
    simp [mixedB, e, h0, e1]
    exact fin_same (by simpa using hx) ln
  · refine ⟨.tup xs, S', r, .inl rfl, ?_⟩
    rw [callF_at hf rfl]
    simp [mixedB, e, h0, e2]
    exact fin_same (by simpa using hx) ln
theorem cm_self {S : Sto} {d : D} (h : pd 60 (rdOf S d) = true) : cmpop S .ne d d = some false := by
  show (eqd (rdOf S d) (rdOf S d)).map (!·) = _
  rw [eqd_self h]; rfl
/-! places by number -/
theorem at_int {α : Type} {xs : List α} {i : Int} (h0 : 0 ≤ i) (h : i < xs.length) : atI xs i = some (xs[i.toNat]'(by omega)) := by
  obtain ⟨k, rfl⟩ := Int.eq_ofNat_of_zero_le h0
  rw [at_nat (by omega)]
  rfl
end Dn
namespace K21
open Dn -- names
/-- is_whole: 0 value -/
def k21_is_whole : List Dn.St :=
  [(.ret (.and [(.isi (.var 0) [.int]), (.not (.isi (.var 0) [.bool]))]))]
/-- is_number: 0 value 1 least 2 most -/
def k21_is_number : List Dn.St :=
  [(.ret (.and [(.call 0 [(.var 0)]), (.chain .le .le (.var 1) (.var 0) (.var 2))]))]
/-- is_row: 0 value -/
def k21_is_row : List Dn.St :=
  [(.ret (.isi (.var 0) [.list, .tuple]))]
/-- frozen: 0 value 1 part -/
def k21_frozen : List Dn.St :=
  [(.ite (.val (.isi (.var 0) [.list, .tuple])) [(.ret (.bi false .tuple [(.comp false [1] (.var 1) (.val (.var 0)) none (.call 3 [(.var 1)]))]))] []),
   (.ret (.var 0))]
/-- want_row: 0 value 1 is_item 2 most 3 index 4 item -/
def k21_want_row : List Dn.St :=
  [(.ite (.not (.val (.call 2 [(.var 0)]))) [(.rais 1 [(.cst .non)])] []),
   (.for (.tup [(.var 3), (.var 4)]) (.enum (.var 0)) [(.ite (.not (.val (.calv 1 [(.var 4)]))) [(.rais 1 [(.var 3)])] [])]),
   (.ite (.val (.cmp .gt (.bi false .len [(.var 0)]) (.var 2))) [(.rais 2 [(.var 2)])] []),
   (.ret (.call 3 [(.var 0)]))]
/-- reduced: 0 top 1 bottom 2 one 3 other -/
def k21_reduced : List Dn.St :=
  [(.asg (.tup [(.var 2), (.var 3)]) (.tup [(.bi false .abs [(.var 0)]), (.var 1)])),
   (.whl (.val (.cmp .gt (.var 3) (.cst (.int 0)))) [(.asg (.tup [(.var 2), (.var 3)]) (.tup [(.var 3), (.bin .mod (.var 2) (.var 3))]))]),
   (.ret (.ite (.val (.cmp .gt (.var 2) (.cst (.int 0)))) (.tup [(.bin .fdiv (.var 0) (.var 2)), (.bin .fdiv (.var 1) (.var 2))]) (.tup [(.cst (.int 0)), (.cst (.int 1))])))]
/-- minus: 0 one 1 other -/
def k21_minus : List Dn.St :=
  [(.ret (.call 5 [(.bin .sub (.bin .mul (.idx (.var 0) (.cst (.int 0))) (.idx (.var 1) (.cst (.int 1)))) (.bin .mul (.idx (.var 1) (.cst (.int 0))) (.idx (.var 0) (.cst (.int 1))))), (.bin .mul (.idx (.var 0) (.cst (.int 1))) (.idx (.var 1) (.cst (.int 1))))]))]
/-- times: 0 one 1 other -/
def k21_times : List Dn.St :=
  [(.ret (.call 5 [(.bin .mul (.idx (.var 0) (.cst (.int 0))) (.idx (.var 1) (.cst (.int 0)))), (.bin .mul (.idx (.var 0) (.cst (.int 1))) (.idx (.var 1) (.cst (.int 1))))]))]
/-- is_less: 0 one 1 other -/
def k21_is_less : List Dn.St :=
  [(.ret (.cmp .lt (.bin .mul (.idx (.var 0) (.cst (.int 0))) (.idx (.var 1) (.cst (.int 1)))) (.bin .mul (.idx (.var 1) (.cst (.int 0))) (.idx (.var 0) (.cst (.int 1))))))]
/-- is_peak: 0 value -/
def k21_is_peak : List Dn.St :=
  [(.ret (.call 1 [(.var 0), (.cst (.int 0)), (.glob 1)]))]
/-- Record.__init__: 0 self 1 peaks -/
def k21_Record___init__ : List Dn.St :=
  [(.setF (.var 0) 0 (.call 4 [(.var 1), (.cst (.fn 9)), (.glob 0)])),
   (.ite (.val (.cmp .eq (.bi false .len [(.fld 0 (.var 0))]) (.cst (.int 0)))) [(.rais 1 [(.cst .non)])] [])]
/-- Record.__eq__: 0 self 1 other -/
def k21_Record___eq__ : List Dn.St :=
  [(.ret (.and [(.isi (.var 1) [(.cls 0)]), (.cmp .eq (.fld 0 (.var 0)) (.fld 0 (.var 1)))]))]
/-- Record.__len__: 0 self -/
def k21_Record___len__ : List Dn.St :=
  [(.ret (.bi false .len [(.fld 0 (.var 0))]))]
/-- Record.above: 0 self 1 level 2 peak -/
def k21_Record_above : List Dn.St :=
  [(.ret (.bi false .len [(.comp false [2] (.var 2) (.val (.fld 0 (.var 0))) (some (.val (.cmp .gt (.var 2) (.var 1)))) (.cst (.int 1)))]))]
/-- Record.chance: 0 self 1 level -/
def k21_Record_chance : List Dn.St :=
  [(.ret (.call 5 [(.meth 1 (.var 0) [(.var 1)]), (.bi false .len [(.fld 0 (.var 0))])]))]
/-- Record.careful_chance: 0 self 1 level -/
def k21_Record_careful_chance : List Dn.St :=
  [(.ret (.call 5 [(.bin .add (.meth 1 (.var 0) [(.var 1)]) (.cst (.int 1))), (.bin .add (.bi false .len [(.fld 0 (.var 0))]) (.cst (.int 2)))]))]
/-- Record.ranked: 0 self -/
def k21_Record_ranked : List Dn.St :=
  [(.ret (.bi false .tuple [(.rev (.bi false .sorted [(.fld 0 (.var 0))]))]))]
/-- Record.level_for: 0 self 1 chance 2 level -/
def k21_Record_level_for : List Dn.St :=
  [(.for (.var 2) (.val (.bi false .sset [(.bin .add (.lst false [(.cst (.int 0))]) (.bi false .list [(.fld 0 (.var 0))]))])) [(.ite (.not (.val (.call 8 [(.var 1), (.meth 2 (.var 0) [(.var 2)])]))) [(.ret (.var 2))] [])]),
   (.ret (.bi false .max1 [(.fld 0 (.var 0))]))]
/-- Record.never: 0 self 1 level 2 years 3 year 4 found 5 dry -/
def k21_Record_never : List Dn.St :=
  [(.asg (.tup [(.var 4), (.var 5)]) (.tup [(.tup [(.cst (.int 1)), (.cst (.int 1))]), (.call 6 [(.tup [(.cst (.int 1)), (.cst (.int 1))]), (.meth 2 (.var 0) [(.var 1)])])])),
   (.for (.var 3) (.bi false .range1 [(.var 2)]) [(.asg (.var 4) (.call 7 [(.var 4), (.var 5)]))]),
   (.ret (.var 4))]
/-- Record.years_held: 0 self 1 level 2 least 3 dry 4 many 5 found -/
def k21_Record_years_held : List Dn.St :=
  [(.asg (.tup [(.var 4), (.var 5)]) (.tup [(.cst (.int 0)), (.tup [(.cst (.int 1)), (.cst (.int 1))])])),
   (.asg (.var 3) (.call 6 [(.tup [(.cst (.int 1)), (.cst (.int 1))]), (.meth 2 (.var 0) [(.var 1)])])),
   (.whl (.val (.cmp .lt (.var 4) (.cst (.int 99)))) [(.asg (.var 5) (.call 7 [(.var 5), (.var 3)])), (.ite (.val (.call 8 [(.var 5), (.var 2)])) [(.ret (.var 4))] []), (.aug 4 .add (.cst (.int 1)))]),
   (.ret (.var 4))]
/-- Record.longest_dry: 0 self 1 level 2 peak 3 best 4 here -/
def k21_Record_longest_dry : List Dn.St :=
  [(.asg (.tup [(.var 3), (.var 4)]) (.tup [(.cst (.int 0)), (.cst (.int 0))])),
   (.for (.var 2) (.val (.fld 0 (.var 0))) [(.asg (.var 4) (.ite (.val (.cmp .gt (.var 2) (.var 1))) (.cst (.int 0)) (.bin .add (.var 4) (.cst (.int 1))))), (.asg (.var 3) (.bi false .max2 [(.var 3), (.var 4)]))]),
   (.ret (.var 3))]
/-- Record.records: 0 self 1 found 2 at 3 peak 4 other -/
def k21_Record_records : List Dn.St :=
  [(.asg (.var 1) (.lst true [])),
   (.for (.tup [(.var 2), (.var 3)]) (.enum (.fld 0 (.var 0))) [(.ite (.val (.bi false .all [(.comp false [4] (.var 4) (.val (.slc false (.fld 0 (.var 0)) none (some (.var 2)))) none (.cmp .lt (.var 4) (.var 3)))])) [(.exp (.bm .append (.var 1) [(.var 2)]))] [])]),
   (.ret (.bi false .tuple [(.var 1)]))]
/-- Record.mean: 0 self -/
def k21_Record_mean : List Dn.St :=
  [(.ret (.call 5 [(.bi false .sum [(.fld 0 (.var 0))]), (.bi false .len [(.fld 0 (.var 0))])]))]
/-- Record.rising_pairs: 0 self 1 rising 2 falling 3 at 4 peak 5 other -/
def k21_Record_rising_pairs : List Dn.St :=
  [(.asg (.tup [(.var 1), (.var 2)]) (.tup [(.cst (.int 0)), (.cst (.int 0))])),
   (.for (.tup [(.var 3), (.var 4)]) (.enum (.fld 0 (.var 0))) [(.aug 1 .add (.bi false .len [(.comp false [5] (.var 5) (.val (.slc false (.fld 0 (.var 0)) (some (.bin .add (.var 3) (.cst (.int 1)))) none)) (some (.val (.cmp .gt (.var 5) (.var 4)))) (.cst (.int 1)))])), (.aug 2 .add (.bi false .len [(.comp false [5] (.var 5) (.val (.slc false (.fld 0 (.var 0)) (some (.bin .add (.var 3) (.cst (.int 1)))) none)) (some (.val (.cmp .lt (.var 5) (.var 4)))) (.cst (.int 1)))]))]),
   (.ret (.tup [(.var 1), (.var 2)]))]
/-- Record.cost: 0 self 1 level 2 price 3 harm -/
def k21_Record_cost : List Dn.St :=
  [(.ret (.bin .add (.bin .mul (.var 2) (.var 1)) (.bin .mul (.var 3) (.meth 1 (.var 0) [(.var 1)]))))]
/-- Record.best_level: 0 self 1 price 2 harm 3 levels 4 level -/
def k21_Record_best_level : List Dn.St :=
  [(.asg (.var 3) (.bi false .sset [(.bin .add (.lst false [(.cst (.int 0))]) (.bi false .list [(.fld 0 (.var 0))]))])),
   (.ret (.idx (.bi false .min1 [(.comp false [4] (.var 4) (.val (.var 3)) none (.tup [(.meth 3 (.var 0) [(.var 4), (.var 1), (.var 2)]), (.var 4)]))]) (.cst (.int 1))))]
/-- Record.with_peak: 0 self 1 peak -/
def k21_Record_with_peak : List Dn.St :=
  [(.ret (.mk 0 [(.bin .add (.fld 0 (.var 0)) (.tup [(.var 1)]))]))]
/-- Record.last: 0 self 1 years -/
def k21_Record_last : List Dn.St :=
  [(.ite (.not (.val (.call 1 [(.var 1), (.cst (.int 1)), (.bi false .len [(.fld 0 (.var 0))])]))) [(.rais 1 [(.var 1)])] []),
   (.ret (.mk 0 [(.slc false (.fld 0 (.var 0)) (some (.bin .sub (.bi false .len [(.fld 0 (.var 0))]) (.var 1))) none)]))]
/-- smoothed: 0 peaks 1 wide 2 found 3 at -/
def k21_smoothed : List Dn.St :=
  [(.asg (.var 2) (.lst true [])),
   (.for (.var 3) (.bi false .range1 [(.bin .add (.bin .sub (.bi false .len [(.var 0)]) (.var 1)) (.cst (.int 1)))]) [(.exp (.bm .append (.var 2) [(.bin .fdiv (.bi false .sum [(.slc false (.var 0) (some (.var 3)) (some (.bin .add (.var 3) (.var 1))))]) (.var 1))]))]),
   (.ret (.bi false .tuple [(.var 2)]))]
/-- are_peaks: 0 value 1 part -/
def k21_are_peaks : List Dn.St :=
  [(.ret (.and [(.call 2 [(.var 0)]), (.bi false .all [(.comp false [1] (.var 1) (.val (.var 0)) none (.call 9 [(.var 1)]))])]))]
/-- _law_taken: 0 row 1 many 2 cell 3 found -/
def k21__law_taken : List Dn.St :=
  [(.ite (.val (.cmp .gt (.idx (.var 0) (.cst (.int 3))) (.cst (.int 0)))) [(.asg (.var 3) (.bin .mod (.bi false .int [(.idx (.var 0) (.cst (.int 3)))]) (.var 1))), (.setI (.var 0) (.cst (.int 3)) (.bin .fdiv (.idx (.var 0) (.cst (.int 3))) (.var 1))), (.ret (.var 3))] []),
   (.setI (.var 0) (.cst (.int 1)) (.bin .add (.idx (.var 0) (.cst (.int 1))) (.cst (.int 1)))),
   (.ite (.val (.cmp .gt (.idx (.var 0) (.cst (.int 1))) (.bi false .len [(.idx (.var 0) (.cst (.int 0)))]))) [(.setI (.var 0) (.cst (.int 2)) (.bin .mod (.bi false .int [(.bin .add (.bin .mul (.idx (.var 0) (.cst (.int 2))) (.cst (.int 48271))) (.cst (.int 11)))]) (.cst (.int 2147483647)))), (.ret (.bin .mod (.bi false .int [(.bin .fdiv (.idx (.var 0) (.cst (.int 2))) (.cst (.int 7)))]) (.var 1)))] []),
   (.asg (.var 2) (.idx (.idx (.var 0) (.cst (.int 0))) (.bin .sub (.idx (.var 0) (.cst (.int 1))) (.cst (.int 1))))),
   (.setI (.var 0) (.cst (.int 2)) (.bin .mod (.bi false .int [(.bin .add (.bin .add (.bin .mul (.idx (.var 0) (.cst (.int 2))) (.cst (.int 48271))) (.var 2)) (.cst (.int 11)))]) (.cst (.int 2147483647)))),
   (.ite (.val (.cmp .ge (.var 2) (.bin .pow (.cst (.int 10)) (.cst (.int 18))))) [(.setI (.var 0) (.cst (.int 3)) (.bin .fdiv (.var 2) (.var 1)))] []),
   (.ret (.bin .mod (.bi false .int [(.var 2)]) (.var 1)))]
/-- _law_pick: 0 row 1 kinds -/
def k21__law_pick : List Dn.St :=
  [(.ret (.idx (.var 1) (.call 30 [(.var 0), (.bi false .len [(.var 1)])])))]
/-- _law_alike: 0 found 1 due 2 k -/
def k21__law_alike : List Dn.St :=
  [(.ite (.val (.isi (.var 1) [.tuple, .list])) [(.ite (.or [(.not (.val (.isi (.var 0) [.tuple, .list]))), (.val (.cmp .ne (.isi (.var 0) [.list]) (.isi (.var 1) [.list])))]) [(.ret (.cst (.bl false)))] []), (.ite (.val (.cmp .ne (.bi false .len [(.var 0)]) (.bi false .len [(.var 1)]))) [(.ret (.cst (.bl false)))] []), (.ret (.cmp .eq (.comp false [2] (.var 2) (.bi false .range1 [(.bi false .len [(.var 1)])]) (some (.not (.val (.call 32 [(.idx (.var 0) (.var 2)), (.idx (.var 1) (.var 2))])))) (.var 2)) (.lst false [])))] []),
   (.ite (.or [(.val (.cmp .isn (.var 1) (.cst .non))), (.val (.isi (.var 1) [.str]))]) [(.ret (.and [(.cmp .eq (.var 0) (.var 1)), (.cmp .eq (.isi (.var 0) [.str]) (.isi (.var 1) [.str]))]))] []),
   (.ret (.and [(.isi (.var 0) [.int]), (.cmp .eq (.isi (.var 0) [.bool]) (.isi (.var 1) [.bool])), (.cmp .eq (.var 0) (.var 1))]))]
/-- _law_mixed: 0 row 1 value -/
def k21__law_mixed : List Dn.St :=
  [(.ite (.val (.cmp .eq (.call 30 [(.var 0), (.cst (.int 2))]) (.cst (.int 0)))) [(.ret (.bi false .list [(.var 1)]))] []),
   (.ret (.bi false .tuple [(.var 1)]))]
/-- _law_pairs: 0 firsts 1 seconds 2 found 3 one 4 two -/
def k21__law_pairs : List Dn.St :=
  [(.asg (.var 2) (.lst false [])),
   (.for (.var 3) (.bi false .range1 [(.var 0)]) [(.asg (.var 2) (.bin .add (.var 2) (.comp false [4] (.var 4) (.bi false .range1 [(.var 1)]) none (.tup [(.var 3), (.var 4)]))))]),
   (.ret (.var 2))]
/-- _law_low3: 0 top 1 bottom 2 one 3 other -/
def k21__law_low3 : List Dn.St :=
  [(.asg (.tup [(.var 2), (.var 3)]) (.tup [(.var 0), (.var 1)])),
   (.whl (.val (.cmp .ne (.bin .mod (.var 2) (.var 3)) (.cst (.int 0)))) [(.asg (.tup [(.var 2), (.var 3)]) (.tup [(.var 3), (.bin .mod (.var 2) (.var 3))]))]),
   (.ret (.tup [(.bin .fdiv (.var 0) (.var 3)), (.bin .fdiv (.var 1) (.var 3))]))]
/-- _law_refused: 0 row 1 made 2 peaks 3 many 4 value 5 bad 6 e 7 due -/
def k21__law_refused : List Dn.St :=
  [(.asg (.var 3) (.bi false .len [(.var 2)])),
   (.for (.var 4) (.val (.lst false [(.cst (.int 0)), (.bin .add (.var 3) (.cst (.int 1))), (.cst (.bl true)), (.cst .non)])) [(.tri [(.exp (.meth 4 (.var 1) [(.var 4)])), (.ret (.cst (.bl false)))] [(.mk 1 (some 6) [(.ite (.val (.repne (.exf 6 5) (.var 4))) [(.ret (.cst (.bl false)))] [])])])]),
   (.asg (.var 5) (.call 31 [(.var 0), (.lst false [(.neg (.cst (.int 1))), (.cst (.int 10000)), (.cst (.bl true)), (.cst .non), (.cst (.str [49]))])])),
   (.for (.tup [(.var 4), (.var 7)]) (.val (.lst false [(.tup [(.bin .add (.var 2) (.tup [(.var 5)])), (.tup [(.cst (.str [105, 116, 101, 109])), (.var 3)])]), (.tup [(.tup []), (.tup [(.cst (.str [105, 116, 101, 109])), (.cst .non)])]), (.tup [(.cst .non), (.tup [(.cst (.str [105, 116, 101, 109])), (.cst .non)])]), (.tup [(.bin .mul (.tup [(.cst (.int 1))]) (.cst (.int 61))), (.tup [(.cst (.str [109, 97, 110, 121])), (.cst (.int 60))])])])) [(.tri [(.exp (.mk 0 [(.var 4)])), (.ret (.cst (.bl false)))] [(.mk 1 (some 6) [(.ite (.val (.cmp .ne (.tup [(.cst (.str [105, 116, 101, 109])), (.exf 6 5)]) (.var 7))) [(.ret (.cst (.bl false)))] [])]), (.mk 2 (some 6) [(.ite (.val (.cmp .ne (.tup [(.cst (.str [109, 97, 110, 121])), (.exf 6 6)]) (.var 7))) [(.ret (.cst (.bl false)))] [])])])]),
   (.ret (.and [(.call 29 [(.lst false [(.cst (.int 0)), (.cst (.int 9999))])]), (.call 29 [(.tup [])]), (.not (.call 29 [(.tup [(.cst (.int 10000))])])), (.not (.call 29 [(.cst .non)]))]))]
/-- law: 0 script 1 row 2 peaks 3 above 4 level 5 chance 6 good 7 year 8 least 9 records 10 pairs 11 rising 12 costs 13 last 14 wide 15 made 16 many 17 peak 18 years 19 top 20 bottom 21 held 22 price 23 harm 24 runs 25 here 26 k 27 one 28 a 29 b -/
def k21_law : List Dn.St :=
  [(.asg (.var 1) (.lst true [(.var 0), (.cst (.int 0)), (.cst (.int 67)), (.cst (.int 0))])),
   (.asg (.var 2) (.bi false .tuple [(.comp false [26] (.var 26) (.bi false .range1 [(.bin .add (.cst (.int 1)) (.call 30 [(.var 1), (.cst (.int 9))]))]) none (.call 30 [(.var 1), (.cst (.int 12))]))])),
   (.asg (.tup [(.var 15), (.var 16)]) (.tup [(.mk 0 [(.call 33 [(.var 1), (.bi false .list [(.var 2)])])]), (.bi false .len [(.var 2)])])),
   (.ite (.or [(.not (.val (.call 32 [(.tup [(.fld 0 (.var 15)), (.leno (.var 15)), (.meth 7 (.var 15) [])]), (.tup [(.var 2), (.var 16), (.bi false .tuple [(.rev (.bi false .sorted [(.var 2)]))])])]))), (.val (.cmpo .ne (.var 15) (.mk 0 [(.var 2)]))), (.val (.cmpo .eq (.var 15) (.var 2)))]) [(.ret (.cst (.bl false)))] []),
   (.asg (.var 3) (.comp false [4] (.var 4) (.bi false .range1 [(.cst (.int 14))]) none (.bi false .len [(.comp false [17] (.var 17) (.val (.var 2)) (some (.val (.cmp .gt (.var 17) (.var 4)))) (.var 17))]))),
   (.for (.var 4) (.bi false .range1 [(.cst (.int 14))]) [(.ite (.not (.val (.call 32 [(.tup [(.meth 1 (.var 15) [(.var 4)]), (.meth 2 (.var 15) [(.var 4)]), (.meth 8 (.var 15) [(.var 4)])]), (.tup [(.idx (.var 3) (.var 4)), (.call 35 [(.idx (.var 3) (.var 4)), (.var 16)]), (.call 35 [(.bin .add (.idx (.var 3) (.var 4)) (.cst (.int 1))), (.bin .add (.var 16) (.cst (.int 2)))])])]))) [(.ret (.cst (.bl false)))] []), (.asg (.tup [(.var 24), (.var 25)]) (.tup [(.lst true [(.cst (.int 0))]), (.cst (.int 0))])), (.for (.var 17) (.val (.var 2)) [(.asg (.var 25) (.bin .mul (.bin .add (.var 25) (.cst (.int 1))) (.bi false .int [(.cmp .le (.var 17) (.var 4))]))), (.exp (.bm .append (.var 24) [(.var 25)]))]), (.ite (.not (.val (.call 32 [(.meth 9 (.var 15) [(.var 4)]), (.bi false .max1 [(.var 24)])]))) [(.ret (.cst (.bl false)))] [])]),
   (.asg (.var 5) (.call 35 [(.call 30 [(.var 1), (.cst (.int 5))]), (.bin .add (.cst (.int 4)) (.call 30 [(.var 1), (.cst (.int 3))]))])),
   (.asg (.var 6) (.comp false [4] (.var 4) (.val (.bi false .sset [(.bin .add (.tup [(.cst (.int 0))]) (.var 2))])) (some (.val (.cmp .le (.bin .mul (.idx (.var 3) (.var 4)) (.idx (.var 5) (.cst (.int 1)))) (.bin .mul (.idx (.var 5) (.cst (.int 0))) (.var 16))))) (.var 4))),
   (.ite (.not (.val (.call 32 [(.meth 10 (.var 15) [(.var 5)]), (.idx (.var 6) (.cst (.int 0)))]))) [(.ret (.cst (.bl false)))] []),
   (.asg (.tup [(.var 4), (.var 18)]) (.tup [(.call 30 [(.var 1), (.cst (.int 13))]), (.call 30 [(.var 1), (.cst (.int 7))])])),
   (.asg (.tup [(.var 19), (.var 20)]) (.tup [(.cst (.int 1)), (.cst (.int 1))])),
   (.for (.var 7) (.bi false .range1 [(.var 18)]) [(.asg (.tup [(.var 19), (.var 20)]) (.tup [(.bin .mul (.var 19) (.bin .sub (.var 16) (.idx (.var 3) (.var 4)))), (.bin .mul (.var 20) (.var 16))]))]),
   (.ite (.not (.val (.call 32 [(.meth 11 (.var 15) [(.var 4), (.var 18)]), (.call 35 [(.var 19), (.var 20)])]))) [(.ret (.cst (.bl false)))] []),
   (.asg (.var 8) (.call 35 [(.cst (.int 1)), (.bin .add (.cst (.int 1)) (.call 30 [(.var 1), (.cst (.int 9))]))])),
   (.asg (.tup [(.var 21), (.var 19), (.var 20)]) (.tup [(.cst (.int 0)), (.bin .sub (.var 16) (.idx (.var 3) (.var 4))), (.var 16)])),
   (.for (.var 7) (.bi false .range1 [(.cst (.int 99))]) [(.ite (.and [(.val (.cmp .eq (.var 21) (.var 7))), (.val (.cmp .ge (.bin .mul (.var 19) (.idx (.var 8) (.cst (.int 1)))) (.bin .mul (.idx (.var 8) (.cst (.int 0))) (.var 20))))]) [(.asg (.var 21) (.bin .add (.var 7) (.cst (.int 1))))] []), (.asg (.tup [(.var 19), (.var 20)]) (.tup [(.bin .mul (.var 19) (.bin .sub (.var 16) (.idx (.var 3) (.var 4)))), (.bin .mul (.var 20) (.var 16))]))]),
   (.ite (.not (.val (.call 32 [(.meth 12 (.var 15) [(.var 4), (.var 8)]), (.var 21)]))) [(.ret (.cst (.bl false)))] []),
   (.asg (.var 9) (.comp false [26] (.var 26) (.bi false .range1 [(.var 16)]) (some (.val (.cmp .eq (.comp false [17] (.var 17) (.val (.slc false (.var 2) none (some (.var 26)))) (some (.val (.cmp .ge (.var 17) (.idx (.var 2) (.var 26))))) (.var 17)) (.lst false [])))) (.var 26))),
   (.asg (.var 10) (.call 34 [(.var 16), (.var 16)])),
   (.asg (.var 11) (.tup [(.bi false .len [(.comp false [28, 29] (.tup [(.var 28), (.var 29)]) (.val (.var 10)) (some (.and [(.val (.cmp .lt (.var 28) (.var 29))), (.val (.cmp .lt (.idx (.var 2) (.var 28)) (.idx (.var 2) (.var 29))))])) (.cst (.int 1)))]), (.bi false .len [(.comp false [28, 29] (.tup [(.var 28), (.var 29)]) (.val (.var 10)) (some (.and [(.val (.cmp .lt (.var 28) (.var 29))), (.val (.cmp .gt (.idx (.var 2) (.var 28)) (.idx (.var 2) (.var 29))))])) (.cst (.int 1)))])])),
   (.ite (.not (.val (.call 32 [(.tup [(.meth 13 (.var 15) []), (.meth 14 (.var 15) []), (.meth 15 (.var 15) [])]), (.tup [(.bi false .tuple [(.var 9)]), (.call 35 [(.bi false .sum [(.var 2)]), (.var 16)]), (.var 11)])]))) [(.ret (.cst (.bl false)))] []),
   (.asg (.tup [(.var 22), (.var 23)]) (.tup [(.call 30 [(.var 1), (.cst (.int 9))]), (.call 30 [(.var 1), (.cst (.int 20))])])),
   (.asg (.var 12) (.comp false [27] (.var 27) (.val (.bi false .sset [(.bin .add (.tup [(.cst (.int 0))]) (.var 2))])) none (.tup [(.bin .add (.bin .mul (.var 22) (.var 27)) (.bin .mul (.var 23) (.idx (.var 3) (.var 27)))), (.var 27)]))),
   (.ite (.not (.val (.call 32 [(.tup [(.meth 3 (.var 15) [(.var 4), (.var 22), (.var 23)]), (.meth 16 (.var 15) [(.var 22), (.var 23)])]), (.tup [(.bin .add (.bin .mul (.var 22) (.var 4)) (.bin .mul (.var 23) (.idx (.var 3) (.var 4)))), (.idx (.bi false .min1 [(.var 12)]) (.cst (.int 1)))])]))) [(.ret (.cst (.bl false)))] []),
   (.ite (.val (.cmp .ne (.comp false [27] (.var 27) (.bi false .range1 [(.cst (.int 13))]) (some (.val (.cmp .lt (.bin .add (.bin .mul (.var 22) (.var 27)) (.bin .mul (.var 23) (.idx (.var 3) (.var 27)))) (.idx (.bi false .min1 [(.var 12)]) (.cst (.int 0)))))) (.cst (.int 1))) (.lst false []))) [(.ret (.cst (.bl false)))] []),
   (.asg (.var 13) (.bin .add (.cst (.int 1)) (.call 30 [(.var 1), (.var 16)]))),
   (.ite (.or [(.val (.cmpo .ne (.meth 17 (.var 15) [(.cst (.int 5))]) (.mk 0 [(.bin .add (.var 2) (.tup [(.cst (.int 5))]))]))), (.val (.cmpo .ne (.meth 4 (.var 15) [(.var 13)]) (.mk 0 [(.slc false (.var 2) (some (.bin .sub (.var 16) (.var 13))) none)])))]) [(.ret (.cst (.bl false)))] []),
   (.asg (.var 14) (.bin .add (.cst (.int 1)) (.call 30 [(.var 1), (.cst (.int 5))]))),
   (.ite (.not (.val (.call 32 [(.call 28 [(.var 2), (.var 14)]), (.bi false .tuple [(.comp false [26] (.var 26) (.bi false .range1 [(.bi false .max2 [(.cst (.int 0)), (.bin .add (.bin .sub (.var 16) (.var 14)) (.cst (.int 1)))])]) none (.bin .fdiv (.bi false .sum [(.slc false (.var 2) (some (.var 26)) (some (.bin .add (.var 26) (.var 14))))]) (.var 14)))])]))) [(.ret (.cst (.bl false)))] []),
   (.ret (.call 36 [(.var 1), (.var 15), (.var 2)]))]
def k21_prog : Prog where
  fns := [
    { np := 1, nv := 1, body := k21_is_whole },
    { np := 3, nv := 3, body := k21_is_number },
    { np := 1, nv := 1, body := k21_is_row },
    { np := 1, nv := 2, body := k21_frozen },
    { np := 3, nv := 5, body := k21_want_row },
    { np := 2, nv := 4, body := k21_reduced },
    { np := 2, nv := 2, body := k21_minus },
    { np := 2, nv := 2, body := k21_times },
    { np := 2, nv := 2, body := k21_is_less },
    { np := 1, nv := 1, body := k21_is_peak },
    { np := 2, nv := 2, body := k21_Record___init__ },
    { np := 2, nv := 2, body := k21_Record___eq__ },
    { np := 1, nv := 1, body := k21_Record___len__ },
    { np := 2, nv := 3, body := k21_Record_above },
    { np := 2, nv := 2, body := k21_Record_chance },
    { np := 2, nv := 2, body := k21_Record_careful_chance },
    { np := 1, nv := 1, body := k21_Record_ranked },
    { np := 2, nv := 3, body := k21_Record_level_for },
    { np := 3, nv := 6, body := k21_Record_never },
    { np := 3, nv := 6, body := k21_Record_years_held },
    { np := 2, nv := 5, body := k21_Record_longest_dry },
    { np := 1, nv := 5, body := k21_Record_records },
    { np := 1, nv := 1, body := k21_Record_mean },
    { np := 1, nv := 6, body := k21_Record_rising_pairs },
    { np := 4, nv := 4, body := k21_Record_cost },
    { np := 3, nv := 5, body := k21_Record_best_level },
    { np := 2, nv := 2, body := k21_Record_with_peak },
    { np := 2, nv := 2, body := k21_Record_last },
    { np := 2, nv := 4, body := k21_smoothed },
    { np := 1, nv := 2, body := k21_are_peaks },
    { np := 2, nv := 4, body := k21__law_taken },
    { np := 2, nv := 2, body := k21__law_pick },
    { np := 2, nv := 3, body := k21__law_alike },
    { np := 2, nv := 2, body := k21__law_mixed },
    { np := 2, nv := 5, body := k21__law_pairs },
    { np := 2, nv := 4, body := k21__law_low3 },
    { np := 3, nv := 8, body := k21__law_refused },
    { np := 1, nv := 30, body := k21_law }]
  cls := [{ init := 10, meths := [(1, 13), (2, 14), (8, 15), (7, 16), (10, 17), (11, 18), (12, 19), (9, 20), (13, 21), (14, 22), (15, 23), (3, 24), (16, 25), (17, 26), (4, 27)], fields := [0], cell := false, eq := some 11, len := some 12 }]
  xcs := [{ ids := [], sup := [0] }, { ids := [5], sup := [1, 0] }, { ids := [6], sup := [2, 0] }]
  globs := [(.int 60), (.int 9999)]
end K21
open Dn -- names
/-! k21: years and their peaks. -/
namespace K21
variable {w n : Nat} {S : Sto}
abbrev pk (ps : List Int) : D := .tup (ps.map .int)
abbrev rc (ps : List Int) : D := .ins 0 [0] [pk ps]
theorem fld_rc (ps : List Int) (P : Prog) (h : hasF P 0 0 = true) : getF P S (rc ps) 0 = some (pk ps) := by
  show (if hasF P 0 0 then getId 0 [0] [pk ps] else none) = _
  rw [if_pos h]; rfl
@[simp] theorem fld (ps : List Int) : getF k21_prog S (rc ps) 0 = some (pk ps) := fld_rc ps k21_prog rfl
theorem cl0 : k21_prog.cls[0]? = some { init := 10, meths := [(1, 13), (2, 14), (8, 15), (7, 16), (10, 17), (11, 18), (12, 19), (9, 20), (13, 21), (14, 22), (15, 23), (3, 24), (16, 25), (17, 26), (4, 27)], fields := [0], cell := false, eq := some 11, len := some 12 } := rfl
@[simp] theorem m1 (ps : List Int) : methOf k21_prog S (rc ps) 1 = some 13 := rfl
@[simp] theorem m2 (ps : List Int) : methOf k21_prog S (rc ps) 2 = some 14 := rfl
@[simp] theorem m8 (ps : List Int) : methOf k21_prog S (rc ps) 8 = some 15 := rfl
@[simp] theorem m7 (ps : List Int) : methOf k21_prog S (rc ps) 7 = some 16 := rfl
@[simp] theorem m10 (ps : List Int) : methOf k21_prog S (rc ps) 10 = some 17 := rfl
@[simp] theorem m11 (ps : List Int) : methOf k21_prog S (rc ps) 11 = some 18 := rfl
@[simp] theorem m12 (ps : List Int) : methOf k21_prog S (rc ps) 12 = some 19 := rfl
@[simp] theorem m9 (ps : List Int) : methOf k21_prog S (rc ps) 9 = some 20 := rfl
@[simp] theorem m13 (ps : List Int) : methOf k21_prog S (rc ps) 13 = some 21 := rfl
@[simp] theorem m14 (ps : List Int) : methOf k21_prog S (rc ps) 14 = some 22 := rfl
@[simp] theorem m15 (ps : List Int) : methOf k21_prog S (rc ps) 15 = some 23 := rfl
@[simp] theorem m3 (ps : List Int) : methOf k21_prog S (rc ps) 3 = some 24 := rfl
@[simp] theorem m16 (ps : List Int) : methOf k21_prog S (rc ps) 16 = some 25 := rfl
@[simp] theorem m17 (ps : List Int) : methOf k21_prog S (rc ps) 17 = some 26 := rfl
@[simp] theorem m4 (ps : List Int) : methOf k21_prog S (rc ps) 4 = some 27 := rfl
@[simp] theorem fre (ps : List Int) (m : Nat) (h : m ≠ 0) : freeOf S (rc ps) m = true := by
  show (!([0] : List Nat).contains m) = true
  simp [h]
/-- years with a greater peak -/
def ab (ps : List Int) (l : Int) : Nat := (ps.filter fun p => decide (l < p)).length
theorem ab_le (ps : List Int) (l : Int) : ab ps l ≤ ps.length := List.length_filter_le ..
theorem r_above (ps : List Int) (l : Int) : callF k21_prog w (n + 1) 13 [rc ps, .int l] S = .ok (.int (ab ps l)) S := by
  rw [callF_at rfl rfl]
  have c := colV_fm (f := cturn ⟨k21_prog, callF k21_prog w n, w, none⟩ [2] (.var 2) (some (.val (.cmp .gt (.var 2) (.var 1)))) (.cst (.int 1)) [some (rc ps), some (.int l), none]) (S := S) (enc := D.int) (fun p => decide (l < p)) (fun _ => D.int 1) ps fun y _ => by
    simp [cturn, wipe]
    split <;> rfl
  simp [k21_Record_above, c]
  rfl
theorem r_reduced (a b : Int) (h : 0 < b) (h2 : b < 2 ^ 9000) (hw : 18002 < w) : callF k21_prog w (n + 1) 5 [.int a, .int b] S = .ok (frq (lowq a b)) S := run_reduced rfl a b h h2 hw
structure Gd (ps : List Int) : Prop where
  ne : 0 < ps.length
  le : ps.length < 20
  lo : ∀ p ∈ ps, 0 ≤ p
  hi : ∀ p ∈ ps, p < 13
section
variable {ps : List Int} (g : Gd ps) (hw : 18002 < w)
include g hw
theorem r_chance (l : Int) : callF k21_prog w (n + 2) 14 [rc ps, .int l] S = .ok (frq (lowq (ab ps l) ps.length)) S := by
  have h1 := g.ne
  have h2 := g.le
  rw [callF_at rfl rfl]
  simp [k21_Record_chance, r_above, r_reduced (ab ps l) ps.length (by omega) (sm (by omega)) hw]
  simp [frq]
theorem r_careful (l : Int) : callF k21_prog w (n + 2) 15 [rc ps, .int l] S = .ok (frq (lowq (ab ps l + 1) (ps.length + 2))) S := by
  have h1 := g.ne
  have h2 := g.le
  rw [callF_at rfl rfl]
  simp [k21_Record_careful_chance, r_above, r_reduced (ab ps l + 1) (ps.length + 2) (by omega) (sm (by omega)) hw]
  simp [frq]
end
/-! ### never, years_held -/
theorem pw (x : Int) (k : Nat) (h0 : 0 ≤ x) (h1 : x ≤ 20) (hk : k ≤ 100) : 0 ≤ x ^ k ∧ x ^ k < 2 ^ 600 := by
  obtain ⟨a, rfl⟩ := Int.eq_ofNat_of_zero_le h0
  have e : ((a ^ k : Nat) : Int) = (a : Int) ^ k := Int.natCast_pow a k
  rw [← e, ← pow_i]
  have h2 : a ^ k ≤ 32 ^ k := Nat.pow_le_pow_left (by omega) k
  have h3 : 32 ^ k ≤ 32 ^ 100 := Nat.pow_le_pow_right (by decide) hk
  have h4 : (32 : Nat) ^ 100 < 2 ^ 600 := by decide
  refine ⟨by omega, ?_⟩
  generalize (2 : Nat) ^ 600 = B at *
  generalize (32 : Nat) ^ 100 = C at *
  generalize (32 : Nat) ^ k = E at *
  omega
theorem pp (x : Int) (k : Nat) (h0 : 0 < x) : 0 < x ^ k := Int.pow_pos h0
theorem up600 {i : Int} (h : i < 2 ^ 600) : i < 2 ^ 8990 ∧ i < 2 ^ 9000 := by
  have h1 : (2 : Nat) ^ 600 ≤ 2 ^ 8990 := Nat.pow_le_pow_right (by decide) (by decide)
  have h2 : (2 : Nat) ^ 600 ≤ 2 ^ 9000 := Nat.pow_le_pow_right (by decide) (by decide)
  rw [← pow_i] at h
  rw [← pow_i, ← pow_i]
  generalize (2 : Nat) ^ 600 = B at *
  generalize (2 : Nat) ^ 8990 = C at *
  generalize (2 : Nat) ^ 9000 = E at *
  omega
theorem sz_low {a b : Int} (ha : 0 ≤ a) (hb : 0 < b) (h1 : a < 2 ^ 600) (h2 : b < 2 ^ 600) : Sz 8990 (lowq a b).1 ∧ Sz 8990 (lowq a b).2 := by
  have l1 := low_nn ha hb
  have l2 := low_den (a := a) hb
  have u1 := (up600 h1).1
  have u2 := (up600 h2).1
  exact ⟨(Sz.of ha u1).le l1.1 l1.2, (Sz.of (by omega) u2).le (by omega) l2.2⟩
theorem s600 {x : Int} (h : x < 1000000000) : x < 2 ^ 600 := by
  have : (2 : Nat) ^ 30 ≤ 2 ^ 600 := Nat.pow_le_pow_right (by decide) (by decide)
  rw [← pow_i]
  generalize (2 : Nat) ^ 600 = B at *
  omega
/-- one less a chance -/
theorem r_dry (x m : Int) (h0 : 0 ≤ x) (h1 : x ≤ m) (h2 : 0 < m) (h3 : m < 20) (hw : 18002 < w) : callF k21_prog w (n + 2) 6 [.tup [.int 1, .int 1], frq (lowq x m)] S = .ok (frq (lowq (m - x) m)) S := by
  have z := sz_low h0 h2 (s600 (by omega)) (s600 (by omega))
  have d := low_den (a := x) h2
  have := run_minus (P := k21_prog) (w := w) (n := n) (S := S) (f := 6) (fR := 5) rfl rfl (p := (1, 1)) (q := lowq x m) (.sm (by decide) (by decide) (by decide)) (.sm (by decide) (by decide) (by decide)) z.1 z.2 (by show 0 < 1 * _; omega) (by show 1 * _ < _; rw [Int.one_mul]; exact sm (by omega)) hw
  rw [show frq (1, 1) = .tup [.int 1, .int 1] from rfl, low_minus x h2] at this
  exact this
theorem r_step (x m : Int) (k : Nat) (h0 : 0 ≤ x) (h1 : x ≤ m) (h2 : 0 < m) (h3 : m < 20) (hk : k < 100) (hw : 18002 < w) : callF k21_prog w (n + 2) 7 [frq (lowq (x ^ k) (m ^ k)), frq (lowq x m)] S = .ok (frq (lowq (x ^ (k + 1)) (m ^ (k + 1)))) S := by
  have b1 := pw x k h0 (by omega) (by omega)
  have b2 := pw m k (by omega) (by omega) (by omega)
  have b3 := pw m (k + 1) (by omega) (by omega) (by omega)
  have p1 := pp m k h2
  have z := sz_low h0 h2 (s600 (by omega)) (s600 (by omega))
  have z2 := sz_low b1.1 p1 b1.2 b2.2
  have d := low_den (a := x) h2
  have d2 := low_den (a := x ^ k) p1
  have hm : (lowq (x ^ k) (m ^ k)).2 * (lowq x m).2 ≤ m ^ (k + 1) := by
    rw [Int.pow_succ]
    exact Int.mul_le_mul d2.2 d.2 (by omega) (by omega)
  have := run_times (P := k21_prog) (w := w) (n := n) (S := S) (f := 7) (fR := 5) rfl rfl (p := lowq (x ^ k) (m ^ k)) (q := lowq x m) z2.1 z2.2 z.1 z.2 (Int.mul_pos d2.1 d.1) (Int.lt_of_le_of_lt hm (up600 b3.2).2) hw
  rw [low_times _ _ p1 h2, ← Int.pow_succ, ← Int.pow_succ] at this
  exact this
theorem low11 : lowq 1 1 = (1, 1) := by decide
section
variable {ps : List Int} (g : Gd ps) (hw : 18002 < w)
include g hw
theorem r_never (l : Int) (k : Nat) (hk : k < 100) : callF k21_prog w (n + 3) 18 [rc ps, .int l, .int k] S = .ok (frq (lowq (((ps.length : Int) - ab ps l) ^ k) ((ps.length : Int) ^ k))) S := by
  have h1 := g.ne
  have h2 := g.le
  have h3 := ab_le ps l
  rw [callF_at rfl rfl]
  have rg : rng .range1 [.int (k : Int)] = some (rangeD 0 k) := rng_1 (by omega) (by omega)
  simp [k21_Record_never, r_chance g hw, r_dry _ _ (show (0 : Int) ≤ ab ps l by omega) (by omega) (show (0 : Int) < ps.length by omega) (by omega) hw, rg]
  generalize hF : forV _ _ _ _ = F
  obtain ⟨os, ho, e⟩ := forV_use hF [3] [4] [none] (fun i => [some (frq (lowq (((ps.length : Int) - ab ps l) ^ i) ((ps.length : Int) ^ i)))]) (fun _ => S) rfl rfl (by simp [low11, frq]) fun i x os hi ho hx => by
    obtain ⟨o, rfl⟩ := List.length_eq_one_iff.mp ho
    rw [List.length_map, List.length_range] at hi
    have st := r_step (w := w) (n := n) (S := S) ((ps.length : Int) - ab ps l) ps.length i (by omega) (by omega) (by omega) (by omega) (by omega) hw
    refine ⟨[some x], rfl, ?_⟩
    simp [turn, st]
  rw [e]
  obtain ⟨o, rfl⟩ := List.length_eq_one_iff.mp ho
  rw [List.length_map, List.length_range]
  simp
  simp [frq]
/-- the first of 0 .. i - 1 with q, or i -/
def fst (q : Nat → Bool) : Nat → Nat
  | 0 => 0
  | i + 1 => if fst q i = i ∧ q i = false then i + 1 else fst q i
omit g hw in
theorem fst_le (q : Nat → Bool) : ∀ i, fst q i ≤ i
  | 0 => Nat.le_refl _
  | i + 1 => by
    rw [fst]
    have := fst_le q i
    split <;> omega
omit g hw in
theorem fst_stay {q : Nat → Bool} {i : Nat} (h : fst q i = i) (hq : q i = true) : ∀ j, i ≤ j → fst q j = i
  | 0, hj => by
    have : i = 0 := by omega
    subst this; exact h
  | j + 1, hj => by
    by_cases h1 : i = j + 1
    · subst h1; exact h
    have ih := fst_stay h hq j (by omega)
    rw [fst, ih, if_neg]
    intro ⟨h3, h4⟩
    subst h3
    rw [hq] at h4
    cases h4
/-- a year's chance of staying dry, at its end, is less than least -/
def low_q (ps : List Int) (l c d : Int) (i : Nat) : Bool := decide (((ps.length : Int) - ab ps l) ^ (i + 1) * d < c * (ps.length : Int) ^ (i + 1))
theorem held_whl (l c d : Int) (hc : Sz 8990 c) (hd : Sz 8990 d) : ∀ (j i m : Nat), i + j = 99 → j < m → fst (low_q ps l c d) i = i →
    ∃ r, whl (evt ⟨k21_prog, callF k21_prog w (n + 2), w, none⟩ (.val (.cmp .lt (.var 4) (.cst (.int 99))))) (blkS [(.asg (.var 5) (.call 7 [(.var 5), (.var 3)])), (.ite (.val (.call 8 [(.var 5), (.var 2)])) [(.ret (.var 4))] []), (.aug 4 .add (.cst (.int 1)))] ⟨k21_prog, callF k21_prog w (n + 2), w, none⟩) m
      [some (rc ps), some (.int l), some (frq (c, d)), some (frq (lowq ((ps.length : Int) - ab ps l) ps.length)), some (.int i), some (frq (lowq (((ps.length : Int) - ab ps l) ^ i) ((ps.length : Int) ^ i)))] S = .ok r S
      ∧ (r = .rt (.int (fst (low_q ps l c d) 99)) ∨ ∃ o, r = .nx [some (rc ps), some (.int l), some (frq (c, d)), some (frq (lowq ((ps.length : Int) - ab ps l) ps.length)), some (.int (fst (low_q ps l c d) 99)), o])
  | 0, i, m, h, hm, hf => by
    obtain ⟨m, rfl⟩ : ∃ k, m = k + 1 := ⟨m - 1, by omega⟩
    have hi : i = 99 := by omega
    subst hi
    refine ⟨_, by rw [whl_end (S1 := S) (by simp)], .inr ?_⟩
    rw [hf]
    exact ⟨_, rfl⟩
  | j + 1, i, m, h, hm, hf => by
    obtain ⟨m, rfl⟩ : ∃ k, m = k + 1 := ⟨m - 1, by omega⟩
    have h1 := g.ne
    have h2 := g.le
    have h3 := ab_le ps l
    have st := r_step (w := w) (n := n) (S := S) ((ps.length : Int) - ab ps l) ps.length i (by omega) (by omega) (by omega) (by omega) (by omega) hw
    have b1 := pw ((ps.length : Int) - ab ps l) (i + 1) (by omega) (by omega) (by omega)
    have b2 := pw ps.length (i + 1) (by omega) (by omega) (by omega)
    have p1 := pp ps.length (i + 1) (by omega)
    have z2 := sz_low b1.1 p1 b1.2 b2.2
    have le := run_less (P := k21_prog) (w := w) (n := n + 1) (S := S) (f := 8) rfl (p := lowq (((ps.length : Int) - ab ps l) ^ (i + 1)) ((ps.length : Int) ^ (i + 1))) (q := (c, d)) z2.1 z2.2 hc hd
    have e : decide ((lowq (((ps.length : Int) - ab ps l) ^ (i + 1)) ((ps.length : Int) ^ (i + 1))).1 * d < c * (lowq (((ps.length : Int) - ab ps l) ^ (i + 1)) ((ps.length : Int) ^ (i + 1))).2) = low_q ps l c d i := by
      unfold low_q
      rw [decide_eq_decide]
      exact low_lt _ p1 _ _
    rw [e] at le
    have lt : ((i : Nat) : Int) < 99 := by omega
    cases hq : low_q ps l c d i with
    | true =>
      rw [hq] at le
      refine ⟨.rt (.int i), ?_, .inl ?_⟩
      · rw [whl]
        simp [lt, blkS, st, le]
      · rw [fst_stay hf hq 99 (by omega)]
    | false =>
      rw [hq] at le
      have hf' : fst (low_q ps l c d) (i + 1) = i + 1 := by rw [fst, if_pos ⟨hf, hq⟩]
      obtain ⟨r, e1, e2⟩ := held_whl l c d hc hd j (i + 1) m (by omega) (by omega) hf'
      refine ⟨r, ?_, e2⟩
      rw [← e1, whl_go (S1 := S) (S2 := S) (by simp [lt]) (by simp [blkS, st, le]; rfl)]
      rfl
theorem r_held (l c d : Int) (hc : Sz 8990 c) (hd : Sz 8990 d) : callF k21_prog w (n + 3) 19 [rc ps, .int l, frq (c, d)] S = .ok (.int (fst (low_q ps l c d) 99)) S := by
  have h1 := g.ne
  have h2 := g.le
  have h3 := ab_le ps l
  rw [callF_at rfl rfl]
  obtain ⟨r, e1, e2⟩ := held_whl (n := n) (S := S) g hw l c d hc hd 99 0 w rfl (by omega) rfl
  simp [low11] at e1
  rw [show frq (1, 1) = .tup [.int 1, .int 1] from rfl] at e1
  simp [k21_Record_years_held, r_chance g hw, r_dry _ _ (show (0 : Int) ≤ ab ps l by omega) (by omega) (show (0 : Int) < ps.length by omega) (by omega) hw]
  rw [e1]
  rcases e2 with rfl | ⟨o, rfl⟩ <;> simp
end
end K21
open Dn -- names
/-! k21: the other ways to ask a record. -/
namespace K21
variable {w n : Nat} {S : Sto}
/-- the levels that matter -/
def lv (ps : List Int) : List Int := usort (0 :: ps)
theorem r_len (ps : List Int) : callF k21_prog w (n + 1) 12 [rc ps] S = .ok (.int ps.length) S := by
  rw [callF_at rfl rfl]
  simp [k21_Record___len__]
theorem r_ranked (ps : List Int) : callF k21_prog w (n + 1) 16 [rc ps] S = .ok (.tup ((sortI ps).map .int).reverse) S := by
  rw [callF_at rfl rfl]
  have e := bi_sorted_tup ⟨k21_prog, callF k21_prog w n, w, none⟩ S ps
  simp [k21_Record_ranked, e]
  rw [← List.map_reverse]
  exact fin_tup (lts_ints _ _)
theorem r_eq (ps qs : List Int) : callF k21_prog w (n + 1) 11 [rc ps, rc qs] S = .ok (.bl (decide (ps = qs))) S := by
  rw [callF_at rfl rfl]
  have i1 : isTys k21_prog S (rc qs) [.cls 0] = some true := by
    rw [isi_ins _ _ _ _ _ _ (by decide)]; rfl
  have e : cmpop S .eq (pk ps) (pk qs) = some (decide (ps = qs)) := (eqd_ints ps qs).1
  simp [k21_Record___eq__, i1, e]
theorem r_eqT (ps : List Int) (xs : List D) : callF k21_prog w (n + 1) 11 [rc ps, .tup xs] S = .ok (.bl false) S := by
  rw [callF_at rfl rfl]
  simp [k21_Record___eq__, subK]
theorem r_mean {ps : List Int} (g : Gd ps) (hw : 18002 < w) : callF k21_prog w (n + 2) 22 [rc ps] S = .ok (frq (lowq ps.sum ps.length)) S := by
  have h1 := g.ne
  have h2 := g.le
  rw [callF_at rfl rfl]
  have e := bi_sum_tup ⟨k21_prog, callF k21_prog w (n + 1), w, none⟩ S false ps
  simp [k21_Record_mean, e, r_reduced ps.sum ps.length (by omega) (sm (by omega)) hw]
  simp [frq]
theorem r_cost (ps : List Int) (l pr hm : Int) (h1 : 0 ≤ l ∧ l < 1000) (h2 : 0 ≤ hm ∧ hm < 1000) : callF k21_prog w (n + 2) 24 [rc ps, .int l, .int pr, .int hm] S = .ok (.int (pr * l + hm * ab ps l)) S := by
  rw [callF_at rfl rfl]
  simp (disch := first | omega | fail) [k21_Record_cost, r_above]
theorem sset0 (cx : Cx) {ps : List Int} (h : ps.length < 20) : bi cx false .sset [.lst (.int 0 :: ps.map .int)] S = .ok (.lst ((lv ps).map .int)) S := bi_sset_lst cx S (0 :: ps) (by simp; omega)
theorem sset0T (cx : Cx) {ps : List Int} (h : ps.length < 20) : bi cx false .sset [.tup (.int 0 :: ps.map .int)] S = .ok (.lst ((lv ps).map .int)) S := bi_sset_tup cx S (0 :: ps) (by simp; omega)
section
variable {ps : List Int} (g : Gd ps) (hw : 18002 < w)
include g
theorem lv_in {l : Int} (h : l ∈ lv ps) : 0 ≤ l ∧ l < 13 := by
  have := us_mem.mp h
  rcases List.mem_cons.mp this with rfl | h
  · decide
  · exact ⟨g.lo l h, g.hi l h⟩
include hw
theorem r_level (c d : Int) (hc : 0 ≤ c ∧ c < 1000) (hd : 0 < d ∧ d < 1000) (y : Int) (ys : List Int) (h : (lv ps).filter (fun l => decide (ab ps l * d ≤ c * ps.length)) = y :: ys) : callF k21_prog w (n + 3) 17 [rc ps, frq (c, d)] S = .ok (.int y) S := by
  have h1 := g.ne
  have h2 := g.le
  rw [callF_at rfl rfl]
  have e := fun cx => sset0 (S := S) cx h2
  have fnd := forV_find (f := turn ⟨k21_prog, callF k21_prog w (n + 2), w, none⟩ (.var 2) [(.ite (.not (.val (.call 8 [(.var 1), (.meth 2 (.var 0) [(.var 2)])]))) [(.ret (.var 2))] [])]) (S := S) (enc := D.int) (fun l => decide (ab ps l * d ≤ c * ps.length)) (fun ρ => ∃ o, ρ = [some (rc ps), some (frq (c, d)), o]) D.int (lv ps) [some (rc ps), some (frq (c, d)), none] ⟨_, rfl⟩ fun x hx ρ hρ => by
    obtain ⟨o, rfl⟩ := hρ
    have ch := r_chance (w := w) (n := n) (S := S) g hw x
    have h3 := ab_le ps x
    have z := sz_low (a := ab ps x) (b := ps.length) (by omega) (by omega) (s600 (by omega)) (s600 (by omega))
    have le := run_less (P := k21_prog) (w := w) (n := n + 1) (S := S) (f := 8) rfl (p := (c, d)) (q := lowq (ab ps x) ps.length) (.sm (by show _ < c; omega) (by show c < _; omega) (by decide)) (.sm (by show _ < d; omega) (by show d < _; omega) (by decide)) z.1 z.2
    have e : decide (c * (lowq (ab ps x) ps.length).2 < (lowq (ab ps x) ps.length).1 * d) = !decide (ab ps x * d ≤ c * ps.length) := by
      rw [← decide_not, decide_eq_decide, lt_low _ (by omega)]
      omega
    rw [show (decide ((c, d).1 * (lowq (ab ps x) ps.length).2 < (lowq (ab ps x) ps.length).1 * (c, d).2)) = _ from e] at le
    constructor
    · intro hp
      rw [hp] at le
      simp [turn, ch, le]
    · intro hp
      rw [hp] at le
      refine ⟨_, ⟨some (.int x), rfl⟩, ?_⟩
      simp [turn, ch, le]
  have fy := fnd.1 y ys h
  simp (disch := first | omega | (simp; omega) | fail) [k21_Record_level_for, e, fy]
theorem r_best (pr hm : Int) (hh : 0 ≤ hm ∧ hm < 1000) : ∃ y ys, lv ps = y :: ys ∧ callF k21_prog w (n + 3) 25 [rc ps, .int pr, .int hm] S = .ok (.int (minP (pr * y + hm * ab ps y, y) (ys.map fun y => (pr * y + hm * ab ps y, y))).2) S := by
  have h1 := g.ne
  have h2 := g.le
  have : lv ps ≠ [] := by
    intro h
    have := (us_mem (y := 0) (ns := 0 :: ps)).mpr List.mem_cons_self
    rw [show usort (0 :: ps) = lv ps from rfl, h] at this
    simp at this
  obtain ⟨y, ys, hy⟩ := List.exists_cons_of_ne_nil this
  refine ⟨y, ys, hy, ?_⟩
  rw [callF_at rfl rfl]
  have e := fun cx => sset0 (S := S) cx h2
  have c := colV_map (f := cturn ⟨k21_prog, callF k21_prog w (n + 2), w, none⟩ [4] (.var 4) none (.tup [(.meth 3 (.var 0) [(.var 4), (.var 1), (.var 2)]), (.var 4)]) [some (rc ps), some (.int pr), some (.int hm), some (.lst ((lv ps).map .int)), none]) (S := S) (enc := D.int) (fun l => frq (pr * l + hm * ab ps l, l)) (lv ps) fun l hl => by
    have := lv_in g hl
    have rc := r_cost (w := w) (n := n) (S := S) ps l pr hm (by omega) hh
    simp [cturn, wipe, rc, frq]
  have mn := fun cx => bi_min_frq cx S false (pr * y + hm * ab ps y, y) (ys.map fun y => (pr * y + hm * ab ps y, y))
  rw [hy, List.map_cons] at c
  rw [List.map_cons, List.map_map] at mn
  simp (disch := first | omega | (simp; omega) | fail) [k21_Record_best_level, e, hy]
  rw [List.map_cons] at c
  rw [c]
  simp [Function.comp_def, frq] at mn ⊢
  simp [mn]
end
/-! ### dry runs -/
/-- how long it has been dry, year by year -/
def hs (l : Int) : Int → List Int → List Int
  | _, [] => []
  | h, p :: ps => (if l < p then 0 else h + 1) :: hs l (if l < p then 0 else h + 1) ps
theorem dry_loop (cx : Cx) {A : Option D} (l : Int) : ∀ (qs : List Int) (b h : Int) (o : Option D), ∃ o' h',
    forV (turn cx (.var 2) [(.asg (.var 4) (.ite (.val (.cmp .gt (.var 2) (.var 1))) (.cst (.int 0)) (.bin .add (.var 4) (.cst (.int 1))))), (.asg (.var 3) (.bi false .max2 [(.var 3), (.var 4)]))]) (qs.map .int) [A, some (.int l), o, some (.int b), some (.int h)] S = .ok (.nx [A, some (.int l), o', some (.int ((hs l h qs).foldl max b)), h']) S
  | [], b, h, o => ⟨o, _, rfl⟩
  | q :: qs, b, h, o => by
    obtain ⟨o', h', e⟩ := dry_loop cx l qs (max b (if l < q then 0 else h + 1)) (if l < q then 0 else h + 1) (some (.int q))
    refine ⟨o', h', ?_⟩
    have t : turn cx (.var 2) [(.asg (.var 4) (.ite (.val (.cmp .gt (.var 2) (.var 1))) (.cst (.int 0)) (.bin .add (.var 4) (.cst (.int 1))))), (.asg (.var 3) (.bi false .max2 [(.var 3), (.var 4)]))] (.int q) [A, some (.int l), o, some (.int b), some (.int h)] S = .ok (.nx [A, some (.int l), some (.int q), some (.int (max b (if l < q then 0 else h + 1))), some (.int (if l < q then 0 else h + 1))]) S := by
      by_cases c : l < q <;> simp [turn, c]
    rw [List.map_cons, forV, t]
    exact e
theorem r_dryrun (ps : List Int) (l : Int) : callF k21_prog w (n + 1) 20 [rc ps, .int l] S = .ok (.int ((hs l 0 ps).foldl max 0)) S := by
  rw [callF_at rfl rfl]
  obtain ⟨o', h', e⟩ := dry_loop (S := S) ⟨k21_prog, callF k21_prog w n, w, none⟩ (A := some (rc ps)) l ps 0 0 none
  simp [k21_Record_longest_dry, e]
/-! ### records -/
def isRec (ps : List Int) (k : Nat) : Bool := (ps.take k).all fun q => decide (q < ps.getD k 0)
theorem r_records {ps : List Int} (g : Gd ps) (hw : WS S) : callF k21_prog w (n + 1) 21 [rc ps] S = .ok (.tup (((List.range ps.length).filter (isRec ps)).map fun (k : Nat) => D.int k)) S := by
  have h2 := g.le
  rw [callF_at rfl rfl]
  simp [k21_Record_records]
  generalize hF : forV _ _ _ _ = F
  obtain ⟨os, ho, e⟩ := forV_use hF [2, 3] [] [none, none] (fun i => []) (fun i => S ++ [.lst (((List.range i).filter (isRec ps)).map fun (k : Nat) => D.int k)]) rfl rfl rfl fun i x os hi ho hx => by
    obtain ⟨o2, o3, rfl⟩ : ∃ a b, os = [a, b] := by
      match os, ho with
      | [a, b], _ => exact ⟨a, b, rfl⟩
    rw [enD_len, List.length_map] at hi
    have hx' : x = .tup [.int i, .int ps[i]] := by
      rw [enumD_get] at hx
      simp [hi] at hx
      exact hx.symm
    subst hx'
    have c := colV_map (f := cturn ⟨k21_prog, callF k21_prog w n, w, none⟩ [4] (.var 4) none (.cmp .lt (.var 4) (.var 3)) [some (rc ps), some (.ref S.length), some (.int i), some (.int ps[i]), none]) (S := S ++ [.lst (((List.range i).filter (isRec ps)).map fun (k : Nat) => D.int k)]) (enc := D.int) (fun q => .bl (decide (q < ps[i]))) (ps.take i) fun q _ => by
      simp [cturn, wipe]
    have al := fun T => bi_all ⟨k21_prog, callF k21_prog w n, w, none⟩ T false ((ps.take i).map fun q => decide (q < ps[i]))
    have e1 : (((ps.take i).map fun q => decide (q < ps[i])).all id) = isRec ps i := by
      unfold isRec
      rw [List.all_map, List.getD_eq_getElem?_getD, List.getElem?_eq_getElem hi]; rfl
    rw [e1, List.map_map] at al
    refine ⟨[some (.int i), some (.int ps[i])], rfl, ?_⟩
    have ln : (((List.range i).filter (isRec ps)).map fun (k : Nat) => D.int k).length < 16777216 := by
      rw [List.length_map]
      have := List.length_filter_le (isRec ps) (List.range i)
      rw [List.length_range] at this
      omega
    simp only [List.map_take] at c al
    simp only [Function.comp_def] at al
    simp [turn, cut_to, c, al]
    cases hr : isRec ps i <;> simp (disch := first | exact ln | fail) [List.range_succ, hr, List.filter_cons]
  rw [e]
  obtain ⟨o2, o3, rfl⟩ : ∃ a b, os = [a, b] := by
    match os, ho with
    | [a, b], _ => exact ⟨a, b, rfl⟩
  rw [enD_len, List.length_map]
  simp
  refine end_fin ?_ hw
  have : ∀ ks : List Nat, lts S.length (ks.map fun (k : Nat) => D.int k) = true := fun ks => by
    induction ks with
    | nil => simp
    | cons k ks ih => simp [ih]
  rw [lt_tup]; exact this _
/-! ### rising pairs -/
def upC (ps : List Int) (k : Nat) : Nat := ((ps.drop (k + 1)).filter fun q => decide (ps.getD k 0 < q)).length
def dnC (ps : List Int) (k : Nat) : Nat := ((ps.drop (k + 1)).filter fun q => decide (q < ps.getD k 0)).length
def sumC (c : Nat → Nat) (k : Nat) : Nat := ((List.range k).map c).sum
theorem sumC_succ (c : Nat → Nat) (k : Nat) : sumC c (k + 1) = sumC c k + c k := by
  unfold sumC
  rw [List.range_succ, List.map_append, List.sum_append]; simp
theorem r_rising (ps : List Int) : callF k21_prog w (n + 1) 23 [rc ps] S = .ok (.tup [.int (sumC (upC ps) ps.length), .int (sumC (dnC ps) ps.length)]) S := by
  rw [callF_at rfl rfl]
  simp [k21_Record_rising_pairs]
  generalize hF : forV _ _ _ _ = F
  obtain ⟨os, ho, e⟩ := forV_use hF [3, 4] [1, 2] [none, none] (fun i => [some (.int (sumC (upC ps) i)), some (.int (sumC (dnC ps) i))]) (fun i => S) rfl rfl rfl fun i x os hi ho hx => by
    obtain ⟨o2, o3, rfl⟩ : ∃ a b, os = [a, b] := by
      match os, ho with
      | [a, b], _ => exact ⟨a, b, rfl⟩
    rw [enD_len, List.length_map] at hi
    have hx' : x = .tup [.int i, .int ps[i]] := by
      rw [enumD_get] at hx
      simp [hi] at hx
      exact hx.symm
    subst hx'
    have gd : ps.getD i 0 = ps[i] := by rw [List.getD_eq_getElem?_getD, List.getElem?_eq_getElem hi]; rfl
    have gd2 : ps[i]?.getD 0 = ps[i] := by rw [List.getElem?_eq_getElem hi]; rfl
    have c1 := fun r f => colV_fm (f := cturn ⟨k21_prog, callF k21_prog w n, w, none⟩ [5] (.var 5) (some (.val (.cmp .gt (.var 5) (.var 4)))) (.cst (.int 1)) [some (rc ps), r, f, some (.int i), some (.int ps[i]), none]) (S := S) (enc := D.int) (fun q => decide (ps[i] < q)) (fun _ => D.int 1) (ps.drop (i + 1)) fun q _ => by
      simp [cturn, wipe]
      split <;> rfl
    have c2 := fun r f => colV_fm (f := cturn ⟨k21_prog, callF k21_prog w n, w, none⟩ [5] (.var 5) (some (.val (.cmp .lt (.var 5) (.var 4)))) (.cst (.int 1)) [some (rc ps), r, f, some (.int i), some (.int ps[i]), none]) (S := S) (enc := D.int) (fun q => decide (q < ps[i])) (fun _ => D.int 1) (ps.drop (i + 1)) fun q _ => by
      simp [cturn, wipe]
      split <;> rfl
    simp only [List.map_drop] at c1 c2
    have cf := cut_from (ps.map D.int) (i + 1)
    rw [Int.natCast_add] at cf
    refine ⟨[some (.int i), some (.int ps[i])], rfl, ?_⟩
    simp at cf
    simp [turn, cf, c1, c2, sumC_succ, upC, dnC, gd2]
  rw [e]
  obtain ⟨o2, o3, rfl⟩ : ∃ a b, os = [a, b] := by
    match os, ho with
    | [a, b], _ => exact ⟨a, b, rfl⟩
  rw [enD_len, List.length_map]
  simp
end K21
open Dn -- names
/-! k21: making a record. -/
namespace K21
variable {w n : Nat} {S : Sto}
theorem lt_rc (k : Nat) (ps : List Int) : lt k (rc ps) = true := by
  have := lts_ints k ps
  simp [lt, this]
theorem r_peak (d : D) (h : flatD d = true) : callF k21_prog w (n + 3) 9 [d] S = .ok (.bl (isN 0 9999 d)) S := by
  have e := run_number (P := k21_prog) (w := w) (n := n) (S := S) (f := 1) (fW := 0) rfl rfl d h 0 9999
  have g1 : k21_prog.globs[1]? = some (.int 9999) := rfl
  rw [callF_at rfl rfl]
  simp [k21_is_peak, e, g1]
/-- peaks that a record takes -/
def okP (p : Int) : Bool := decide (0 ≤ p) && decide (p ≤ 9999)
theorem seq_pl {v : D} {xs : List D} (hv : v = .tup xs ∨ v = .lst xs) (h : plns 3 xs = true) (hl : xs.length ≤ 16777216) : pln 4 v = true := by
  rcases hv with rfl | rfl <;> simp [pln, h, hl]
theorem frz_ints : ∀ ns : List Int, frzDs (ns.map .int) = ns.map .int
  | [] => rfl
  | x :: xs => by
    have : frzD (.int x) = .int x := by simp [frzD]
    rw [List.map_cons, frzDs, frz_ints xs, this]
/-- an exception at a def's end, the making's cell still there -/
theorem finX_one {x : Xn} {a : LO} : finX (S.length + 1) x (S ++ [a]) = .exc x (S ++ [a]) := by
  have := finX_id (x := x) (S := S ++ [a])
  rwa [show (S ++ [a]).length = S.length + 1 by simp] at this
/-- Record's __init__, on the way -/
theorem r_init {ps : List Int} {v : D} (hv : v = .tup (ps.map .int) ∨ v = .lst (ps.map .int)) (h1 : 0 < ps.length) (h2 : ps.length ≤ 60) (h3 : ∀ p ∈ ps, okP p = true) :
    callF k21_prog w (n + 7) 10 [.ref S.length, v] (S ++ [.ins 0 [] []]) = .ok .non (S ++ [.ins 0 [0] [pk ps]]) := by
  have pl := seq_pl hv (plns_ints 3 ps) (by simp; omega)
  have wr := (run_want (P := k21_prog) (w := w) (n := n + 5) (S := S ++ [.ins 0 [] []]) (f := 4) (fR := 2) (fZ := 3) (xB := 1) (xM := 2) (g := 9) rfl rfl rfl rfl rfl rfl rfl (by decide) 60 hv pl (by omega)).1 fun x hx => by
    obtain ⟨p, hp, rfl⟩ := List.mem_map.mp hx
    have := r_peak (w := w) (n := n + 2) (S := S ++ [.ins 0 [] []]) (.int p) rfl
    rw [this]
    have e : isN 0 9999 (.int p) = okP p := rfl
    rw [e, h3 p hp]
  have z : frzD v = pk ps := by rcases hv with rfl | rfl <;> (rw [frzD, frz_ints])
  rw [if_pos (by simp; omega), z] at wr
  have g0 : k21_prog.globs[0]? = some (.int 60) := rfl
  have sf : setF k21_prog (S ++ [.ins 0 [] []]) (.ref S.length) 0 (pk ps) = some (S ++ [.ins 0 [0] [pk ps]]) := by
    show (match (S ++ [LO.ins 0 [] []])[S.length]? with | some (.ins c ids vs) => if hasF k21_prog c 0 && decide (ids.length < 1000) then some ((S ++ [LO.ins 0 [] []]).set S.length (.ins c (putId 0 (pk ps) ids vs).1 (putId 0 (pk ps) ids vs).2)) else none | _ => none) = _
    rw [end_get]
    show (if true && decide (0 < 1000) then _ else none) = _
    rw [if_pos (by decide), List.set_append_right _ _ (Nat.le_refl _), Nat.sub_self]
    rfl
  have gf : getF k21_prog (S ++ [.ins 0 [0] [pk ps]]) (.ref S.length) 0 = some (pk ps) := by
    show (match (S ++ [LO.ins 0 [0] [pk ps]])[S.length]? with | some (.ins c ids vs) => if hasF k21_prog c 0 then getId 0 ids vs else none | _ => none) = _
    rw [end_get]
    rfl
  rw [callF_at rfl rfl]
  have ne : ¬ ps = [] := by intro h; subst h; simp at h1
  simp [k21_Record___init__, g0, wr, sf, gf, ne]
  exact fin_same rfl (by simp)
theorem r_mk {ps : List Int} {v : D} {c : Option Xn} (hS : WS S) (hv : v = .tup (ps.map .int) ∨ v = .lst (ps.map .int)) (h1 : 0 < ps.length) (h2 : ps.length ≤ 60) (h3 : ∀ p ∈ ps, okP p = true) :
    mkC ⟨k21_prog, callF k21_prog w (n + 7), w, c⟩ 0 [v] S = .ok (rc ps) S := 
  mkC_ok cl0 rfl (by simp) hS (r_init hv h1 h2 h3)
/-- an item is none: its place -/
theorem r_mkBad {v : D} {xs : List D} {c : Option Xn} (hS : WS S) (hv : v = .tup xs ∨ v = .lst xs) (hl : xs.length ≤ 16777216) (h : plns 3 xs = true) (hf : ∀ x ∈ xs, flatD x = true) (j : Nat) (x : D) (hx : xs[j]? = some x) (hb : isN 0 9999 x = false) (ha : ∀ (i : Nat) y, i < j → xs[i]? = some y → isN 0 9999 y = true) :
    mkC ⟨k21_prog, callF k21_prog w (n + 7), w, c⟩ 0 [v] S = .exc ⟨1, [.int j]⟩ S := by
  have pl := seq_pl hv h hl
  have wr := (run_want (P := k21_prog) (w := w) (n := n + 5) (S := S ++ [.ins 0 [] []]) (f := 4) (fR := 2) (fZ := 3) (xB := 1) (xM := 2) (g := 9) rfl rfl rfl rfl rfl rfl rfl (by decide) 60 hv pl (by omega)).2 j x hx
    (by have := r_peak (w := w) (n := n + 2) (S := S ++ [.ins 0 [] []]) x (hf x (List.mem_of_getElem? hx)); rw [this, hb])
    (fun i y hi hy => by have := r_peak (w := w) (n := n + 2) (S := S ++ [.ins 0 [] []]) y (hf y (List.mem_of_getElem? hy)); rw [this, ha i y hi hy])
  have g0 : k21_prog.globs[0]? = some (.int 60) := rfl
  have hi : callF k21_prog w (n + 7) 10 [.ref S.length, v] (S ++ [.ins 0 [] []]) = .exc ⟨1, [.int j]⟩ (S ++ [.ins 0 [] []]) := by
    rw [callF_at rfl rfl]
    simp [k21_Record___init__, g0, wr]
    exact finX_one
  rw [mkC_exc cl0 hi]
  exact finX_back rfl (by simp) hS
/-- too many -/
theorem r_mkMany {ps : List Int} {v : D} {c : Option Xn} (hS : WS S) (hv : v = .tup (ps.map .int) ∨ v = .lst (ps.map .int)) (h1 : ps.length ≤ 16777216) (h2 : 60 < ps.length) (h3 : ∀ p ∈ ps, okP p = true) :
    mkC ⟨k21_prog, callF k21_prog w (n + 7), w, c⟩ 0 [v] S = .exc ⟨2, [.int 60]⟩ S := by
  have pl := seq_pl hv (plns_ints 3 ps) (by simp; omega)
  have wr := (run_want (P := k21_prog) (w := w) (n := n + 5) (S := S ++ [.ins 0 [] []]) (f := 4) (fR := 2) (fZ := 3) (xB := 1) (xM := 2) (g := 9) rfl rfl rfl rfl rfl rfl rfl (by decide) 60 hv pl (by omega)).1 fun x hx => by
    obtain ⟨p, hp, rfl⟩ := List.mem_map.mp hx
    have := r_peak (w := w) (n := n + 2) (S := S ++ [.ins 0 [] []]) (.int p) rfl
    rw [this]
    have e : isN 0 9999 (.int p) = okP p := rfl
    rw [e, h3 p hp]
  rw [if_neg (by simp; omega)] at wr
  have g0 : k21_prog.globs[0]? = some (.int 60) := rfl
  have hi : callF k21_prog w (n + 7) 10 [.ref S.length, v] (S ++ [.ins 0 [] []]) = .exc ⟨2, [.int 60]⟩ (S ++ [.ins 0 [] []]) := by
    rw [callF_at rfl rfl]
    simp [k21_Record___init__, g0, wr]
    exact finX_one
  rw [mkC_exc cl0 hi]
  exact finX_back rfl (by simp) hS
/-- no row -/
theorem r_mkNone {c : Option Xn} (hS : WS S) : mkC ⟨k21_prog, callF k21_prog w (n + 7), w, c⟩ 0 [.non] S = .exc ⟨1, [.non]⟩ S := by
  have wr := run_wantN (P := k21_prog) (w := w) (n := n + 4) (S := S ++ [.ins 0 [] []]) (f := 4) (fR := 2) (fZ := 3) (xB := 1) (xM := 2) (g := 9) rfl rfl rfl rfl 60 (v := .non) rfl rfl
  have g0 : k21_prog.globs[0]? = some (.int 60) := rfl
  have hi : callF k21_prog w (n + 7) 10 [.ref S.length, .non] (S ++ [.ins 0 [] []]) = .exc ⟨1, [.non]⟩ (S ++ [.ins 0 [] []]) := by
    rw [callF_at rfl rfl]
    simp [k21_Record___init__, g0, wr]
    exact finX_one
  rw [mkC_exc cl0 hi]
  exact finX_back rfl (by simp) hS
/-- nothing in it -/
theorem r_mkNil {c : Option Xn} (hS : WS S) : mkC ⟨k21_prog, callF k21_prog w (n + 7), w, c⟩ 0 [.tup []] S = .exc ⟨1, [.non]⟩ S := by
  have wr := (run_want (P := k21_prog) (w := w) (n := n + 5) (S := S ++ [.ins 0 [] []]) (f := 4) (fR := 2) (fZ := 3) (xB := 1) (xM := 2) (g := 9) rfl rfl rfl rfl rfl rfl rfl (by decide) 60 (v := .tup []) (xs := []) (.inl rfl) rfl (by omega)).1 fun x hx => by simp at hx
  have g0 : k21_prog.globs[0]? = some (.int 60) := rfl
  have sf : setF k21_prog (S ++ [.ins 0 [] []]) (.ref S.length) 0 (.tup []) = some (S ++ [.ins 0 [0] [.tup []]]) := by
    show (match (S ++ [LO.ins 0 [] []])[S.length]? with | some (.ins c ids vs) => if hasF k21_prog c 0 && decide (ids.length < 1000) then some ((S ++ [LO.ins 0 [] []]).set S.length (.ins c (putId 0 (.tup []) ids vs).1 (putId 0 (.tup []) ids vs).2)) else none | _ => none) = _
    rw [end_get]
    show (if true && decide (0 < 1000) then _ else none) = _
    rw [if_pos (by decide), List.set_append_right _ _ (Nat.le_refl _), Nat.sub_self]
    rfl
  have gf : getF k21_prog (S ++ [.ins 0 [0] [.tup []]]) (.ref S.length) 0 = some (.tup []) := by
    show (match (S ++ [LO.ins 0 [0] [.tup []]])[S.length]? with | some (.ins c ids vs) => if hasF k21_prog c 0 then getId 0 ids vs else none | _ => none) = _
    rw [end_get]
    rfl
  have x1 : k21_prog.xcs[1]? = some { ids := [5], sup := [1, 0] } := rfl
  simp [frzD, frzDs] at wr
  have hi : callF k21_prog w (n + 7) 10 [.ref S.length, .tup []] (S ++ [.ins 0 [] []]) = .exc ⟨1, [.non]⟩ (S ++ [.ins 0 [0] [.tup []]]) := by
    rw [callF_at rfl rfl]
    simp [k21_Record___init__, g0, wr, sf, gf, x1]
    have : (S ++ [LO.ins 0 [] []]).length = (S ++ [LO.ins 0 [0] [.tup []]]).length := by simp
    rw [show S.length + 1 = (S ++ [LO.ins 0 [0] [.tup []]]).length by simp]
    exact finX_id
  rw [mkC_exc cl0 hi]
  exact finX_back rfl (by simp) hS
/-! with_peak, last -/
theorem r_with {ps : List Int} (hS : WS S) (p : Int) (h2 : ps.length + 1 ≤ 60) (h3 : ∀ q ∈ ps ++ [p], okP q = true) : callF k21_prog w (n + 8) 26 [rc ps, .int p] S = .ok (rc (ps ++ [p])) S := by
  have mk := r_mk (w := w) (n := n) (ps := ps ++ [p]) (c := none) hS (v := .tup ((ps ++ [p]).map .int)) (.inl rfl) (by simp) (by simp; omega) h3
  rw [List.map_append] at mk
  rw [callF_at rfl rfl]
  have ad : binop S .add (pk ps) (.tup [.int p]) = some (.tup (ps.map .int ++ [.int p])) := op_addT S (by simp; omega)
  simp at mk
  simp [k21_Record_with_peak, ad, mk]
  exact fin_same (lt_rc _ _) rfl
theorem r_last {ps : List Int} (hS : WS S) (k : Nat) (h0 : 0 < k) (h1 : k ≤ ps.length) (h2 : ps.length ≤ 60) (h3 : ∀ q ∈ ps, okP q = true) : callF k21_prog w (n + 8) 27 [rc ps, .int k] S = .ok (rc (ps.drop (ps.length - k))) S := by
  have mk := r_mk (w := w) (n := n) (ps := ps.drop (ps.length - k)) (c := none) hS (v := .tup ((ps.drop (ps.length - k)).map .int)) (.inl rfl) (by simp; omega) (by simp; omega) fun q hq => h3 q (List.mem_of_mem_drop hq)
  have e := run_number (P := k21_prog) (w := w) (n := n + 5) (S := S) (f := 1) (fW := 0) rfl rfl (.int k) rfl 1 ps.length
  have e2 : isN 1 ps.length (.int k) = true := by simp [isN]; omega
  rw [e2] at e
  have cf := cut_from (ps.map D.int) (ps.length - k)
  rw [Int.ofNat_sub h1] at cf
  rw [callF_at rfl rfl]
  simp only [List.map_drop] at mk
  simp [k21_Record_last, e, cf, mk]
  exact fin_same (lt_rc _ _) rfl
theorem r_lastBad {ps : List Int} (d : D) (hf : flatD d = true) (hb : isN 1 ps.length d = false) : callF k21_prog w (n + 8) 27 [rc ps, d] S = .exc ⟨1, [d]⟩ S := by
  have e := run_number (P := k21_prog) (w := w) (n := n + 5) (S := S) (f := 1) (fW := 0) rfl rfl d hf 1 ps.length
  rw [hb] at e
  have x1 : k21_prog.xcs[1]? = some { ids := [5], sup := [1, 0] } := rfl
  rw [callF_at rfl rfl]
  simp [k21_Record_last, e, x1]
  exact finX_id
/-! are_peaks -/
theorem r_areI (ps : List Int) (v : D) (hv : v = .tup (ps.map .int) ∨ v = .lst (ps.map .int)) : callF k21_prog w (n + 4) 29 [v] S = .ok (.bl (ps.all okP)) S := by
  have hr := run_row (P := k21_prog) (w := w) (n := n + 2) (S := S) (f := 2) rfl v (by rcases hv with rfl | rfl <;> rfl)
  rw [show isR v = true by rcases hv with rfl | rfl <;> rfl] at hr
  have c := colV_map (f := cturn ⟨k21_prog, callF k21_prog w (n + 3), w, none⟩ [1] (.var 1) none (.call 9 [(.var 1)]) [some v, none]) (S := S) (enc := D.int) (fun p => .bl (okP p)) ps fun p _ => by
    have := r_peak (w := w) (n := n) (S := S) (.int p) rfl
    rw [show isN 0 9999 (.int p) = okP p from rfl] at this
    simp [cturn, wipe, this]
  have al := bi_all ⟨k21_prog, callF k21_prog w (n + 3), w, none⟩ S false (ps.map okP)
  rw [List.map_map, List.all_map] at al
  rw [callF_at rfl rfl]
  simp only [Function.comp_def, id] at al
  have sv : srcOf S v = some (.vals (ps.map .int)) := by rcases hv with rfl | rfl <;> rfl
  simp [k21_are_peaks, hr, sv, c, al]
theorem r_areN : callF k21_prog w (n + 4) 29 [.non] S = .ok (.bl false) S := by
  have hr := run_row (P := k21_prog) (w := w) (n := n + 2) (S := S) (f := 2) rfl .non rfl
  rw [callF_at rfl rfl]
  simp [k21_are_peaks, hr, isR]
end K21
open Dn -- names
/-! k21: smoothed; what is refused. -/
namespace K21
variable {w n : Nat} {S : Sto}
def smo (ps : List Int) (wide k : Nat) : Int := ((ps.drop k).take wide).sum / wide
theorem r_smoothed (ps : List Int) (wide : Nat) (hS : WS S) (h1 : ps.length < 20) (h2 : 0 < wide ∧ wide < 20) : callF k21_prog w (n + 1) 28 [pk ps, .int wide] S = .ok (.tup ((List.range ((ps.length : Int) - wide + 1).toNat).map fun (k : Nat) => D.int (smo ps wide k))) S := by
  rw [callF_at rfl rfl]
  simp (disch := first | omega | fail) [k21_smoothed, rangeDI]
  generalize hF : forV _ _ _ _ = F
  obtain ⟨os, ho, e⟩ := forV_use hF [3] [] [none] (fun i => []) (fun i => S ++ [.lst ((List.range i).map fun (k : Nat) => D.int (smo ps wide k))]) rfl rfl rfl fun i x os hi ho hx => by
    obtain ⟨o, rfl⟩ := List.length_eq_one_iff.mp ho
    rw [List.length_map, List.length_range] at hi
    have : x = .int i := by
      rw [List.getElem?_map, List.getElem?_range hi] at hx
      simp at hx
      exact hx.symm
    subst this
    refine ⟨[some (.int i)], rfl, ?_⟩
    have cm := cut_mid (ps.map D.int) i (i + wide)
    rw [Nat.add_sub_cancel_left, Int.natCast_add] at cm
    have su := fun T => bi_sum_tup ⟨k21_prog, callF k21_prog w n, w, none⟩ T false ((ps.drop i).take wide)
    simp only [List.map_take, List.map_drop] at su
    have ln : ((List.range i).map fun (k : Nat) => D.int (smo ps wide k)).length < 16777216 := by
      rw [List.length_map, List.length_range]; omega
    have e0 : ((ps.drop i).take wide).sum / (wide : Int) = smo ps wide i := rfl
    simp (disch := first | omega | exact ln | fail) [turn, cm, su, List.range_succ, e0]
  rw [e]
  obtain ⟨o, rfl⟩ := List.length_eq_one_iff.mp ho
  rw [List.length_map, List.length_range]
  simp
  refine end_fin ?_ hS
  have : ∀ ks : List Nat, lts S.length (ks.map fun (k : Nat) => D.int (smo ps wide k)) = true := fun ks => by
    induction ks with
    | nil => simp
    | cons k ks ih => simp [ih]
  rw [lt_tup]; exact this _
abbrev lastT (w n : Nat) : D → Env → Sto → R Fl := turn ⟨k21_prog, callF k21_prog w (n + 8), w, none⟩ (.var 4) [(.tri [(.exp (.meth 4 (.var 1) [(.var 4)])), (.ret (.cst (.bl false)))] [(.mk 1 (some 6) [(.ite (.val (.repne (.exf 6 5) (.var 4))) [(.ret (.cst (.bl false)))] [])])])]
theorem last_one {ps : List Int} {v : D} (hf : flatD v = true) (hb : isN 1 ps.length v = false) (h1 : reprOk v = true) (h2 : same v v = true) {a0 a2 a3 a5 a7 o : Option D} :
    lastT w n v [a0, some (rc ps), a2, a3, o, a5, none, a7] S = .ok (.nx [a0, some (rc ps), a2, a3, some v, a5, none, a7]) S := by
  have f1 := r_lastBad (w := w) (n := n) (S := S) (ps := ps) v hf hb
  have f4 : k21_prog.xcs[1]? = some ⟨[5], [1, 0]⟩ := rfl
  have rd : rdOf S v = v := by cases v <;> first | (simp [flatD] at hf; done) | rfl
  simp [lastT, turn, f1]
  rw [han_cons (xd := ⟨[5], [1, 0]⟩) (h := f4)]
  simp [f4, getId, rd, h1, h2]
abbrev mkT (w n : Nat) : D → Env → Sto → R Fl := turn ⟨k21_prog, callF k21_prog w (n + 7), w, none⟩ (.tup [(.var 4), (.var 7)]) [(.tri [(.exp (.mk 0 [(.var 4)])), (.ret (.cst (.bl false)))] [(.mk 1 (some 6) [(.ite (.val (.cmp .ne (.tup [(.cst (.str [105, 116, 101, 109])), (.exf 6 5)]) (.var 7))) [(.ret (.cst (.bl false)))] [])]), (.mk 2 (some 6) [(.ite (.val (.cmp .ne (.tup [(.cst (.str [109, 97, 110, 121])), (.exf 6 6)]) (.var 7))) [(.ret (.cst (.bl false)))] [])])])]
theorem mk_one {v x : D} (hm : mkC ⟨k21_prog, callF k21_prog w (n + 7), w, none⟩ 0 [v] S = .exc ⟨1, [x]⟩ S) (hp : pd 59 x = true) {a0 a1 a2 a3 a5 o4 o7 : Option D} :
    mkT w n (.tup [v, .tup [.str [105, 116, 101, 109], x]]) [a0, a1, a2, a3, o4, a5, none, o7] S = .ok (.nx [a0, a1, a2, a3, some v, a5, none, some (.tup [.str [105, 116, 101, 109], x])]) S := by
  have f4 : k21_prog.xcs[1]? = some ⟨[5], [1, 0]⟩ := rfl
  have cs := cm_self (S := S) (d := .tup [.str [105, 116, 101, 109], x]) (by simp [rdOf, pd, pds, hp])
  simp [mkT, turn, hm]
  rw [han_cons (xd := ⟨[5], [1, 0]⟩) (h := f4)]
  simp [f4, getId, cs]
theorem mk_many {v x : D} (hm : mkC ⟨k21_prog, callF k21_prog w (n + 7), w, none⟩ 0 [v] S = .exc ⟨2, [x]⟩ S) (hp : pd 59 x = true) {a0 a1 a2 a3 a5 o4 o7 : Option D} :
    mkT w n (.tup [v, .tup [.str [109, 97, 110, 121], x]]) [a0, a1, a2, a3, o4, a5, none, o7] S = .ok (.nx [a0, a1, a2, a3, some v, a5, none, some (.tup [.str [109, 97, 110, 121], x])]) S := by
  have f4 : k21_prog.xcs[2]? = some ⟨[6], [2, 0]⟩ := rfl
  have cs := cm_self (S := S) (d := .tup [.str [109, 97, 110, 121], x]) (by simp [rdOf, pd, pds, hp])
  simp [mkT, turn, hm]
  rw [han_cons (xd := ⟨[6], [2, 0]⟩) (h := f4)]
  simp
  rw [han_cons (xd := ⟨[6], [2, 0]⟩) (h := f4)]
  simp [f4, getId, cs]
/-- what stands in the place of a peak -/
def bads : List D := [.int (-1), .int 10000, .bl true, .non, .str [49]]
theorem r_refused {ns : List Int} {T : Sto} {ps : List Int} (hR : Rw ns T S) (hT : T.all (LO.lt (T.length + 1)) = true) (h1 : 0 < ps.length) (h2 : ps.length < 20) (h3 : ∀ p ∈ ps, okP p = true) : ∃ S', Rw ns T S' ∧ callF k21_prog w (n + 9) 36 [.ref 0, rc ps, pk ps] S = .ok (.bl true) S' := by
  have hS := hR.ws hT
  rw [callF_at rfl rfl]
  have l1 := fun o => last_one (w := w) (n := n) (S := S) (ps := ps) (v := .int 0) (a0 := some (.ref 0)) (a2 := some (pk ps)) (a3 := some (.int ps.length)) (a5 := none) (a7 := none) (o := o) rfl (by simp [isN]) (by decide) (by decide)
  have l2 := fun o => last_one (w := w) (n := n) (S := S) (ps := ps) (v := .int (ps.length + 1)) (a0 := some (.ref 0)) (a2 := some (pk ps)) (a3 := some (.int ps.length)) (a5 := none) (a7 := none) (o := o) rfl (by simp [isN]; omega) (by
    have : (((ps.length : Int) + 1).natAbs).log2 < 1920 := by
      have : ((ps.length : Int) + 1).natAbs < 2 ^ 1920 := Nat.lt_of_lt_of_le (show _ < 2 ^ 5 by omega) (Nat.pow_le_pow_right (by decide) (by decide))
      exact (Nat.log2_lt (by omega)).mpr this
    simp [reprOk, pd, shw, blk, this]) (by simp [same])
  have l3 := fun o => last_one (w := w) (n := n) (S := S) (ps := ps) (v := .bl true) (a0 := some (.ref 0)) (a2 := some (pk ps)) (a3 := some (.int ps.length)) (a5 := none) (a7 := none) (o := o) rfl (by simp [isN]) (by decide) (by decide)
  have l4 := fun o => last_one (w := w) (n := n) (S := S) (ps := ps) (v := .non) (a0 := some (.ref 0)) (a2 := some (pk ps)) (a3 := some (.int ps.length)) (a5 := none) (a7 := none) (o := o) rfl (by simp [isN]) (by decide) (by decide)
  obtain ⟨i, bad, S', hR', hb, ep⟩ := hR.pick (P := k21_prog) (w := w) (n := n + 8) (f := 31) (fT := 30) rfl rfl bads (by decide) (by decide) (by omega) rfl
  have hS' := hR'.ws hT
  have bad_n : isN 0 9999 bad = false ∧ flatD bad = true ∧ pln 3 bad = true := by
    have := List.mem_of_getElem? hb
    simp only [bads, List.mem_cons, List.not_mem_nil, or_false] at this
    rcases this with rfl | rfl | rfl | rfl | rfl <;> exact ⟨rfl, rfl, rfl⟩
  have g1 := r_mkBad (w := w) (n := n + 1) (S := S') (c := none) (v := .tup (ps.map .int ++ [bad])) (xs := ps.map .int ++ [bad]) hS' (.inl rfl) (by simp; omega) (by
      have : ∀ ps : List Int, plns 3 (ps.map .int ++ [bad]) = true := fun ps => by
        induction ps with
        | nil => simp [plns, bad_n.2.2]
        | cons p ps ih => simp [plns, pln, ih]
      exact this ps) (by
      intro x hx
      rcases List.mem_append.mp hx with h | h
      · obtain ⟨p, _, rfl⟩ := List.mem_map.mp h; rfl
      · simp at h; rw [h]; exact bad_n.2.1) ps.length bad (by simp) bad_n.1 (by
      intro i y hi hy
      rw [List.getElem?_append_left (by simp; omega), List.getElem?_map, List.getElem?_eq_getElem hi] at hy
      simp at hy
      subst hy
      exact h3 _ (List.getElem_mem _))
  have m1 := fun o4 o7 => mk_one (w := w) (n := n + 1) (S := S') g1 rfl (a0 := some (.ref 0)) (a1 := some (rc ps)) (a2 := some (pk ps)) (a3 := some (.int ps.length)) (a5 := some bad) (o4 := o4) (o7 := o7)
  have m2 := fun o4 o7 => mk_one (w := w) (n := n + 1) (S := S') (v := .tup []) (x := .non) (r_mkNil hS') rfl (a0 := some (.ref 0)) (a1 := some (rc ps)) (a2 := some (pk ps)) (a3 := some (.int ps.length)) (a5 := some bad) (o4 := o4) (o7 := o7)
  have m3 := fun o4 o7 => mk_one (w := w) (n := n + 1) (S := S') (v := .non) (x := .non) (r_mkNone hS') rfl (a0 := some (.ref 0)) (a1 := some (rc ps)) (a2 := some (pk ps)) (a3 := some (.int ps.length)) (a5 := some bad) (o4 := o4) (o7 := o7)
  have m4 := fun o4 o7 => mk_many (w := w) (n := n + 1) (S := S') (v := .tup ((List.replicate 61 1).map .int)) (x := .int 60) (r_mkMany hS' (ps := List.replicate 61 1) (.inl rfl) (by decide) (by decide) (by decide)) rfl (a0 := some (.ref 0)) (a1 := some (rc ps)) (a2 := some (pk ps)) (a3 := some (.int ps.length)) (a5 := some bad) (o4 := o4) (o7 := o7)
  have ad : binop S' .add (pk ps) (.tup [bad]) = some (.tup (ps.map .int ++ [bad])) := op_addT S' (by simp; omega)
  have mu : binop S' .mul (.tup [.int 1]) (.int 61) = some (.tup ((List.replicate 61 1).map .int)) := rfl
  have a1 := r_areI (w := w) (n := n + 4) (S := S') [0, 9999] (.lst [.int 0, .int 9999]) (.inr rfl)
  have a2 := r_areI (w := w) (n := n + 4) (S := S') [] (.tup []) (.inl rfl)
  have a3 := r_areI (w := w) (n := n + 4) (S := S') [10000] (.tup [.int 10000]) (.inl rfl)
  have a4 := r_areN (w := w) (n := n + 4) (S := S')
  refine ⟨S', hR', ?_⟩
  have mn : ∀ xs : List D, bi ⟨k21_prog, callF k21_prog w (n + 8), w, none⟩ false .len [.tup xs] S = .ok (.int xs.length) S := fun xs => rfl
  generalize hrep : D.tup ((List.replicate 61 1).map .int) = big at *
  unfold bads at ep
  unfold lastT at l1 l2 l3 l4
  unfold mkT at m1 m2 m3 m4
  simp [k21__law_refused, forV, l1, l2, l3, l4, ep, ad, mu, m1, m2, m3, m4, a1, a2, a3, a4, okP]
  exact fin_same rfl (by rw [hR'.len, hR.len])
end K21
open Dn -- names
/-! k21: what the law itself reckons. -/
namespace K21
variable {w n : Nat} {S : Sto}
theorem stp {s : Dn.St} {ss : List Dn.St} {cx : Cx} {ρ ρ' : Env} {S S' : Sto} (h : st s cx ρ S = .ok (.nx ρ') S') : sts (s :: ss) cx ρ S = sts ss cx ρ' S' := by
  rw [sts_cons, h]; rfl
/-- above, level by level -/
def abv (ps : List Int) : D := .lst ((List.range 14).map fun (k : Nat) => D.int (ab ps k))
theorem abv_get (ps : List Int) (l : Int) (h0 : 0 ≤ l) (h1 : l < 14) : getI S (abv ps) (.int l) = some (.int (ab ps l)) := by
  obtain ⟨k, rfl⟩ := Int.eq_ofNat_of_zero_le h0
  unfold abv
  rw [get_lst, at_nat (by simp; omega)]
  simp
theorem st_for_ok {t : T} {it : E} {b ss : List Dn.St} {cx : Cx} {ρ : Env} {S S1 : Sto} {xs : List D} (h : src cx it ρ S = .ok (.vals xs) S1) : sts (.for t it b :: ss) cx ρ S = (forV (turn cx t b) xs ρ S1).bind fun r S => thn ss cx r S := by
  rw [sts_cons, st_for, h]; rfl
theorem nxt {ss : List Dn.St} {cx : Cx} {ρ : Env} {S : Sto} {r : R Fl} (h : r = .ok (.nx ρ) S) : (r.bind fun r S => thn ss cx r S) = sts ss cx ρ S := by
  rw [h]; rfl
theorem run_loop (cx : Cx) (l : Int) {a0 a1 a2 a3 a5 a6 a7 a8 a9 a10 a11 a12 a13 a14 a15 a16 a18 a19 a20 a21 a22 a23 a26 a27 a28 a29 : Option D} : ∀ (qs : List Int) (h : Int) (o : Option D) (acc : List D), acc.length + qs.length < 1000 → ∃ o' h',
    forV (turn cx (.var 17) [(.asg (.var 25) (.bin .mul (.bin .add (.var 25) (.cst (.int 1))) (.bi false .int [(.cmp .le (.var 17) (.var 4))]))), (.exp (.bm .append (.var 24) [(.var 25)]))]) (qs.map .int) [a0, a1, a2, a3, some (.int l), a5, a6, a7, a8, a9, a10, a11, a12, a13, a14, a15, a16, o, a18, a19, a20, a21, a22, a23, some (.ref S.length), some (.int h), a26, a27, a28, a29] (S ++ [.lst acc]) = .ok (.nx [a0, a1, a2, a3, some (.int l), a5, a6, a7, a8, a9, a10, a11, a12, a13, a14, a15, a16, o', a18, a19, a20, a21, a22, a23, some (.ref S.length), h', a26, a27, a28, a29]) (S ++ [.lst (acc ++ (hs l h qs).map .int)])
  | [], h, o, acc, _ => ⟨o, some (.int h), by simp [forV, hs]⟩
  | q :: qs, h, o, acc, hl => by
    rw [List.length_cons] at hl
    obtain ⟨o', h', e⟩ := run_loop cx l qs (if l < q then 0 else h + 1) (some (.int q)) (acc ++ [.int (if l < q then 0 else h + 1)]) (by simp; omega)
    refine ⟨o', h', ?_⟩
    have t : turn cx (.var 17) [(.asg (.var 25) (.bin .mul (.bin .add (.var 25) (.cst (.int 1))) (.bi false .int [(.cmp .le (.var 17) (.var 4))]))), (.exp (.bm .append (.var 24) [(.var 25)]))] (.int q) [a0, a1, a2, a3, some (.int l), a5, a6, a7, a8, a9, a10, a11, a12, a13, a14, a15, a16, o, a18, a19, a20, a21, a22, a23, some (.ref S.length), some (.int h), a26, a27, a28, a29] (S ++ [.lst acc]) = .ok (.nx [a0, a1, a2, a3, some (.int l), a5, a6, a7, a8, a9, a10, a11, a12, a13, a14, a15, a16, some (.int q), a18, a19, a20, a21, a22, a23, some (.ref S.length), some (.int (if l < q then 0 else h + 1)), a26, a27, a28, a29]) (S ++ [.lst (acc ++ [.int (if l < q then 0 else h + 1)])]) := by
      by_cases c : l < q
      · have c2 : ¬ q ≤ l := by omega
        simp (disch := first | omega | fail) [turn, c, c2]
      · have c2 : q ≤ l := by omega
        simp (disch := first | omega | fail) [turn, c, c2]
    rw [List.map_cons, forV, t]
    simp only [R.bind_ok]
    rw [e, List.append_assoc]
    rfl
/-- the cells that the law leaves, level by level -/
def rcs (ps : List Int) (i : Nat) : List LO := (List.range i).map fun (k : Nat) => LO.lst ((0 :: hs k 0 ps).map .int)
theorem rcs_succ (ps : List Int) (i : Nat) : rcs ps (i + 1) = rcs ps i ++ [LO.lst (.int 0 :: (hs i 0 ps).map .int)] := by
  unfold rcs
  rw [List.range_succ]; simp
theorem rcs_ok (ps : List Int) (k : Nat) : ∀ i, (rcs ps i).all (LO.lt k) = true
  | 0 => rfl
  | i + 1 => by
    rw [rcs_succ, List.all_append, rcs_ok ps k i]
    have := lts_ints k (hs i 0 ps)
    simp [LO.lt, this]
theorem Rw.app {ns : List Int} {T S : Sto} (h : Rw ns [] S) : Rw ns T (S ++ T) := by
  obtain ⟨p, s, c, h1, h2, rfl⟩ := h
  exact ⟨p, s, c, h1, h2, rfl⟩
@[simp] theorem frq_0 (S : Sto) (p : Int × Int) : getI S (frq p) (.int 0) = some (.int p.1) := by simp [frq]
@[simp] theorem frq_1 (S : Sto) (p : Int × Int) : getI S (frq p) (.int 1) = some (.int p.2) := by simp [frq]
theorem cm_nilI (S : Sto) (ns : List Int) : cmpop S .eq (.lst (ns.map .int)) (.lst []) = some (decide (ns = [])) := (eqd_ints ns []).2
/-! the greatest of some -/
theorem top_of : ∀ {ns : List Int}, ns ≠ [] → ∃ x ∈ ns, ∀ y ∈ ns, y ≤ x
  | [], h => absurd rfl h
  | [x], _ => ⟨x, by simp, fun y h => by simp at h; omega⟩
  | x :: y :: ns, _ => by
    obtain ⟨z, h1, h2⟩ := top_of (ns := y :: ns) (by simp)
    by_cases h : x ≤ z
    · exact ⟨z, List.mem_cons_of_mem _ h1, fun u hu => (List.mem_cons.mp hu).elim (fun e => by omega) (h2 u)⟩
    · exact ⟨x, List.mem_cons_self, fun u hu => (List.mem_cons.mp hu).elim (fun e => by omega) fun h3 => by have := h2 u h3; omega⟩
theorem lv_mem {ps : List Int} {l : Int} : l ∈ lv ps ↔ l = 0 ∨ l ∈ ps := by
  unfold lv
  rw [us_mem, List.mem_cons]
theorem lv_top (ps : List Int) : ∃ l ∈ lv ps, ab ps l = 0 := by
  have : lv ps ≠ [] := by
    intro h
    have := (lv_mem (ps := ps) (l := 0)).mpr (.inl rfl)
    rw [h] at this; simp at this
  obtain ⟨l, h1, h2⟩ := top_of this
  refine ⟨l, h1, ?_⟩
  unfold ab
  rw [List.length_eq_zero_iff, List.filter_eq_nil_iff]
  intro p hp
  have := h2 p (lv_mem.mpr (.inr hp))
  simp; omega
/-- the good levels: there is one -/
theorem good_ne (ps : List Int) (c d : Int) (hc : 0 ≤ c) : ∃ y ys, (lv ps).filter (fun l => decide (ab ps l * d ≤ c * ps.length)) = y :: ys := by
  obtain ⟨l, h1, h2⟩ := lv_top ps
  have : l ∈ (lv ps).filter (fun l => decide (ab ps l * d ≤ c * ps.length)) := by
    rw [List.mem_filter]
    refine ⟨h1, ?_⟩
    rw [h2]
    simp
    exact Int.mul_nonneg hc (by omega)
  exact List.exists_cons_of_ne_nil (List.ne_nil_of_mem this)
/-- a level that matters, no higher, with as many years above -/
theorem lv_under (ps : List Int) (one : Int) (h : 0 ≤ one) : ∃ l ∈ lv ps, l ≤ one ∧ ab ps l = ab ps one := by
  have : (lv ps).filter (fun l => decide (l ≤ one)) ≠ [] := List.ne_nil_of_mem (a := 0) (by
    rw [List.mem_filter]
    exact ⟨lv_mem.mpr (.inl rfl), by simpa using h⟩)
  obtain ⟨l, h1, h2⟩ := top_of this
  rw [List.mem_filter, decide_eq_true_eq] at h1
  refine ⟨l, h1.1, h1.2, ?_⟩
  unfold ab
  congr 1
  apply List.filter_congr
  intro p hp
  rw [decide_eq_decide]
  constructor
  · intro h3
    rcases Int.lt_or_le one p with h4 | h4
    · exact h4
    · have := h2 p (by rw [List.mem_filter]; exact ⟨lv_mem.mpr (.inr hp), by simpa using h4⟩)
      omega
  · intro h3; omega
/-- the least cost is no more than any level's -/
theorem cost_min (ps : List Int) (pr hm : Int) (h1 : 0 ≤ pr) (y : Int) (ys : List Int) (h : lv ps = y :: ys) (one : Int) (h0 : 0 ≤ one) : (minP (pr * y + hm * ab ps y, y) (ys.map fun y => (pr * y + hm * ab ps y, y))).1 ≤ pr * one + hm * ab ps one := by
  obtain ⟨l, a, b, c⟩ := lv_under ps one h0
  have := minP_le (pr * y + hm * ab ps y, y) (ys.map fun y => (pr * y + hm * ab ps y, y)) (pr * l + hm * ab ps l, l) (by
    have : (pr * l + hm * ab ps l, l) ∈ (lv ps).map fun y => (pr * y + hm * ab ps y, y) := List.mem_map.mpr ⟨l, a, rfl⟩
    rw [h] at this
    exact this)
  rw [c] at this
  have h2 := Int.mul_le_mul_of_nonneg_left b h1
  dsimp only at this
  omega
/-! counting pairs -/
theorem cnt_one (f : Int → Bool) (a : Nat) : ∀ ps : List Int, ((List.range ps.length).filter fun b => decide (a < b) && f (ps.getD b 0)).length = ((ps.drop (a + 1)).filter f).length := by
  intro ps
  rw [← List.reverse_reverse ps]
  generalize ps.reverse = rs
  induction rs with
  | nil => simp
  | cons r rs ih =>
    rw [List.reverse_cons]
    generalize rs.reverse = qs at *
    rw [List.length_append, List.length_singleton, List.range_succ, List.filter_append, List.length_append]
    have e1 : (List.range qs.length).filter (fun b => decide (a < b) && f ((qs ++ [r]).getD b 0)) = (List.range qs.length).filter (fun b => decide (a < b) && f (qs.getD b 0)) := by
      apply List.filter_congr
      intro b hb
      rw [List.mem_range] at hb
      simp [List.getD_eq_getElem?_getD, List.getElem?_append_left hb]
    rw [e1, ih]
    by_cases h : a < qs.length
    · rw [List.drop_append_of_le_length (by omega), List.filter_append, List.length_append]
      congr 1
      simp [List.filter_cons, h]
      split <;> rfl
    · rw [List.drop_eq_nil_of_le (by omega), List.drop_eq_nil_of_le (by simp; omega)]
      simp [List.filter_cons, h]
theorem cnt_prs (q : Nat × Nat → Bool) (a b : Nat) : ((prs a b).filter q).length = sumC (fun x => ((List.range b).filter fun y => q (x, y)).length) a := by
  unfold prs
  induction a with
  | zero => rfl
  | succ a ih =>
    rw [List.range_succ, List.flatMap_append, List.filter_append, List.length_append, ih, sumC_succ]
    congr 1
    simp [List.filter_map, Function.comp_def]
theorem sumC_congr {c d : Nat → Nat} (h : ∀ k, c k = d k) (k : Nat) : sumC c k = sumC d k := by
  have : c = d := funext h
  rw [this]
theorem cnt_up (ps : List Int) : ((prs ps.length ps.length).filter fun p => decide (p.1 < p.2) && decide (ps.getD p.1 0 < ps.getD p.2 0)).length = sumC (upC ps) ps.length := by
  rw [cnt_prs]
  exact sumC_congr (fun k => cnt_one (fun q => decide (ps.getD k 0 < q)) k ps) _
theorem cnt_dn (ps : List Int) : ((prs ps.length ps.length).filter fun p => decide (p.1 < p.2) && decide (ps.getD p.2 0 < ps.getD p.1 0)).length = sumC (dnC ps) ps.length := by
  rw [cnt_prs]
  exact sumC_congr (fun k => cnt_one (fun q => decide (q < ps.getD k 0)) k ps) _
theorem sum_nn : ∀ {ps : List Int}, (∀ p ∈ ps, 0 ≤ p) → 0 ≤ ps.sum
  | [], _ => by simp
  | p :: ps, h => by
    have := sum_nn fun q hq => h q (List.mem_cons_of_mem _ hq)
    have := h p List.mem_cons_self
    rw [List.sum_cons]; omega
theorem pow1 (x : Int) : x ^ 1 = x := by rw [show (1 : Nat) = 0 + 1 from rfl, Int.pow_succ, Int.pow_zero, Int.one_mul]
theorem pk_get (S : Sto) (ps : List Int) (k : Nat) (h : k < ps.length) : getI S (pk ps) (.int (k : Int)) = some (.int (ps.getD k 0)) := by
  unfold pk
  rw [get_tup, at_nat (by simpa using h), List.getD_eq_getElem?_getD, List.getElem?_eq_getElem h]
  simp
theorem prs_mem {a b : Nat} {p : Nat × Nat} (h : p ∈ prs a b) : p.1 < a ∧ p.2 < b := by
  unfold prs at h
  rw [List.mem_flatMap] at h
  obtain ⟨x, hx, h⟩ := h
  obtain ⟨y, hy, rfl⟩ := List.mem_map.mp h
  exact ⟨List.mem_range.mp hx, List.mem_range.mp hy⟩
theorem rec_dec (ps : List Int) (k : Nat) : decide ((ps.take k).filter (fun q => decide (ps.getD k 0 ≤ q)) = []) = isRec ps k := by
  unfold isRec
  rw [Bool.eq_iff_iff, decide_eq_true_eq, List.filter_eq_nil_iff, List.all_eq_true]
  constructor
  · intro h q hq
    have := h q hq
    simp at this ⊢
    exact this
  · intro h q hq
    have := h q hq
    simp at this ⊢
    exact this
theorem pln_nats (j : Nat) : ∀ ks : List Nat, plns j (ks.map fun (k : Nat) => D.int k) = true
  | [] => by simp [plns]
  | x :: xs => by
    have : ∀ i : Int, pln j (.int i) = true := fun i => by cases j <;> simp [pln]
    simp [plns, this, pln_nats j xs]
theorem pk_at (ps : List Int) (k : Nat) (h : k < ps.length) : atI (ps.map D.int) (k : Int) = some (.int (ps[k]?.getD 0)) := by
  rw [at_nat (by simpa using h), List.getElem?_eq_getElem h]
  simp
end K21
open Dn -- names
/-! k21: the law. -/
namespace K21
variable {w m : Nat}
theorem law_true (ns : List Int) (hw : 100000000 < w) : ∃ S', callF k21_prog w (m + 10) 37 [.scr (ns.map .int)] [] = .ok (.bl true) S' := by
  have hw' : 18002 < w := by omega
  have tk : ∀ {T S : Sto}, Rw ns T S → ∀ many : Int, 0 < many → many < 1073741824 → ∃ v S', Rw ns T S' ∧ 0 ≤ v ∧ v < many ∧ callF k21_prog w (m + 9) 30 [.ref 0, .int many] S = .ok (.int v) S' := fun h many h1 h2 => h.taken rfl many h1 h2 (by omega)
  have al : ∀ (S : Sto) (d : D), pln 3 d = true → callF k21_prog w (m + 9) 32 [d, d] S = .ok (.bl true) S := fun S d h => alike_eq rfl h rfl (by omega)
  have alI : ∀ (S : Sto) (i : Int), callF k21_prog w (m + 9) 32 [.int i, .int i] S = .ok (.bl true) S := fun S i => al S _ rfl
  have alF : ∀ (S : Sto) (p : Int × Int), callF k21_prog w (m + 9) 32 [frq p, frq p] S = .ok (.bl true) S := fun S p => al S _ (plnF p 2)
  have low3 : ∀ (S : Sto) (a b : Int), 0 ≤ a → 0 < b → b < 2 ^ 9000 → callF k21_prog w (m + 9) 35 [.int a, .int b] S = .ok (frq (lowq a b)) S := fun S a b h1 h2 h3 => run_low3 rfl a b h1 h2 h3 hw'
  rw [callF_at rfl rfl]
  show ∃ S', endF 0 (sts k21_law ⟨k21_prog, callF k21_prog w (m + 9), w, none⟩ _ []) = _
  unfold k21_law
  rw [stp (ρ' := [some (.scr (ns.map .int)), some (.ref 0), none, none, none, none, none, none, none, none, none, none, none, none, none, none, none, none, none, none, none, none, none, none, none, none, none, none, none, none]) (S' := [.lst (rowD ns 0 67 0)]) (by simp; rfl)]
  have hR0 : Rw ns [] [.lst (rowD ns 0 67 0)] := ⟨0, 67, 0, by decide, by decide, rfl⟩
  generalize ([.lst (rowD ns 0 67 0)] : Sto) = S0 at *
  obtain ⟨v, S1, hR1, v0, v1, e1⟩ := tk hR0 9 (by decide) (by decide)
  obtain ⟨ps, S2, hl, hq, hR2, ec⟩ := colV_ex (f := cturn ⟨k21_prog, callF k21_prog w (m + 9), w, none⟩ [26] (.var 26) none (.call 30 [(.var 1), (.cst (.int 12))]) [some (.scr (ns.map .int)), some (.ref 0), none, none, none, none, none, none, none, none, none, none, none, none, none, none, none, none, none, none, none, none, none, none, none, none, none, none, none, none]) (Rw ns []) (fun a : Int => 0 ≤ a ∧ a < 12) D.int (rangeD 0 (1 + v)) S1 hR1 fun x _ S hR => by
    obtain ⟨a, S', h1, h2, h3, h4⟩ := tk hR 12 (by decide) (by decide)
    exact ⟨a, S', ⟨h2, h3⟩, h1, by simp [cturn, wipe, h4]⟩
  rw [rangeD_len] at hl
  have g : Gd ps := ⟨by omega, by omega, fun p hp => (hq p hp).1, fun p hp => by have := (hq p hp).2; omega⟩
  have l0 : 0 < ps.length := g.ne
  have l1 : ps.length < 10 := by omega
  have okp : ∀ p ∈ ps, okP p = true := fun p hp => by
    have := hq p hp
    simp [okP]; omega
  rw [stp (ρ' := [some (.scr (ns.map .int)), some (.ref 0), some (pk ps), none, none, none, none, none, none, none, none, none, none, none, none, none, none, none, none, none, none, none, none, none, none, none, none, none, none, none]) (S' := S2) (by simp (disch := first | omega | fail) [e1, ec])]
  clear e1 ec hR0 hR1 v0 v1 hl
  obtain ⟨mx, S3, hR3, hmx, em⟩ := hR2.mixed (P := k21_prog) (w := w) (n := m + 9) (f := 33) (fT := 30) rfl rfl (v := .lst (ps.map .int)) (.inr rfl) (by omega) (lts_ints _ _)
  have hS3 := hR3.ws rfl
  have mk3 := r_mk (w := w) (n := m + 2) (S := S3) (v := mx) (c := none) hS3 hmx l0 (by omega) okp
  rw [stp (ρ' := [some (.scr (ns.map .int)), some (.ref 0), some (pk ps), none, none, none, none, none, none, none, none, none, none, none, none, some (rc ps), some (.int ps.length), none, none, none, none, none, none, none, none, none, none, none, none, none]) (S' := S3) (by simp (disch := first | omega | fail) [em, mk3])]
  clear em hR2
  have cl : (k21_prog.cls[0]?).bind (·.len) = some 12 := rfl
  have ce : (k21_prog.cls[0]?).bind (·.eq) = some 11 := rfl
  have rl := r_len (w := w) (n := m + 8) (S := S3) ps
  have rr := r_ranked (w := w) (n := m + 8) (S := S3) ps
  have so := fun cx => bi_sorted_tup cx S3 ps
  have ne : ∀ S qs1 qs2, cmpx ⟨k21_prog, callF k21_prog w (m + 9), w, none⟩ .ne (rc qs1) (rc qs2) S = .ok (!decide (qs1 = qs2)) S := fun S qs1 qs2 => by
    rw [cmpx_neI ce rfl]
    dsimp only
    rw [show callF k21_prog w (m + 9) 11 [D.ins 0 [0] [pk qs1], rc qs2] S = _ from r_eq (n := m + 8) qs1 qs2]; rfl
  have eqt : cmpx ⟨k21_prog, callF k21_prog w (m + 9), w, none⟩ .eq (rc ps) (pk ps) S3 = .ok false S3 := by
    rw [cmpx_eqI ce rfl]
    dsimp only
    rw [show callF k21_prog w (m + 9) 11 [D.ins 0 [0] [pk ps], pk ps] S3 = _ from r_eqT (n := m + 8) ps _]; rfl
  have mk4 := r_mk (w := w) (n := m + 2) (S := S3) (v := pk ps) (c := none) hS3 (.inl rfl) l0 (by omega) okp
  have al4 := al S3 (.tup [pk ps, .int ps.length, .tup ((sortI ps).map .int).reverse]) (by
    rw [← List.map_reverse]
    have s1 : (sortI ps).length = ps.length := List.length_mergeSort ..
    simp [pln, plns, plns_ints, s1]
    rw [← List.map_reverse, plns_ints]
    simp; omega)
  rw [stp (ρ' := [some (.scr (ns.map .int)), some (.ref 0), some (pk ps), none, none, none, none, none, none, none, none, none, none, none, none, some (rc ps), some (.int ps.length), none, none, none, none, none, none, none, none, none, none, none, none, none]) (S' := S3) (by simp (disch := first | omega | fail) [cl, rl, rr, so, ne, eqt, mk4, al4])]
  clear rl rr so eqt mk4 al4 mk3
  have ab5 := colV_map (f := cturn ⟨k21_prog, callF k21_prog w (m + 9), w, none⟩ [4] (.var 4) none (.bi false .len [(.comp false [17] (.var 17) (.val (.var 2)) (some (.val (.cmp .gt (.var 17) (.var 4)))) (.var 17))]) [some (.scr (ns.map .int)), some (.ref 0), some (pk ps), none, none, none, none, none, none, none, none, none, none, none, none, some (rc ps), some (.int ps.length), none, none, none, none, none, none, none, none, none, none, none, none, none]) (S := S3) (enc := fun (k : Nat) => D.int k) (fun k => .int (ab ps k)) (List.range 14) fun k _ => by
    have c := colV_fm (f := cturn ⟨k21_prog, callF k21_prog w (m + 9), w, none⟩ [17] (.var 17) (some (.val (.cmp .gt (.var 17) (.var 4)))) (.var 17) [some (.scr (ns.map .int)), some (.ref 0), some (pk ps), none, some (.int k), none, none, none, none, none, none, none, none, none, none, some (rc ps), some (.int ps.length), none, none, none, none, none, none, none, none, none, none, none, none, none]) (S := S3) (enc := D.int) (fun p => decide ((k : Int) < p)) D.int ps fun y _ => by
      simp [cturn, wipe]
      split <;> rfl
    simp [cturn, wipe, c]
    rfl
  have r14 : rng .range1 [.int 14] = some ((List.range 14).map fun (k : Nat) => D.int k) := rng_nat 14 (by decide)
  rw [stp (ρ' := [some (.scr (ns.map .int)), some (.ref 0), some (pk ps), some (abv ps), none, none, none, none, none, none, none, none, none, none, none, some (rc ps), some (.int ps.length), none, none, none, none, none, none, none, none, none, none, none, none, none]) (S' := S3) (by simp [r14, ab5]; rfl)]
  clear ab5
  rw [st_for_ok (xs := (List.range 14).map fun (k : Nat) => D.int k) (S1 := S3) (by simp [r14])]
  generalize hF : forV _ _ _ _ = F
  obtain ⟨os, ho, e6⟩ := forV_use hF [4, 17, 24, 25] [] [none, none, none, none] (fun i => []) (fun i => S3 ++ rcs ps i) (by simp [rcs]) rfl rfl fun i x os hi ho hx => by
    obtain ⟨o4, o17, o24, o25, rfl⟩ : ∃ a b c d, os = [a, b, c, d] := by
      match os, ho with
      | [a, b, c, d], _ => exact ⟨a, b, c, d, rfl⟩
    rw [List.length_map, List.length_range] at hi
    have : x = .int i := by
      rw [List.getElem?_map, List.getElem?_range hi] at hx
      simp at hx
      exact hx.symm
    subst this
    rw [rcs_succ, ← List.append_assoc]
    generalize S3 ++ rcs ps i = Si
    have q1 := r_above (w := w) (n := m + 8) (S := Si) ps i
    have q2 := r_chance (w := w) (n := m + 7) (S := Si) g hw' i
    have q3 := r_careful (w := w) (n := m + 7) (S := Si) g hw' i
    have q4 := abv_get (S := Si) ps i (by omega) (by omega)
    have q5 := low3 Si (ab ps i) ps.length (by omega) (by omega) (sm (by omega))
    have q6 := low3 Si (ab ps i + 1) (ps.length + 2) (by omega) (by omega) (sm (by omega))
    have q7 := al Si (.tup [.int (ab ps i), frq (lowq (ab ps i) ps.length), frq (lowq (ab ps i + 1) (ps.length + 2))]) (by simp [pln, plns, frq])
    obtain ⟨o', h', q8⟩ := run_loop (S := Si) ⟨k21_prog, callF k21_prog w (m + 9), w, none⟩ i ps 0 o17 [.int 0] (by simp; omega) (a0 := some (.scr (ns.map .int))) (a1 := some (.ref 0)) (a2 := some (pk ps)) (a3 := some (abv ps)) (a5 := none) (a6 := none) (a7 := none) (a8 := none) (a9 := none) (a10 := none) (a11 := none) (a12 := none) (a13 := none) (a14 := none) (a15 := some (rc ps)) (a16 := some (.int ps.length)) (a18 := none) (a19 := none) (a20 := none) (a21 := none) (a22 := none) (a23 := none) (a26 := none) (a27 := none) (a28 := none) (a29 := none)
    have q9 := fun S => r_dryrun (w := w) (n := m + 8) (S := S) ps i
    have q10 := fun cx => bi_max_ref cx (Si ++ [.lst ((0 :: hs i 0 ps).map .int)]) false (l := Si.length) 0 (hs i 0 ps) (end_get _ _)
    refine ⟨[some (.int i), o', some (.ref Si.length), h'], rfl, ?_⟩
    simp at q8 q10
    simp [turn, q1, q2, q3, q4, q5, q6, q7, q8, q9, q10, alI]
  obtain ⟨o4, o17, o24, o25, rfl⟩ : ∃ a b c d, os = [a, b, c, d] := by
    match os, ho with
    | [a, b, c, d], _ => exact ⟨a, b, c, d, rfl⟩
  rw [List.length_map, List.length_range] at e6

  have e6' : F = .ok (.nx [some (.scr (ns.map .int)), some (.ref 0), some (pk ps), some (abv ps), o4, none, none, none, none, none, none, none, none, none, none, some (rc ps), some (.int ps.length), o17, none, none, none, none, none, none, o24, o25, none, none, none, none]) (S3 ++ rcs ps 14) := e6
  rw [nxt e6']
  clear e6 e6' hF
  have hR4 : Rw ns (rcs ps 14) (S3 ++ rcs ps 14) := Rw.app hR3
  clear hR3 hS3 ne
  have hT : (rcs ps 14).all (LO.lt ((rcs ps 14).length + 1)) = true := rcs_ok ps _ 14
  generalize rcs ps 14 = T at *
  generalize S3 ++ T = S4 at *
  obtain ⟨v, S5, hR5, v0, v1, e1⟩ := tk hR4 5 (by decide) (by decide)
  obtain ⟨u, S6, hR6, u0, u1, e2⟩ := tk hR5 3 (by decide) (by decide)
  have q7 := low3 S6 v (4 + u) v0 (by omega) (sm (by omega))
  have c1 := low_nn (a := v) (b := 4 + u) v0 (by omega)
  have c2 := low_den (a := v) (b := 4 + u) (by omega)
  generalize lowq v (4 + u) = ch at *
  obtain ⟨c, d⟩ := ch
  dsimp only at c1 c2
  rw [stp (ρ' := [some (.scr (ns.map .int)), some (.ref 0), some (pk ps), some (abv ps), o4, some (frq (c, d)), none, none, none, none, none, none, none, none, none, some (rc ps), some (.int ps.length), o17, none, none, none, none, none, none, o24, o25, none, none, none, none]) (S' := S6) (by simp (disch := first | omega | fail) [e1, e2, q7])]
  clear e1 e2 q7 hR5 hR4
  obtain ⟨y, ys, hy⟩ := good_ne ps c d (by omega)
  have sst := fun cx S => sset0T (S := S) cx (ps := ps) (by omega)
  have ad0 : ∀ S, binop S .add (.tup [.int 0]) (pk ps) = some (.tup (.int 0 :: ps.map .int)) := fun S => op_addT S (by simp; omega)
  have gd := colV_fm (f := cturn ⟨k21_prog, callF k21_prog w (m + 9), w, none⟩ [4] (.var 4) (some (.val (.cmp .le (.bin .mul (.idx (.var 3) (.var 4)) (.idx (.var 5) (.cst (.int 1)))) (.bin .mul (.idx (.var 5) (.cst (.int 0))) (.var 16))))) (.var 4) [some (.scr (ns.map .int)), some (.ref 0), some (pk ps), some (abv ps), o4, some (frq (c, d)), none, none, none, none, none, none, none, none, none, some (rc ps), some (.int ps.length), o17, none, none, none, none, none, none, o24, o25, none, none, none, none]) (S := S6) (enc := D.int) (fun l => decide (ab ps l * d ≤ c * ps.length)) D.int (lv ps) fun l hl => by
    have l2 := lv_in g hl
    have l3 := abv_get (S := S6) ps l l2.1 (by omega)
    have l4 := ab_le ps l
    simp (disch := first | omega | fail) [cturn, wipe, l3]
    split <;> rfl
  rw [hy] at gd
  rw [stp (ρ' := [some (.scr (ns.map .int)), some (.ref 0), some (pk ps), some (abv ps), o4, some (frq (c, d)), some (.lst ((y :: ys).map .int)), none, none, none, none, none, none, none, none, some (rc ps), some (.int ps.length), o17, none, none, none, none, none, none, o24, o25, none, none, none, none]) (S' := S6) (by simp (disch := first | omega | fail) [sst, ad0, gd])]
  clear gd
  have lf := r_level (w := w) (n := m + 6) (S := S6) g hw' c d (by omega) (by omega) y ys hy
  rw [stp (ρ' := [some (.scr (ns.map .int)), some (.ref 0), some (pk ps), some (abv ps), o4, some (frq (c, d)), some (.lst ((y :: ys).map .int)), none, none, none, none, none, none, none, none, some (rc ps), some (.int ps.length), o17, none, none, none, none, none, none, o24, o25, none, none, none, none]) (S' := S6) (by simp (disch := first | omega | fail) [lf, alI])]
  clear lf hy
  generalize (y :: ys).map D.int = G at *
  obtain ⟨l, S7, hR7, g0, g1, e1⟩ := tk hR6 13 (by decide) (by decide)
  obtain ⟨yr, S8, hR8, y0, y1, e2⟩ := tk hR7 7 (by decide) (by decide)
  rw [stp (ρ' := [some (.scr (ns.map .int)), some (.ref 0), some (pk ps), some (abv ps), some (.int l), some (frq (c, d)), some (.lst G), none, none, none, none, none, none, none, none, some (rc ps), some (.int ps.length), o17, some (.int yr), none, none, none, none, none, o24, o25, none, none, none, none]) (S' := S8) (by simp (disch := first | omega | fail) [e1, e2])]
  clear e1 e2 hR7 hR6
  obtain ⟨k, rfl⟩ := Int.eq_ofNat_of_zero_le y0
  rw [stp (ρ' := [some (.scr (ns.map .int)), some (.ref 0), some (pk ps), some (abv ps), some (.int l), some (frq (c, d)), some (.lst G), none, none, none, none, none, none, none, none, some (rc ps), some (.int ps.length), o17, some (.int k), some (.int 1), some (.int 1), none, none, none, o24, o25, none, none, none, none]) (S' := S8) (by simp)]
  have la := abv_get (S := S8) ps l g0 (by omega)
  have lb := ab_le ps l
  have rk : rng .range1 [.int (k : Int)] = some ((List.range k).map fun (k : Nat) => D.int k) := rng_nat k (by omega)
  rw [st_for_ok (xs := (List.range k).map fun (k : Nat) => D.int k) (S1 := S8) (by simp [rk])]
  generalize hF : forV _ _ _ _ = F
  obtain ⟨os, ho, e6⟩ := forV_use hF [7] [19, 20] [none] (fun i => [some (.int (((ps.length : Int) - ab ps l) ^ i)), some (.int ((ps.length : Int) ^ i))]) (fun i => S8) rfl rfl (by simp) fun i x os hi ho hx => by
    obtain ⟨o, rfl⟩ := List.length_eq_one_iff.mp ho
    rw [List.length_map, List.length_range] at hi
    have : x = .int i := by
      rw [List.getElem?_map, List.getElem?_range hi] at hx
      simp at hx
      exact hx.symm
    subst this
    refine ⟨[some (.int i)], rfl, ?_⟩
    simp (disch := first | omega | fail) [turn, la, Int.pow_succ]
  obtain ⟨o7, rfl⟩ := List.length_eq_one_iff.mp ho
  rw [List.length_map, List.length_range] at e6
  have e6' : F = .ok (.nx [some (.scr (ns.map .int)), some (.ref 0), some (pk ps), some (abv ps), some (.int l), some (frq (c, d)), some (.lst G), o7, none, none, none, none, none, none, none, some (rc ps), some (.int ps.length), o17, some (.int k), some (.int (((ps.length : Int) - ab ps l) ^ k)), some (.int ((ps.length : Int) ^ k)), none, none, none, o24, o25, none, none, none, none]) S8 := e6
  rw [nxt e6']
  clear e6 e6' hF
  have p1 := pw ((ps.length : Int) - ab ps l) k (by omega) (by omega) (by omega)
  have p2 := pw ps.length k (by omega) (by omega) (by omega)
  have p3 := pp ps.length k (by omega)
  have nv := r_never (w := w) (n := m + 6) (S := S8) g hw' l k (by omega)
  have lo := low3 S8 (((ps.length : Int) - ab ps l) ^ k) ((ps.length : Int) ^ k) p1.1 p3 (up600 p2.2).2
  rw [stp (ρ' := [some (.scr (ns.map .int)), some (.ref 0), some (pk ps), some (abv ps), some (.int l), some (frq (c, d)), some (.lst G), o7, none, none, none, none, none, none, none, some (rc ps), some (.int ps.length), o17, some (.int k), some (.int (((ps.length : Int) - ab ps l) ^ k)), some (.int ((ps.length : Int) ^ k)), none, none, none, o24, o25, none, none, none, none]) (S' := S8) (by simp (disch := first | omega | fail) [nv, lo, alF])]
  clear nv lo p1 p2 p3
  obtain ⟨v, S9, hR9, v0, v1, e1⟩ := tk hR8 9 (by decide) (by decide)
  have q7 := low3 S9 1 (1 + v) (by decide) (by omega) (sm (by omega))
  have c3 := low_nn (a := 1) (b := 1 + v) (by decide) (by omega)
  have c4 := low_den (a := 1) (b := 1 + v) (by omega)
  generalize lowq 1 (1 + v) = ch at *
  obtain ⟨c', d'⟩ := ch
  dsimp only at c3 c4
  rw [stp (ρ' := [some (.scr (ns.map .int)), some (.ref 0), some (pk ps), some (abv ps), some (.int l), some (frq (c, d)), some (.lst G), o7, some (frq (c', d')), none, none, none, none, none, none, some (rc ps), some (.int ps.length), o17, some (.int k), some (.int (((ps.length : Int) - ab ps l) ^ k)), some (.int ((ps.length : Int) ^ k)), none, none, none, o24, o25, none, none, none, none]) (S' := S9) (by simp (disch := first | omega | fail) [e1, q7])]
  clear e1 q7 hR8 la
  have la := abv_get (S := S9) ps l g0 (by omega)
  rw [stp (ρ' := [some (.scr (ns.map .int)), some (.ref 0), some (pk ps), some (abv ps), some (.int l), some (frq (c, d)), some (.lst G), o7, some (frq (c', d')), none, none, none, none, none, none, some (rc ps), some (.int ps.length), o17, some (.int k), some (.int ((ps.length : Int) - ab ps l)), some (.int ps.length), some (.int 0), none, none, o24, o25, none, none, none, none]) (S' := S9) (by simp (disch := first | omega | fail) [la])]
  have r99 : rng .range1 [.int 99] = some ((List.range 99).map fun (k : Nat) => D.int k) := rng_nat 99 (by decide)
  rw [st_for_ok (xs := (List.range 99).map fun (k : Nat) => D.int k) (S1 := S9) (by simp [r99])]
  generalize hF : forV _ _ _ _ = F
  obtain ⟨os, ho, e6⟩ := forV_use hF [7] [21, 19, 20] [o7] (fun i => [some (.int (fst (low_q ps l c' d') i)), some (.int (((ps.length : Int) - ab ps l) ^ (i + 1))), some (.int ((ps.length : Int) ^ (i + 1)))]) (fun i => S9) rfl rfl (by simp [fst, pow1]) fun i x os hi ho hx => by
    obtain ⟨o, rfl⟩ := List.length_eq_one_iff.mp ho
    rw [List.length_map, List.length_range] at hi
    have : x = .int i := by
      rw [List.getElem?_map, List.getElem?_range hi] at hx
      simp at hx
      exact hx.symm
    subst this
    refine ⟨[some (.int i)], rfl, ?_⟩
    have fl := fst_le (low_q ps l c' d') i
    have eq1 : decide (c' * (ps.length : Int) ^ (i + 1) ≤ ((ps.length : Int) - ab ps l) ^ (i + 1) * d') = !low_q ps l c' d' i := by
      unfold low_q
      rw [← decide_not, decide_eq_decide]; omega
    have pw1 : ((ps.length : Int) - ab ps l) ^ (i + 1 + 1) = ((ps.length : Int) - ab ps l) ^ (i + 1) * ((ps.length : Int) - ab ps l) := Int.pow_succ ..
    have pw2 : (ps.length : Int) ^ (i + 1 + 1) = (ps.length : Int) ^ (i + 1) * ps.length := Int.pow_succ ..
    rw [fst, pw1, pw2]
    generalize ((ps.length : Int) - ab ps l) ^ (i + 1) = X at *
    generalize (ps.length : Int) ^ (i + 1) = Y at *
    by_cases f1 : fst (low_q ps l c' d') i = i
    · cases hq : low_q ps l c' d' i <;> (rw [hq] at eq1; simp (disch := first | omega | fail) [turn, la, f1, eq1, hq])
    · have f2 : ¬ ((fst (low_q ps l c' d') i : Nat) : Int) = (i : Int) := by omega
      simp (disch := first | omega | fail) [turn, la, f1, f2]
  obtain ⟨o7, rfl⟩ := List.length_eq_one_iff.mp ho
  rw [List.length_map, List.length_range] at e6
  have e6' : F = .ok (.nx [some (.scr (ns.map .int)), some (.ref 0), some (pk ps), some (abv ps), some (.int l), some (frq (c, d)), some (.lst G), o7, some (frq (c', d')), none, none, none, none, none, none, some (rc ps), some (.int ps.length), o17, some (.int k), some (.int (((ps.length : Int) - ab ps l) ^ (99 + 1))), some (.int ((ps.length : Int) ^ (99 + 1))), some (.int (fst (low_q ps l c' d') 99)), none, none, o24, o25, none, none, none, none]) S9 := e6
  rw [nxt e6']
  clear e6 e6' hF
  generalize ((ps.length : Int) - ab ps l) ^ (99 + 1) = X
  generalize (ps.length : Int) ^ (99 + 1) = Y
  have hd := r_held (w := w) (n := m + 6) (S := S9) g hw' l c' d' (.sm (by omega) (by omega) (by decide)) (.sm (by omega) (by omega) (by decide))
  rw [stp (ρ' := [some (.scr (ns.map .int)), some (.ref 0), some (pk ps), some (abv ps), some (.int l), some (frq (c, d)), some (.lst G), o7, some (frq (c', d')), none, none, none, none, none, none, some (rc ps), some (.int ps.length), o17, some (.int k), some (.int X), some (.int Y), some (.int (fst (low_q ps l c' d') 99)), none, none, o24, o25, none, none, none, none]) (S' := S9) (by simp (disch := first | omega | fail) [hd, alI])]
  clear hd
  clear la
  have hS9 := hR9.ws hT
  have rl : rng .range1 [.int (ps.length : Int)] = some ((List.range ps.length).map fun (k : Nat) => D.int k) := rng_nat ps.length (by omega)
  have rc18 := colV_fm (f := cturn ⟨k21_prog, callF k21_prog w (m + 9), w, none⟩ [26] (.var 26) (some (.val (.cmp .eq (.comp false [17] (.var 17) (.val (.slc false (.var 2) none (some (.var 26)))) (some (.val (.cmp .ge (.var 17) (.idx (.var 2) (.var 26))))) (.var 17)) (.lst false [])))) (.var 26) [some (.scr (ns.map .int)), some (.ref 0), some (pk ps), some (abv ps), some (.int l), some (frq (c, d)), some (.lst G), o7, some (frq (c', d')), none, none, none, none, none, none, some (rc ps), some (.int ps.length), o17, some (.int k), some (.int X), some (.int Y), some (.int (fst (low_q ps l c' d') 99)), none, none, o24, o25, none, none, none, none]) (S := S9) (enc := fun (k : Nat) => D.int k) (isRec ps) (fun (k : Nat) => D.int k) (List.range ps.length) fun kk hk => by
    have hk' := List.mem_range.mp hk
    have pg := pk_at ps kk hk'
    have c := colV_fm (f := cturn ⟨k21_prog, callF k21_prog w (m + 9), w, none⟩ [17] (.var 17) (some (.val (.cmp .ge (.var 17) (.idx (.var 2) (.var 26))))) (.var 17) [some (.scr (ns.map .int)), some (.ref 0), some (pk ps), some (abv ps), some (.int l), some (frq (c, d)), some (.lst G), o7, some (frq (c', d')), none, none, none, none, none, none, some (rc ps), some (.int ps.length), o17, some (.int k), some (.int X), some (.int Y), some (.int (fst (low_q ps l c' d') 99)), none, none, o24, o25, some (.int kk), none, none, none]) (S := S9) (enc := D.int) (fun q => decide (ps[kk]?.getD 0 ≤ q)) D.int (ps.take kk) fun q _ => by
      simp [cturn, wipe, pg]
      split <;> rfl
    have rd := rec_dec ps kk
    rw [List.getD_eq_getElem?_getD] at rd
    have cn := cm_nilI S9 ((ps.take kk).filter fun q => decide (ps[kk]?.getD 0 ≤ q))
    rw [rd] at cn
    rw [List.map_take] at c
    simp [cturn, wipe, cut_to, c, cn]
    cases isRec ps kk <;> rfl
  rw [stp (ρ' := [some (.scr (ns.map .int)), some (.ref 0), some (pk ps), some (abv ps), some (.int l), some (frq (c, d)), some (.lst G), o7, some (frq (c', d')), some (.lst (((List.range ps.length).filter (isRec ps)).map fun (k : Nat) => D.int k)), none, none, none, none, none, some (rc ps), some (.int ps.length), o17, some (.int k), some (.int X), some (.int Y), some (.int (fst (low_q ps l c' d') 99)), none, none, o24, o25, none, none, none, none]) (S' := S9) (by simp (disch := first | omega | fail) [rl, rc18])]
  clear rc18
  have rp := run_pairs (P := k21_prog) (w := w) (n := m + 8) (f := 34) (S := S9) rfl ps.length ps.length (by omega) (by omega)
  rw [stp (ρ' := [some (.scr (ns.map .int)), some (.ref 0), some (pk ps), some (abv ps), some (.int l), some (frq (c, d)), some (.lst G), o7, some (frq (c', d')), some (.lst (((List.range ps.length).filter (isRec ps)).map fun (k : Nat) => D.int k)), some (.lst ((prs ps.length ps.length).map prD)), none, none, none, none, some (rc ps), some (.int ps.length), o17, some (.int k), some (.int X), some (.int Y), some (.int (fst (low_q ps l c' d') 99)), none, none, o24, o25, none, none, none, none]) (S' := S9) (by simp (disch := first | omega | fail) [rp])]
  clear rp
  have cu := colV_fm (f := cturn ⟨k21_prog, callF k21_prog w (m + 9), w, none⟩ [28, 29] (.tup [(.var 28), (.var 29)]) (some (.and [(.val (.cmp .lt (.var 28) (.var 29))), (.val (.cmp .lt (.idx (.var 2) (.var 28)) (.idx (.var 2) (.var 29))))])) (.cst (.int 1)) [some (.scr (ns.map .int)), some (.ref 0), some (pk ps), some (abv ps), some (.int l), some (frq (c, d)), some (.lst G), o7, some (frq (c', d')), some (.lst (((List.range ps.length).filter (isRec ps)).map fun (k : Nat) => D.int k)), some (.lst ((prs ps.length ps.length).map prD)), none, none, none, none, some (rc ps), some (.int ps.length), o17, some (.int k), some (.int X), some (.int Y), some (.int (fst (low_q ps l c' d') 99)), none, none, o24, o25, none, none, none, none]) (S := S9) (enc := prD) (fun p => decide (p.1 < p.2) && decide (ps.getD p.1 0 < ps.getD p.2 0)) (fun _ => D.int 1) (prs ps.length ps.length) fun q hq => by
    have hm := prs_mem hq
    have q1 := pk_at ps q.1 hm.1
    have q2 := pk_at ps q.2 hm.2
    by_cases h1 : q.1 < q.2
    · by_cases h2 : ps.getD q.1 0 < ps.getD q.2 0
      · have h2' := h2
        simp only [List.getD_eq_getElem?_getD] at h2'
        simp [cturn, wipe, prD, q1, q2, h1, h2']
      · have h2' := h2
        simp only [List.getD_eq_getElem?_getD] at h2'
        simp [cturn, wipe, prD, q1, q2, h1, h2']
    · simp [cturn, wipe, prD, h1]
  have cd := colV_fm (f := cturn ⟨k21_prog, callF k21_prog w (m + 9), w, none⟩ [28, 29] (.tup [(.var 28), (.var 29)]) (some (.and [(.val (.cmp .lt (.var 28) (.var 29))), (.val (.cmp .gt (.idx (.var 2) (.var 28)) (.idx (.var 2) (.var 29))))])) (.cst (.int 1)) [some (.scr (ns.map .int)), some (.ref 0), some (pk ps), some (abv ps), some (.int l), some (frq (c, d)), some (.lst G), o7, some (frq (c', d')), some (.lst (((List.range ps.length).filter (isRec ps)).map fun (k : Nat) => D.int k)), some (.lst ((prs ps.length ps.length).map prD)), none, none, none, none, some (rc ps), some (.int ps.length), o17, some (.int k), some (.int X), some (.int Y), some (.int (fst (low_q ps l c' d') 99)), none, none, o24, o25, none, none, none, none]) (S := S9) (enc := prD) (fun p => decide (p.1 < p.2) && decide (ps.getD p.2 0 < ps.getD p.1 0)) (fun _ => D.int 1) (prs ps.length ps.length) fun q hq => by
    have hm := prs_mem hq
    have q1 := pk_at ps q.1 hm.1
    have q2 := pk_at ps q.2 hm.2
    by_cases h1 : q.1 < q.2
    · by_cases h2 : ps.getD q.2 0 < ps.getD q.1 0
      · have h2' := h2
        simp only [List.getD_eq_getElem?_getD] at h2'
        simp [cturn, wipe, prD, q1, q2, h1, h2']
      · have h2' := h2
        simp only [List.getD_eq_getElem?_getD] at h2'
        simp [cturn, wipe, prD, q1, q2, h1, h2']
    · simp [cturn, wipe, prD, h1]
  have nu := cnt_up ps
  have nd := cnt_dn ps
  simp only [List.getD_eq_getElem?_getD] at nu nd
  rw [stp (ρ' := [some (.scr (ns.map .int)), some (.ref 0), some (pk ps), some (abv ps), some (.int l), some (frq (c, d)), some (.lst G), o7, some (frq (c', d')), some (.lst (((List.range ps.length).filter (isRec ps)).map fun (k : Nat) => D.int k)), some (.lst ((prs ps.length ps.length).map prD)), some (.tup [.int (sumC (upC ps) ps.length), .int (sumC (dnC ps) ps.length)]), none, none, none, some (rc ps), some (.int ps.length), o17, some (.int k), some (.int X), some (.int Y), some (.int (fst (low_q ps l c' d') 99)), none, none, o24, o25, none, none, none, none]) (S' := S9) (by simp [cu, cd, List.length_map, nu, nd])]
  clear cu cd nu nd
  have t1 := r_records (w := w) (n := m + 8) (S := S9) g hS9
  have t2 := r_mean (w := w) (n := m + 7) (S := S9) g hw'
  have t3 := r_rising (w := w) (n := m + 8) (S := S9) ps
  have t4 := low3 S9 ps.sum ps.length (sum_nn g.lo) (by omega) (sm (by omega))
  have su := bi_sum_tup ⟨k21_prog, callF k21_prog w (m + 9), w, none⟩ S9 false ps
  have al4 := al S9 (.tup [.tup (((List.range ps.length).filter (isRec ps)).map fun (k : Nat) => D.int k), frq (lowq ps.sum ps.length), .tup [.int (sumC (upC ps) ps.length), .int (sumC (dnC ps) ps.length)]]) (by
    have := List.length_filter_le (isRec ps) (List.range ps.length)
    rw [List.length_range] at this
    simp [pln, plns, frq, pln_nats]
    omega)
  rw [stp (ρ' := [some (.scr (ns.map .int)), some (.ref 0), some (pk ps), some (abv ps), some (.int l), some (frq (c, d)), some (.lst G), o7, some (frq (c', d')), some (.lst (((List.range ps.length).filter (isRec ps)).map fun (k : Nat) => D.int k)), some (.lst ((prs ps.length ps.length).map prD)), some (.tup [.int (sumC (upC ps) ps.length), .int (sumC (dnC ps) ps.length)]), none, none, none, some (rc ps), some (.int ps.length), o17, some (.int k), some (.int X), some (.int Y), some (.int (fst (low_q ps l c' d') 99)), none, none, o24, o25, none, none, none, none]) (S' := S9) (by simp (disch := first | omega | fail) [t1, t2, t3, t4, su, al4])]
  clear t1 t2 t3 t4 su al4 hS9
  obtain ⟨pr, S10, hR10, r0, r1, e1⟩ := tk hR9 9 (by decide) (by decide)
  obtain ⟨hm, S11, hR11, h0, h1, e2⟩ := tk hR10 20 (by decide) (by decide)
  rw [stp (ρ' := [some (.scr (ns.map .int)), some (.ref 0), some (pk ps), some (abv ps), some (.int l), some (frq (c, d)), some (.lst G), o7, some (frq (c', d')), some (.lst (((List.range ps.length).filter (isRec ps)).map fun (k : Nat) => D.int k)), some (.lst ((prs ps.length ps.length).map prD)), some (.tup [.int (sumC (upC ps) ps.length), .int (sumC (dnC ps) ps.length)]), none, none, none, some (rc ps), some (.int ps.length), o17, some (.int k), some (.int X), some (.int Y), some (.int (fst (low_q ps l c' d') 99)), some (.int pr), some (.int hm), o24, o25, none, none, none, none]) (S' := S11) (by simp (disch := first | omega | fail) [e1, e2])]
  clear e1 e2 hR10 hR9
  obtain ⟨z, zs, hz, bst⟩ := r_best (w := w) (n := m + 6) (S := S11) g hw' pr hm ⟨h0, by omega⟩
  have cs := colV_map (f := cturn ⟨k21_prog, callF k21_prog w (m + 9), w, none⟩ [27] (.var 27) none (.tup [(.bin .add (.bin .mul (.var 22) (.var 27)) (.bin .mul (.var 23) (.idx (.var 3) (.var 27)))), (.var 27)]) [some (.scr (ns.map .int)), some (.ref 0), some (pk ps), some (abv ps), some (.int l), some (frq (c, d)), some (.lst G), o7, some (frq (c', d')), some (.lst (((List.range ps.length).filter (isRec ps)).map fun (k : Nat) => D.int k)), some (.lst ((prs ps.length ps.length).map prD)), some (.tup [.int (sumC (upC ps) ps.length), .int (sumC (dnC ps) ps.length)]), none, none, none, some (rc ps), some (.int ps.length), o17, some (.int k), some (.int X), some (.int Y), some (.int (fst (low_q ps l c' d') 99)), some (.int pr), some (.int hm), o24, o25, none, none, none, none]) (S := S11) (enc := D.int) (fun l => frq (pr * l + hm * ab ps l, l)) (lv ps) fun l hl => by
    have l2 := lv_in g hl
    have l3 := abv_get (S := S11) ps l l2.1 (by omega)
    simp (disch := first | omega | fail) [cturn, wipe, l3, frq]
  have e0 : (lv ps).map (fun l => frq (pr * l + hm * ab ps l, l)) = ((pr * z + hm * ab ps z, z) :: zs.map fun y => (pr * y + hm * ab ps y, y)).map frq := by
    rw [hz]; simp [Function.comp_def]
  rw [e0] at cs
  rw [stp (ρ' := [some (.scr (ns.map .int)), some (.ref 0), some (pk ps), some (abv ps), some (.int l), some (frq (c, d)), some (.lst G), o7, some (frq (c', d')), some (.lst (((List.range ps.length).filter (isRec ps)).map fun (k : Nat) => D.int k)), some (.lst ((prs ps.length ps.length).map prD)), some (.tup [.int (sumC (upC ps) ps.length), .int (sumC (dnC ps) ps.length)]), some (.lst (((pr * z + hm * ab ps z, z) :: zs.map fun y => (pr * y + hm * ab ps y, y)).map frq)), none, none, some (rc ps), some (.int ps.length), o17, some (.int k), some (.int X), some (.int Y), some (.int (fst (low_q ps l c' d') 99)), some (.int pr), some (.int hm), o24, o25, none, none, none, none]) (S' := S11) (by simp (disch := first | omega | fail) [sst, ad0, cs])]
  clear cs e0
  have mn := fun cx => bi_min_frq cx S11 false (pr * z + hm * ab ps z, z) (zs.map fun y => (pr * y + hm * ab ps y, y))
  have cm := cost_min ps pr hm r0 z zs hz
  generalize hC : ((pr * z + hm * ab ps z, z) :: zs.map fun y => (pr * y + hm * ab ps y, y)).map frq = C at *
  generalize minP (pr * z + hm * ab ps z, z) (zs.map fun y => (pr * y + hm * ab ps y, y)) = M at *
  have t1 := r_cost (w := w) (n := m + 7) (S := S11) ps l pr hm (by omega) (by omega)
  have la := abv_get (S := S11) ps l g0 (by omega)
  have al4 := al S11 (.tup [.int (pr * l + hm * ab ps l), .int M.2]) (by simp [pln, plns])
  rw [stp (ρ' := [some (.scr (ns.map .int)), some (.ref 0), some (pk ps), some (abv ps), some (.int l), some (frq (c, d)), some (.lst G), o7, some (frq (c', d')), some (.lst (((List.range ps.length).filter (isRec ps)).map fun (k : Nat) => D.int k)), some (.lst ((prs ps.length ps.length).map prD)), some (.tup [.int (sumC (upC ps) ps.length), .int (sumC (dnC ps) ps.length)]), some (.lst C), none, none, some (rc ps), some (.int ps.length), o17, some (.int k), some (.int X), some (.int Y), some (.int (fst (low_q ps l c' d') 99)), some (.int pr), some (.int hm), o24, o25, none, none, none, none]) (S' := S11) (by simp (disch := first | omega | fail) [t1, bst, la, mn, al4])]
  clear t1 bst la al4
  have r13 : rng .range1 [.int 13] = some ((List.range 13).map fun (k : Nat) => D.int k) := rng_nat 13 (by decide)
  have c25 := colV_fm (f := cturn ⟨k21_prog, callF k21_prog w (m + 9), w, none⟩ [27] (.var 27) (some (.val (.cmp .lt (.bin .add (.bin .mul (.var 22) (.var 27)) (.bin .mul (.var 23) (.idx (.var 3) (.var 27)))) (.idx (.bi false .min1 [(.var 12)]) (.cst (.int 0)))))) (.cst (.int 1)) [some (.scr (ns.map .int)), some (.ref 0), some (pk ps), some (abv ps), some (.int l), some (frq (c, d)), some (.lst G), o7, some (frq (c', d')), some (.lst (((List.range ps.length).filter (isRec ps)).map fun (k : Nat) => D.int k)), some (.lst ((prs ps.length ps.length).map prD)), some (.tup [.int (sumC (upC ps) ps.length), .int (sumC (dnC ps) ps.length)]), some (.lst C), none, none, some (rc ps), some (.int ps.length), o17, some (.int k), some (.int X), some (.int Y), some (.int (fst (low_q ps l c' d') 99)), some (.int pr), some (.int hm), o24, o25, none, none, none, none]) (S := S11) (enc := fun (k : Nat) => D.int k) (fun _ => false) (fun _ => D.int 1) (List.range 13) fun k hk => by
    have hk' := List.mem_range.mp hk
    have l3 := abv_get (S := S11) ps k (by omega) (by omega)
    have := cm k (by omega)
    have nl : ¬ (pr * k + hm * ab ps k < M.1) := by omega
    simp (disch := first | omega | fail) [cturn, wipe, l3, mn, nl]
  rw [show (List.range 13).filter (fun _ => false) = [] from rfl, List.map_nil] at c25
  have nn : cmpop S11 .ne (.lst []) (.lst []) = some false := rfl
  rw [stp (ρ' := [some (.scr (ns.map .int)), some (.ref 0), some (pk ps), some (abv ps), some (.int l), some (frq (c, d)), some (.lst G), o7, some (frq (c', d')), some (.lst (((List.range ps.length).filter (isRec ps)).map fun (k : Nat) => D.int k)), some (.lst ((prs ps.length ps.length).map prD)), some (.tup [.int (sumC (upC ps) ps.length), .int (sumC (dnC ps) ps.length)]), some (.lst C), none, none, some (rc ps), some (.int ps.length), o17, some (.int k), some (.int X), some (.int Y), some (.int (fst (low_q ps l c' d') 99)), some (.int pr), some (.int hm), o24, o25, none, none, none, none]) (S' := S11) (by simp (disch := first | omega | fail) [r13, c25, nn])]
  clear c25 mn cm
  obtain ⟨u, S12, hR12, u0, u1, e1⟩ := tk hR11 ps.length (by omega) (by omega)
  obtain ⟨j, rfl⟩ := Int.eq_ofNat_of_zero_le u0
  rw [stp (ρ' := [some (.scr (ns.map .int)), some (.ref 0), some (pk ps), some (abv ps), some (.int l), some (frq (c, d)), some (.lst G), o7, some (frq (c', d')), some (.lst (((List.range ps.length).filter (isRec ps)).map fun (k : Nat) => D.int k)), some (.lst ((prs ps.length ps.length).map prD)), some (.tup [.int (sumC (upC ps) ps.length), .int (sumC (dnC ps) ps.length)]), some (.lst C), some (.int (1 + (j : Nat))), none, some (rc ps), some (.int ps.length), o17, some (.int k), some (.int X), some (.int Y), some (.int (fst (low_q ps l c' d') 99)), some (.int pr), some (.int hm), o24, o25, none, none, none, none]) (S' := S12) (by simp (disch := first | omega | fail) [e1])]
  clear e1 hR11
  have hS12 := hR12.ws hT
  have okp5 : ∀ q ∈ ps ++ [5], okP q = true := fun q hq => by
    rcases List.mem_append.mp hq with h | h
    · exact okp q h
    · simp at h; subst h; rfl
  have w1 := r_with (w := w) (n := m + 1) hS12 5 (by omega) okp5
  have w2 := r_mk (w := w) (n := m + 2) (c := none) hS12 (ps := ps ++ [5]) (v := .tup ((ps ++ [5]).map .int)) (.inl rfl) (by simp) (by simp; omega) okp5
  have w3 := r_last (w := w) (n := m + 1) hS12 (1 + j) (by omega) (by omega) (by omega) okp
  have w4 := r_mk (w := w) (n := m + 2) (c := none) hS12 (ps := ps.drop (ps.length - (1 + j))) (v := .tup ((ps.drop (ps.length - (1 + j))).map .int)) (.inl rfl) (by simp; omega) (by simp; omega) fun q hq => okp q (List.mem_of_mem_drop hq)
  have ad5 : binop S12 .add (pk ps) (.tup [.int 5]) = some (.tup ((ps ++ [5]).map .int)) := by
    rw [List.map_append]
    exact op_addT S12 (by simp; omega)
  have cf := cut_from (ps.map D.int) (ps.length - (1 + j))
  simp only [List.map_drop] at w4
  rw [show ((ps.length - (1 + j) : Nat) : Int) = (ps.length : Int) - (1 + (j : Int)) by omega] at cf
  rw [show ((1 + j : Nat) : Int) = 1 + (j : Int) by omega] at w3
  have ne1 : ∀ S qs, cmpx ⟨k21_prog, callF k21_prog w (m + 9), w, none⟩ .ne (rc qs) (rc qs) S = .ok false S := fun S qs => by
    rw [cmpx_neI ce rfl]
    dsimp only
    rw [show callF k21_prog w (m + 9) 11 [D.ins 0 [0] [pk qs], rc qs] S = _ from r_eq (n := m + 8) qs qs]
    simp
  generalize hX : D.tup ((ps ++ [5]).map .int) = X5 at *
  have w1' : callF k21_prog w (m + 9) 26 [rc ps, .int 5] S12 = .ok (rc (ps ++ [5])) S12 := w1
  have w3' : callF k21_prog w (m + 9) 27 [rc ps, .int (1 + (j : Int))] S12 = .ok (rc (ps.drop (ps.length - (1 + j)))) S12 := w3
  rw [stp (ρ' := [some (.scr (ns.map .int)), some (.ref 0), some (pk ps), some (abv ps), some (.int l), some (frq (c, d)), some (.lst G), o7, some (frq (c', d')), some (.lst (((List.range ps.length).filter (isRec ps)).map fun (k : Nat) => D.int k)), some (.lst ((prs ps.length ps.length).map prD)), some (.tup [.int (sumC (upC ps) ps.length), .int (sumC (dnC ps) ps.length)]), some (.lst C), some (.int (1 + (j : Nat))), none, some (rc ps), some (.int ps.length), o17, some (.int k), some (.int X), some (.int Y), some (.int (fst (low_q ps l c' d') 99)), some (.int pr), some (.int hm), o24, o25, none, none, none, none]) (S' := S12) (by simp (disch := first | omega | fail) [w1', w2, w3', w4, ad5, cf, ne1])]
  clear w1 w2 w3 w4 w1' w3' ad5 cf
  obtain ⟨u, S13, hR13, u0, u1, e1⟩ := tk hR12 5 (by decide) (by decide)
  obtain ⟨j2, rfl⟩ := Int.eq_ofNat_of_zero_le u0
  rw [stp (ρ' := [some (.scr (ns.map .int)), some (.ref 0), some (pk ps), some (abv ps), some (.int l), some (frq (c, d)), some (.lst G), o7, some (frq (c', d')), some (.lst (((List.range ps.length).filter (isRec ps)).map fun (k : Nat) => D.int k)), some (.lst ((prs ps.length ps.length).map prD)), some (.tup [.int (sumC (upC ps) ps.length), .int (sumC (dnC ps) ps.length)]), some (.lst C), some (.int (1 + (j : Nat))), some (.int (1 + (j2 : Nat))), some (rc ps), some (.int ps.length), o17, some (.int k), some (.int X), some (.int Y), some (.int (fst (low_q ps l c' d') 99)), some (.int pr), some (.int hm), o24, o25, none, none, none, none]) (S' := S13) (by simp (disch := first | omega | fail) [e1])]
  clear e1 hR12
  have hS13 := hR13.ws hT
  have sm1 := r_smoothed (w := w) (n := m + 8) ps (1 + j2) hS13 (by omega) (by omega)
  have c29 := colV_map (f := cturn ⟨k21_prog, callF k21_prog w (m + 9), w, none⟩ [26] (.var 26) none (.bin .fdiv (.bi false .sum [(.slc false (.var 2) (some (.var 26)) (some (.bin .add (.var 26) (.var 14))))]) (.var 14)) [some (.scr (ns.map .int)), some (.ref 0), some (pk ps), some (abv ps), some (.int l), some (frq (c, d)), some (.lst G), o7, some (frq (c', d')), some (.lst (((List.range ps.length).filter (isRec ps)).map fun (k : Nat) => D.int k)), some (.lst ((prs ps.length ps.length).map prD)), some (.tup [.int (sumC (upC ps) ps.length), .int (sumC (dnC ps) ps.length)]), some (.lst C), some (.int (1 + (j : Nat))), some (.int (1 + (j2 : Nat))), some (rc ps), some (.int ps.length), o17, some (.int k), some (.int X), some (.int Y), some (.int (fst (low_q ps l c' d') 99)), some (.int pr), some (.int hm), o24, o25, none, none, none, none]) (S := S13) (enc := fun (k : Nat) => D.int k) (fun k => .int (smo ps (1 + j2) k)) (List.range ((ps.length : Int) - (1 + (j2 : Int)) + 1).toNat) fun i hi => by
    have cm := cut_mid (ps.map D.int) i (i + (1 + j2))
    rw [Nat.add_sub_cancel_left, Int.natCast_add, Int.natCast_add] at cm
    have su := fun cx => bi_sum_tup cx S13 false ((ps.drop i).take (1 + j2))
    simp only [List.map_take, List.map_drop] at su
    have e0 : ((ps.drop i).take (1 + j2)).sum / (1 + (j2 : Int)) = smo ps (1 + j2) i := by
      unfold smo
      rw [Int.natCast_add]; rfl
    have cm' : cut (ps.map D.int) (some (i : Int)) (some ((i : Int) + (1 + (j2 : Int)))) = List.take (1 + j2) (List.drop i (ps.map D.int)) := cm
    simp (disch := first | omega | fail) [cturn, wipe, cm', su, e0]
  rw [show ((1 + j2 : Nat) : Int) = 1 + (j2 : Int) by omega] at sm1
  have mx0 : rangeD 0 (max 0 ((ps.length : Int) - (1 + (j2 : Int)) + 1)) = (List.range ((ps.length : Int) - (1 + (j2 : Int)) + 1).toNat).map fun (k : Nat) => D.int k := by
    rw [rangeDI, show (max 0 ((ps.length : Int) - (1 + (j2 : Int)) + 1)).toNat = ((ps.length : Int) - (1 + (j2 : Int)) + 1).toNat by omega]
  have r29 : rng .range1 [.int (max 0 ((ps.length : Int) - (1 + (j2 : Int)) + 1))] = some ((List.range ((ps.length : Int) - (1 + (j2 : Int)) + 1).toNat).map fun (k : Nat) => D.int k) := by
    rw [← mx0]; exact rng_1 (by omega) (by omega)
  have al4 := al S13 (.tup ((List.range ((ps.length : Int) - (1 + (j2 : Int)) + 1).toNat).map fun (k : Nat) => D.int (smo ps (1 + j2) k))) (by
    have : ∀ ks : List Nat, plns 2 (ks.map fun (k : Nat) => D.int (smo ps (1 + j2) k)) = true := fun ks => by
      induction ks with
      | nil => simp [plns]
      | cons x xs ih => simp [plns, pln, ih]
    simp [pln, this]
    omega)
  have sm1' : callF k21_prog w (m + 9) 28 [pk ps, .int (1 + (j2 : Int))] S13 = _ := sm1
  rw [stp (ρ' := [some (.scr (ns.map .int)), some (.ref 0), some (pk ps), some (abv ps), some (.int l), some (frq (c, d)), some (.lst G), o7, some (frq (c', d')), some (.lst (((List.range ps.length).filter (isRec ps)).map fun (k : Nat) => D.int k)), some (.lst ((prs ps.length ps.length).map prD)), some (.tup [.int (sumC (upC ps) ps.length), .int (sumC (dnC ps) ps.length)]), some (.lst C), some (.int (1 + (j : Nat))), some (.int (1 + (j2 : Nat))), some (rc ps), some (.int ps.length), o17, some (.int k), some (.int X), some (.int Y), some (.int (fst (low_q ps l c' d') 99)), some (.int pr), some (.int hm), o24, o25, none, none, none, none]) (S' := S13) (by simp (disch := first | omega | fail) [sm1', r29, c29, al4])]
  clear sm1 sm1' c29 mx0 r29 al4
  obtain ⟨S14, hR14, er⟩ := r_refused (w := w) (n := m) hR13 hT l0 (by omega) okp
  refine ⟨[], ?_⟩
  simp [er]
  exact fin_back (S := []) (by simp) rfl rfl

end K21
namespace K21
open PySem L2 Dn PyProof.Rows PySem.Spec -- names
def top (i : Nat) : Stmt := PySem.Challenge.pw_warnedbanks_k21_whole_years.main.body.getD i (.Pass ⟨0, 0, 0, 0⟩)
abbrev s0 : Stmt := top 5
abbrev N0 : List Str := ["value"]
abbrev s1 : Stmt := top 6
abbrev N1 : List Str := ["value", "least", "most"]
abbrev s2 : Stmt := top 7
abbrev N2 : List Str := ["value"]
abbrev s3 : Stmt := top 8
abbrev N3 : List Str := ["value", "part"]
abbrev s4 : Stmt := top 9
abbrev N4 : List Str := ["value", "is_item", "most", "index", "item"]
abbrev s5 : Stmt := top 11
abbrev N5 : List Str := ["top", "bottom", "one", "other"]
abbrev s6 : Stmt := top 12
abbrev N6 : List Str := ["one", "other"]
abbrev s7 : Stmt := top 13
abbrev N7 : List Str := ["one", "other"]
abbrev s8 : Stmt := top 14
abbrev N8 : List Str := ["one", "other"]
abbrev s9 : Stmt := top 18
abbrev N9 : List Str := ["value"]
abbrev s10 : Stmt := inClass (top 19) 0
abbrev N10 : List Str := ["self", "peaks"]
abbrev s11 : Stmt := inClass (top 19) 1
abbrev N11 : List Str := ["self", "other"]
abbrev s12 : Stmt := inClass (top 19) 2
abbrev N12 : List Str := ["self"]
abbrev s13 : Stmt := inClass (top 19) 3
abbrev N13 : List Str := ["self", "level", "peak"]
abbrev s14 : Stmt := inClass (top 19) 4
abbrev N14 : List Str := ["self", "level"]
abbrev s15 : Stmt := inClass (top 19) 5
abbrev N15 : List Str := ["self", "level"]
abbrev s16 : Stmt := inClass (top 19) 6
abbrev N16 : List Str := ["self"]
abbrev s17 : Stmt := inClass (top 19) 7
abbrev N17 : List Str := ["self", "chance", "level"]
abbrev s18 : Stmt := inClass (top 19) 8
abbrev N18 : List Str := ["self", "level", "years", "year", "found", "dry"]
abbrev s19 : Stmt := inClass (top 19) 9
abbrev N19 : List Str := ["self", "level", "least", "dry", "many", "found"]
abbrev s20 : Stmt := inClass (top 19) 10
abbrev N20 : List Str := ["self", "level", "peak", "best", "here"]
abbrev s21 : Stmt := inClass (top 19) 11
abbrev N21 : List Str := ["self", "found", "at", "peak", "other"]
abbrev s22 : Stmt := inClass (top 19) 12
abbrev N22 : List Str := ["self"]
abbrev s23 : Stmt := inClass (top 19) 13
abbrev N23 : List Str := ["self", "rising", "falling", "at", "peak", "other"]
abbrev s24 : Stmt := inClass (top 19) 14
abbrev N24 : List Str := ["self", "level", "price", "harm"]
abbrev s25 : Stmt := inClass (top 19) 15
abbrev N25 : List Str := ["self", "price", "harm", "levels", "level"]
abbrev s26 : Stmt := inClass (top 19) 16
abbrev N26 : List Str := ["self", "peak"]
abbrev s27 : Stmt := inClass (top 19) 17
abbrev N27 : List Str := ["self", "years"]
abbrev s28 : Stmt := top 20
abbrev N28 : List Str := ["peaks", "wide", "found", "at"]
abbrev s29 : Stmt := top 21
abbrev N29 : List Str := ["value", "part"]
abbrev s30 : Stmt := top 23
abbrev N30 : List Str := ["row", "many", "cell", "found"]
abbrev s31 : Stmt := top 24
abbrev N31 : List Str := ["row", "kinds"]
abbrev s32 : Stmt := top 25
abbrev N32 : List Str := ["found", "due", "k"]
abbrev s33 : Stmt := top 26
abbrev N33 : List Str := ["row", "value"]
abbrev s34 : Stmt := top 27
abbrev N34 : List Str := ["firsts", "seconds", "found", "one", "two"]
abbrev s35 : Stmt := top 28
abbrev N35 : List Str := ["top", "bottom", "one", "other"]
abbrev s36 : Stmt := top 29
abbrev N36 : List Str := ["row", "made", "peaks", "many", "value", "bad", "e", "due"]
abbrev s37 : Stmt := top 30
abbrev N37 : List Str := ["script", "row", "peaks", "above", "level", "chance", "good", "year", "least", "records", "pairs", "rising", "costs", "last", "wide", "made", "many", "peak", "years", "top", "bottom", "held", "price", "harm", "runs", "here", "k", "one", "a", "b"]
structure Lf (prog : Program) (t : Tb) (mg : Str → Option Value) (fi : Nat → Option Fi) : Prop where
  b_isinstance : mg ("isinstance" : Str) = none
  b_bool : mg ("bool" : Str) = none
  b_int : mg ("int" : Str) = none
  b_tuple : mg ("tuple" : Str) = none
  b_list : mg ("list" : Str) = none
  b_len : mg ("len" : Str) = none
  b_enumerate : mg ("enumerate" : Str) = none
  b_abs : mg ("abs" : Str) = none
  b_sorted : mg ("sorted" : Str) = none
  b_max : mg ("max" : Str) = none
  b_set : mg ("set" : Str) = none
  b_range : mg ("range" : Str) = none
  b_all : mg ("all" : Str) = none
  b_sum : mg ("sum" : Str) = none
  b_min : mg ("min" : Str) = none
  b_str : mg ("str" : Str) = none
  b_repr : mg ("repr" : Str) = none
  c_0 : Cal t.K t.fa mg fi 0 "is_whole"
  c_1 : Cal t.K t.fa mg fi 1 "is_number"
  c_2 : Cal t.K t.fa mg fi 2 "is_row"
  c_3 : Cal t.K t.fa mg fi 3 "frozen"
  c_4 : Cal t.K t.fa mg fi 4 "want_row"
  c_5 : Cal t.K t.fa mg fi 5 "reduced"
  c_6 : Cal t.K t.fa mg fi 6 "minus"
  c_7 : Cal t.K t.fa mg fi 7 "times"
  c_8 : Cal t.K t.fa mg fi 8 "is_less"
  c_9 : Cal t.K t.fa mg fi 9 "is_peak"
  c_28 : Cal t.K t.fa mg fi 28 "smoothed"
  c_29 : Cal t.K t.fa mg fi 29 "are_peaks"
  c_30 : Cal t.K t.fa mg fi 30 "_law_taken"
  c_31 : Cal t.K t.fa mg fi 31 "_law_pick"
  c_32 : Cal t.K t.fa mg fi 32 "_law_alike"
  c_33 : Cal t.K t.fa mg fi 33 "_law_mixed"
  c_34 : Cal t.K t.fa mg fi 34 "_law_pairs"
  c_35 : Cal t.K t.fa mg fi 35 "_law_low3"
  c_36 : Cal t.K t.fa mg fi 36 "_law_refused"
  k_0 : Mkl t k21_prog mg fi 0 "Record"
  kc_0 : mg ("Record" : Str) = some (.ref (t.ca 0))
  g_0 : ∃ tk, mg ("MOST_YEARS" : Str) = some (.int 60 tk)
  g_1 : ∃ tk, mg ("GREATEST" : Str) = some (.int 9999 tk)
  x_1 : XF prog t mg 1 "BadItem" 5
  x_2 : XF prog t mg 2 "TooMany" 6
  xg_1 : mg ("BadItem" : Str) = some (.ref (t.xa 1))
  xg_2 : mg ("TooMany" : Str) = some (.ref (t.xa 2))
  n_0 : t.nm 0 = ("peaks" : Str)
  n_1 : t.nm 1 = ("above" : Str)
  n_2 : t.nm 2 = ("chance" : Str)
  n_3 : t.nm 3 = ("cost" : Str)
  n_4 : t.nm 4 = ("last" : Str)
  n_5 : t.nm 5 = ("index" : Str)
  n_6 : t.nm 6 = ("limit" : Str)
  n_7 : t.nm 7 = ("ranked" : Str)
  n_8 : t.nm 8 = ("careful_chance" : Str)
  n_9 : t.nm 9 = ("longest_dry" : Str)
  n_10 : t.nm 10 = ("level_for" : Str)
  n_11 : t.nm 11 = ("never" : Str)
  n_12 : t.nm 12 = ("years_held" : Str)
  n_13 : t.nm 13 = ("records" : Str)
  n_14 : t.nm 14 = ("mean" : Str)
  n_15 : t.nm 15 = ("rising_pairs" : Str)
  n_16 : t.nm 16 = ("best_level" : Str)
  n_17 : t.nm 17 = ("with_peak" : Str)
  cf : CFs t k21_prog
  mf : MFi k21_prog t.fa fi
  ef : EFi k21_prog t.fa fi
  kf : KFi t.K fi
  af : AFi t.fa fi k21_prog
  xa : ∀ c xd, k21_prog.xcs[c]? = some xd → XA t c xd
  em : Exm t k21_prog
variable {prog : Program} {t : Tb} {mg : Str → Option Value} {fi : Nat → Option Fi} {k : Nat} {W : Wi} {X : L2.Cx} {call : Nat → List D → Sto → R D} {wf : Nat}
theorem g0_isinstance : (defScope s0).names.lookup ("isinstance" : Str) = some .globalImplicit := by kernel_rfl
theorem g0_value : (defScope s0).names.lookup ("value" : Str) = some .local := by kernel_rfl
theorem g0_bool : (defScope s0).names.lookup ("bool" : Str) = some .globalImplicit := by kernel_rfl
theorem g0_int : (defScope s0).names.lookup ("int" : Str) = some .globalImplicit := by kernel_rfl
theorem b0 (L : Lf prog t mg fi) (hp : X.prog = prog) (h : Fs t ⟨k21_prog, call, wf, none⟩ N0 (defScope s0) mg W fi k X) : VSs t ⟨k21_prog, call, wf, none⟩ W X (defBody s0) k21_is_whole :=
  (ss_cons (s_ret (r_and (r_isi1 h.toFe L.cf.xi g0_isinstance L.b_isinstance (r_var h.toFe rfl (.inl g0_value)) (p_ty h.toFe g0_int L.b_int (by decide +kernel) (by decide +kernel) (by decide +kernel)) (nocl rfl) rfl rfl rfl) (r_and1 (r_not (r_isi1 h.toFe L.cf.xi g0_isinstance L.b_isinstance (r_var h.toFe rfl (.inl g0_value)) (p_ty h.toFe g0_bool L.b_bool (by decide +kernel) (by decide +kernel) (by decide +kernel)) (nocl rfl) rfl rfl rfl)))))
  ss_nil)
theorem g1_least : (defScope s1).names.lookup ("least" : Str) = some .local := by kernel_rfl
theorem g1_value : (defScope s1).names.lookup ("value" : Str) = some .local := by kernel_rfl
theorem g1_most : (defScope s1).names.lookup ("most" : Str) = some .local := by kernel_rfl
theorem g1_is_whole : (defScope s1).names.lookup ("is_whole" : Str) = some .globalImplicit := by kernel_rfl
theorem b1 (L : Lf prog t mg fi) (hp : X.prog = prog) (h : Fs t ⟨k21_prog, call, wf, none⟩ N1 (defScope s1) mg W fi k X) : VSs t ⟨k21_prog, call, wf, none⟩ W X (defBody s1) k21_is_number :=
  (ss_cons (s_ret (r_and (r_callF h.toFc L.c_0 g1_is_whole (r_cons (r_var h.toFe rfl (.inl g1_value)) r_nil rfl) rfl rfl) (r_and1 (r_chain h.toFe .le .le (r_var h.toFe rfl (.inl g1_least)) (r_var h.toFe rfl (.inl g1_value)) (r_var h.toFe rfl (.inl g1_most)) rfl))))
  ss_nil)
theorem g2_tuple : (defScope s2).names.lookup ("tuple" : Str) = some .globalImplicit := by kernel_rfl
theorem g2_list : (defScope s2).names.lookup ("list" : Str) = some .globalImplicit := by kernel_rfl
theorem g2_isinstance : (defScope s2).names.lookup ("isinstance" : Str) = some .globalImplicit := by kernel_rfl
theorem g2_value : (defScope s2).names.lookup ("value" : Str) = some .local := by kernel_rfl
theorem b2 (L : Lf prog t mg fi) (hp : X.prog = prog) (h : Fs t ⟨k21_prog, call, wf, none⟩ N2 (defScope s2) mg W fi k X) : VSs t ⟨k21_prog, call, wf, none⟩ W X (defBody s2) k21_is_row :=
  (ss_cons (s_ret (r_isiT h.toFe L.cf.xi g2_isinstance L.b_isinstance (r_var h.toFe rfl (.inl g2_value)) (pa_cs (p_ty h.toFe g2_list L.b_list (by decide +kernel) (by decide +kernel) (by decide +kernel)) (pa_cs (p_ty h.toFe g2_tuple L.b_tuple (by decide +kernel) (by decide +kernel) (by decide +kernel)) pa_cs0 rfl) rfl) (by decide) (nocls rfl) rfl rfl rfl))
  ss_nil)
theorem g3_value : (defScope s3).names.lookup ("value" : Str) = some .local := by kernel_rfl
theorem g3_tuple : (defScope s3).names.lookup ("tuple" : Str) = some .globalImplicit := by kernel_rfl
theorem g3_list : (defScope s3).names.lookup ("list" : Str) = some .globalImplicit := by kernel_rfl
theorem g3_isinstance : (defScope s3).names.lookup ("isinstance" : Str) = some .globalImplicit := by kernel_rfl
theorem b3 (L : Lf prog t mg fi) (hp : X.prog = prog) (h : Fs t ⟨k21_prog, call, wf, none⟩ N3 (defScope s3) mg W fi k X) : VSs t ⟨k21_prog, call, wf, none⟩ W X (defBody s3) k21_frozen :=
  (ss_cons (s_ite (t_val h.toFe (r_isiT h.toFe L.cf.xi g3_isinstance L.b_isinstance (r_var h.toFe rfl (.inl g3_value)) (pa_cs (p_ty h.toFe g3_list L.b_list (by decide +kernel) (by decide +kernel) (by decide +kernel)) (pa_cs (p_ty h.toFe g3_tuple L.b_tuple (by decide +kernel) (by decide +kernel) (by decide +kernel)) pa_cs0 rfl) rfl) (by decide) (nocls rfl) rfl rfl rfl) (fun _ => rfl)) (ss_cons (s_ret (r_biT h.toFe (c_tuple h.toFe.kk _ _) g3_tuple L.b_tuple (by decide +kernel) (r_cons (r_compB h.toFc [(("part" : Str), 1)] rfl ⟨rfl, (by decide +kernel), (by decide +kernel), (by decide +kernel), (by decide +kernel)⟩ (i_val h.toFe (r_var h.toFe rfl (.inl g3_value))) (fun xi2 X2 h2 e2 => ⟨(g_name h2.toFe rfl (.inl (by kernel_rfl)) (.inr (by kernel_rfl))), ts_nil, (r_callF h2 L.c_3 (by kernel_rfl) (r_cons (r_var h2.toFe rfl (.inl (by kernel_rfl))) r_nil rfl) rfl rfl)⟩) (by decide +kernel) (fun _ => rfl)) r_nil rfl) (by decide +kernel) (by decide +kernel) rfl rfl))
  ss_nil) ss_nil)
  (ss_cons (s_ret (r_var h.toFe rfl (.inl g3_value)))
  ss_nil))
theorem g4_frozen : (defScope s4).names.lookup ("frozen" : Str) = some .globalImplicit := by kernel_rfl
theorem g4_value : (defScope s4).names.lookup ("value" : Str) = some .local := by kernel_rfl
theorem g4_len : (defScope s4).names.lookup ("len" : Str) = some .globalImplicit := by kernel_rfl
theorem g4_most : (defScope s4).names.lookup ("most" : Str) = some .local := by kernel_rfl
theorem g4_TooMany : (defScope s4).names.lookup ("TooMany" : Str) = some .globalImplicit := by kernel_rfl
theorem g4_enumerate : (defScope s4).names.lookup ("enumerate" : Str) = some .globalImplicit := by kernel_rfl
theorem g4_item : (defScope s4).names.lookup ("item" : Str) = some .local := by kernel_rfl
theorem g4_index : (defScope s4).names.lookup ("index" : Str) = some .local := by kernel_rfl
theorem g4_is_item : (defScope s4).names.lookup ("is_item" : Str) = some .local := by kernel_rfl
theorem g4_BadItem : (defScope s4).names.lookup ("BadItem" : Str) = some .globalImplicit := by kernel_rfl
theorem g4_is_row : (defScope s4).names.lookup ("is_row" : Str) = some .globalImplicit := by kernel_rfl
theorem b4 (L : Lf prog t mg fi) (hp : X.prog = prog) (h : Fs t ⟨k21_prog, call, wf, none⟩ N4 (defScope s4) mg W fi k X) : VSs t ⟨k21_prog, call, wf, none⟩ W X (defBody s4) k21_want_row :=
  (ss_cons (s_ite (t_not (t_val h.toFe (r_callF h.toFc L.c_2 g4_is_row (r_cons (r_var h.toFe rfl (.inl g4_value)) r_nil rfl) rfl rfl) (fun _ => rfl))) (ss_cons (s_raisX h hp L.x_1 rfl r_non g4_BadItem rfl)
  ss_nil) ss_nil)
  (ss_cons (s_for h.toFe h.own h.toFc.calm (i_enum h.toFe g4_enumerate L.b_enumerate (r_var h.toFe rfl (.inl g4_value)) rfl) (g_tup h.toFc.calm h.toFe.kk (gs_cons (g_name h.toFe rfl (.inl g4_index) (.inr g4_index)) (gs_cons (g_name h.toFe rfl (.inl g4_item) (.inr g4_item)) gs_nil rfl) rfl) (n := 0) rfl rfl) (ss_cons (s_ite (t_not (t_val h.toFe (r_calv h.toFc L.kf L.af rfl (.inl g4_is_item) (by decide +kernel) (r_cons (r_var h.toFe rfl (.inl g4_item)) r_nil rfl) rfl rfl) (fun _ => rfl))) (ss_cons (s_raisX h hp L.x_1 rfl (r_var h.toFe rfl (.inl g4_index)) g4_BadItem rfl)
  ss_nil) ss_nil)
  ss_nil) (fun _ => rfl))
  (ss_cons (s_ite (t_cmp h.toFe .gt (r_biB h.toFe (c_len h.toFe.kk _ _) g4_len L.b_len (by decide +kernel) (r_cons (r_var h.toFe rfl (.inl g4_value)) r_nil rfl) (by decide +kernel) (by decide +kernel) rfl rfl) (r_var h.toFe rfl (.inl g4_most)) rfl) (ss_cons (s_raisX h hp L.x_2 rfl (r_var h.toFe rfl (.inl g4_most)) g4_TooMany rfl)
  ss_nil) ss_nil)
  (ss_cons (s_ret (r_callF h.toFc L.c_3 g4_frozen (r_cons (r_var h.toFe rfl (.inl g4_value)) r_nil rfl) rfl rfl))
  ss_nil))))
theorem g5_one : (defScope s5).names.lookup ("one" : Str) = some .local := by kernel_rfl
theorem g5_bottom : (defScope s5).names.lookup ("bottom" : Str) = some .local := by kernel_rfl
theorem g5_top : (defScope s5).names.lookup ("top" : Str) = some .local := by kernel_rfl
theorem g5_other : (defScope s5).names.lookup ("other" : Str) = some .local := by kernel_rfl
theorem g5_abs : (defScope s5).names.lookup ("abs" : Str) = some .globalImplicit := by kernel_rfl
theorem b5 (L : Lf prog t mg fi) (hp : X.prog = prog) (h : Fs t ⟨k21_prog, call, wf, none⟩ N5 (defScope s5) mg W fi k X) : VSs t ⟨k21_prog, call, wf, none⟩ W X (defBody s5) k21_reduced :=
  (ss_cons (s_par2B h.toFe h.toFc.calm rfl rfl (by decide) g5_one g5_other (r_cons (r_biB h.toFe (c_abs _ _) g5_abs L.b_abs (by decide +kernel) (r_cons (r_var h.toFe rfl (.inl g5_top)) r_nil rfl) (by decide +kernel) (by decide +kernel) rfl rfl) (r_cons (r_var h.toFe rfl (.inl g5_bottom)) r_nil rfl) rfl) rfl rfl)
  (ss_cons (s_whl h.own (t_cmp h.toFe .gt (r_var h.toFe rfl (.inl g5_other)) r_int rfl) (ss_cons (s_par2B h.toFe h.toFc.calm rfl rfl (by decide) g5_one g5_other (r_cons (r_var h.toFe rfl (.inl g5_other)) (r_cons (r_bin h.toFe .mod (r_var h.toFe rfl (.inl g5_one)) (r_var h.toFe rfl (.inl g5_other))) r_nil rfl) rfl) rfl rfl)
  ss_nil))
  (ss_cons (s_ret (r_ite (t_cmp h.toFe .gt (r_var h.toFe rfl (.inl g5_one)) r_int rfl) (r_tup (r_cons (r_bin h.toFe .fdiv (r_var h.toFe rfl (.inl g5_top)) (r_var h.toFe rfl (.inl g5_one))) (r_cons (r_bin h.toFe .fdiv (r_var h.toFe rfl (.inl g5_bottom)) (r_var h.toFe rfl (.inl g5_one))) r_nil rfl) rfl) (by decide)) (r_tup (r_cons r_int (r_cons r_int r_nil rfl) rfl) (by decide))))
  ss_nil)))
theorem g6_reduced : (defScope s6).names.lookup ("reduced" : Str) = some .globalImplicit := by kernel_rfl
theorem g6_one : (defScope s6).names.lookup ("one" : Str) = some .local := by kernel_rfl
theorem g6_other : (defScope s6).names.lookup ("other" : Str) = some .local := by kernel_rfl
theorem b6 (L : Lf prog t mg fi) (hp : X.prog = prog) (h : Fs t ⟨k21_prog, call, wf, none⟩ N6 (defScope s6) mg W fi k X) : VSs t ⟨k21_prog, call, wf, none⟩ W X (defBody s6) k21_minus :=
  (ss_cons (s_ret (r_callF h.toFc L.c_5 g6_reduced (r_cons (r_bin h.toFe .sub (r_bin h.toFe .mul (r_idx h.toFe (r_var h.toFe rfl (.inl g6_one)) r_int (fun _ _ => rfl)) (r_idx h.toFe (r_var h.toFe rfl (.inl g6_other)) r_int (fun _ _ => rfl))) (r_bin h.toFe .mul (r_idx h.toFe (r_var h.toFe rfl (.inl g6_other)) r_int (fun _ _ => rfl)) (r_idx h.toFe (r_var h.toFe rfl (.inl g6_one)) r_int (fun _ _ => rfl)))) (r_cons (r_bin h.toFe .mul (r_idx h.toFe (r_var h.toFe rfl (.inl g6_one)) r_int (fun _ _ => rfl)) (r_idx h.toFe (r_var h.toFe rfl (.inl g6_other)) r_int (fun _ _ => rfl))) r_nil rfl) rfl) rfl rfl))
  ss_nil)
theorem g7_reduced : (defScope s7).names.lookup ("reduced" : Str) = some .globalImplicit := by kernel_rfl
theorem g7_one : (defScope s7).names.lookup ("one" : Str) = some .local := by kernel_rfl
theorem g7_other : (defScope s7).names.lookup ("other" : Str) = some .local := by kernel_rfl
theorem b7 (L : Lf prog t mg fi) (hp : X.prog = prog) (h : Fs t ⟨k21_prog, call, wf, none⟩ N7 (defScope s7) mg W fi k X) : VSs t ⟨k21_prog, call, wf, none⟩ W X (defBody s7) k21_times :=
  (ss_cons (s_ret (r_callF h.toFc L.c_5 g7_reduced (r_cons (r_bin h.toFe .mul (r_idx h.toFe (r_var h.toFe rfl (.inl g7_one)) r_int (fun _ _ => rfl)) (r_idx h.toFe (r_var h.toFe rfl (.inl g7_other)) r_int (fun _ _ => rfl))) (r_cons (r_bin h.toFe .mul (r_idx h.toFe (r_var h.toFe rfl (.inl g7_one)) r_int (fun _ _ => rfl)) (r_idx h.toFe (r_var h.toFe rfl (.inl g7_other)) r_int (fun _ _ => rfl))) r_nil rfl) rfl) rfl rfl))
  ss_nil)
theorem g8_one : (defScope s8).names.lookup ("one" : Str) = some .local := by kernel_rfl
theorem g8_other : (defScope s8).names.lookup ("other" : Str) = some .local := by kernel_rfl
theorem b8 (L : Lf prog t mg fi) (hp : X.prog = prog) (h : Fs t ⟨k21_prog, call, wf, none⟩ N8 (defScope s8) mg W fi k X) : VSs t ⟨k21_prog, call, wf, none⟩ W X (defBody s8) k21_is_less :=
  (ss_cons (s_ret (r_cmp h.toFe .lt (r_bin h.toFe .mul (r_idx h.toFe (r_var h.toFe rfl (.inl g8_one)) r_int (fun _ _ => rfl)) (r_idx h.toFe (r_var h.toFe rfl (.inl g8_other)) r_int (fun _ _ => rfl))) (r_bin h.toFe .mul (r_idx h.toFe (r_var h.toFe rfl (.inl g8_other)) r_int (fun _ _ => rfl)) (r_idx h.toFe (r_var h.toFe rfl (.inl g8_one)) r_int (fun _ _ => rfl))) rfl))
  ss_nil)
theorem g9_is_number : (defScope s9).names.lookup ("is_number" : Str) = some .globalImplicit := by kernel_rfl
theorem g9_GREATEST : (defScope s9).names.lookup ("GREATEST" : Str) = some .globalImplicit := by kernel_rfl
theorem g9_value : (defScope s9).names.lookup ("value" : Str) = some .local := by kernel_rfl
theorem b9 (L : Lf prog t mg fi) (hp : X.prog = prog) (h : Fs t ⟨k21_prog, call, wf, none⟩ N9 (defScope s9) mg W fi k X) : VSs t ⟨k21_prog, call, wf, none⟩ W X (defBody s9) k21_is_peak :=
  (ss_cons (s_ret (r_callF h.toFc L.c_1 g9_is_number (r_cons (r_var h.toFe rfl (.inl g9_value)) (r_cons r_int (r_cons (r_globI h.toFe g9_GREATEST L.g_1 (by decide +kernel) rfl) r_nil rfl) rfl) rfl) rfl rfl))
  ss_nil)
theorem g10_len : (defScope s10).names.lookup ("len" : Str) = some .globalImplicit := by kernel_rfl
theorem g10_self : (defScope s10).names.lookup ("self" : Str) = some .local := by kernel_rfl
theorem g10_BadItem : (defScope s10).names.lookup ("BadItem" : Str) = some .globalImplicit := by kernel_rfl
theorem g10_want_row : (defScope s10).names.lookup ("want_row" : Str) = some .globalImplicit := by kernel_rfl
theorem g10_MOST_YEARS : (defScope s10).names.lookup ("MOST_YEARS" : Str) = some .globalImplicit := by kernel_rfl
theorem g10_is_peak : (defScope s10).names.lookup ("is_peak" : Str) = some .globalImplicit := by kernel_rfl
theorem g10_peaks : (defScope s10).names.lookup ("peaks" : Str) = some .local := by kernel_rfl
theorem b10 (L : Lf prog t mg fi) (hp : X.prog = prog) (h : Fs t ⟨k21_prog, call, wf, none⟩ N10 (defScope s10) mg W fi k X) : VSs t ⟨k21_prog, call, wf, none⟩ W X (defBody s10) k21_Record___init__ :=
  (ss_cons (s_setF h.toFe L.cf.xi L.n_0 (r_var h.toFe rfl (.inl g10_self)) (r_callF h.toFc L.c_4 g10_want_row (r_cons (r_var h.toFe rfl (.inl g10_peaks)) (r_cons (r_fnv h.toFe L.c_9 g10_is_peak) (r_cons (r_globI h.toFe g10_MOST_YEARS L.g_0 (by decide +kernel) rfl) r_nil rfl) rfl) rfl) rfl rfl) rfl)
  (ss_cons (s_ite (t_cmp h.toFe .eq (r_biB h.toFe (c_len h.toFe.kk _ _) g10_len L.b_len (by decide +kernel) (r_cons (r_fld h.toFe L.cf.xi L.n_0 (r_var h.toFe rfl (.inl g10_self)) rfl) r_nil rfl) (by decide +kernel) (by decide +kernel) rfl rfl) r_int rfl) (ss_cons (s_raisX h hp L.x_1 rfl r_non g10_BadItem rfl)
  ss_nil) ss_nil)
  ss_nil))
theorem g11_self : (defScope s11).names.lookup ("self" : Str) = some .local := by kernel_rfl
theorem g11_other : (defScope s11).names.lookup ("other" : Str) = some .local := by kernel_rfl
theorem g11_isinstance : (defScope s11).names.lookup ("isinstance" : Str) = some .globalImplicit := by kernel_rfl
theorem g11_Record : (defScope s11).names.lookup ("Record" : Str) = some .globalImplicit := by kernel_rfl
theorem b11 (L : Lf prog t mg fi) (hp : X.prog = prog) (h : Fs t ⟨k21_prog, call, wf, none⟩ N11 (defScope s11) mg W fi k X) : VSs t ⟨k21_prog, call, wf, none⟩ W X (defBody s11) k21_Record___eq__ :=
  (ss_cons (s_ret (r_and (r_isi1 h.toFe L.cf.xi g11_isinstance L.b_isinstance (r_var h.toFe rfl (.inl g11_other)) (p_cls h.toFe g11_Record L.kc_0 (by decide +kernel)) (by intro c' e; cases e; exact Nat.le_of_ble_eq_true rfl) rfl rfl rfl) (r_and1 (r_cmp h.toFe .eq (r_fld h.toFe L.cf.xi L.n_0 (r_var h.toFe rfl (.inl g11_self)) rfl) (r_fld h.toFe L.cf.xi L.n_0 (r_var h.toFe rfl (.inl g11_other)) rfl) rfl))))
  ss_nil)
theorem g12_len : (defScope s12).names.lookup ("len" : Str) = some .globalImplicit := by kernel_rfl
theorem g12_self : (defScope s12).names.lookup ("self" : Str) = some .local := by kernel_rfl
theorem b12 (L : Lf prog t mg fi) (hp : X.prog = prog) (h : Fs t ⟨k21_prog, call, wf, none⟩ N12 (defScope s12) mg W fi k X) : VSs t ⟨k21_prog, call, wf, none⟩ W X (defBody s12) k21_Record___len__ :=
  (ss_cons (s_ret (r_biB h.toFe (c_len h.toFe.kk _ _) g12_len L.b_len (by decide +kernel) (r_cons (r_fld h.toFe L.cf.xi L.n_0 (r_var h.toFe rfl (.inl g12_self)) rfl) r_nil rfl) (by decide +kernel) (by decide +kernel) rfl rfl))
  ss_nil)
theorem g13_len : (defScope s13).names.lookup ("len" : Str) = some .globalImplicit := by kernel_rfl
theorem g13_self : (defScope s13).names.lookup ("self" : Str) = some .local := by kernel_rfl
theorem b13 (L : Lf prog t mg fi) (hp : X.prog = prog) (h : Fs t ⟨k21_prog, call, wf, none⟩ N13 (defScope s13) mg W fi k X) : VSs t ⟨k21_prog, call, wf, none⟩ W X (defBody s13) k21_Record_above :=
  (ss_cons (s_ret (r_biB h.toFe (c_len h.toFe.kk _ _) g13_len L.b_len (by decide +kernel) (r_cons (r_compB h.toFc [(("peak" : Str), 2)] rfl ⟨rfl, (by decide +kernel), (by decide +kernel), (by decide +kernel), (by decide +kernel)⟩ (i_val h.toFe (r_fld h.toFe L.cf.xi L.n_0 (r_var h.toFe rfl (.inl g13_self)) rfl)) (fun xi4 X4 h4 e4 => ⟨(g_name h4.toFe rfl (.inl (by kernel_rfl)) (.inr (by kernel_rfl))), (ts_one (t_cmp h4.toFe .gt (r_var h4.toFe rfl (.inl (by kernel_rfl))) (r_var h4.toFe rfl (.inr (.inl (by kernel_rfl)))) rfl)), r_int⟩) (by decide +kernel) (fun _ => rfl)) r_nil rfl) (by decide +kernel) (by decide +kernel) rfl rfl))
  ss_nil)
theorem g14_reduced : (defScope s14).names.lookup ("reduced" : Str) = some .globalImplicit := by kernel_rfl
theorem g14_len : (defScope s14).names.lookup ("len" : Str) = some .globalImplicit := by kernel_rfl
theorem g14_self : (defScope s14).names.lookup ("self" : Str) = some .local := by kernel_rfl
theorem g14_level : (defScope s14).names.lookup ("level" : Str) = some .local := by kernel_rfl
theorem b14 (L : Lf prog t mg fi) (hp : X.prog = prog) (h : Fs t ⟨k21_prog, call, wf, none⟩ N14 (defScope s14) mg W fi k X) : VSs t ⟨k21_prog, call, wf, none⟩ W X (defBody s14) k21_Record_chance :=
  (ss_cons (s_ret (r_callF h.toFc L.c_5 g14_reduced (r_cons (r_meth h.toFc L.cf.xi L.mf L.n_1 (r_var h.toFe rfl (.inl g14_self)) (r_cons (r_var h.toFe rfl (.inl g14_level)) r_nil rfl) rfl rfl rfl) (r_cons (r_biB h.toFe (c_len h.toFe.kk _ _) g14_len L.b_len (by decide +kernel) (r_cons (r_fld h.toFe L.cf.xi L.n_0 (r_var h.toFe rfl (.inl g14_self)) rfl) r_nil rfl) (by decide +kernel) (by decide +kernel) rfl rfl) r_nil rfl) rfl) rfl rfl))
  ss_nil)
theorem g15_reduced : (defScope s15).names.lookup ("reduced" : Str) = some .globalImplicit := by kernel_rfl
theorem g15_len : (defScope s15).names.lookup ("len" : Str) = some .globalImplicit := by kernel_rfl
theorem g15_self : (defScope s15).names.lookup ("self" : Str) = some .local := by kernel_rfl
theorem g15_level : (defScope s15).names.lookup ("level" : Str) = some .local := by kernel_rfl
theorem b15 (L : Lf prog t mg fi) (hp : X.prog = prog) (h : Fs t ⟨k21_prog, call, wf, none⟩ N15 (defScope s15) mg W fi k X) : VSs t ⟨k21_prog, call, wf, none⟩ W X (defBody s15) k21_Record_careful_chance :=
  (ss_cons (s_ret (r_callF h.toFc L.c_5 g15_reduced (r_cons (r_bin h.toFe .add (r_meth h.toFc L.cf.xi L.mf L.n_1 (r_var h.toFe rfl (.inl g15_self)) (r_cons (r_var h.toFe rfl (.inl g15_level)) r_nil rfl) rfl rfl rfl) r_int) (r_cons (r_bin h.toFe .add (r_biB h.toFe (c_len h.toFe.kk _ _) g15_len L.b_len (by decide +kernel) (r_cons (r_fld h.toFe L.cf.xi L.n_0 (r_var h.toFe rfl (.inl g15_self)) rfl) r_nil rfl) (by decide +kernel) (by decide +kernel) rfl rfl) r_int) r_nil rfl) rfl) rfl rfl))
  ss_nil)
theorem g16_tuple : (defScope s16).names.lookup ("tuple" : Str) = some .globalImplicit := by kernel_rfl
theorem g16_sorted : (defScope s16).names.lookup ("sorted" : Str) = some .globalImplicit := by kernel_rfl
theorem g16_self : (defScope s16).names.lookup ("self" : Str) = some .local := by kernel_rfl
theorem b16 (L : Lf prog t mg fi) (hp : X.prog = prog) (h : Fs t ⟨k21_prog, call, wf, none⟩ N16 (defScope s16) mg W fi k X) : VSs t ⟨k21_prog, call, wf, none⟩ W X (defBody s16) k21_Record_ranked :=
  (ss_cons (s_ret (r_biT h.toFe (c_tuple h.toFe.kk _ _) g16_tuple L.b_tuple (by decide +kernel) (r_cons (r_rev h.toFe (r_biB h.toFe (c_sorted h.toFe.kk h.toFe.un _) g16_sorted L.b_sorted (by decide +kernel) (r_cons (r_fld h.toFe L.cf.xi L.n_0 (r_var h.toFe rfl (.inl g16_self)) rfl) r_nil rfl) (by decide +kernel) (by decide +kernel) rfl rfl)) r_nil rfl) (by decide +kernel) (by decide +kernel) rfl rfl))
  ss_nil)
theorem g17_max : (defScope s17).names.lookup ("max" : Str) = some .globalImplicit := by kernel_rfl
theorem g17_self : (defScope s17).names.lookup ("self" : Str) = some .local := by kernel_rfl
theorem g17_sorted : (defScope s17).names.lookup ("sorted" : Str) = some .globalImplicit := by kernel_rfl
theorem g17_set : (defScope s17).names.lookup ("set" : Str) = some .globalImplicit := by kernel_rfl
theorem g17_list : (defScope s17).names.lookup ("list" : Str) = some .globalImplicit := by kernel_rfl
theorem g17_level : (defScope s17).names.lookup ("level" : Str) = some .local := by kernel_rfl
theorem g17_is_less : (defScope s17).names.lookup ("is_less" : Str) = some .globalImplicit := by kernel_rfl
theorem g17_chance : (defScope s17).names.lookup ("chance" : Str) = some .local := by kernel_rfl
theorem b17 (L : Lf prog t mg fi) (hp : X.prog = prog) (h : Fs t ⟨k21_prog, call, wf, none⟩ N17 (defScope s17) mg W fi k X) : VSs t ⟨k21_prog, call, wf, none⟩ W X (defBody s17) k21_Record_level_for :=
  (ss_cons (s_for h.toFe h.own h.toFc.calm (i_val h.toFe (r_sset h.toFc g17_sorted L.b_sorted g17_set L.b_set (r_bin h.toFe .add (r_lst (r_cons r_int r_nil rfl) (by decide)) (r_biT h.toFe (c_list h.toFe.kk _ _) g17_list L.b_list (by decide +kernel) (r_cons (r_fld h.toFe L.cf.xi L.n_0 (r_var h.toFe rfl (.inl g17_self)) rfl) r_nil rfl) (by decide +kernel) (by decide +kernel) rfl rfl)) rfl rfl)) (g_name h.toFe rfl (.inl g17_level) (.inr g17_level)) (ss_cons (s_ite (t_not (t_val h.toFe (r_callF h.toFc L.c_8 g17_is_less (r_cons (r_var h.toFe rfl (.inl g17_chance)) (r_cons (r_meth h.toFc L.cf.xi L.mf L.n_2 (r_var h.toFe rfl (.inl g17_self)) (r_cons (r_var h.toFe rfl (.inl g17_level)) r_nil rfl) rfl rfl rfl) r_nil rfl) rfl) rfl rfl) (fun _ => rfl))) (ss_cons (s_ret (r_var h.toFe rfl (.inl g17_level)))
  ss_nil) ss_nil)
  ss_nil) (fun _ => rfl))
  (ss_cons (s_ret (r_biB h.toFe (c_max1 h.toFe.kk h.toFe.un h.toFc.calm _ _) g17_max L.b_max (by decide +kernel) (r_cons (r_fld h.toFe L.cf.xi L.n_0 (r_var h.toFe rfl (.inl g17_self)) rfl) r_nil rfl) (by decide +kernel) (by decide +kernel) rfl rfl))
  ss_nil))
theorem g18_found : (defScope s18).names.lookup ("found" : Str) = some .local := by kernel_rfl
theorem g18_range : (defScope s18).names.lookup ("range" : Str) = some .globalImplicit := by kernel_rfl
theorem g18_years : (defScope s18).names.lookup ("years" : Str) = some .local := by kernel_rfl
theorem g18_year : (defScope s18).names.lookup ("year" : Str) = some .local := by kernel_rfl
theorem g18_times : (defScope s18).names.lookup ("times" : Str) = some .globalImplicit := by kernel_rfl
theorem g18_dry : (defScope s18).names.lookup ("dry" : Str) = some .local := by kernel_rfl
theorem g18_minus : (defScope s18).names.lookup ("minus" : Str) = some .globalImplicit := by kernel_rfl
theorem g18_self : (defScope s18).names.lookup ("self" : Str) = some .local := by kernel_rfl
theorem g18_level : (defScope s18).names.lookup ("level" : Str) = some .local := by kernel_rfl
theorem b18 (L : Lf prog t mg fi) (hp : X.prog = prog) (h : Fs t ⟨k21_prog, call, wf, none⟩ N18 (defScope s18) mg W fi k X) : VSs t ⟨k21_prog, call, wf, none⟩ W X (defBody s18) k21_Record_never :=
  (ss_cons (s_par2B h.toFe h.toFc.calm rfl rfl (by decide) g18_found g18_dry (r_cons (r_tup (r_cons r_int (r_cons r_int r_nil rfl) rfl) (by decide)) (r_cons (r_callF h.toFc L.c_6 g18_minus (r_cons (r_tup (r_cons r_int (r_cons r_int r_nil rfl) rfl) (by decide)) (r_cons (r_meth h.toFc L.cf.xi L.mf L.n_2 (r_var h.toFe rfl (.inl g18_self)) (r_cons (r_var h.toFe rfl (.inl g18_level)) r_nil rfl) rfl rfl rfl) r_nil rfl) rfl) rfl rfl) r_nil rfl) rfl) rfl rfl)
  (ss_cons (s_for h.toFe h.own h.toFc.calm (i_range1 h.toFe g18_range L.b_range (r_cons (r_var h.toFe rfl (.inl g18_years)) r_nil rfl) rfl) (g_name h.toFe rfl (.inl g18_year) (.inr g18_year)) (ss_cons (s_set h.toFe rfl (.inl g18_found) (.inr g18_found) (r_callF h.toFc L.c_7 g18_times (r_cons (r_var h.toFe rfl (.inl g18_found)) (r_cons (r_var h.toFe rfl (.inl g18_dry)) r_nil rfl) rfl) rfl rfl) rfl)
  ss_nil) (fun _ => rfl))
  (ss_cons (s_ret (r_var h.toFe rfl (.inl g18_found)))
  ss_nil)))
theorem g19_many : (defScope s19).names.lookup ("many" : Str) = some .local := by kernel_rfl
theorem g19_is_less : (defScope s19).names.lookup ("is_less" : Str) = some .globalImplicit := by kernel_rfl
theorem g19_least : (defScope s19).names.lookup ("least" : Str) = some .local := by kernel_rfl
theorem g19_found : (defScope s19).names.lookup ("found" : Str) = some .local := by kernel_rfl
theorem g19_times : (defScope s19).names.lookup ("times" : Str) = some .globalImplicit := by kernel_rfl
theorem g19_dry : (defScope s19).names.lookup ("dry" : Str) = some .local := by kernel_rfl
theorem g19_minus : (defScope s19).names.lookup ("minus" : Str) = some .globalImplicit := by kernel_rfl
theorem g19_self : (defScope s19).names.lookup ("self" : Str) = some .local := by kernel_rfl
theorem g19_level : (defScope s19).names.lookup ("level" : Str) = some .local := by kernel_rfl
theorem b19 (L : Lf prog t mg fi) (hp : X.prog = prog) (h : Fs t ⟨k21_prog, call, wf, none⟩ N19 (defScope s19) mg W fi k X) : VSs t ⟨k21_prog, call, wf, none⟩ W X (defBody s19) k21_Record_years_held :=
  (ss_cons (s_asgB h.toFe (r_tup (r_cons r_int (r_cons (r_tup (r_cons r_int (r_cons r_int r_nil rfl) rfl) (by decide)) r_nil rfl) rfl) (by decide)) (g_tup h.toFc.calm h.toFe.kk (gs_cons (g_name h.toFe rfl (.inl g19_many) (.inr g19_many)) (gs_cons (g_name h.toFe rfl (.inl g19_found) (.inr g19_found)) gs_nil rfl) rfl) (n := 0) rfl rfl) rfl rfl rfl)
  (ss_cons (s_set h.toFe rfl (.inl g19_dry) (.inr g19_dry) (r_callF h.toFc L.c_6 g19_minus (r_cons (r_tup (r_cons r_int (r_cons r_int r_nil rfl) rfl) (by decide)) (r_cons (r_meth h.toFc L.cf.xi L.mf L.n_2 (r_var h.toFe rfl (.inl g19_self)) (r_cons (r_var h.toFe rfl (.inl g19_level)) r_nil rfl) rfl rfl rfl) r_nil rfl) rfl) rfl rfl) rfl)
  (ss_cons (s_whl h.own (t_cmp h.toFe .lt (r_var h.toFe rfl (.inl g19_many)) r_int rfl) (ss_cons (s_set h.toFe rfl (.inl g19_found) (.inr g19_found) (r_callF h.toFc L.c_7 g19_times (r_cons (r_var h.toFe rfl (.inl g19_found)) (r_cons (r_var h.toFe rfl (.inl g19_dry)) r_nil rfl) rfl) rfl rfl) rfl)
  (ss_cons (s_ite (t_val h.toFe (r_callF h.toFc L.c_8 g19_is_less (r_cons (r_var h.toFe rfl (.inl g19_found)) (r_cons (r_var h.toFe rfl (.inl g19_least)) r_nil rfl) rfl) rfl rfl) (fun _ => rfl)) (ss_cons (s_ret (r_var h.toFe rfl (.inl g19_many)))
  ss_nil) ss_nil)
  (ss_cons (s_augAdd h.toFe rfl (.inl g19_many) (.inr g19_many) r_int)
  ss_nil))))
  (ss_cons (s_ret (r_var h.toFe rfl (.inl g19_many)))
  ss_nil))))
theorem g20_best : (defScope s20).names.lookup ("best" : Str) = some .local := by kernel_rfl
theorem g20_self : (defScope s20).names.lookup ("self" : Str) = some .local := by kernel_rfl
theorem g20_peak : (defScope s20).names.lookup ("peak" : Str) = some .local := by kernel_rfl
theorem g20_max : (defScope s20).names.lookup ("max" : Str) = some .globalImplicit := by kernel_rfl
theorem g20_here : (defScope s20).names.lookup ("here" : Str) = some .local := by kernel_rfl
theorem g20_level : (defScope s20).names.lookup ("level" : Str) = some .local := by kernel_rfl
theorem b20 (L : Lf prog t mg fi) (hp : X.prog = prog) (h : Fs t ⟨k21_prog, call, wf, none⟩ N20 (defScope s20) mg W fi k X) : VSs t ⟨k21_prog, call, wf, none⟩ W X (defBody s20) k21_Record_longest_dry :=
  (ss_cons (s_asgB h.toFe (r_tup (r_cons r_int (r_cons r_int r_nil rfl) rfl) (by decide)) (g_tup h.toFc.calm h.toFe.kk (gs_cons (g_name h.toFe rfl (.inl g20_best) (.inr g20_best)) (gs_cons (g_name h.toFe rfl (.inl g20_here) (.inr g20_here)) gs_nil rfl) rfl) (n := 0) rfl rfl) rfl rfl rfl)
  (ss_cons (s_for h.toFe h.own h.toFc.calm (i_val h.toFe (r_fld h.toFe L.cf.xi L.n_0 (r_var h.toFe rfl (.inl g20_self)) rfl)) (g_name h.toFe rfl (.inl g20_peak) (.inr g20_peak)) (ss_cons (s_set h.toFe rfl (.inl g20_here) (.inr g20_here) (r_ite (t_cmp h.toFe .gt (r_var h.toFe rfl (.inl g20_peak)) (r_var h.toFe rfl (.inl g20_level)) rfl) r_int (r_bin h.toFe .add (r_var h.toFe rfl (.inl g20_here)) r_int)) rfl)
  (ss_cons (s_set h.toFe rfl (.inl g20_best) (.inr g20_best) (r_biB h.toFe (c_max2 h.toFc.calm _ _) g20_max L.b_max (by decide +kernel) (r_cons (r_var h.toFe rfl (.inl g20_best)) (r_cons (r_var h.toFe rfl (.inl g20_here)) r_nil rfl) rfl) (by decide +kernel) (by decide +kernel) rfl rfl) rfl)
  ss_nil)) (fun _ => rfl))
  (ss_cons (s_ret (r_var h.toFe rfl (.inl g20_best)))
  ss_nil)))
theorem g21_tuple : (defScope s21).names.lookup ("tuple" : Str) = some .globalImplicit := by kernel_rfl
theorem g21_found : (defScope s21).names.lookup ("found" : Str) = some .local := by kernel_rfl
theorem g21_enumerate : (defScope s21).names.lookup ("enumerate" : Str) = some .globalImplicit := by kernel_rfl
theorem g21_self : (defScope s21).names.lookup ("self" : Str) = some .local := by kernel_rfl
theorem g21_peak : (defScope s21).names.lookup ("peak" : Str) = some .cell := by kernel_rfl
theorem g21_at : (defScope s21).names.lookup ("at" : Str) = some .local := by kernel_rfl
theorem g21_all : (defScope s21).names.lookup ("all" : Str) = some .globalImplicit := by kernel_rfl
theorem b21 (L : Lf prog t mg fi) (hp : X.prog = prog) (h : Fs t ⟨k21_prog, call, wf, none⟩ N21 (defScope s21) mg W fi k X) : VSs t ⟨k21_prog, call, wf, none⟩ W X (defBody s21) k21_Record_records :=
  (ss_cons (s_set h.toFe rfl (.inl g21_found) (.inr g21_found) (r_lst r_nil (by decide)) rfl)
  (ss_cons (s_for h.toFe h.own h.toFc.calm (i_enum h.toFe g21_enumerate L.b_enumerate (r_fld h.toFe L.cf.xi L.n_0 (r_var h.toFe rfl (.inl g21_self)) rfl) rfl) (g_tup h.toFc.calm h.toFe.kk (gs_cons (g_name h.toFe rfl (.inl g21_at) (.inr g21_at)) (gs_cons (g_name h.toFe rfl (.inr g21_peak) (.inl (by rw [h.fna]))) gs_nil rfl) rfl) (n := 0) rfl rfl) (ss_cons (s_ite (t_val h.toFe (r_biB h.toFe (c_all h.toFe.kk h.toFc.calm _ _) g21_all L.b_all (by decide +kernel) (r_cons (r_compB h.toFc [(("other" : Str), 4)] rfl ⟨rfl, (by decide +kernel), (by decide +kernel), (by decide +kernel), (by decide +kernel)⟩ (i_val h.toFe (r_slc h.toFe _ (r_fld h.toFe L.cf.xi L.n_0 (r_var h.toFe rfl (.inl g21_self)) rfl) v_none (v_some (r_var h.toFe rfl (.inl g21_at))))) (fun xi6 X6 h6 e6 => ⟨(g_name h6.toFe rfl (.inl (by kernel_rfl)) (.inr (by kernel_rfl))), ts_nil, (r_cmp h6.toFe .lt (r_var h6.toFe rfl (.inl (by kernel_rfl))) (r_var h6.toFe rfl (.inr (.inl (by kernel_rfl)))) rfl)⟩) (by decide +kernel) (fun _ => rfl)) r_nil rfl) (by decide +kernel) (by decide +kernel) rfl rfl) (fun _ => rfl)) (ss_cons (s_exp (r_bm h.toFe (m := .append) (f := bAppend) (fun _ _ _ => rfl) bAppend_nox PySem.F.slot_list_append PySem.F.type_list_append m_append (r_var h.toFe rfl (.inl g21_found)) (r_cons (r_var h.toFe rfl (.inl g21_at)) r_nil rfl) rfl rfl rfl rfl rfl) rfl)
  ss_nil) ss_nil)
  ss_nil) (fun _ => rfl))
  (ss_cons (s_ret (r_biT h.toFe (c_tuple h.toFe.kk _ _) g21_tuple L.b_tuple (by decide +kernel) (r_cons (r_var h.toFe rfl (.inl g21_found)) r_nil rfl) (by decide +kernel) (by decide +kernel) rfl rfl))
  ss_nil)))
theorem g22_reduced : (defScope s22).names.lookup ("reduced" : Str) = some .globalImplicit := by kernel_rfl
theorem g22_len : (defScope s22).names.lookup ("len" : Str) = some .globalImplicit := by kernel_rfl
theorem g22_self : (defScope s22).names.lookup ("self" : Str) = some .local := by kernel_rfl
theorem g22_sum : (defScope s22).names.lookup ("sum" : Str) = some .globalImplicit := by kernel_rfl
theorem b22 (L : Lf prog t mg fi) (hp : X.prog = prog) (h : Fs t ⟨k21_prog, call, wf, none⟩ N22 (defScope s22) mg W fi k X) : VSs t ⟨k21_prog, call, wf, none⟩ W X (defBody s22) k21_Record_mean :=
  (ss_cons (s_ret (r_callF h.toFc L.c_5 g22_reduced (r_cons (r_biB h.toFe (c_sum h.toFe.kk h.toFc.calm _ _) g22_sum L.b_sum (by decide +kernel) (r_cons (r_fld h.toFe L.cf.xi L.n_0 (r_var h.toFe rfl (.inl g22_self)) rfl) r_nil rfl) (by decide +kernel) (by decide +kernel) rfl rfl) (r_cons (r_biB h.toFe (c_len h.toFe.kk _ _) g22_len L.b_len (by decide +kernel) (r_cons (r_fld h.toFe L.cf.xi L.n_0 (r_var h.toFe rfl (.inl g22_self)) rfl) r_nil rfl) (by decide +kernel) (by decide +kernel) rfl rfl) r_nil rfl) rfl) rfl rfl))
  ss_nil)
theorem g23_falling : (defScope s23).names.lookup ("falling" : Str) = some .local := by kernel_rfl
theorem g23_rising : (defScope s23).names.lookup ("rising" : Str) = some .local := by kernel_rfl
theorem g23_enumerate : (defScope s23).names.lookup ("enumerate" : Str) = some .globalImplicit := by kernel_rfl
theorem g23_self : (defScope s23).names.lookup ("self" : Str) = some .local := by kernel_rfl
theorem g23_peak : (defScope s23).names.lookup ("peak" : Str) = some .cell := by kernel_rfl
theorem g23_at : (defScope s23).names.lookup ("at" : Str) = some .local := by kernel_rfl
theorem g23_len : (defScope s23).names.lookup ("len" : Str) = some .globalImplicit := by kernel_rfl
theorem b23 (L : Lf prog t mg fi) (hp : X.prog = prog) (h : Fs t ⟨k21_prog, call, wf, none⟩ N23 (defScope s23) mg W fi k X) : VSs t ⟨k21_prog, call, wf, none⟩ W X (defBody s23) k21_Record_rising_pairs :=
  (ss_cons (s_asgB h.toFe (r_tup (r_cons r_int (r_cons r_int r_nil rfl) rfl) (by decide)) (g_tup h.toFc.calm h.toFe.kk (gs_cons (g_name h.toFe rfl (.inl g23_rising) (.inr g23_rising)) (gs_cons (g_name h.toFe rfl (.inl g23_falling) (.inr g23_falling)) gs_nil rfl) rfl) (n := 0) rfl rfl) rfl rfl rfl)
  (ss_cons (s_for h.toFe h.own h.toFc.calm (i_enum h.toFe g23_enumerate L.b_enumerate (r_fld h.toFe L.cf.xi L.n_0 (r_var h.toFe rfl (.inl g23_self)) rfl) rfl) (g_tup h.toFc.calm h.toFe.kk (gs_cons (g_name h.toFe rfl (.inl g23_at) (.inr g23_at)) (gs_cons (g_name h.toFe rfl (.inr g23_peak) (.inl (by rw [h.fna]))) gs_nil rfl) rfl) (n := 0) rfl rfl) (ss_cons (s_augAdd h.toFe rfl (.inl g23_rising) (.inr g23_rising) (r_biB h.toFe (c_len h.toFe.kk _ _) g23_len L.b_len (by decide +kernel) (r_cons (r_compB h.toFc [(("other" : Str), 5)] rfl ⟨rfl, (by decide +kernel), (by decide +kernel), (by decide +kernel), (by decide +kernel)⟩ (i_val h.toFe (r_slc h.toFe _ (r_fld h.toFe L.cf.xi L.n_0 (r_var h.toFe rfl (.inl g23_self)) rfl) (v_some (r_bin h.toFe .add (r_var h.toFe rfl (.inl g23_at)) r_int)) v_none)) (fun xi10 X10 h10 e10 => ⟨(g_name h10.toFe rfl (.inl (by kernel_rfl)) (.inr (by kernel_rfl))), (ts_one (t_cmp h10.toFe .gt (r_var h10.toFe rfl (.inl (by kernel_rfl))) (r_var h10.toFe rfl (.inr (.inl (by kernel_rfl)))) rfl)), r_int⟩) (by decide +kernel) (fun _ => rfl)) r_nil rfl) (by decide +kernel) (by decide +kernel) rfl rfl))
  (ss_cons (s_augAdd h.toFe rfl (.inl g23_falling) (.inr g23_falling) (r_biB h.toFe (c_len h.toFe.kk _ _) g23_len L.b_len (by decide +kernel) (r_cons (r_compB h.toFc [(("other" : Str), 5)] rfl ⟨rfl, (by decide +kernel), (by decide +kernel), (by decide +kernel), (by decide +kernel)⟩ (i_val h.toFe (r_slc h.toFe _ (r_fld h.toFe L.cf.xi L.n_0 (r_var h.toFe rfl (.inl g23_self)) rfl) (v_some (r_bin h.toFe .add (r_var h.toFe rfl (.inl g23_at)) r_int)) v_none)) (fun xi8 X8 h8 e8 => ⟨(g_name h8.toFe rfl (.inl (by kernel_rfl)) (.inr (by kernel_rfl))), (ts_one (t_cmp h8.toFe .lt (r_var h8.toFe rfl (.inl (by kernel_rfl))) (r_var h8.toFe rfl (.inr (.inl (by kernel_rfl)))) rfl)), r_int⟩) (by decide +kernel) (fun _ => rfl)) r_nil rfl) (by decide +kernel) (by decide +kernel) rfl rfl))
  ss_nil)) (fun _ => rfl))
  (ss_cons (s_ret (r_tup (r_cons (r_var h.toFe rfl (.inl g23_rising)) (r_cons (r_var h.toFe rfl (.inl g23_falling)) r_nil rfl) rfl) (by decide)))
  ss_nil)))
theorem g24_price : (defScope s24).names.lookup ("price" : Str) = some .local := by kernel_rfl
theorem g24_level : (defScope s24).names.lookup ("level" : Str) = some .local := by kernel_rfl
theorem g24_harm : (defScope s24).names.lookup ("harm" : Str) = some .local := by kernel_rfl
theorem g24_self : (defScope s24).names.lookup ("self" : Str) = some .local := by kernel_rfl
theorem b24 (L : Lf prog t mg fi) (hp : X.prog = prog) (h : Fs t ⟨k21_prog, call, wf, none⟩ N24 (defScope s24) mg W fi k X) : VSs t ⟨k21_prog, call, wf, none⟩ W X (defBody s24) k21_Record_cost :=
  (ss_cons (s_ret (r_bin h.toFe .add (r_bin h.toFe .mul (r_var h.toFe rfl (.inl g24_price)) (r_var h.toFe rfl (.inl g24_level))) (r_bin h.toFe .mul (r_var h.toFe rfl (.inl g24_harm)) (r_meth h.toFc L.cf.xi L.mf L.n_1 (r_var h.toFe rfl (.inl g24_self)) (r_cons (r_var h.toFe rfl (.inl g24_level)) r_nil rfl) rfl rfl rfl))))
  ss_nil)
theorem g25_min : (defScope s25).names.lookup ("min" : Str) = some .globalImplicit := by kernel_rfl
theorem g25_levels : (defScope s25).names.lookup ("levels" : Str) = some .local := by kernel_rfl
theorem g25_sorted : (defScope s25).names.lookup ("sorted" : Str) = some .globalImplicit := by kernel_rfl
theorem g25_set : (defScope s25).names.lookup ("set" : Str) = some .globalImplicit := by kernel_rfl
theorem g25_list : (defScope s25).names.lookup ("list" : Str) = some .globalImplicit := by kernel_rfl
theorem g25_self : (defScope s25).names.lookup ("self" : Str) = some .cell := by kernel_rfl
theorem b25 (L : Lf prog t mg fi) (hp : X.prog = prog) (h : Fs t ⟨k21_prog, call, wf, none⟩ N25 (defScope s25) mg W fi k X) : VSs t ⟨k21_prog, call, wf, none⟩ W X (defBody s25) k21_Record_best_level :=
  (ss_cons (s_set h.toFe rfl (.inl g25_levels) (.inr g25_levels) (r_sset h.toFc g25_sorted L.b_sorted g25_set L.b_set (r_bin h.toFe .add (r_lst (r_cons r_int r_nil rfl) (by decide)) (r_biT h.toFe (c_list h.toFe.kk _ _) g25_list L.b_list (by decide +kernel) (r_cons (r_fld h.toFe L.cf.xi L.n_0 (r_var h.toFe rfl (.inr (.inl g25_self))) rfl) r_nil rfl) (by decide +kernel) (by decide +kernel) rfl rfl)) rfl rfl) rfl)
  (ss_cons (s_ret (r_idx h.toFe (r_biB h.toFe (c_min1 h.toFe.kk h.toFe.un h.toFc.calm _ _) g25_min L.b_min (by decide +kernel) (r_cons (r_compB h.toFc [(("level" : Str), 4)] rfl ⟨rfl, (by decide +kernel), (by decide +kernel), (by decide +kernel), (by decide +kernel)⟩ (i_val h.toFe (r_var h.toFe rfl (.inl g25_levels))) (fun xi12 X12 h12 e12 => ⟨(g_name h12.toFe rfl (.inl (by kernel_rfl)) (.inr (by kernel_rfl))), ts_nil, (r_tup (r_cons (r_meth h12 L.cf.xi L.mf L.n_3 (r_var h12.toFe rfl (.inr (.inl (by kernel_rfl)))) (r_cons (r_var h12.toFe rfl (.inl (by kernel_rfl))) (r_cons (r_var h12.toFe rfl (.inr (.inl (by kernel_rfl)))) (r_cons (r_var h12.toFe rfl (.inr (.inl (by kernel_rfl)))) r_nil rfl) rfl) rfl) rfl rfl rfl) (r_cons (r_var h12.toFe rfl (.inl (by kernel_rfl))) r_nil rfl) rfl) (by decide))⟩) (by decide +kernel) (fun _ => rfl)) r_nil rfl) (by decide +kernel) (by decide +kernel) rfl rfl) r_int (fun _ _ => rfl)))
  ss_nil))
theorem g26_Record : (defScope s26).names.lookup ("Record" : Str) = some .globalImplicit := by kernel_rfl
theorem g26_self : (defScope s26).names.lookup ("self" : Str) = some .local := by kernel_rfl
theorem g26_peak : (defScope s26).names.lookup ("peak" : Str) = some .local := by kernel_rfl
theorem b26 (L : Lf prog t mg fi) (hp : X.prog = prog) (h : Fs t ⟨k21_prog, call, wf, none⟩ N26 (defScope s26) mg W fi k X) : VSs t ⟨k21_prog, call, wf, none⟩ W X (defBody s26) k21_Record_with_peak :=
  (ss_cons (s_ret (r_mkF h.toFc L.cf.xi L.k_0.xi g26_Record (by decide +kernel) (r_cons (r_bin h.toFe .add (r_fld h.toFe L.cf.xi L.n_0 (r_var h.toFe rfl (.inl g26_self)) rfl) (r_tup (r_cons (r_var h.toFe rfl (.inl g26_peak)) r_nil rfl) (by decide))) r_nil rfl) rfl rfl))
  ss_nil)
theorem g27_Record : (defScope s27).names.lookup ("Record" : Str) = some .globalImplicit := by kernel_rfl
theorem g27_self : (defScope s27).names.lookup ("self" : Str) = some .local := by kernel_rfl
theorem g27_len : (defScope s27).names.lookup ("len" : Str) = some .globalImplicit := by kernel_rfl
theorem g27_years : (defScope s27).names.lookup ("years" : Str) = some .local := by kernel_rfl
theorem g27_is_number : (defScope s27).names.lookup ("is_number" : Str) = some .globalImplicit := by kernel_rfl
theorem g27_BadItem : (defScope s27).names.lookup ("BadItem" : Str) = some .globalImplicit := by kernel_rfl
theorem b27 (L : Lf prog t mg fi) (hp : X.prog = prog) (h : Fs t ⟨k21_prog, call, wf, none⟩ N27 (defScope s27) mg W fi k X) : VSs t ⟨k21_prog, call, wf, none⟩ W X (defBody s27) k21_Record_last :=
  (ss_cons (s_ite (t_not (t_val h.toFe (r_callF h.toFc L.c_1 g27_is_number (r_cons (r_var h.toFe rfl (.inl g27_years)) (r_cons r_int (r_cons (r_biB h.toFe (c_len h.toFe.kk _ _) g27_len L.b_len (by decide +kernel) (r_cons (r_fld h.toFe L.cf.xi L.n_0 (r_var h.toFe rfl (.inl g27_self)) rfl) r_nil rfl) (by decide +kernel) (by decide +kernel) rfl rfl) r_nil rfl) rfl) rfl) rfl rfl) (fun _ => rfl))) (ss_cons (s_raisX h hp L.x_1 rfl (r_var h.toFe rfl (.inl g27_years)) g27_BadItem rfl)
  ss_nil) ss_nil)
  (ss_cons (s_ret (r_mkF h.toFc L.cf.xi L.k_0.xi g27_Record (by decide +kernel) (r_cons (r_slc h.toFe _ (r_fld h.toFe L.cf.xi L.n_0 (r_var h.toFe rfl (.inl g27_self)) rfl) (v_some (r_bin h.toFe .sub (r_biB h.toFe (c_len h.toFe.kk _ _) g27_len L.b_len (by decide +kernel) (r_cons (r_fld h.toFe L.cf.xi L.n_0 (r_var h.toFe rfl (.inl g27_self)) rfl) r_nil rfl) (by decide +kernel) (by decide +kernel) rfl rfl) (r_var h.toFe rfl (.inl g27_years)))) v_none) r_nil rfl) rfl rfl))
  ss_nil))
theorem g28_tuple : (defScope s28).names.lookup ("tuple" : Str) = some .globalImplicit := by kernel_rfl
theorem g28_found : (defScope s28).names.lookup ("found" : Str) = some .local := by kernel_rfl
theorem g28_range : (defScope s28).names.lookup ("range" : Str) = some .globalImplicit := by kernel_rfl
theorem g28_len : (defScope s28).names.lookup ("len" : Str) = some .globalImplicit := by kernel_rfl
theorem g28_peaks : (defScope s28).names.lookup ("peaks" : Str) = some .local := by kernel_rfl
theorem g28_wide : (defScope s28).names.lookup ("wide" : Str) = some .local := by kernel_rfl
theorem g28_at : (defScope s28).names.lookup ("at" : Str) = some .local := by kernel_rfl
theorem g28_sum : (defScope s28).names.lookup ("sum" : Str) = some .globalImplicit := by kernel_rfl
theorem b28 (L : Lf prog t mg fi) (hp : X.prog = prog) (h : Fs t ⟨k21_prog, call, wf, none⟩ N28 (defScope s28) mg W fi k X) : VSs t ⟨k21_prog, call, wf, none⟩ W X (defBody s28) k21_smoothed :=
  (ss_cons (s_set h.toFe rfl (.inl g28_found) (.inr g28_found) (r_lst r_nil (by decide)) rfl)
  (ss_cons (s_for h.toFe h.own h.toFc.calm (i_range1 h.toFe g28_range L.b_range (r_cons (r_bin h.toFe .add (r_bin h.toFe .sub (r_biB h.toFe (c_len h.toFe.kk _ _) g28_len L.b_len (by decide +kernel) (r_cons (r_var h.toFe rfl (.inl g28_peaks)) r_nil rfl) (by decide +kernel) (by decide +kernel) rfl rfl) (r_var h.toFe rfl (.inl g28_wide))) r_int) r_nil rfl) rfl) (g_name h.toFe rfl (.inl g28_at) (.inr g28_at)) (ss_cons (s_exp (r_bm h.toFe (m := .append) (f := bAppend) (fun _ _ _ => rfl) bAppend_nox PySem.F.slot_list_append PySem.F.type_list_append m_append (r_var h.toFe rfl (.inl g28_found)) (r_cons (r_bin h.toFe .fdiv (r_biB h.toFe (c_sum h.toFe.kk h.toFc.calm _ _) g28_sum L.b_sum (by decide +kernel) (r_cons (r_slc h.toFe _ (r_var h.toFe rfl (.inl g28_peaks)) (v_some (r_var h.toFe rfl (.inl g28_at))) (v_some (r_bin h.toFe .add (r_var h.toFe rfl (.inl g28_at)) (r_var h.toFe rfl (.inl g28_wide))))) r_nil rfl) (by decide +kernel) (by decide +kernel) rfl rfl) (r_var h.toFe rfl (.inl g28_wide))) r_nil rfl) rfl rfl rfl rfl rfl) rfl)
  ss_nil) (fun _ => rfl))
  (ss_cons (s_ret (r_biT h.toFe (c_tuple h.toFe.kk _ _) g28_tuple L.b_tuple (by decide +kernel) (r_cons (r_var h.toFe rfl (.inl g28_found)) r_nil rfl) (by decide +kernel) (by decide +kernel) rfl rfl))
  ss_nil)))
theorem g29_all : (defScope s29).names.lookup ("all" : Str) = some .globalImplicit := by kernel_rfl
theorem g29_value : (defScope s29).names.lookup ("value" : Str) = some .local := by kernel_rfl
theorem g29_is_row : (defScope s29).names.lookup ("is_row" : Str) = some .globalImplicit := by kernel_rfl
theorem b29 (L : Lf prog t mg fi) (hp : X.prog = prog) (h : Fs t ⟨k21_prog, call, wf, none⟩ N29 (defScope s29) mg W fi k X) : VSs t ⟨k21_prog, call, wf, none⟩ W X (defBody s29) k21_are_peaks :=
  (ss_cons (s_ret (r_and (r_callF h.toFc L.c_2 g29_is_row (r_cons (r_var h.toFe rfl (.inl g29_value)) r_nil rfl) rfl rfl) (r_and1 (r_biB h.toFe (c_all h.toFe.kk h.toFc.calm _ _) g29_all L.b_all (by decide +kernel) (r_cons (r_compB h.toFc [(("part" : Str), 1)] rfl ⟨rfl, (by decide +kernel), (by decide +kernel), (by decide +kernel), (by decide +kernel)⟩ (i_val h.toFe (r_var h.toFe rfl (.inl g29_value))) (fun xi14 X14 h14 e14 => ⟨(g_name h14.toFe rfl (.inl (by kernel_rfl)) (.inr (by kernel_rfl))), ts_nil, (r_callF h14 L.c_9 (by kernel_rfl) (r_cons (r_var h14.toFe rfl (.inl (by kernel_rfl))) r_nil rfl) rfl rfl)⟩) (by decide +kernel) (fun _ => rfl)) r_nil rfl) (by decide +kernel) (by decide +kernel) rfl rfl))))
  ss_nil)
theorem g30_int : (defScope s30).names.lookup ("int" : Str) = some .globalImplicit := by kernel_rfl
theorem g30_cell : (defScope s30).names.lookup ("cell" : Str) = some .local := by kernel_rfl
theorem g30_many : (defScope s30).names.lookup ("many" : Str) = some .local := by kernel_rfl
theorem g30_row : (defScope s30).names.lookup ("row" : Str) = some .local := by kernel_rfl
theorem g30_len : (defScope s30).names.lookup ("len" : Str) = some .globalImplicit := by kernel_rfl
theorem g30_found : (defScope s30).names.lookup ("found" : Str) = some .local := by kernel_rfl
theorem b30 (L : Lf prog t mg fi) (hp : X.prog = prog) (h : Fs t ⟨k21_prog, call, wf, none⟩ N30 (defScope s30) mg W fi k X) : VSs t ⟨k21_prog, call, wf, none⟩ W X (defBody s30) k21__law_taken :=
  (ss_cons (s_ite (t_cmp h.toFe .gt (r_idx h.toFe (r_var h.toFe rfl (.inl g30_row)) r_int (fun _ _ => rfl)) r_int rfl) (ss_cons (s_set h.toFe rfl (.inl g30_found) (.inr g30_found) (r_bin h.toFe .mod (r_biT h.toFe (c_int _ _) g30_int L.b_int (by decide +kernel) (r_cons (r_idx h.toFe (r_var h.toFe rfl (.inl g30_row)) r_int (fun _ _ => rfl)) r_nil rfl) (by decide +kernel) (by decide +kernel) rfl rfl) (r_var h.toFe rfl (.inl g30_many))) rfl)
  (ss_cons (s_setI (r_var h.toFe rfl (.inl g30_row)) r_int (r_bin h.toFe .fdiv (r_idx h.toFe (r_var h.toFe rfl (.inl g30_row)) r_int (fun _ _ => rfl)) (r_var h.toFe rfl (.inl g30_many))) rfl rfl rfl (fun _ => rfl))
  (ss_cons (s_ret (r_var h.toFe rfl (.inl g30_found)))
  ss_nil))) ss_nil)
  (ss_cons (s_setI (r_var h.toFe rfl (.inl g30_row)) r_int (r_bin h.toFe .add (r_idx h.toFe (r_var h.toFe rfl (.inl g30_row)) r_int (fun _ _ => rfl)) r_int) rfl rfl rfl (fun _ => rfl))
  (ss_cons (s_ite (t_cmp h.toFe .gt (r_idx h.toFe (r_var h.toFe rfl (.inl g30_row)) r_int (fun _ _ => rfl)) (r_biB h.toFe (c_len h.toFe.kk _ _) g30_len L.b_len (by decide +kernel) (r_cons (r_idx h.toFe (r_var h.toFe rfl (.inl g30_row)) r_int (fun _ _ => rfl)) r_nil rfl) (by decide +kernel) (by decide +kernel) rfl rfl) rfl) (ss_cons (s_setI (r_var h.toFe rfl (.inl g30_row)) r_int (r_bin h.toFe .mod (r_biT h.toFe (c_int _ _) g30_int L.b_int (by decide +kernel) (r_cons (r_bin h.toFe .add (r_bin h.toFe .mul (r_idx h.toFe (r_var h.toFe rfl (.inl g30_row)) r_int (fun _ _ => rfl)) r_int) r_int) r_nil rfl) (by decide +kernel) (by decide +kernel) rfl rfl) r_int) rfl rfl rfl (fun _ => rfl))
  (ss_cons (s_ret (r_bin h.toFe .mod (r_biT h.toFe (c_int _ _) g30_int L.b_int (by decide +kernel) (r_cons (r_bin h.toFe .fdiv (r_idx h.toFe (r_var h.toFe rfl (.inl g30_row)) r_int (fun _ _ => rfl)) r_int) r_nil rfl) (by decide +kernel) (by decide +kernel) rfl rfl) (r_var h.toFe rfl (.inl g30_many))))
  ss_nil)) ss_nil)
  (ss_cons (s_set h.toFe rfl (.inl g30_cell) (.inr g30_cell) (r_idx h.toFe (r_idx h.toFe (r_var h.toFe rfl (.inl g30_row)) r_int (fun _ _ => rfl)) (r_bin h.toFe .sub (r_idx h.toFe (r_var h.toFe rfl (.inl g30_row)) r_int (fun _ _ => rfl)) r_int) (fun _ _ => rfl)) rfl)
  (ss_cons (s_setI (r_var h.toFe rfl (.inl g30_row)) r_int (r_bin h.toFe .mod (r_biT h.toFe (c_int _ _) g30_int L.b_int (by decide +kernel) (r_cons (r_bin h.toFe .add (r_bin h.toFe .add (r_bin h.toFe .mul (r_idx h.toFe (r_var h.toFe rfl (.inl g30_row)) r_int (fun _ _ => rfl)) r_int) (r_var h.toFe rfl (.inl g30_cell))) r_int) r_nil rfl) (by decide +kernel) (by decide +kernel) rfl rfl) r_int) rfl rfl rfl (fun _ => rfl))
  (ss_cons (s_ite (t_cmp h.toFe .ge (r_var h.toFe rfl (.inl g30_cell)) (r_bin h.toFe .pow r_int r_int) rfl) (ss_cons (s_setI (r_var h.toFe rfl (.inl g30_row)) r_int (r_bin h.toFe .fdiv (r_var h.toFe rfl (.inl g30_cell)) (r_var h.toFe rfl (.inl g30_many))) rfl rfl rfl (fun _ => rfl))
  ss_nil) ss_nil)
  (ss_cons (s_ret (r_bin h.toFe .mod (r_biT h.toFe (c_int _ _) g30_int L.b_int (by decide +kernel) (r_cons (r_var h.toFe rfl (.inl g30_cell)) r_nil rfl) (by decide +kernel) (by decide +kernel) rfl rfl) (r_var h.toFe rfl (.inl g30_many))))
  ss_nil)))))))
theorem g31_kinds : (defScope s31).names.lookup ("kinds" : Str) = some .local := by kernel_rfl
theorem g31__law_taken : (defScope s31).names.lookup ("_law_taken" : Str) = some .globalImplicit := by kernel_rfl
theorem g31_len : (defScope s31).names.lookup ("len" : Str) = some .globalImplicit := by kernel_rfl
theorem g31_row : (defScope s31).names.lookup ("row" : Str) = some .local := by kernel_rfl
theorem b31 (L : Lf prog t mg fi) (hp : X.prog = prog) (h : Fs t ⟨k21_prog, call, wf, none⟩ N31 (defScope s31) mg W fi k X) : VSs t ⟨k21_prog, call, wf, none⟩ W X (defBody s31) k21__law_pick :=
  (ss_cons (s_ret (r_idx h.toFe (r_var h.toFe rfl (.inl g31_kinds)) (r_callF h.toFc L.c_30 g31__law_taken (r_cons (r_var h.toFe rfl (.inl g31_row)) (r_cons (r_biB h.toFe (c_len h.toFe.kk _ _) g31_len L.b_len (by decide +kernel) (r_cons (r_var h.toFe rfl (.inl g31_kinds)) r_nil rfl) (by decide +kernel) (by decide +kernel) rfl rfl) r_nil rfl) rfl) rfl rfl) (fun _ _ => rfl)))
  ss_nil)
theorem g32_found : (defScope s32).names.lookup ("found" : Str) = some .cell := by kernel_rfl
theorem g32_due : (defScope s32).names.lookup ("due" : Str) = some .cell := by kernel_rfl
theorem g32_isinstance : (defScope s32).names.lookup ("isinstance" : Str) = some .globalImplicit := by kernel_rfl
theorem g32_bool : (defScope s32).names.lookup ("bool" : Str) = some .globalImplicit := by kernel_rfl
theorem g32_int : (defScope s32).names.lookup ("int" : Str) = some .globalImplicit := by kernel_rfl
theorem g32_str : (defScope s32).names.lookup ("str" : Str) = some .globalImplicit := by kernel_rfl
theorem g32_list : (defScope s32).names.lookup ("list" : Str) = some .globalImplicit := by kernel_rfl
theorem g32_tuple : (defScope s32).names.lookup ("tuple" : Str) = some .globalImplicit := by kernel_rfl
theorem g32_range : (defScope s32).names.lookup ("range" : Str) = some .globalImplicit := by kernel_rfl
theorem g32_len : (defScope s32).names.lookup ("len" : Str) = some .globalImplicit := by kernel_rfl
theorem b32 (L : Lf prog t mg fi) (hp : X.prog = prog) (h : Fs t ⟨k21_prog, call, wf, none⟩ N32 (defScope s32) mg W fi k X) : VSs t ⟨k21_prog, call, wf, none⟩ W X (defBody s32) k21__law_alike :=
  (ss_cons (s_ite (t_val h.toFe (r_isiT h.toFe L.cf.xi g32_isinstance L.b_isinstance (r_var h.toFe rfl (.inr (.inl g32_due))) (pa_cs (p_ty h.toFe g32_tuple L.b_tuple (by decide +kernel) (by decide +kernel) (by decide +kernel)) (pa_cs (p_ty h.toFe g32_list L.b_list (by decide +kernel) (by decide +kernel) (by decide +kernel)) pa_cs0 rfl) rfl) (by decide) (nocls rfl) rfl rfl rfl) (fun _ => rfl)) (ss_cons (s_ite (t_w (w_or (t_not (t_val h.toFe (r_isiT h.toFe L.cf.xi g32_isinstance L.b_isinstance (r_var h.toFe rfl (.inr (.inl g32_found))) (pa_cs (p_ty h.toFe g32_tuple L.b_tuple (by decide +kernel) (by decide +kernel) (by decide +kernel)) (pa_cs (p_ty h.toFe g32_list L.b_list (by decide +kernel) (by decide +kernel) (by decide +kernel)) pa_cs0 rfl) rfl) (by decide) (nocls rfl) rfl rfl rfl) (fun _ => rfl))) (w_or1 (t_cmp h.toFe .ne (r_isi1 h.toFe L.cf.xi g32_isinstance L.b_isinstance (r_var h.toFe rfl (.inr (.inl g32_found))) (p_ty h.toFe g32_list L.b_list (by decide +kernel) (by decide +kernel) (by decide +kernel)) (nocl rfl) rfl rfl rfl) (r_isi1 h.toFe L.cf.xi g32_isinstance L.b_isinstance (r_var h.toFe rfl (.inr (.inl g32_due))) (p_ty h.toFe g32_list L.b_list (by decide +kernel) (by decide +kernel) (by decide +kernel)) (nocl rfl) rfl rfl rfl) rfl)))) (ss_cons (s_ret r_bl)
  ss_nil) ss_nil)
  (ss_cons (s_ite (t_cmp h.toFe .ne (r_biB h.toFe (c_len h.toFe.kk _ _) g32_len L.b_len (by decide +kernel) (r_cons (r_var h.toFe rfl (.inr (.inl g32_found))) r_nil rfl) (by decide +kernel) (by decide +kernel) rfl rfl) (r_biB h.toFe (c_len h.toFe.kk _ _) g32_len L.b_len (by decide +kernel) (r_cons (r_var h.toFe rfl (.inr (.inl g32_due))) r_nil rfl) (by decide +kernel) (by decide +kernel) rfl rfl) rfl) (ss_cons (s_ret r_bl)
  ss_nil) ss_nil)
  (ss_cons (s_ret (r_cmp h.toFe .eq (r_compB h.toFc [(("k" : Str), 2)] rfl ⟨rfl, (by decide +kernel), (by decide +kernel), (by decide +kernel), (by decide +kernel)⟩ (i_range1 h.toFe g32_range L.b_range (r_cons (r_biB h.toFe (c_len h.toFe.kk _ _) g32_len L.b_len (by decide +kernel) (r_cons (r_var h.toFe rfl (.inr (.inl g32_due))) r_nil rfl) (by decide +kernel) (by decide +kernel) rfl rfl) r_nil rfl) rfl) (fun xi16 X16 h16 e16 => ⟨(g_name h16.toFe rfl (.inl (by kernel_rfl)) (.inr (by kernel_rfl))), (ts_one (t_not (t_val h16.toFe (r_callF h16 L.c_32 (by kernel_rfl) (r_cons (r_idx h16.toFe (r_var h16.toFe rfl (.inr (.inl (by kernel_rfl)))) (r_var h16.toFe rfl (.inl (by kernel_rfl))) (fun _ _ => rfl)) (r_cons (r_idx h16.toFe (r_var h16.toFe rfl (.inr (.inl (by kernel_rfl)))) (r_var h16.toFe rfl (.inl (by kernel_rfl))) (fun _ _ => rfl)) r_nil rfl) rfl) rfl rfl) (fun _ => rfl)))), (r_var h16.toFe rfl (.inl (by kernel_rfl)))⟩) (by decide +kernel) (fun _ => rfl)) (r_lst r_nil (by decide)) rfl))
  ss_nil))) ss_nil)
  (ss_cons (s_ite (t_w (w_or (t_cmp h.toFe .isn (r_var h.toFe rfl (.inr (.inl g32_due))) r_non rfl) (w_or1 (t_val h.toFe (r_isi1 h.toFe L.cf.xi g32_isinstance L.b_isinstance (r_var h.toFe rfl (.inr (.inl g32_due))) (p_ty h.toFe g32_str L.b_str (by decide +kernel) (by decide +kernel) (by decide +kernel)) (nocl rfl) rfl rfl rfl) (fun _ => rfl))))) (ss_cons (s_ret (r_and (r_cmp h.toFe .eq (r_var h.toFe rfl (.inr (.inl g32_found))) (r_var h.toFe rfl (.inr (.inl g32_due))) rfl) (r_and1 (r_cmp h.toFe .eq (r_isi1 h.toFe L.cf.xi g32_isinstance L.b_isinstance (r_var h.toFe rfl (.inr (.inl g32_found))) (p_ty h.toFe g32_str L.b_str (by decide +kernel) (by decide +kernel) (by decide +kernel)) (nocl rfl) rfl rfl rfl) (r_isi1 h.toFe L.cf.xi g32_isinstance L.b_isinstance (r_var h.toFe rfl (.inr (.inl g32_due))) (p_ty h.toFe g32_str L.b_str (by decide +kernel) (by decide +kernel) (by decide +kernel)) (nocl rfl) rfl rfl rfl) rfl))))
  ss_nil) ss_nil)
  (ss_cons (s_ret (r_and (r_isi1 h.toFe L.cf.xi g32_isinstance L.b_isinstance (r_var h.toFe rfl (.inr (.inl g32_found))) (p_ty h.toFe g32_int L.b_int (by decide +kernel) (by decide +kernel) (by decide +kernel)) (nocl rfl) rfl rfl rfl) (r_and (r_cmp h.toFe .eq (r_isi1 h.toFe L.cf.xi g32_isinstance L.b_isinstance (r_var h.toFe rfl (.inr (.inl g32_found))) (p_ty h.toFe g32_bool L.b_bool (by decide +kernel) (by decide +kernel) (by decide +kernel)) (nocl rfl) rfl rfl rfl) (r_isi1 h.toFe L.cf.xi g32_isinstance L.b_isinstance (r_var h.toFe rfl (.inr (.inl g32_due))) (p_ty h.toFe g32_bool L.b_bool (by decide +kernel) (by decide +kernel) (by decide +kernel)) (nocl rfl) rfl rfl rfl) rfl) (r_and1 (r_cmp h.toFe .eq (r_var h.toFe rfl (.inr (.inl g32_found))) (r_var h.toFe rfl (.inr (.inl g32_due))) rfl)))))
  ss_nil)))
theorem g33_tuple : (defScope s33).names.lookup ("tuple" : Str) = some .globalImplicit := by kernel_rfl
theorem g33_value : (defScope s33).names.lookup ("value" : Str) = some .local := by kernel_rfl
theorem g33__law_taken : (defScope s33).names.lookup ("_law_taken" : Str) = some .globalImplicit := by kernel_rfl
theorem g33_row : (defScope s33).names.lookup ("row" : Str) = some .local := by kernel_rfl
theorem g33_list : (defScope s33).names.lookup ("list" : Str) = some .globalImplicit := by kernel_rfl
theorem b33 (L : Lf prog t mg fi) (hp : X.prog = prog) (h : Fs t ⟨k21_prog, call, wf, none⟩ N33 (defScope s33) mg W fi k X) : VSs t ⟨k21_prog, call, wf, none⟩ W X (defBody s33) k21__law_mixed :=
  (ss_cons (s_ite (t_cmp h.toFe .eq (r_callF h.toFc L.c_30 g33__law_taken (r_cons (r_var h.toFe rfl (.inl g33_row)) (r_cons r_int r_nil rfl) rfl) rfl rfl) r_int rfl) (ss_cons (s_ret (r_biT h.toFe (c_list h.toFe.kk _ _) g33_list L.b_list (by decide +kernel) (r_cons (r_var h.toFe rfl (.inl g33_value)) r_nil rfl) (by decide +kernel) (by decide +kernel) rfl rfl))
  ss_nil) ss_nil)
  (ss_cons (s_ret (r_biT h.toFe (c_tuple h.toFe.kk _ _) g33_tuple L.b_tuple (by decide +kernel) (r_cons (r_var h.toFe rfl (.inl g33_value)) r_nil rfl) (by decide +kernel) (by decide +kernel) rfl rfl))
  ss_nil))
theorem g34_found : (defScope s34).names.lookup ("found" : Str) = some .local := by kernel_rfl
theorem g34_range : (defScope s34).names.lookup ("range" : Str) = some .globalImplicit := by kernel_rfl
theorem g34_firsts : (defScope s34).names.lookup ("firsts" : Str) = some .local := by kernel_rfl
theorem g34_one : (defScope s34).names.lookup ("one" : Str) = some .cell := by kernel_rfl
theorem g34_seconds : (defScope s34).names.lookup ("seconds" : Str) = some .local := by kernel_rfl
theorem b34 (L : Lf prog t mg fi) (hp : X.prog = prog) (h : Fs t ⟨k21_prog, call, wf, none⟩ N34 (defScope s34) mg W fi k X) : VSs t ⟨k21_prog, call, wf, none⟩ W X (defBody s34) k21__law_pairs :=
  (ss_cons (s_set h.toFe rfl (.inl g34_found) (.inr g34_found) (r_lst r_nil (by decide)) rfl)
  (ss_cons (s_for h.toFe h.own h.toFc.calm (i_range1 h.toFe g34_range L.b_range (r_cons (r_var h.toFe rfl (.inl g34_firsts)) r_nil rfl) rfl) (g_name h.toFe rfl (.inr g34_one) (.inl (by rw [h.fna]))) (ss_cons (s_set h.toFe rfl (.inl g34_found) (.inr g34_found) (r_bin h.toFe .add (r_var h.toFe rfl (.inl g34_found)) (r_compB h.toFc [(("two" : Str), 4)] rfl ⟨rfl, (by decide +kernel), (by decide +kernel), (by decide +kernel), (by decide +kernel)⟩ (i_range1 h.toFe g34_range L.b_range (r_cons (r_var h.toFe rfl (.inl g34_seconds)) r_nil rfl) rfl) (fun xi18 X18 h18 e18 => ⟨(g_name h18.toFe rfl (.inl (by kernel_rfl)) (.inr (by kernel_rfl))), ts_nil, (r_tup (r_cons (r_var h18.toFe rfl (.inr (.inl (by kernel_rfl)))) (r_cons (r_var h18.toFe rfl (.inl (by kernel_rfl))) r_nil rfl) rfl) (by decide))⟩) (by decide +kernel) (fun _ => rfl))) rfl)
  ss_nil) (fun _ => rfl))
  (ss_cons (s_ret (r_var h.toFe rfl (.inl g34_found)))
  ss_nil)))
theorem g35_bottom : (defScope s35).names.lookup ("bottom" : Str) = some .local := by kernel_rfl
theorem g35_other : (defScope s35).names.lookup ("other" : Str) = some .local := by kernel_rfl
theorem g35_top : (defScope s35).names.lookup ("top" : Str) = some .local := by kernel_rfl
theorem g35_one : (defScope s35).names.lookup ("one" : Str) = some .local := by kernel_rfl
theorem b35 (L : Lf prog t mg fi) (hp : X.prog = prog) (h : Fs t ⟨k21_prog, call, wf, none⟩ N35 (defScope s35) mg W fi k X) : VSs t ⟨k21_prog, call, wf, none⟩ W X (defBody s35) k21__law_low3 :=
  (ss_cons (s_par2B h.toFe h.toFc.calm rfl rfl (by decide) g35_one g35_other (r_cons (r_var h.toFe rfl (.inl g35_top)) (r_cons (r_var h.toFe rfl (.inl g35_bottom)) r_nil rfl) rfl) rfl rfl)
  (ss_cons (s_whl h.own (t_cmp h.toFe .ne (r_bin h.toFe .mod (r_var h.toFe rfl (.inl g35_one)) (r_var h.toFe rfl (.inl g35_other))) r_int rfl) (ss_cons (s_par2B h.toFe h.toFc.calm rfl rfl (by decide) g35_one g35_other (r_cons (r_var h.toFe rfl (.inl g35_other)) (r_cons (r_bin h.toFe .mod (r_var h.toFe rfl (.inl g35_one)) (r_var h.toFe rfl (.inl g35_other))) r_nil rfl) rfl) rfl rfl)
  ss_nil))
  (ss_cons (s_ret (r_tup (r_cons (r_bin h.toFe .fdiv (r_var h.toFe rfl (.inl g35_top)) (r_var h.toFe rfl (.inl g35_other))) (r_cons (r_bin h.toFe .fdiv (r_var h.toFe rfl (.inl g35_bottom)) (r_var h.toFe rfl (.inl g35_other))) r_nil rfl) rfl) (by decide)))
  ss_nil)))
theorem g36_are_peaks : (defScope s36).names.lookup ("are_peaks" : Str) = some .globalImplicit := by kernel_rfl
theorem g36_many : (defScope s36).names.lookup ("many" : Str) = some .local := by kernel_rfl
theorem g36_peaks : (defScope s36).names.lookup ("peaks" : Str) = some .local := by kernel_rfl
theorem g36_bad : (defScope s36).names.lookup ("bad" : Str) = some .local := by kernel_rfl
theorem g36_due : (defScope s36).names.lookup ("due" : Str) = some .local := by kernel_rfl
theorem g36_value : (defScope s36).names.lookup ("value" : Str) = some .local := by kernel_rfl
theorem g36_Record : (defScope s36).names.lookup ("Record" : Str) = some .globalImplicit := by kernel_rfl
theorem g36_e : (defScope s36).names.lookup ("e" : Str) = some .local := by kernel_rfl
theorem g36_TooMany : (defScope s36).names.lookup ("TooMany" : Str) = some .globalImplicit := by kernel_rfl
theorem g36_BadItem : (defScope s36).names.lookup ("BadItem" : Str) = some .globalImplicit := by kernel_rfl
theorem g36__law_pick : (defScope s36).names.lookup ("_law_pick" : Str) = some .globalImplicit := by kernel_rfl
theorem g36_row : (defScope s36).names.lookup ("row" : Str) = some .local := by kernel_rfl
theorem g36_made : (defScope s36).names.lookup ("made" : Str) = some .local := by kernel_rfl
theorem g36_repr : (defScope s36).names.lookup ("repr" : Str) = some .globalImplicit := by kernel_rfl
theorem g36_len : (defScope s36).names.lookup ("len" : Str) = some .globalImplicit := by kernel_rfl
theorem b36 (L : Lf prog t mg fi) (hp : X.prog = prog) (h : Fs t ⟨k21_prog, call, wf, none⟩ N36 (defScope s36) mg W fi k X) : VSs t ⟨k21_prog, call, wf, none⟩ W X (defBody s36) k21__law_refused :=
  (ss_cons (s_set h.toFe rfl (.inl g36_many) (.inr g36_many) (r_biB h.toFe (c_len h.toFe.kk _ _) g36_len L.b_len (by decide +kernel) (r_cons (r_var h.toFe rfl (.inl g36_peaks)) r_nil rfl) (by decide +kernel) (by decide +kernel) rfl rfl) rfl)
  (ss_cons (s_for h.toFe h.own h.toFc.calm (i_val h.toFe (r_lst (r_cons r_int (r_cons (r_bin h.toFe .add (r_var h.toFe rfl (.inl g36_many)) r_int) (r_cons r_bl (r_cons r_non r_nil rfl) rfl) rfl) rfl) (by decide))) (g_name h.toFe rfl (.inl g36_value) (.inr g36_value)) (ss_cons (s_triB h L.em (fun W1 X1 hp h22 => (ss_cons (s_exp (r_meth h22.toFc L.cf.xi L.mf L.n_4 (r_var h22.toFe rfl (.inl g36_made)) (r_cons (r_var h22.toFe rfl (.inl g36_value)) r_nil rfl) rfl rfl rfl) rfl)
  (ss_cons (s_ret r_bl)
  ss_nil))) (hk_named h L.xg_1 g36_BadItem (by decide +kernel) rfl g36_e (by exact Nat.le_of_ble_eq_true rfl) (fun x23 c23 d23 a23 oe23 pn23 z23 f23 h23 => (ss_cons (s_ite (r_repne h23 g36_repr L.b_repr (r_exf (cu := ⟨x23, c23, d23, 6, a23⟩) h.toFe L.xa rfl (.inl g36_e) (by decide +kernel) L.n_5 z23 f23 rfl) (r_var h23 rfl (.inl g36_value)) rfl rfl) (ss_cons (s_ret r_bl)
  ss_nil) ss_nil)
  ss_nil)) hk_nil))
  ss_nil) (fun _ => rfl))
  (ss_cons (s_set h.toFe rfl (.inl g36_bad) (.inr g36_bad) (r_callF h.toFc L.c_31 g36__law_pick (r_cons (r_var h.toFe rfl (.inl g36_row)) (r_cons (r_lst (r_cons (r_neg r_int) (r_cons r_int (r_cons r_bl (r_cons r_non (r_cons (r_str (by decide +kernel) (by decide +kernel)) r_nil rfl) rfl) rfl) rfl) rfl) (by decide)) r_nil rfl) rfl) rfl rfl) rfl)
  (ss_cons (s_for h.toFe h.own h.toFc.calm (i_val h.toFe (r_lst (r_cons (r_tup (r_cons (r_bin h.toFe .add (r_var h.toFe rfl (.inl g36_peaks)) (r_tup (r_cons (r_var h.toFe rfl (.inl g36_bad)) r_nil rfl) (by decide))) (r_cons (r_tup (r_cons (r_str (by decide +kernel) (by decide +kernel)) (r_cons (r_var h.toFe rfl (.inl g36_many)) r_nil rfl) rfl) (by decide)) r_nil rfl) rfl) (by decide)) (r_cons (r_tup (r_cons (r_tup r_nil (by decide)) (r_cons (r_tup (r_cons (r_str (by decide +kernel) (by decide +kernel)) (r_cons r_non r_nil rfl) rfl) (by decide)) r_nil rfl) rfl) (by decide)) (r_cons (r_tup (r_cons r_non (r_cons (r_tup (r_cons (r_str (by decide +kernel) (by decide +kernel)) (r_cons r_non r_nil rfl) rfl) (by decide)) r_nil rfl) rfl) (by decide)) (r_cons (r_tup (r_cons (r_bin h.toFe .mul (r_tup (r_cons r_int r_nil rfl) (by decide)) r_int) (r_cons (r_tup (r_cons (r_str (by decide +kernel) (by decide +kernel)) (r_cons r_int r_nil rfl) rfl) (by decide)) r_nil rfl) rfl) (by decide)) r_nil rfl) rfl) rfl) rfl) (by decide))) (g_tup h.toFc.calm h.toFe.kk (gs_cons (g_name h.toFe rfl (.inl g36_value) (.inr g36_value)) (gs_cons (g_name h.toFe rfl (.inl g36_due) (.inr g36_due)) gs_nil rfl) rfl) (n := 0) rfl rfl) (ss_cons (s_triB h L.em (fun W1 X1 hp h19 => (ss_cons (s_exp (r_mkF h19.toFc L.cf.xi L.k_0.xi g36_Record (by decide +kernel) (r_cons (r_var h19.toFe rfl (.inl g36_value)) r_nil rfl) rfl rfl) rfl)
  (ss_cons (s_ret r_bl)
  ss_nil))) (hk_named h L.xg_1 g36_BadItem (by decide +kernel) rfl g36_e (by exact Nat.le_of_ble_eq_true rfl) (fun x21 c21 d21 a21 oe21 pn21 z21 f21 h21 => (ss_cons (s_ite (t_cmp h21 .ne (r_tup (r_cons (r_str (by decide +kernel) (by decide +kernel)) (r_cons (r_exf (cu := ⟨x21, c21, d21, 6, a21⟩) h.toFe L.xa rfl (.inl g36_e) (by decide +kernel) L.n_5 z21 f21 rfl) r_nil rfl) rfl) (by decide)) (r_var h21 rfl (.inl g36_due)) rfl) (ss_cons (s_ret r_bl)
  ss_nil) ss_nil)
  ss_nil)) (hk_named h L.xg_2 g36_TooMany (by decide +kernel) rfl g36_e (by exact Nat.le_of_ble_eq_true rfl) (fun x20 c20 d20 a20 oe20 pn20 z20 f20 h20 => (ss_cons (s_ite (t_cmp h20 .ne (r_tup (r_cons (r_str (by decide +kernel) (by decide +kernel)) (r_cons (r_exf (cu := ⟨x20, c20, d20, 6, a20⟩) h.toFe L.xa rfl (.inl g36_e) (by decide +kernel) L.n_6 z20 f20 rfl) r_nil rfl) rfl) (by decide)) (r_var h20 rfl (.inl g36_due)) rfl) (ss_cons (s_ret r_bl)
  ss_nil) ss_nil)
  ss_nil)) hk_nil)))
  ss_nil) (fun _ => rfl))
  (ss_cons (s_ret (r_and (r_callF h.toFc L.c_29 g36_are_peaks (r_cons (r_lst (r_cons r_int (r_cons r_int r_nil rfl) rfl) (by decide)) r_nil rfl) rfl rfl) (r_and (r_callF h.toFc L.c_29 g36_are_peaks (r_cons (r_tup r_nil (by decide)) r_nil rfl) rfl rfl) (r_and (r_not (r_callF h.toFc L.c_29 g36_are_peaks (r_cons (r_tup (r_cons r_int r_nil rfl) (by decide)) r_nil rfl) rfl rfl)) (r_and1 (r_not (r_callF h.toFc L.c_29 g36_are_peaks (r_cons r_non r_nil rfl) rfl rfl)))))))
  ss_nil)))))
theorem g37__law_refused : (defScope s37).names.lookup ("_law_refused" : Str) = some .globalImplicit := by kernel_rfl
theorem g37_peaks : (defScope s37).names.lookup ("peaks" : Str) = some .cell := by kernel_rfl
theorem g37_made : (defScope s37).names.lookup ("made" : Str) = some .local := by kernel_rfl
theorem g37_row : (defScope s37).names.lookup ("row" : Str) = some .cell := by kernel_rfl
theorem g37__law_alike : (defScope s37).names.lookup ("_law_alike" : Str) = some .globalImplicit := by kernel_rfl
theorem g37_tuple : (defScope s37).names.lookup ("tuple" : Str) = some .globalImplicit := by kernel_rfl
theorem g37_range : (defScope s37).names.lookup ("range" : Str) = some .globalImplicit := by kernel_rfl
theorem g37_max : (defScope s37).names.lookup ("max" : Str) = some .globalImplicit := by kernel_rfl
theorem g37_many : (defScope s37).names.lookup ("many" : Str) = some .cell := by kernel_rfl
theorem g37_wide : (defScope s37).names.lookup ("wide" : Str) = some .cell := by kernel_rfl
theorem g37_smoothed : (defScope s37).names.lookup ("smoothed" : Str) = some .globalImplicit := by kernel_rfl
theorem g37__law_taken : (defScope s37).names.lookup ("_law_taken" : Str) = some .globalImplicit := by kernel_rfl
theorem g37_last : (defScope s37).names.lookup ("last" : Str) = some .local := by kernel_rfl
theorem g37_Record : (defScope s37).names.lookup ("Record" : Str) = some .globalImplicit := by kernel_rfl
theorem g37_min : (defScope s37).names.lookup ("min" : Str) = some .globalImplicit := by kernel_rfl
theorem g37_costs : (defScope s37).names.lookup ("costs" : Str) = some .cell := by kernel_rfl
theorem g37_price : (defScope s37).names.lookup ("price" : Str) = some .cell := by kernel_rfl
theorem g37_level : (defScope s37).names.lookup ("level" : Str) = some .local := by kernel_rfl
theorem g37_harm : (defScope s37).names.lookup ("harm" : Str) = some .cell := by kernel_rfl
theorem g37_above : (defScope s37).names.lookup ("above" : Str) = some .cell := by kernel_rfl
theorem g37_sorted : (defScope s37).names.lookup ("sorted" : Str) = some .globalImplicit := by kernel_rfl
theorem g37_set : (defScope s37).names.lookup ("set" : Str) = some .globalImplicit := by kernel_rfl
theorem g37_rising : (defScope s37).names.lookup ("rising" : Str) = some .local := by kernel_rfl
theorem g37__law_low3 : (defScope s37).names.lookup ("_law_low3" : Str) = some .globalImplicit := by kernel_rfl
theorem g37_sum : (defScope s37).names.lookup ("sum" : Str) = some .globalImplicit := by kernel_rfl
theorem g37_records : (defScope s37).names.lookup ("records" : Str) = some .local := by kernel_rfl
theorem g37_len : (defScope s37).names.lookup ("len" : Str) = some .globalImplicit := by kernel_rfl
theorem g37_pairs : (defScope s37).names.lookup ("pairs" : Str) = some .local := by kernel_rfl
theorem g37__law_pairs : (defScope s37).names.lookup ("_law_pairs" : Str) = some .globalImplicit := by kernel_rfl
theorem g37_held : (defScope s37).names.lookup ("held" : Str) = some .local := by kernel_rfl
theorem g37_least : (defScope s37).names.lookup ("least" : Str) = some .local := by kernel_rfl
theorem g37_year : (defScope s37).names.lookup ("year" : Str) = some .local := by kernel_rfl
theorem g37_top : (defScope s37).names.lookup ("top" : Str) = some .local := by kernel_rfl
theorem g37_bottom : (defScope s37).names.lookup ("bottom" : Str) = some .local := by kernel_rfl
theorem g37_years : (defScope s37).names.lookup ("years" : Str) = some .local := by kernel_rfl
theorem g37_good : (defScope s37).names.lookup ("good" : Str) = some .local := by kernel_rfl
theorem g37_chance : (defScope s37).names.lookup ("chance" : Str) = some .cell := by kernel_rfl
theorem g37_runs : (defScope s37).names.lookup ("runs" : Str) = some .local := by kernel_rfl
theorem g37_peak : (defScope s37).names.lookup ("peak" : Str) = some .local := by kernel_rfl
theorem g37_here : (defScope s37).names.lookup ("here" : Str) = some .local := by kernel_rfl
theorem g37_int : (defScope s37).names.lookup ("int" : Str) = some .globalImplicit := by kernel_rfl
theorem g37__law_mixed : (defScope s37).names.lookup ("_law_mixed" : Str) = some .globalImplicit := by kernel_rfl
theorem g37_list : (defScope s37).names.lookup ("list" : Str) = some .globalImplicit := by kernel_rfl
theorem g37_script : (defScope s37).names.lookup ("script" : Str) = some .local := by kernel_rfl
theorem b37 (L : Lf prog t mg fi) (hp : X.prog = prog) (h : Fs t ⟨k21_prog, call, wf, none⟩ N37 (defScope s37) mg W fi k X) : VSs t ⟨k21_prog, call, wf, none⟩ W X (defBody s37) k21_law :=
  (ss_cons (s_set h.toFe rfl (.inr g37_row) (.inl (by rw [h.fna])) (r_lst (r_cons (r_var h.toFe rfl (.inl g37_script)) (r_cons r_int (r_cons r_int (r_cons r_int r_nil rfl) rfl) rfl) rfl) (by decide)) rfl)
  (ss_cons (s_set h.toFe rfl (.inr g37_peaks) (.inl (by rw [h.fna])) (r_biT h.toFe (c_tuple h.toFe.kk _ _) g37_tuple L.b_tuple (by decide +kernel) (r_cons (r_compB h.toFc [(("k" : Str), 26)] rfl ⟨rfl, (by decide +kernel), (by decide +kernel), (by decide +kernel), (by decide +kernel)⟩ (i_range1 h.toFe g37_range L.b_range (r_cons (r_bin h.toFe .add r_int (r_callF h.toFc L.c_30 g37__law_taken (r_cons (r_var h.toFe rfl (.inr (.inl g37_row))) (r_cons r_int r_nil rfl) rfl) rfl rfl)) r_nil rfl) rfl) (fun xi43 X43 h43 e43 => ⟨(g_name h43.toFe rfl (.inl (by kernel_rfl)) (.inr (by kernel_rfl))), ts_nil, (r_callF h43 L.c_30 (by kernel_rfl) (r_cons (r_var h43.toFe rfl (.inr (.inl (by kernel_rfl)))) (r_cons r_int r_nil rfl) rfl) rfl rfl)⟩) (by decide +kernel) (fun _ => rfl)) r_nil rfl) (by decide +kernel) (by decide +kernel) rfl rfl) rfl)
  (ss_cons (s_asgB h.toFe (r_tup (r_cons (r_mkF h.toFc L.cf.xi L.k_0.xi g37_Record (by decide +kernel) (r_cons (r_callF h.toFc L.c_33 g37__law_mixed (r_cons (r_var h.toFe rfl (.inr (.inl g37_row))) (r_cons (r_biT h.toFe (c_list h.toFe.kk _ _) g37_list L.b_list (by decide +kernel) (r_cons (r_var h.toFe rfl (.inr (.inl g37_peaks))) r_nil rfl) (by decide +kernel) (by decide +kernel) rfl rfl) r_nil rfl) rfl) rfl rfl) r_nil rfl) rfl rfl) (r_cons (r_biB h.toFe (c_len h.toFe.kk _ _) g37_len L.b_len (by decide +kernel) (r_cons (r_var h.toFe rfl (.inr (.inl g37_peaks))) r_nil rfl) (by decide +kernel) (by decide +kernel) rfl rfl) r_nil rfl) rfl) (by decide)) (g_tup h.toFc.calm h.toFe.kk (gs_cons (g_name h.toFe rfl (.inl g37_made) (.inr g37_made)) (gs_cons (g_name h.toFe rfl (.inr g37_many) (.inl (by rw [h.fna]))) gs_nil rfl) rfl) (n := 0) rfl rfl) rfl rfl rfl)
  (ss_cons (s_ite (t_w (w_or (t_not (t_val h.toFe (r_callF h.toFc L.c_32 g37__law_alike (r_cons (r_tup (r_cons (r_fld h.toFe L.cf.xi L.n_0 (r_var h.toFe rfl (.inl g37_made)) rfl) (r_cons (r_leno h.toFc L.cf.xi L.ef g37_len L.b_len (r_var h.toFe rfl (.inl g37_made)) rfl) (r_cons (r_meth0 h.toFc L.cf.xi L.mf L.n_7 (r_var h.toFe rfl (.inl g37_made)) rfl) r_nil rfl) rfl) rfl) (by decide)) (r_cons (r_tup (r_cons (r_var h.toFe rfl (.inr (.inl g37_peaks))) (r_cons (r_var h.toFe rfl (.inr (.inl g37_many))) (r_cons (r_biT h.toFe (c_tuple h.toFe.kk _ _) g37_tuple L.b_tuple (by decide +kernel) (r_cons (r_rev h.toFe (r_biB h.toFe (c_sorted h.toFe.kk h.toFe.un _) g37_sorted L.b_sorted (by decide +kernel) (r_cons (r_var h.toFe rfl (.inr (.inl g37_peaks))) r_nil rfl) (by decide +kernel) (by decide +kernel) rfl rfl)) r_nil rfl) (by decide +kernel) (by decide +kernel) rfl rfl) r_nil rfl) rfl) rfl) (by decide)) r_nil rfl) rfl) rfl rfl) (fun _ => rfl))) (w_or (t_cmpo h.toFc L.cf.xi L.ef .ne (r_var h.toFe rfl (.inl g37_made)) (r_mkF h.toFc L.cf.xi L.k_0.xi g37_Record (by decide +kernel) (r_cons (r_var h.toFe rfl (.inr (.inl g37_peaks))) r_nil rfl) rfl rfl) rfl) (w_or1 (t_cmpo h.toFc L.cf.xi L.ef .eq (r_var h.toFe rfl (.inl g37_made)) (r_var h.toFe rfl (.inr (.inl g37_peaks))) rfl))))) (ss_cons (s_ret r_bl)
  ss_nil) ss_nil)
  (ss_cons (s_asgB h.toFe (r_compB h.toFc [(("level" : Str), 4)] rfl ⟨rfl, (by decide +kernel), (by decide +kernel), (by decide +kernel), (by decide +kernel)⟩ (i_range1 h.toFe g37_range L.b_range (r_cons r_int r_nil rfl) rfl) (fun xi39 X39 h39 e39 => ⟨(g_name h39.toFe rfl (.inr (by kernel_rfl)) (.inl (by rw [e39]; kernel_rfl))), ts_nil, (r_biB h39.toFe (c_len h39.toFe.kk _ _) (by kernel_rfl) L.b_len (by decide +kernel) (r_cons (r_compB h39 [(("peak" : Str), 17)] rfl ⟨rfl, (by decide +kernel), (by decide +kernel), (by decide +kernel), (by decide +kernel)⟩ (i_val h39.toFe (r_var h39.toFe rfl (.inr (.inl (by kernel_rfl))))) (fun xi41 X41 h41 e41 => ⟨(g_name h41.toFe rfl (.inl (by kernel_rfl)) (.inr (by kernel_rfl))), (ts_one (t_cmp h41.toFe .gt (r_var h41.toFe rfl (.inl (by kernel_rfl))) (r_var h41.toFe rfl (.inr (.inl (by kernel_rfl)))) rfl)), (r_var h41.toFe rfl (.inl (by kernel_rfl)))⟩) (by decide +kernel) (fun _ => rfl)) r_nil rfl) (by decide +kernel) (by decide +kernel) rfl rfl)⟩) (by decide +kernel) (fun _ => rfl)) (g_name h.toFe rfl (.inr g37_above) (.inl (by rw [h.fna]))) rfl rfl rfl)
  (ss_cons (s_for h.toFe h.own h.toFc.calm (i_range1 h.toFe g37_range L.b_range (r_cons r_int r_nil rfl) rfl) (g_name h.toFe rfl (.inl g37_level) (.inr g37_level)) (ss_cons (s_ite (t_not (t_val h.toFe (r_callF h.toFc L.c_32 g37__law_alike (r_cons (r_tup (r_cons (r_meth h.toFc L.cf.xi L.mf L.n_1 (r_var h.toFe rfl (.inl g37_made)) (r_cons (r_var h.toFe rfl (.inl g37_level)) r_nil rfl) rfl rfl rfl) (r_cons (r_meth h.toFc L.cf.xi L.mf L.n_2 (r_var h.toFe rfl (.inl g37_made)) (r_cons (r_var h.toFe rfl (.inl g37_level)) r_nil rfl) rfl rfl rfl) (r_cons (r_meth h.toFc L.cf.xi L.mf L.n_8 (r_var h.toFe rfl (.inl g37_made)) (r_cons (r_var h.toFe rfl (.inl g37_level)) r_nil rfl) rfl rfl rfl) r_nil rfl) rfl) rfl) (by decide)) (r_cons (r_tup (r_cons (r_idx h.toFe (r_var h.toFe rfl (.inr (.inl g37_above))) (r_var h.toFe rfl (.inl g37_level)) (fun _ _ => rfl)) (r_cons (r_callF h.toFc L.c_35 g37__law_low3 (r_cons (r_idx h.toFe (r_var h.toFe rfl (.inr (.inl g37_above))) (r_var h.toFe rfl (.inl g37_level)) (fun _ _ => rfl)) (r_cons (r_var h.toFe rfl (.inr (.inl g37_many))) r_nil rfl) rfl) rfl rfl) (r_cons (r_callF h.toFc L.c_35 g37__law_low3 (r_cons (r_bin h.toFe .add (r_idx h.toFe (r_var h.toFe rfl (.inr (.inl g37_above))) (r_var h.toFe rfl (.inl g37_level)) (fun _ _ => rfl)) r_int) (r_cons (r_bin h.toFe .add (r_var h.toFe rfl (.inr (.inl g37_many))) r_int) r_nil rfl) rfl) rfl rfl) r_nil rfl) rfl) rfl) (by decide)) r_nil rfl) rfl) rfl rfl) (fun _ => rfl))) (ss_cons (s_ret r_bl)
  ss_nil) ss_nil)
  (ss_cons (s_par2B h.toFe h.toFc.calm rfl rfl (by decide) g37_runs g37_here (r_cons (r_lst (r_cons r_int r_nil rfl) (by decide)) (r_cons r_int r_nil rfl) rfl) rfl rfl)
  (ss_cons (s_for h.toFe h.own h.toFc.calm (i_val h.toFe (r_var h.toFe rfl (.inr (.inl g37_peaks)))) (g_name h.toFe rfl (.inl g37_peak) (.inr g37_peak)) (ss_cons (s_set h.toFe rfl (.inl g37_here) (.inr g37_here) (r_bin h.toFe .mul (r_bin h.toFe .add (r_var h.toFe rfl (.inl g37_here)) r_int) (r_biT h.toFe (c_int _ _) g37_int L.b_int (by decide +kernel) (r_cons (r_cmp h.toFe .le (r_var h.toFe rfl (.inl g37_peak)) (r_var h.toFe rfl (.inl g37_level)) rfl) r_nil rfl) (by decide +kernel) (by decide +kernel) rfl rfl)) rfl)
  (ss_cons (s_exp (r_bm h.toFe (m := .append) (f := bAppend) (fun _ _ _ => rfl) bAppend_nox PySem.F.slot_list_append PySem.F.type_list_append m_append (r_var h.toFe rfl (.inl g37_runs)) (r_cons (r_var h.toFe rfl (.inl g37_here)) r_nil rfl) rfl rfl rfl rfl rfl) rfl)
  ss_nil)) (fun _ => rfl))
  (ss_cons (s_ite (t_not (t_val h.toFe (r_callF h.toFc L.c_32 g37__law_alike (r_cons (r_meth h.toFc L.cf.xi L.mf L.n_9 (r_var h.toFe rfl (.inl g37_made)) (r_cons (r_var h.toFe rfl (.inl g37_level)) r_nil rfl) rfl rfl rfl) (r_cons (r_biB h.toFe (c_max1 h.toFe.kk h.toFe.un h.toFc.calm _ _) g37_max L.b_max (by decide +kernel) (r_cons (r_var h.toFe rfl (.inl g37_runs)) r_nil rfl) (by decide +kernel) (by decide +kernel) rfl rfl) r_nil rfl) rfl) rfl rfl) (fun _ => rfl))) (ss_cons (s_ret r_bl)
  ss_nil) ss_nil)
  ss_nil)))) (fun _ => rfl))
  (ss_cons (s_set h.toFe rfl (.inr g37_chance) (.inl (by rw [h.fna])) (r_callF h.toFc L.c_35 g37__law_low3 (r_cons (r_callF h.toFc L.c_30 g37__law_taken (r_cons (r_var h.toFe rfl (.inr (.inl g37_row))) (r_cons r_int r_nil rfl) rfl) rfl rfl) (r_cons (r_bin h.toFe .add r_int (r_callF h.toFc L.c_30 g37__law_taken (r_cons (r_var h.toFe rfl (.inr (.inl g37_row))) (r_cons r_int r_nil rfl) rfl) rfl rfl)) r_nil rfl) rfl) rfl rfl) rfl)
  (ss_cons (s_setB h.toFc [(("level" : Str), 4)] rfl rfl g37_good rfl ⟨rfl, (by decide +kernel), (by decide +kernel), (by decide +kernel), (by decide +kernel)⟩ (i_val h.toFe (r_sset h.toFc g37_sorted L.b_sorted g37_set L.b_set (r_bin h.toFe .add (r_tup (r_cons r_int r_nil rfl) (by decide)) (r_var h.toFe rfl (.inr (.inl g37_peaks)))) rfl rfl)) (fun xi37 X37 h37 e37 => ⟨(g_name h37.toFe rfl (.inl (by kernel_rfl)) (.inr (by kernel_rfl))), (ts_one (t_cmp h37.toFe .le (r_bin h37.toFe .mul (r_idx h37.toFe (r_var h37.toFe rfl (.inr (.inl (by kernel_rfl)))) (r_var h37.toFe rfl (.inl (by kernel_rfl))) (fun _ _ => rfl)) (r_idx h37.toFe (r_var h37.toFe rfl (.inr (.inl (by kernel_rfl)))) r_int (fun _ _ => rfl))) (r_bin h37.toFe .mul (r_idx h37.toFe (r_var h37.toFe rfl (.inr (.inl (by kernel_rfl)))) r_int (fun _ _ => rfl)) (r_var h37.toFe rfl (.inr (.inl (by kernel_rfl))))) rfl)), (r_var h37.toFe rfl (.inl (by kernel_rfl)))⟩) (by decide +kernel) (fun _ => rfl))
  (ss_cons (s_ite (t_not (t_val h.toFe (r_callF h.toFc L.c_32 g37__law_alike (r_cons (r_meth h.toFc L.cf.xi L.mf L.n_10 (r_var h.toFe rfl (.inl g37_made)) (r_cons (r_var h.toFe rfl (.inr (.inl g37_chance))) r_nil rfl) rfl rfl rfl) (r_cons (r_idx h.toFe (r_var h.toFe rfl (.inl g37_good)) r_int (fun _ _ => rfl)) r_nil rfl) rfl) rfl rfl) (fun _ => rfl))) (ss_cons (s_ret r_bl)
  ss_nil) ss_nil)
  (ss_cons (s_par2B h.toFe h.toFc.calm rfl rfl (by decide) g37_level g37_years (r_cons (r_callF h.toFc L.c_30 g37__law_taken (r_cons (r_var h.toFe rfl (.inr (.inl g37_row))) (r_cons r_int r_nil rfl) rfl) rfl rfl) (r_cons (r_callF h.toFc L.c_30 g37__law_taken (r_cons (r_var h.toFe rfl (.inr (.inl g37_row))) (r_cons r_int r_nil rfl) rfl) rfl rfl) r_nil rfl) rfl) rfl rfl)
  (ss_cons (s_asgB h.toFe (r_tup (r_cons r_int (r_cons r_int r_nil rfl) rfl) (by decide)) (g_tup h.toFc.calm h.toFe.kk (gs_cons (g_name h.toFe rfl (.inl g37_top) (.inr g37_top)) (gs_cons (g_name h.toFe rfl (.inl g37_bottom) (.inr g37_bottom)) gs_nil rfl) rfl) (n := 0) rfl rfl) rfl rfl rfl)
  (ss_cons (s_for h.toFe h.own h.toFc.calm (i_range1 h.toFe g37_range L.b_range (r_cons (r_var h.toFe rfl (.inl g37_years)) r_nil rfl) rfl) (g_name h.toFe rfl (.inl g37_year) (.inr g37_year)) (ss_cons (s_par2B h.toFe h.toFc.calm rfl rfl (by decide) g37_top g37_bottom (r_cons (r_bin h.toFe .mul (r_var h.toFe rfl (.inl g37_top)) (r_bin h.toFe .sub (r_var h.toFe rfl (.inr (.inl g37_many))) (r_idx h.toFe (r_var h.toFe rfl (.inr (.inl g37_above))) (r_var h.toFe rfl (.inl g37_level)) (fun _ _ => rfl)))) (r_cons (r_bin h.toFe .mul (r_var h.toFe rfl (.inl g37_bottom)) (r_var h.toFe rfl (.inr (.inl g37_many)))) r_nil rfl) rfl) rfl rfl)
  ss_nil) (fun _ => rfl))
  (ss_cons (s_ite (t_not (t_val h.toFe (r_callF h.toFc L.c_32 g37__law_alike (r_cons (r_meth h.toFc L.cf.xi L.mf L.n_11 (r_var h.toFe rfl (.inl g37_made)) (r_cons (r_var h.toFe rfl (.inl g37_level)) (r_cons (r_var h.toFe rfl (.inl g37_years)) r_nil rfl) rfl) rfl rfl rfl) (r_cons (r_callF h.toFc L.c_35 g37__law_low3 (r_cons (r_var h.toFe rfl (.inl g37_top)) (r_cons (r_var h.toFe rfl (.inl g37_bottom)) r_nil rfl) rfl) rfl rfl) r_nil rfl) rfl) rfl rfl) (fun _ => rfl))) (ss_cons (s_ret r_bl)
  ss_nil) ss_nil)
  (ss_cons (s_set h.toFe rfl (.inl g37_least) (.inr g37_least) (r_callF h.toFc L.c_35 g37__law_low3 (r_cons r_int (r_cons (r_bin h.toFe .add r_int (r_callF h.toFc L.c_30 g37__law_taken (r_cons (r_var h.toFe rfl (.inr (.inl g37_row))) (r_cons r_int r_nil rfl) rfl) rfl rfl)) r_nil rfl) rfl) rfl rfl) rfl)
  (ss_cons (s_par3B h.toFe h.toFc.calm rfl rfl rfl (by decide) (by decide) (by decide) g37_held g37_top g37_bottom (r_cons r_int (r_cons (r_bin h.toFe .sub (r_var h.toFe rfl (.inr (.inl g37_many))) (r_idx h.toFe (r_var h.toFe rfl (.inr (.inl g37_above))) (r_var h.toFe rfl (.inl g37_level)) (fun _ _ => rfl))) (r_cons (r_var h.toFe rfl (.inr (.inl g37_many))) r_nil rfl) rfl) rfl) rfl rfl)
  (ss_cons (s_for h.toFe h.own h.toFc.calm (i_range1 h.toFe g37_range L.b_range (r_cons r_int r_nil rfl) rfl) (g_name h.toFe rfl (.inl g37_year) (.inr g37_year)) (ss_cons (s_ite (t_w (w_and (t_cmp h.toFe .eq (r_var h.toFe rfl (.inl g37_held)) (r_var h.toFe rfl (.inl g37_year)) rfl) (w_and1 (t_cmp h.toFe .ge (r_bin h.toFe .mul (r_var h.toFe rfl (.inl g37_top)) (r_idx h.toFe (r_var h.toFe rfl (.inl g37_least)) r_int (fun _ _ => rfl))) (r_bin h.toFe .mul (r_idx h.toFe (r_var h.toFe rfl (.inl g37_least)) r_int (fun _ _ => rfl)) (r_var h.toFe rfl (.inl g37_bottom))) rfl)))) (ss_cons (s_set h.toFe rfl (.inl g37_held) (.inr g37_held) (r_bin h.toFe .add (r_var h.toFe rfl (.inl g37_year)) r_int) rfl)
  ss_nil) ss_nil)
  (ss_cons (s_par2B h.toFe h.toFc.calm rfl rfl (by decide) g37_top g37_bottom (r_cons (r_bin h.toFe .mul (r_var h.toFe rfl (.inl g37_top)) (r_bin h.toFe .sub (r_var h.toFe rfl (.inr (.inl g37_many))) (r_idx h.toFe (r_var h.toFe rfl (.inr (.inl g37_above))) (r_var h.toFe rfl (.inl g37_level)) (fun _ _ => rfl)))) (r_cons (r_bin h.toFe .mul (r_var h.toFe rfl (.inl g37_bottom)) (r_var h.toFe rfl (.inr (.inl g37_many)))) r_nil rfl) rfl) rfl rfl)
  ss_nil)) (fun _ => rfl))
  (ss_cons (s_ite (t_not (t_val h.toFe (r_callF h.toFc L.c_32 g37__law_alike (r_cons (r_meth h.toFc L.cf.xi L.mf L.n_12 (r_var h.toFe rfl (.inl g37_made)) (r_cons (r_var h.toFe rfl (.inl g37_level)) (r_cons (r_var h.toFe rfl (.inl g37_least)) r_nil rfl) rfl) rfl rfl rfl) (r_cons (r_var h.toFe rfl (.inl g37_held)) r_nil rfl) rfl) rfl rfl) (fun _ => rfl))) (ss_cons (s_ret r_bl)
  ss_nil) ss_nil)
  (ss_cons (s_setB h.toFc [(("k" : Str), 26)] rfl rfl g37_records rfl ⟨rfl, (by decide +kernel), (by decide +kernel), (by decide +kernel), (by decide +kernel)⟩ (i_range1 h.toFe g37_range L.b_range (r_cons (r_var h.toFe rfl (.inr (.inl g37_many))) r_nil rfl) rfl) (fun xi34 X34 h34 e34 => ⟨(g_name h34.toFe rfl (.inr (by kernel_rfl)) (.inl (by rw [e34]; kernel_rfl))), (ts_one (t_cmp h34.toFe .eq (r_compB h34 [(("peak" : Str), 17)] rfl ⟨rfl, (by decide +kernel), (by decide +kernel), (by decide +kernel), (by decide +kernel)⟩ (i_val h34.toFe (r_slc h34.toFe _ (r_var h34.toFe rfl (.inr (.inl (by kernel_rfl)))) v_none (v_some (r_var h34.toFe rfl (.inr (.inl (by kernel_rfl))))))) (fun xi36 X36 h36 e36 => ⟨(g_name h36.toFe rfl (.inl (by kernel_rfl)) (.inr (by kernel_rfl))), (ts_one (t_cmp h36.toFe .ge (r_var h36.toFe rfl (.inl (by kernel_rfl))) (r_idx h36.toFe (r_var h36.toFe rfl (.inr (.inl (by kernel_rfl)))) (r_var h36.toFe rfl (.inr (.inl (by kernel_rfl)))) (fun _ _ => rfl)) rfl)), (r_var h36.toFe rfl (.inl (by kernel_rfl)))⟩) (by decide +kernel) (fun _ => rfl)) (r_lst r_nil (by decide)) rfl)), (r_var h34.toFe rfl (.inr (.inl (by kernel_rfl))))⟩) (by decide +kernel) (fun _ => rfl))
  (ss_cons (s_set h.toFe rfl (.inl g37_pairs) (.inr g37_pairs) (r_callF h.toFc L.c_34 g37__law_pairs (r_cons (r_var h.toFe rfl (.inr (.inl g37_many))) (r_cons (r_var h.toFe rfl (.inr (.inl g37_many))) r_nil rfl) rfl) rfl rfl) rfl)
  (ss_cons (s_set h.toFe rfl (.inl g37_rising) (.inr g37_rising) (r_tup (r_cons (r_biB h.toFe (c_len h.toFe.kk _ _) g37_len L.b_len (by decide +kernel) (r_cons (r_compB h.toFc [(("a" : Str), 28), (("b" : Str), 29)] rfl ⟨rfl, (by decide +kernel), (by decide +kernel), (by decide +kernel), (by decide +kernel)⟩ (i_val h.toFe (r_var h.toFe rfl (.inl g37_pairs))) (fun xi33 X33 h33 e33 => ⟨(g_tup h33.calm h33.toFe.kk (gs_cons (g_name h33.toFe rfl (.inl (by kernel_rfl)) (.inr (by kernel_rfl))) (gs_cons (g_name h33.toFe rfl (.inl (by kernel_rfl)) (.inr (by kernel_rfl))) gs_nil rfl) rfl) (n := 0) rfl rfl), (ts_one (t_w (w_and (t_cmp h33.toFe .lt (r_var h33.toFe rfl (.inl (by kernel_rfl))) (r_var h33.toFe rfl (.inl (by kernel_rfl))) rfl) (w_and1 (t_cmp h33.toFe .lt (r_idx h33.toFe (r_var h33.toFe rfl (.inr (.inl (by kernel_rfl)))) (r_var h33.toFe rfl (.inl (by kernel_rfl))) (fun _ _ => rfl)) (r_idx h33.toFe (r_var h33.toFe rfl (.inr (.inl (by kernel_rfl)))) (r_var h33.toFe rfl (.inl (by kernel_rfl))) (fun _ _ => rfl)) rfl))))), r_int⟩) (by decide +kernel) (fun _ => rfl)) r_nil rfl) (by decide +kernel) (by decide +kernel) rfl rfl) (r_cons (r_biB h.toFe (c_len h.toFe.kk _ _) g37_len L.b_len (by decide +kernel) (r_cons (r_compB h.toFc [(("a" : Str), 28), (("b" : Str), 29)] rfl ⟨rfl, (by decide +kernel), (by decide +kernel), (by decide +kernel), (by decide +kernel)⟩ (i_val h.toFe (r_var h.toFe rfl (.inl g37_pairs))) (fun xi31 X31 h31 e31 => ⟨(g_tup h31.calm h31.toFe.kk (gs_cons (g_name h31.toFe rfl (.inl (by kernel_rfl)) (.inr (by kernel_rfl))) (gs_cons (g_name h31.toFe rfl (.inl (by kernel_rfl)) (.inr (by kernel_rfl))) gs_nil rfl) rfl) (n := 0) rfl rfl), (ts_one (t_w (w_and (t_cmp h31.toFe .lt (r_var h31.toFe rfl (.inl (by kernel_rfl))) (r_var h31.toFe rfl (.inl (by kernel_rfl))) rfl) (w_and1 (t_cmp h31.toFe .gt (r_idx h31.toFe (r_var h31.toFe rfl (.inr (.inl (by kernel_rfl)))) (r_var h31.toFe rfl (.inl (by kernel_rfl))) (fun _ _ => rfl)) (r_idx h31.toFe (r_var h31.toFe rfl (.inr (.inl (by kernel_rfl)))) (r_var h31.toFe rfl (.inl (by kernel_rfl))) (fun _ _ => rfl)) rfl))))), r_int⟩) (by decide +kernel) (fun _ => rfl)) r_nil rfl) (by decide +kernel) (by decide +kernel) rfl rfl) r_nil rfl) rfl) (by decide)) rfl)
  (ss_cons (s_ite (t_not (t_val h.toFe (r_callF h.toFc L.c_32 g37__law_alike (r_cons (r_tup (r_cons (r_meth0 h.toFc L.cf.xi L.mf L.n_13 (r_var h.toFe rfl (.inl g37_made)) rfl) (r_cons (r_meth0 h.toFc L.cf.xi L.mf L.n_14 (r_var h.toFe rfl (.inl g37_made)) rfl) (r_cons (r_meth0 h.toFc L.cf.xi L.mf L.n_15 (r_var h.toFe rfl (.inl g37_made)) rfl) r_nil rfl) rfl) rfl) (by decide)) (r_cons (r_tup (r_cons (r_biT h.toFe (c_tuple h.toFe.kk _ _) g37_tuple L.b_tuple (by decide +kernel) (r_cons (r_var h.toFe rfl (.inl g37_records)) r_nil rfl) (by decide +kernel) (by decide +kernel) rfl rfl) (r_cons (r_callF h.toFc L.c_35 g37__law_low3 (r_cons (r_biB h.toFe (c_sum h.toFe.kk h.toFc.calm _ _) g37_sum L.b_sum (by decide +kernel) (r_cons (r_var h.toFe rfl (.inr (.inl g37_peaks))) r_nil rfl) (by decide +kernel) (by decide +kernel) rfl rfl) (r_cons (r_var h.toFe rfl (.inr (.inl g37_many))) r_nil rfl) rfl) rfl rfl) (r_cons (r_var h.toFe rfl (.inl g37_rising)) r_nil rfl) rfl) rfl) (by decide)) r_nil rfl) rfl) rfl rfl) (fun _ => rfl))) (ss_cons (s_ret r_bl)
  ss_nil) ss_nil)
  (ss_cons (s_asgB h.toFe (r_tup (r_cons (r_callF h.toFc L.c_30 g37__law_taken (r_cons (r_var h.toFe rfl (.inr (.inl g37_row))) (r_cons r_int r_nil rfl) rfl) rfl rfl) (r_cons (r_callF h.toFc L.c_30 g37__law_taken (r_cons (r_var h.toFe rfl (.inr (.inl g37_row))) (r_cons r_int r_nil rfl) rfl) rfl rfl) r_nil rfl) rfl) (by decide)) (g_tup h.toFc.calm h.toFe.kk (gs_cons (g_name h.toFe rfl (.inr g37_price) (.inl (by rw [h.fna]))) (gs_cons (g_name h.toFe rfl (.inr g37_harm) (.inl (by rw [h.fna]))) gs_nil rfl) rfl) (n := 0) rfl rfl) rfl rfl rfl)
  (ss_cons (s_asgB h.toFe (r_compB h.toFc [(("one" : Str), 27)] rfl ⟨rfl, (by decide +kernel), (by decide +kernel), (by decide +kernel), (by decide +kernel)⟩ (i_val h.toFe (r_sset h.toFc g37_sorted L.b_sorted g37_set L.b_set (r_bin h.toFe .add (r_tup (r_cons r_int r_nil rfl) (by decide)) (r_var h.toFe rfl (.inr (.inl g37_peaks)))) rfl rfl)) (fun xi29 X29 h29 e29 => ⟨(g_name h29.toFe rfl (.inl (by kernel_rfl)) (.inr (by kernel_rfl))), ts_nil, (r_tup (r_cons (r_bin h29.toFe .add (r_bin h29.toFe .mul (r_var h29.toFe rfl (.inr (.inl (by kernel_rfl)))) (r_var h29.toFe rfl (.inl (by kernel_rfl)))) (r_bin h29.toFe .mul (r_var h29.toFe rfl (.inr (.inl (by kernel_rfl)))) (r_idx h29.toFe (r_var h29.toFe rfl (.inr (.inl (by kernel_rfl)))) (r_var h29.toFe rfl (.inl (by kernel_rfl))) (fun _ _ => rfl)))) (r_cons (r_var h29.toFe rfl (.inl (by kernel_rfl))) r_nil rfl) rfl) (by decide))⟩) (by decide +kernel) (fun _ => rfl)) (g_name h.toFe rfl (.inr g37_costs) (.inl (by rw [h.fna]))) rfl rfl rfl)
  (ss_cons (s_ite (t_not (t_val h.toFe (r_callF h.toFc L.c_32 g37__law_alike (r_cons (r_tup (r_cons (r_meth h.toFc L.cf.xi L.mf L.n_3 (r_var h.toFe rfl (.inl g37_made)) (r_cons (r_var h.toFe rfl (.inl g37_level)) (r_cons (r_var h.toFe rfl (.inr (.inl g37_price))) (r_cons (r_var h.toFe rfl (.inr (.inl g37_harm))) r_nil rfl) rfl) rfl) rfl rfl rfl) (r_cons (r_meth h.toFc L.cf.xi L.mf L.n_16 (r_var h.toFe rfl (.inl g37_made)) (r_cons (r_var h.toFe rfl (.inr (.inl g37_price))) (r_cons (r_var h.toFe rfl (.inr (.inl g37_harm))) r_nil rfl) rfl) rfl rfl rfl) r_nil rfl) rfl) (by decide)) (r_cons (r_tup (r_cons (r_bin h.toFe .add (r_bin h.toFe .mul (r_var h.toFe rfl (.inr (.inl g37_price))) (r_var h.toFe rfl (.inl g37_level))) (r_bin h.toFe .mul (r_var h.toFe rfl (.inr (.inl g37_harm))) (r_idx h.toFe (r_var h.toFe rfl (.inr (.inl g37_above))) (r_var h.toFe rfl (.inl g37_level)) (fun _ _ => rfl)))) (r_cons (r_idx h.toFe (r_biB h.toFe (c_min1 h.toFe.kk h.toFe.un h.toFc.calm _ _) g37_min L.b_min (by decide +kernel) (r_cons (r_var h.toFe rfl (.inr (.inl g37_costs))) r_nil rfl) (by decide +kernel) (by decide +kernel) rfl rfl) r_int (fun _ _ => rfl)) r_nil rfl) rfl) (by decide)) r_nil rfl) rfl) rfl rfl) (fun _ => rfl))) (ss_cons (s_ret r_bl)
  ss_nil) ss_nil)
  (ss_cons (s_ite (t_cmp h.toFe .ne (r_compB h.toFc [(("one" : Str), 27)] rfl ⟨rfl, (by decide +kernel), (by decide +kernel), (by decide +kernel), (by decide +kernel)⟩ (i_range1 h.toFe g37_range L.b_range (r_cons r_int r_nil rfl) rfl) (fun xi27 X27 h27 e27 => ⟨(g_name h27.toFe rfl (.inl (by kernel_rfl)) (.inr (by kernel_rfl))), (ts_one (t_cmp h27.toFe .lt (r_bin h27.toFe .add (r_bin h27.toFe .mul (r_var h27.toFe rfl (.inr (.inl (by kernel_rfl)))) (r_var h27.toFe rfl (.inl (by kernel_rfl)))) (r_bin h27.toFe .mul (r_var h27.toFe rfl (.inr (.inl (by kernel_rfl)))) (r_idx h27.toFe (r_var h27.toFe rfl (.inr (.inl (by kernel_rfl)))) (r_var h27.toFe rfl (.inl (by kernel_rfl))) (fun _ _ => rfl)))) (r_idx h27.toFe (r_biB h27.toFe (c_min1 h27.toFe.kk h27.toFe.un h27.calm _ _) (by kernel_rfl) L.b_min (by decide +kernel) (r_cons (r_var h27.toFe rfl (.inr (.inl (by kernel_rfl)))) r_nil rfl) (by decide +kernel) (by decide +kernel) rfl rfl) r_int (fun _ _ => rfl)) rfl)), r_int⟩) (by decide +kernel) (fun _ => rfl)) (r_lst r_nil (by decide)) rfl) (ss_cons (s_ret r_bl)
  ss_nil) ss_nil)
  (ss_cons (s_set h.toFe rfl (.inl g37_last) (.inr g37_last) (r_bin h.toFe .add r_int (r_callF h.toFc L.c_30 g37__law_taken (r_cons (r_var h.toFe rfl (.inr (.inl g37_row))) (r_cons (r_var h.toFe rfl (.inr (.inl g37_many))) r_nil rfl) rfl) rfl rfl)) rfl)
  (ss_cons (s_ite (t_w (w_or (t_cmpo h.toFc L.cf.xi L.ef .ne (r_meth h.toFc L.cf.xi L.mf L.n_17 (r_var h.toFe rfl (.inl g37_made)) (r_cons r_int r_nil rfl) rfl rfl rfl) (r_mkF h.toFc L.cf.xi L.k_0.xi g37_Record (by decide +kernel) (r_cons (r_bin h.toFe .add (r_var h.toFe rfl (.inr (.inl g37_peaks))) (r_tup (r_cons r_int r_nil rfl) (by decide))) r_nil rfl) rfl rfl) rfl) (w_or1 (t_cmpo h.toFc L.cf.xi L.ef .ne (r_meth h.toFc L.cf.xi L.mf L.n_4 (r_var h.toFe rfl (.inl g37_made)) (r_cons (r_var h.toFe rfl (.inl g37_last)) r_nil rfl) rfl rfl rfl) (r_mkF h.toFc L.cf.xi L.k_0.xi g37_Record (by decide +kernel) (r_cons (r_slc h.toFe _ (r_var h.toFe rfl (.inr (.inl g37_peaks))) (v_some (r_bin h.toFe .sub (r_var h.toFe rfl (.inr (.inl g37_many))) (r_var h.toFe rfl (.inl g37_last)))) v_none) r_nil rfl) rfl rfl) rfl)))) (ss_cons (s_ret r_bl)
  ss_nil) ss_nil)
  (ss_cons (s_set h.toFe rfl (.inr g37_wide) (.inl (by rw [h.fna])) (r_bin h.toFe .add r_int (r_callF h.toFc L.c_30 g37__law_taken (r_cons (r_var h.toFe rfl (.inr (.inl g37_row))) (r_cons r_int r_nil rfl) rfl) rfl rfl)) rfl)
  (ss_cons (s_ite (t_not (t_val h.toFe (r_callF h.toFc L.c_32 g37__law_alike (r_cons (r_callF h.toFc L.c_28 g37_smoothed (r_cons (r_var h.toFe rfl (.inr (.inl g37_peaks))) (r_cons (r_var h.toFe rfl (.inr (.inl g37_wide))) r_nil rfl) rfl) rfl rfl) (r_cons (r_biT h.toFe (c_tuple h.toFe.kk _ _) g37_tuple L.b_tuple (by decide +kernel) (r_cons (r_compB h.toFc [(("k" : Str), 26)] rfl ⟨rfl, (by decide +kernel), (by decide +kernel), (by decide +kernel), (by decide +kernel)⟩ (i_range1 h.toFe g37_range L.b_range (r_cons (r_biB h.toFe (c_max2 h.toFc.calm _ _) g37_max L.b_max (by decide +kernel) (r_cons r_int (r_cons (r_bin h.toFe .add (r_bin h.toFe .sub (r_var h.toFe rfl (.inr (.inl g37_many))) (r_var h.toFe rfl (.inr (.inl g37_wide)))) r_int) r_nil rfl) rfl) (by decide +kernel) (by decide +kernel) rfl rfl) r_nil rfl) rfl) (fun xi25 X25 h25 e25 => ⟨(g_name h25.toFe rfl (.inl (by kernel_rfl)) (.inr (by kernel_rfl))), ts_nil, (r_bin h25.toFe .fdiv (r_biB h25.toFe (c_sum h25.toFe.kk h25.calm _ _) (by kernel_rfl) L.b_sum (by decide +kernel) (r_cons (r_slc h25.toFe _ (r_var h25.toFe rfl (.inr (.inl (by kernel_rfl)))) (v_some (r_var h25.toFe rfl (.inl (by kernel_rfl)))) (v_some (r_bin h25.toFe .add (r_var h25.toFe rfl (.inl (by kernel_rfl))) (r_var h25.toFe rfl (.inr (.inl (by kernel_rfl))))))) r_nil rfl) (by decide +kernel) (by decide +kernel) rfl rfl) (r_var h25.toFe rfl (.inr (.inl (by kernel_rfl)))))⟩) (by decide +kernel) (fun _ => rfl)) r_nil rfl) (by decide +kernel) (by decide +kernel) rfl rfl) r_nil rfl) rfl) rfl rfl) (fun _ => rfl))) (ss_cons (s_ret r_bl)
  ss_nil) ss_nil)
  (ss_cons (s_ret (r_callF h.toFc L.c_36 g37__law_refused (r_cons (r_var h.toFe rfl (.inr (.inl g37_row))) (r_cons (r_var h.toFe rfl (.inl g37_made)) (r_cons (r_var h.toFe rfl (.inr (.inl g37_peaks))) r_nil rfl) rfl) rfl) rfl rfl))
  ss_nil))))))))))))))))))))))))))))))
end K21
namespace K21
open PySem L2 Dn PyProof.Rows PySem.Spec -- names
open PySem.W PySem.Calls PySem.HandSPX -- names
abbrev names : List Str := [("peaks" : Str), ("above" : Str), ("chance" : Str), ("cost" : Str), ("last" : Str), ("index" : Str), ("limit" : Str), ("ranked" : Str), ("careful_chance" : Str), ("longest_dry" : Str), ("level_for" : Str), ("never" : Str), ("years_held" : Str), ("records" : Str), ("mean" : Str), ("rising_pairs" : Str), ("best_level" : Str), ("with_peak" : Str)]
theorem all_mk {prog : Program} {w : World} {K : PySem.W.Frag} {h : Heap} {mg : Str → Option Value} {fa : Addr} {wf n : Nat} (X : K.In h) (G : h.Ns mainGlobals mg) (hfa : mg "law" = some (.ref fa)) (math : ∀ ns : List Int, ns.length ≤ 63 → ∃ S', callF k21_prog wf n 37 [.scr (ns.map .int)] [] = .ok (.bl true) S')
    {D0 : Addr}
    {f0 : Addr} {od0 an0 : Option Addr} {sl0 : Array (Option Value)} {oc0 kV0 dc0 pm0 cd0 ct0 : Value}
    {f1 : Addr} {od1 an1 : Option Addr} {sl1 : Array (Option Value)} {oc1 kV1 dc1 pm1 cd1 ct1 : Value}
    {f2 : Addr} {od2 an2 : Option Addr} {sl2 : Array (Option Value)} {oc2 kV2 dc2 pm2 cd2 ct2 : Value}
    {f3 : Addr} {od3 an3 : Option Addr} {sl3 : Array (Option Value)} {oc3 kV3 dc3 pm3 cd3 ct3 : Value}
    {f4 : Addr} {od4 an4 : Option Addr} {sl4 : Array (Option Value)} {oc4 kV4 dc4 pm4 cd4 ct4 : Value}
    {f5 : Addr} {od5 an5 : Option Addr} {sl5 : Array (Option Value)} {oc5 kV5 dc5 pm5 cd5 ct5 : Value}
    {f6 : Addr} {od6 an6 : Option Addr} {sl6 : Array (Option Value)} {oc6 kV6 dc6 pm6 cd6 ct6 : Value}
    {f7 : Addr} {od7 an7 : Option Addr} {sl7 : Array (Option Value)} {oc7 kV7 dc7 pm7 cd7 ct7 : Value}
    {f8 : Addr} {od8 an8 : Option Addr} {sl8 : Array (Option Value)} {oc8 kV8 dc8 pm8 cd8 ct8 : Value}
    {f9 : Addr} {od9 an9 : Option Addr} {sl9 : Array (Option Value)} {oc9 kV9 dc9 pm9 cd9 ct9 : Value}
    {f10 : Addr} {od10 an10 : Option Addr} {sl10 : Array (Option Value)} {oc10 kV10 dc10 pm10 cd10 ct10 : Value}
    {f11 : Addr} {od11 an11 : Option Addr} {sl11 : Array (Option Value)} {oc11 kV11 dc11 pm11 cd11 ct11 : Value}
    {f12 : Addr} {od12 an12 : Option Addr} {sl12 : Array (Option Value)} {oc12 kV12 dc12 pm12 cd12 ct12 : Value}
    {f13 : Addr} {od13 an13 : Option Addr} {sl13 : Array (Option Value)} {oc13 kV13 dc13 pm13 cd13 ct13 : Value}
    {f14 : Addr} {od14 an14 : Option Addr} {sl14 : Array (Option Value)} {oc14 kV14 dc14 pm14 cd14 ct14 : Value}
    {f15 : Addr} {od15 an15 : Option Addr} {sl15 : Array (Option Value)} {oc15 kV15 dc15 pm15 cd15 ct15 : Value}
    {f16 : Addr} {od16 an16 : Option Addr} {sl16 : Array (Option Value)} {oc16 kV16 dc16 pm16 cd16 ct16 : Value}
    {f17 : Addr} {od17 an17 : Option Addr} {sl17 : Array (Option Value)} {oc17 kV17 dc17 pm17 cd17 ct17 : Value}
    {f18 : Addr} {od18 an18 : Option Addr} {sl18 : Array (Option Value)} {oc18 kV18 dc18 pm18 cd18 ct18 : Value}
    {f19 : Addr} {od19 an19 : Option Addr} {sl19 : Array (Option Value)} {oc19 kV19 dc19 pm19 cd19 ct19 : Value}
    {f20 : Addr} {od20 an20 : Option Addr} {sl20 : Array (Option Value)} {oc20 kV20 dc20 pm20 cd20 ct20 : Value}
    {f21 : Addr} {od21 an21 : Option Addr} {sl21 : Array (Option Value)} {oc21 kV21 dc21 pm21 cd21 ct21 : Value}
    {f22 : Addr} {od22 an22 : Option Addr} {sl22 : Array (Option Value)} {oc22 kV22 dc22 pm22 cd22 ct22 : Value}
    {f23 : Addr} {od23 an23 : Option Addr} {sl23 : Array (Option Value)} {oc23 kV23 dc23 pm23 cd23 ct23 : Value}
    {f24 : Addr} {od24 an24 : Option Addr} {sl24 : Array (Option Value)} {oc24 kV24 dc24 pm24 cd24 ct24 : Value}
    {f25 : Addr} {od25 an25 : Option Addr} {sl25 : Array (Option Value)} {oc25 kV25 dc25 pm25 cd25 ct25 : Value}
    {f26 : Addr} {od26 an26 : Option Addr} {sl26 : Array (Option Value)} {oc26 kV26 dc26 pm26 cd26 ct26 : Value}
    {f27 : Addr} {od27 an27 : Option Addr} {sl27 : Array (Option Value)} {oc27 kV27 dc27 pm27 cd27 ct27 : Value}
    {f28 : Addr} {od28 an28 : Option Addr} {sl28 : Array (Option Value)} {oc28 kV28 dc28 pm28 cd28 ct28 : Value}
    {f29 : Addr} {od29 an29 : Option Addr} {sl29 : Array (Option Value)} {oc29 kV29 dc29 pm29 cd29 ct29 : Value}
    {f30 : Addr} {od30 an30 : Option Addr} {sl30 : Array (Option Value)} {oc30 kV30 dc30 pm30 cd30 ct30 : Value}
    {f31 : Addr} {od31 an31 : Option Addr} {sl31 : Array (Option Value)} {oc31 kV31 dc31 pm31 cd31 ct31 : Value}
    {f32 : Addr} {od32 an32 : Option Addr} {sl32 : Array (Option Value)} {oc32 kV32 dc32 pm32 cd32 ct32 : Value}
    {f33 : Addr} {od33 an33 : Option Addr} {sl33 : Array (Option Value)} {oc33 kV33 dc33 pm33 cd33 ct33 : Value}
    {f34 : Addr} {od34 an34 : Option Addr} {sl34 : Array (Option Value)} {oc34 kV34 dc34 pm34 cd34 ct34 : Value}
    {f35 : Addr} {od35 an35 : Option Addr} {sl35 : Array (Option Value)} {oc35 kV35 dc35 pm35 cd35 ct35 : Value}
    {f36 : Addr} {od36 an36 : Option Addr} {sl36 : Array (Option Value)} {oc36 kV36 dc36 pm36 cd36 ct36 : Value}
    {f37 : Addr} {od37 an37 : Option Addr} {sl37 : Array (Option Value)} {oc37 kV37 dc37 pm37 cd37 ct37 : Value}
    {gt0 : Tok}
    {gt1 : Tok}
    {C0 : Addr}
    {C1 : Addr}
    {C2 : Addr}
    {nm1 q1 : Str} {NN1 : Addr} {bs1 bm1 : List Value} {sn1 : List Str} {sub1 : List Value} {ab1 : Bool} {col1 : Option Bool} {dd1 : Option Addr} {kk0_1 kk1_1 kk2_1 kk3_1 kk5_1 : Option Value} {fI1 : Addr}
    {eoc1 : Value} {eod1 : Option Addr} {edoc1 epm1 : Value} {ean1 : Option Addr} {ecda1 : Addr} {ect1 : Value} {eosl1 : Array (Option Value)} {ecc1 : Addr} {ccl1 ecl1 : Value} {ecdd1 ecld1 : Option Addr} {eccs1 ecsl1 : Array (Option Value)} {evs1 : Array Value} {file1 : Str} {etf1 : Tok}
    {nm2 q2 : Str} {NN2 : Addr} {bs2 bm2 : List Value} {sn2 : List Str} {sub2 : List Value} {ab2 : Bool} {col2 : Option Bool} {dd2 : Option Addr} {kk0_2 kk1_2 kk2_2 kk3_2 kk5_2 : Option Value} {fI2 : Addr}
    {eoc2 : Value} {eod2 : Option Addr} {edoc2 epm2 : Value} {ean2 : Option Addr} {ecda2 : Addr} {ect2 : Value} {eosl2 : Array (Option Value)} {ecc2 : Addr} {ccl2 ecl2 : Value} {ecdd2 ecld2 : Option Addr} {eccs2 ecsl2 : Array (Option Value)} {evs2 : Array Value} {file2 : Str} {etf2 : Tok}
    (ka0 : PySem.W.nsIn K mainGlobals "Record" = some (some (.ref D0)))
    (a0 : PySem.W.nsIn K mainGlobals "is_whole" = some (some (.ref f0)))
    (l0 : K.lookup f0 = some ⟨oc0, od0, .func (PySem.W.fnOf "is_whole" "is_whole" (defArgs s0) (defBody s0) (defScope s0) .none kV0 dc0 pm0 an0 cd0 ct0), sl0⟩)
    (d0 : PySem.W.codeIn K cd0 "is_whole" = true)
    (k0 : PySem.W.keepIn K (.ref f0) = true)
    (a1 : PySem.W.nsIn K mainGlobals "is_number" = some (some (.ref f1)))
    (l1 : K.lookup f1 = some ⟨oc1, od1, .func (PySem.W.fnOf "is_number" "is_number" (defArgs s1) (defBody s1) (defScope s1) .none kV1 dc1 pm1 an1 cd1 ct1), sl1⟩)
    (d1 : PySem.W.codeIn K cd1 "is_number" = true)
    (k1 : PySem.W.keepIn K (.ref f1) = true)
    (a2 : PySem.W.nsIn K mainGlobals "is_row" = some (some (.ref f2)))
    (l2 : K.lookup f2 = some ⟨oc2, od2, .func (PySem.W.fnOf "is_row" "is_row" (defArgs s2) (defBody s2) (defScope s2) .none kV2 dc2 pm2 an2 cd2 ct2), sl2⟩)
    (d2 : PySem.W.codeIn K cd2 "is_row" = true)
    (k2 : PySem.W.keepIn K (.ref f2) = true)
    (a3 : PySem.W.nsIn K mainGlobals "frozen" = some (some (.ref f3)))
    (l3 : K.lookup f3 = some ⟨oc3, od3, .func (PySem.W.fnOf "frozen" "frozen" (defArgs s3) (defBody s3) (defScope s3) .none kV3 dc3 pm3 an3 cd3 ct3), sl3⟩)
    (d3 : PySem.W.codeIn K cd3 "frozen" = true)
    (k3 : PySem.W.keepIn K (.ref f3) = true)
    (a4 : PySem.W.nsIn K mainGlobals "want_row" = some (some (.ref f4)))
    (l4 : K.lookup f4 = some ⟨oc4, od4, .func (PySem.W.fnOf "want_row" "want_row" (defArgs s4) (defBody s4) (defScope s4) .none kV4 dc4 pm4 an4 cd4 ct4), sl4⟩)
    (d4 : PySem.W.codeIn K cd4 "want_row" = true)
    (k4 : PySem.W.keepIn K (.ref f4) = true)
    (a5 : PySem.W.nsIn K mainGlobals "reduced" = some (some (.ref f5)))
    (l5 : K.lookup f5 = some ⟨oc5, od5, .func (PySem.W.fnOf "reduced" "reduced" (defArgs s5) (defBody s5) (defScope s5) .none kV5 dc5 pm5 an5 cd5 ct5), sl5⟩)
    (d5 : PySem.W.codeIn K cd5 "reduced" = true)
    (k5 : PySem.W.keepIn K (.ref f5) = true)
    (a6 : PySem.W.nsIn K mainGlobals "minus" = some (some (.ref f6)))
    (l6 : K.lookup f6 = some ⟨oc6, od6, .func (PySem.W.fnOf "minus" "minus" (defArgs s6) (defBody s6) (defScope s6) .none kV6 dc6 pm6 an6 cd6 ct6), sl6⟩)
    (d6 : PySem.W.codeIn K cd6 "minus" = true)
    (k6 : PySem.W.keepIn K (.ref f6) = true)
    (a7 : PySem.W.nsIn K mainGlobals "times" = some (some (.ref f7)))
    (l7 : K.lookup f7 = some ⟨oc7, od7, .func (PySem.W.fnOf "times" "times" (defArgs s7) (defBody s7) (defScope s7) .none kV7 dc7 pm7 an7 cd7 ct7), sl7⟩)
    (d7 : PySem.W.codeIn K cd7 "times" = true)
    (k7 : PySem.W.keepIn K (.ref f7) = true)
    (a8 : PySem.W.nsIn K mainGlobals "is_less" = some (some (.ref f8)))
    (l8 : K.lookup f8 = some ⟨oc8, od8, .func (PySem.W.fnOf "is_less" "is_less" (defArgs s8) (defBody s8) (defScope s8) .none kV8 dc8 pm8 an8 cd8 ct8), sl8⟩)
    (d8 : PySem.W.codeIn K cd8 "is_less" = true)
    (k8 : PySem.W.keepIn K (.ref f8) = true)
    (a9 : PySem.W.nsIn K mainGlobals "is_peak" = some (some (.ref f9)))
    (l9 : K.lookup f9 = some ⟨oc9, od9, .func (PySem.W.fnOf "is_peak" "is_peak" (defArgs s9) (defBody s9) (defScope s9) .none kV9 dc9 pm9 an9 cd9 ct9), sl9⟩)
    (d9 : PySem.W.codeIn K cd9 "is_peak" = true)
    (k9 : PySem.W.keepIn K (.ref f9) = true)
    (a10 : PySem.W.findIn K (.ref D0) "__init__" = some (some (.ref f10)))
    (if10 : PySem.W.isFn K (.ref f10) = true)
    (l10 : K.lookup f10 = some ⟨oc10, od10, .func (PySem.W.fnOf "__init__" "Record.__init__" (defArgs s10) (defBody s10) (defScope s10) .none kV10 dc10 pm10 an10 cd10 ct10), sl10⟩)
    (d10 : PySem.W.codeIn K cd10 "Record.__init__" = true)
    (k10 : PySem.W.keepIn K (.ref f10) = true)
    (a11 : PySem.W.findIn K (.ref D0) "__eq__" = some (some (.ref f11)))
    (if11 : PySem.W.isFn K (.ref f11) = true)
    (l11 : K.lookup f11 = some ⟨oc11, od11, .func (PySem.W.fnOf "__eq__" "Record.__eq__" (defArgs s11) (defBody s11) (defScope s11) .none kV11 dc11 pm11 an11 cd11 ct11), sl11⟩)
    (d11 : PySem.W.codeIn K cd11 "Record.__eq__" = true)
    (k11 : PySem.W.keepIn K (.ref f11) = true)
    (a12 : PySem.W.findIn K (.ref D0) "__len__" = some (some (.ref f12)))
    (if12 : PySem.W.isFn K (.ref f12) = true)
    (l12 : K.lookup f12 = some ⟨oc12, od12, .func (PySem.W.fnOf "__len__" "Record.__len__" (defArgs s12) (defBody s12) (defScope s12) .none kV12 dc12 pm12 an12 cd12 ct12), sl12⟩)
    (d12 : PySem.W.codeIn K cd12 "Record.__len__" = true)
    (k12 : PySem.W.keepIn K (.ref f12) = true)
    (a13 : PySem.W.findIn K (.ref D0) "above" = some (some (.ref f13)))
    (if13 : PySem.W.isFn K (.ref f13) = true)
    (l13 : K.lookup f13 = some ⟨oc13, od13, .func (PySem.W.fnOf "above" "Record.above" (defArgs s13) (defBody s13) (defScope s13) .none kV13 dc13 pm13 an13 cd13 ct13), sl13⟩)
    (d13 : PySem.W.codeIn K cd13 "Record.above" = true)
    (k13 : PySem.W.keepIn K (.ref f13) = true)
    (a14 : PySem.W.findIn K (.ref D0) "chance" = some (some (.ref f14)))
    (if14 : PySem.W.isFn K (.ref f14) = true)
    (l14 : K.lookup f14 = some ⟨oc14, od14, .func (PySem.W.fnOf "chance" "Record.chance" (defArgs s14) (defBody s14) (defScope s14) .none kV14 dc14 pm14 an14 cd14 ct14), sl14⟩)
    (d14 : PySem.W.codeIn K cd14 "Record.chance" = true)
    (k14 : PySem.W.keepIn K (.ref f14) = true)
    (a15 : PySem.W.findIn K (.ref D0) "careful_chance" = some (some (.ref f15)))
    (if15 : PySem.W.isFn K (.ref f15) = true)
    (l15 : K.lookup f15 = some ⟨oc15, od15, .func (PySem.W.fnOf "careful_chance" "Record.careful_chance" (defArgs s15) (defBody s15) (defScope s15) .none kV15 dc15 pm15 an15 cd15 ct15), sl15⟩)
    (d15 : PySem.W.codeIn K cd15 "Record.careful_chance" = true)
    (k15 : PySem.W.keepIn K (.ref f15) = true)
    (a16 : PySem.W.findIn K (.ref D0) "ranked" = some (some (.ref f16)))
    (if16 : PySem.W.isFn K (.ref f16) = true)
    (l16 : K.lookup f16 = some ⟨oc16, od16, .func (PySem.W.fnOf "ranked" "Record.ranked" (defArgs s16) (defBody s16) (defScope s16) .none kV16 dc16 pm16 an16 cd16 ct16), sl16⟩)
    (d16 : PySem.W.codeIn K cd16 "Record.ranked" = true)
    (k16 : PySem.W.keepIn K (.ref f16) = true)
    (a17 : PySem.W.findIn K (.ref D0) "level_for" = some (some (.ref f17)))
    (if17 : PySem.W.isFn K (.ref f17) = true)
    (l17 : K.lookup f17 = some ⟨oc17, od17, .func (PySem.W.fnOf "level_for" "Record.level_for" (defArgs s17) (defBody s17) (defScope s17) .none kV17 dc17 pm17 an17 cd17 ct17), sl17⟩)
    (d17 : PySem.W.codeIn K cd17 "Record.level_for" = true)
    (k17 : PySem.W.keepIn K (.ref f17) = true)
    (a18 : PySem.W.findIn K (.ref D0) "never" = some (some (.ref f18)))
    (if18 : PySem.W.isFn K (.ref f18) = true)
    (l18 : K.lookup f18 = some ⟨oc18, od18, .func (PySem.W.fnOf "never" "Record.never" (defArgs s18) (defBody s18) (defScope s18) .none kV18 dc18 pm18 an18 cd18 ct18), sl18⟩)
    (d18 : PySem.W.codeIn K cd18 "Record.never" = true)
    (k18 : PySem.W.keepIn K (.ref f18) = true)
    (a19 : PySem.W.findIn K (.ref D0) "years_held" = some (some (.ref f19)))
    (if19 : PySem.W.isFn K (.ref f19) = true)
    (l19 : K.lookup f19 = some ⟨oc19, od19, .func (PySem.W.fnOf "years_held" "Record.years_held" (defArgs s19) (defBody s19) (defScope s19) .none kV19 dc19 pm19 an19 cd19 ct19), sl19⟩)
    (d19 : PySem.W.codeIn K cd19 "Record.years_held" = true)
    (k19 : PySem.W.keepIn K (.ref f19) = true)
    (a20 : PySem.W.findIn K (.ref D0) "longest_dry" = some (some (.ref f20)))
    (if20 : PySem.W.isFn K (.ref f20) = true)
    (l20 : K.lookup f20 = some ⟨oc20, od20, .func (PySem.W.fnOf "longest_dry" "Record.longest_dry" (defArgs s20) (defBody s20) (defScope s20) .none kV20 dc20 pm20 an20 cd20 ct20), sl20⟩)
    (d20 : PySem.W.codeIn K cd20 "Record.longest_dry" = true)
    (k20 : PySem.W.keepIn K (.ref f20) = true)
    (a21 : PySem.W.findIn K (.ref D0) "records" = some (some (.ref f21)))
    (if21 : PySem.W.isFn K (.ref f21) = true)
    (l21 : K.lookup f21 = some ⟨oc21, od21, .func (PySem.W.fnOf "records" "Record.records" (defArgs s21) (defBody s21) (defScope s21) .none kV21 dc21 pm21 an21 cd21 ct21), sl21⟩)
    (d21 : PySem.W.codeIn K cd21 "Record.records" = true)
    (k21 : PySem.W.keepIn K (.ref f21) = true)
    (a22 : PySem.W.findIn K (.ref D0) "mean" = some (some (.ref f22)))
    (if22 : PySem.W.isFn K (.ref f22) = true)
    (l22 : K.lookup f22 = some ⟨oc22, od22, .func (PySem.W.fnOf "mean" "Record.mean" (defArgs s22) (defBody s22) (defScope s22) .none kV22 dc22 pm22 an22 cd22 ct22), sl22⟩)
    (d22 : PySem.W.codeIn K cd22 "Record.mean" = true)
    (k22 : PySem.W.keepIn K (.ref f22) = true)
    (a23 : PySem.W.findIn K (.ref D0) "rising_pairs" = some (some (.ref f23)))
    (if23 : PySem.W.isFn K (.ref f23) = true)
    (l23 : K.lookup f23 = some ⟨oc23, od23, .func (PySem.W.fnOf "rising_pairs" "Record.rising_pairs" (defArgs s23) (defBody s23) (defScope s23) .none kV23 dc23 pm23 an23 cd23 ct23), sl23⟩)
    (d23 : PySem.W.codeIn K cd23 "Record.rising_pairs" = true)
    (k23 : PySem.W.keepIn K (.ref f23) = true)
    (a24 : PySem.W.findIn K (.ref D0) "cost" = some (some (.ref f24)))
    (if24 : PySem.W.isFn K (.ref f24) = true)
    (l24 : K.lookup f24 = some ⟨oc24, od24, .func (PySem.W.fnOf "cost" "Record.cost" (defArgs s24) (defBody s24) (defScope s24) .none kV24 dc24 pm24 an24 cd24 ct24), sl24⟩)
    (d24 : PySem.W.codeIn K cd24 "Record.cost" = true)
    (k24 : PySem.W.keepIn K (.ref f24) = true)
    (a25 : PySem.W.findIn K (.ref D0) "best_level" = some (some (.ref f25)))
    (if25 : PySem.W.isFn K (.ref f25) = true)
    (l25 : K.lookup f25 = some ⟨oc25, od25, .func (PySem.W.fnOf "best_level" "Record.best_level" (defArgs s25) (defBody s25) (defScope s25) .none kV25 dc25 pm25 an25 cd25 ct25), sl25⟩)
    (d25 : PySem.W.codeIn K cd25 "Record.best_level" = true)
    (k25 : PySem.W.keepIn K (.ref f25) = true)
    (a26 : PySem.W.findIn K (.ref D0) "with_peak" = some (some (.ref f26)))
    (if26 : PySem.W.isFn K (.ref f26) = true)
    (l26 : K.lookup f26 = some ⟨oc26, od26, .func (PySem.W.fnOf "with_peak" "Record.with_peak" (defArgs s26) (defBody s26) (defScope s26) .none kV26 dc26 pm26 an26 cd26 ct26), sl26⟩)
    (d26 : PySem.W.codeIn K cd26 "Record.with_peak" = true)
    (k26 : PySem.W.keepIn K (.ref f26) = true)
    (a27 : PySem.W.findIn K (.ref D0) "last" = some (some (.ref f27)))
    (if27 : PySem.W.isFn K (.ref f27) = true)
    (l27 : K.lookup f27 = some ⟨oc27, od27, .func (PySem.W.fnOf "last" "Record.last" (defArgs s27) (defBody s27) (defScope s27) .none kV27 dc27 pm27 an27 cd27 ct27), sl27⟩)
    (d27 : PySem.W.codeIn K cd27 "Record.last" = true)
    (k27 : PySem.W.keepIn K (.ref f27) = true)
    (a28 : PySem.W.nsIn K mainGlobals "smoothed" = some (some (.ref f28)))
    (l28 : K.lookup f28 = some ⟨oc28, od28, .func (PySem.W.fnOf "smoothed" "smoothed" (defArgs s28) (defBody s28) (defScope s28) .none kV28 dc28 pm28 an28 cd28 ct28), sl28⟩)
    (d28 : PySem.W.codeIn K cd28 "smoothed" = true)
    (k28 : PySem.W.keepIn K (.ref f28) = true)
    (a29 : PySem.W.nsIn K mainGlobals "are_peaks" = some (some (.ref f29)))
    (l29 : K.lookup f29 = some ⟨oc29, od29, .func (PySem.W.fnOf "are_peaks" "are_peaks" (defArgs s29) (defBody s29) (defScope s29) .none kV29 dc29 pm29 an29 cd29 ct29), sl29⟩)
    (d29 : PySem.W.codeIn K cd29 "are_peaks" = true)
    (k29 : PySem.W.keepIn K (.ref f29) = true)
    (a30 : PySem.W.nsIn K mainGlobals "_law_taken" = some (some (.ref f30)))
    (l30 : K.lookup f30 = some ⟨oc30, od30, .func (PySem.W.fnOf "_law_taken" "_law_taken" (defArgs s30) (defBody s30) (defScope s30) .none kV30 dc30 pm30 an30 cd30 ct30), sl30⟩)
    (d30 : PySem.W.codeIn K cd30 "_law_taken" = true)
    (k30 : PySem.W.keepIn K (.ref f30) = true)
    (a31 : PySem.W.nsIn K mainGlobals "_law_pick" = some (some (.ref f31)))
    (l31 : K.lookup f31 = some ⟨oc31, od31, .func (PySem.W.fnOf "_law_pick" "_law_pick" (defArgs s31) (defBody s31) (defScope s31) .none kV31 dc31 pm31 an31 cd31 ct31), sl31⟩)
    (d31 : PySem.W.codeIn K cd31 "_law_pick" = true)
    (k31 : PySem.W.keepIn K (.ref f31) = true)
    (a32 : PySem.W.nsIn K mainGlobals "_law_alike" = some (some (.ref f32)))
    (l32 : K.lookup f32 = some ⟨oc32, od32, .func (PySem.W.fnOf "_law_alike" "_law_alike" (defArgs s32) (defBody s32) (defScope s32) .none kV32 dc32 pm32 an32 cd32 ct32), sl32⟩)
    (d32 : PySem.W.codeIn K cd32 "_law_alike" = true)
    (k32 : PySem.W.keepIn K (.ref f32) = true)
    (a33 : PySem.W.nsIn K mainGlobals "_law_mixed" = some (some (.ref f33)))
    (l33 : K.lookup f33 = some ⟨oc33, od33, .func (PySem.W.fnOf "_law_mixed" "_law_mixed" (defArgs s33) (defBody s33) (defScope s33) .none kV33 dc33 pm33 an33 cd33 ct33), sl33⟩)
    (d33 : PySem.W.codeIn K cd33 "_law_mixed" = true)
    (k33 : PySem.W.keepIn K (.ref f33) = true)
    (a34 : PySem.W.nsIn K mainGlobals "_law_pairs" = some (some (.ref f34)))
    (l34 : K.lookup f34 = some ⟨oc34, od34, .func (PySem.W.fnOf "_law_pairs" "_law_pairs" (defArgs s34) (defBody s34) (defScope s34) .none kV34 dc34 pm34 an34 cd34 ct34), sl34⟩)
    (d34 : PySem.W.codeIn K cd34 "_law_pairs" = true)
    (k34 : PySem.W.keepIn K (.ref f34) = true)
    (a35 : PySem.W.nsIn K mainGlobals "_law_low3" = some (some (.ref f35)))
    (l35 : K.lookup f35 = some ⟨oc35, od35, .func (PySem.W.fnOf "_law_low3" "_law_low3" (defArgs s35) (defBody s35) (defScope s35) .none kV35 dc35 pm35 an35 cd35 ct35), sl35⟩)
    (d35 : PySem.W.codeIn K cd35 "_law_low3" = true)
    (k35 : PySem.W.keepIn K (.ref f35) = true)
    (a36 : PySem.W.nsIn K mainGlobals "_law_refused" = some (some (.ref f36)))
    (l36 : K.lookup f36 = some ⟨oc36, od36, .func (PySem.W.fnOf "_law_refused" "_law_refused" (defArgs s36) (defBody s36) (defScope s36) .none kV36 dc36 pm36 an36 cd36 ct36), sl36⟩)
    (d36 : PySem.W.codeIn K cd36 "_law_refused" = true)
    (k36 : PySem.W.keepIn K (.ref f36) = true)
    (a37 : PySem.W.nsIn K mainGlobals "law" = some (some (.ref f37)))
    (l37 : K.lookup f37 = some ⟨oc37, od37, .func (PySem.W.fnOf "law" "law" (defArgs s37) (defBody s37) (defScope s37) .none kV37 dc37 pm37 an37 cd37 ct37), sl37⟩)
    (d37 : PySem.W.codeIn K cd37 "law" = true)
    (k37 : PySem.W.keepIn K (.ref f37) = true)
    (chn : PySem.W.specialIn K (.builtin "object.__class__") "__get__" = some (some (.builtin "getset_descriptor.__get__")))
    (chtk : PySem.W.takesIn K (.builtin "object.__class__") = some true)
    (cpg0 : PySem.W.plainGet K D0 Str.empty = true)
    (chd0 : PySem.W.hasDictIn K D0 = true)
    (cpo0 : PySem.W.plainOver K D0 = true)
    (csa0 : PySem.W.findIn K (.ref D0) "__setattr__" = some (some (.builtin "object.__setattr__")))
    (cha0 : PySem.W.findIn K (.ref D0) "__class__" = some (some (.builtin "object.__class__")))
    (chm0 : PySem.W.mroIn K D0 (.type "object") = some true)
    (cmk0 : PySem.W.makesIn K D0 = true)
    (ckp0 : PySem.W.keepIn K (.ref D0) = true)
    (cno0_0 : PySem.W.findIn K (.ref D0) "peaks" = some none)
    (cki0_int : PySem.W.kitOne K (.ref D0) (.type "int") = some false)
    (cki0_bool : PySem.W.kitOne K (.ref D0) (.type "bool") = some false)
    (cki0_str : PySem.W.kitOne K (.ref D0) (.type "str") = some false)
    (cki0_list : PySem.W.kitOne K (.ref D0) (.type "list") = some false)
    (cki0_tuple : PySem.W.kitOne K (.ref D0) (.type "tuple") = some false)
    (cki0_dict : PySem.W.kitOne K (.ref D0) (.type "dict") = some false)
    (ckt0_NoneType : PySem.W.kitOne K (.type "NoneType") (.ref D0) = some false)
    (ckt0_bool : PySem.W.kitOne K (.type "bool") (.ref D0) = some false)
    (ckt0_int : PySem.W.kitOne K (.type "int") (.ref D0) = some false)
    (ckt0_str : PySem.W.kitOne K (.type "str") (.ref D0) = some false)
    (ckt0_list : PySem.W.kitOne K (.type "list") (.ref D0) = some false)
    (ckt0_tuple : PySem.W.kitOne K (.type "tuple") (.ref D0) = some false)
    (ckt0_dict : PySem.W.kitOne K (.type "dict") (.ref D0) = some false)
    (cnf0_NoneType : PySem.W.notFirst K D0 (.type "NoneType") = true)
    (cnf0_bool : PySem.W.notFirst K D0 (.type "bool") = true)
    (cnf0_int : PySem.W.notFirst K D0 (.type "int") = true)
    (cnf0_str : PySem.W.notFirst K D0 (.type "str") = true)
    (cnf0_list : PySem.W.notFirst K D0 (.type "list") = true)
    (cnf0_tuple : PySem.W.notFirst K D0 (.type "tuple") = true)
    (cnf0_dict : PySem.W.notFirst K D0 (.type "dict") = true)
    (cki0_0 : PySem.W.kitOne K (.ref D0) (.ref D0) = some true)
    (cnf0_0 : PySem.W.notFirst K D0 (.ref D0) = true)
    (cne0 : PySem.W.findIn K (.ref D0) "__ne__" = some (some (.builtin "object.__ne__")))
    (ga0 : PySem.W.nsIn K mainGlobals "MOST_YEARS" = some (some (.int 60 gt0)))
    (ga1 : PySem.W.nsIn K mainGlobals "GREATEST" = some (some (.int 9999 gt1)))
    (z_isinstance : PySem.W.nsIn K mainGlobals "isinstance" = some none)
    (z_bool : PySem.W.nsIn K mainGlobals "bool" = some none)
    (z_int : PySem.W.nsIn K mainGlobals "int" = some none)
    (z_tuple : PySem.W.nsIn K mainGlobals "tuple" = some none)
    (z_list : PySem.W.nsIn K mainGlobals "list" = some none)
    (z_len : PySem.W.nsIn K mainGlobals "len" = some none)
    (z_enumerate : PySem.W.nsIn K mainGlobals "enumerate" = some none)
    (z_abs : PySem.W.nsIn K mainGlobals "abs" = some none)
    (z_sorted : PySem.W.nsIn K mainGlobals "sorted" = some none)
    (z_max : PySem.W.nsIn K mainGlobals "max" = some none)
    (z_set : PySem.W.nsIn K mainGlobals "set" = some none)
    (z_range : PySem.W.nsIn K mainGlobals "range" = some none)
    (z_all : PySem.W.nsIn K mainGlobals "all" = some none)
    (z_sum : PySem.W.nsIn K mainGlobals "sum" = some none)
    (z_min : PySem.W.nsIn K mainGlobals "min" = some none)
    (z_str : PySem.W.nsIn K mainGlobals "str" = some none)
    (z_repr : PySem.W.nsIn K mainGlobals "repr" = some none)
    (z_super : PySem.W.nsIn K mainGlobals "super" = some none)
    (xa0 : PySem.W.nsIn K mainGlobals "FloodError" = some (some (.ref C0)))
    (xga0 : PySem.W.findIn K (.ref C0) "__getattribute__" = some (some (.builtin "BaseException.__getattribute__")))
    (xgg0 : PySem.W.findIn K (.ref C0) "__getattr__" = some none)
    (xex0 : PySem.W.subIn K (.ref C0) (.type "BaseException") = some true)
    (xhd0 : PySem.W.hasDictIn K C0 = true)
    (xic0 : PySem.W.isClsIn K C0 = true)
    (xty0 : PySem.W.typeIn K (.ref C0) = some (.type "type"))
    (xa1 : PySem.W.nsIn K mainGlobals "BadItem" = some (some (.ref C1)))
    (xga1 : PySem.W.findIn K (.ref C1) "__getattribute__" = some (some (.builtin "BaseException.__getattribute__")))
    (xgg1 : PySem.W.findIn K (.ref C1) "__getattr__" = some none)
    (xex1 : PySem.W.subIn K (.ref C1) (.type "BaseException") = some true)
    (xhd1 : PySem.W.hasDictIn K C1 = true)
    (xic1 : PySem.W.isClsIn K C1 = true)
    (xty1 : PySem.W.typeIn K (.ref C1) = some (.type "type"))
    (xno1_5 : PySem.W.findIn K (.ref C1) "index" = some none)
    (xa2 : PySem.W.nsIn K mainGlobals "TooMany" = some (some (.ref C2)))
    (xga2 : PySem.W.findIn K (.ref C2) "__getattribute__" = some (some (.builtin "BaseException.__getattribute__")))
    (xgg2 : PySem.W.findIn K (.ref C2) "__getattr__" = some none)
    (xex2 : PySem.W.subIn K (.ref C2) (.type "BaseException") = some true)
    (xhd2 : PySem.W.hasDictIn K C2 = true)
    (xic2 : PySem.W.isClsIn K C2 = true)
    (xty2 : PySem.W.typeIn K (.ref C2) = some (.type "type"))
    (xno2_6 : PySem.W.findIn K (.ref C2) "limit" = some none)
    (xs0_0 : PySem.W.subIn K (.ref C0) (.ref C0) = some true)
    (xs0_1 : PySem.W.subIn K (.ref C0) (.ref C1) = some false)
    (xs0_2 : PySem.W.subIn K (.ref C0) (.ref C2) = some false)
    (xs1_0 : PySem.W.subIn K (.ref C1) (.ref C0) = some true)
    (xs1_1 : PySem.W.subIn K (.ref C1) (.ref C1) = some true)
    (xs1_2 : PySem.W.subIn K (.ref C1) (.ref C2) = some false)
    (xs2_0 : PySem.W.subIn K (.ref C2) (.ref C0) = some true)
    (xs2_1 : PySem.W.subIn K (.ref C2) (.ref C1) = some false)
    (xs2_2 : PySem.W.subIn K (.ref C2) (.ref C2) = some true)
    (ec1 : K.lookup C1 = some (excClassObj nm1 q1 C1 NN1 bs1 bm1 true sn1 sub1 ab1 col1 dd1 kk0_1 kk1_1 kk2_1 kk3_1 kk5_1 "ValueError.__new__"))
    (er1 : refsVE bm1 = true)
    (el1 : PySem.W.clsIn K C1 = some { name := nm1, bases := bs1, mro := .ref C1 :: bm1, ns := NN1, qualname := q1, hasDict := true, slotNames := sn1, subclasses := sub1, abstract := ab1, collection := col1, hasDel := false })
    (esa1 : PySem.W.findIn K (.ref C1) "__setattr__" = some (some (.builtin "object.__setattr__")))
    (ei1 : PySem.W.findIn K (.ref C1) "__init__" = some (some (.ref fI1)))
    (et1 : PySem.W.typeIn K (.ref fI1) = some (.type "function"))
    (ek1 : PySem.W.keepIn K (.ref C1) = true)
    (ev1 : PySem.W.subIn K (.ref C1) (.type "ValueError") = some true)
    (em1 : PySem.W.mroIn K C1 (.ref C1) = some true)
    (es1 : PySem.W.ks_superIn K C1 C1 "__init__" = some (some (.builtin "ValueError.__init__")))
    (fl1 : K.lookup fI1 = some ⟨eoc1, eod1, .func (ksFn "__init__" "BadItem.__init__" (DnX.eArg "index" ⟨6, 17, 6, 21⟩ ⟨6, 23, 6, 28⟩) (DnX.eBody "index" ⟨7, 8, 7, 13⟩ ⟨7, 8, 7, 15⟩ ⟨7, 8, 7, 24⟩ ⟨7, 25, 7, 30⟩ ⟨7, 8, 7, 31⟩ ⟨7, 8, 7, 31⟩ ⟨8, 8, 8, 12⟩ ⟨8, 8, 8, 18⟩ ⟨8, 21, 8, 26⟩ ⟨8, 8, 8, 26⟩) (DnX.eScope "index") .none .none edoc1 epm1 ean1 (.ref ecda1) ect1 ecc1), eosl1⟩)
    (fc1 : PySem.W.codeIn K (.ref ecda1) "BadItem.__init__" = true)
    (fd1 : K.lookup ecda1 = some ⟨ccl1, ecdd1, .fields evs1, eccs1⟩)
    (fv1 : evs1[2]? = some (.str file1 etf1))
    (ff1 : ((prog.main.file : Str) == file1) = true)
    (fx1 : K.lookup ecc1 = some ⟨ecl1, ecld1, .cell (some (.ref C1)), ecsl1⟩)
    (ec2 : K.lookup C2 = some (excClassObj nm2 q2 C2 NN2 bs2 bm2 true sn2 sub2 ab2 col2 dd2 kk0_2 kk1_2 kk2_2 kk3_2 kk5_2 "ValueError.__new__"))
    (er2 : refsVE bm2 = true)
    (el2 : PySem.W.clsIn K C2 = some { name := nm2, bases := bs2, mro := .ref C2 :: bm2, ns := NN2, qualname := q2, hasDict := true, slotNames := sn2, subclasses := sub2, abstract := ab2, collection := col2, hasDel := false })
    (esa2 : PySem.W.findIn K (.ref C2) "__setattr__" = some (some (.builtin "object.__setattr__")))
    (ei2 : PySem.W.findIn K (.ref C2) "__init__" = some (some (.ref fI2)))
    (et2 : PySem.W.typeIn K (.ref fI2) = some (.type "function"))
    (ek2 : PySem.W.keepIn K (.ref C2) = true)
    (ev2 : PySem.W.subIn K (.ref C2) (.type "ValueError") = some true)
    (em2 : PySem.W.mroIn K C2 (.ref C2) = some true)
    (es2 : PySem.W.ks_superIn K C2 C2 "__init__" = some (some (.builtin "ValueError.__init__")))
    (fl2 : K.lookup fI2 = some ⟨eoc2, eod2, .func (ksFn "__init__" "TooMany.__init__" (DnX.eArg "limit" ⟨11, 17, 11, 21⟩ ⟨11, 23, 11, 28⟩) (DnX.eBody "limit" ⟨12, 8, 12, 13⟩ ⟨12, 8, 12, 15⟩ ⟨12, 8, 12, 24⟩ ⟨12, 25, 12, 30⟩ ⟨12, 8, 12, 31⟩ ⟨12, 8, 12, 31⟩ ⟨13, 8, 13, 12⟩ ⟨13, 8, 13, 18⟩ ⟨13, 21, 13, 26⟩ ⟨13, 8, 13, 26⟩) (DnX.eScope "limit") .none .none edoc2 epm2 ean2 (.ref ecda2) ect2 ecc2), eosl2⟩)
    (fc2 : PySem.W.codeIn K (.ref ecda2) "TooMany.__init__" = true)
    (fd2 : K.lookup ecda2 = some ⟨ccl2, ecdd2, .fields evs2, eccs2⟩)
    (fv2 : evs2[2]? = some (.str file2 etf2))
    (ff2 : ((prog.main.file : Str) == file2) = true)
    (fx2 : K.lookup ecc2 = some ⟨ecl2, ecld2, .cell (some (.ref C2)), ecsl2⟩)
    (op : PySem.W.nsIn K cStatics "thirdparty.any" = some none)
    (tp : (prog.main.scope.names.lookup ("super" : Str)).isSome = false) :
    ∃ fd : FuncData, (∀ (s : Shared) (v : Value), BindsTo s fd ⟨[v], []⟩ [("script", v)]) ∧ ∀ base : Heap, K.In base → base.Ns mainGlobals mg → FnG prog w K mg base (2 * n) fa fd ["script"] (spLaw K) := by
  have e := hfa.symm.trans (PySem.W.mg_of X G a37)
  have e2 : f37 = fa := by injection e with e; injection e with e; exact e.symm
  subst e2
  have F0 := fun_mk (st := s0) l0 d0 k0
  have F1 := fun_mk (st := s1) l1 d1 k1
  have F2 := fun_mk (st := s2) l2 d2 k2
  have F3 := fun_mk (st := s3) l3 d3 k3
  have F4 := fun_mk (st := s4) l4 d4 k4
  have F5 := fun_mk (st := s5) l5 d5 k5
  have F6 := fun_mk (st := s6) l6 d6 k6
  have F7 := fun_mk (st := s7) l7 d7 k7
  have F8 := fun_mk (st := s8) l8 d8 k8
  have F9 := fun_mk (st := s9) l9 d9 k9
  have F10 := fun_mk (st := s10) l10 d10 k10
  have F11 := fun_mk (st := s11) l11 d11 k11
  have F12 := fun_mk (st := s12) l12 d12 k12
  have F13 := fun_mk (st := s13) l13 d13 k13
  have F14 := fun_mk (st := s14) l14 d14 k14
  have F15 := fun_mk (st := s15) l15 d15 k15
  have F16 := fun_mk (st := s16) l16 d16 k16
  have F17 := fun_mk (st := s17) l17 d17 k17
  have F18 := fun_mk (st := s18) l18 d18 k18
  have F19 := fun_mk (st := s19) l19 d19 k19
  have F20 := fun_mk (st := s20) l20 d20 k20
  have F21 := fun_mk (st := s21) l21 d21 k21
  have F22 := fun_mk (st := s22) l22 d22 k22
  have F23 := fun_mk (st := s23) l23 d23 k23
  have F24 := fun_mk (st := s24) l24 d24 k24
  have F25 := fun_mk (st := s25) l25 d25 k25
  have F26 := fun_mk (st := s26) l26 d26 k26
  have F27 := fun_mk (st := s27) l27 d27 k27
  have F28 := fun_mk (st := s28) l28 d28 k28
  have F29 := fun_mk (st := s29) l29 d29 k29
  have F30 := fun_mk (st := s30) l30 d30 k30
  have F31 := fun_mk (st := s31) l31 d31 k31
  have F32 := fun_mk (st := s32) l32 d32 k32
  have F33 := fun_mk (st := s33) l33 d33 k33
  have F34 := fun_mk (st := s34) l34 d34 k34
  have F35 := fun_mk (st := s35) l35 d35 k35
  have F36 := fun_mk (st := s36) l36 d36 k36
  have F37 := fun_mk (st := s37) l37 d37 k37
  have B0 := F0.binds (ps := ["value"]) fun _ _ _ _ _ _ us hl => match us, hl with | [_], _ => rfl
  have B1 := F1.binds (ps := ["value", "least", "most"]) fun _ _ _ _ _ _ us hl => match us, hl with | [_, _, _], _ => rfl
  have B2 := F2.binds (ps := ["value"]) fun _ _ _ _ _ _ us hl => match us, hl with | [_], _ => rfl
  have B3 := F3.binds (ps := ["value"]) fun _ _ _ _ _ _ us hl => match us, hl with | [_], _ => rfl
  have B4 := F4.binds (ps := ["value", "is_item", "most"]) fun _ _ _ _ _ _ us hl => match us, hl with | [_, _, _], _ => rfl
  have B5 := F5.binds (ps := ["top", "bottom"]) fun _ _ _ _ _ _ us hl => match us, hl with | [_, _], _ => rfl
  have B6 := F6.binds (ps := ["one", "other"]) fun _ _ _ _ _ _ us hl => match us, hl with | [_, _], _ => rfl
  have B7 := F7.binds (ps := ["one", "other"]) fun _ _ _ _ _ _ us hl => match us, hl with | [_, _], _ => rfl
  have B8 := F8.binds (ps := ["one", "other"]) fun _ _ _ _ _ _ us hl => match us, hl with | [_, _], _ => rfl
  have B9 := F9.binds (ps := ["value"]) fun _ _ _ _ _ _ us hl => match us, hl with | [_], _ => rfl
  have B10 := F10.binds (ps := ["self", "peaks"]) fun _ _ _ _ _ _ us hl => match us, hl with | [_, _], _ => rfl
  have B11 := F11.binds (ps := ["self", "other"]) fun _ _ _ _ _ _ us hl => match us, hl with | [_, _], _ => rfl
  have B12 := F12.binds (ps := ["self"]) fun _ _ _ _ _ _ us hl => match us, hl with | [_], _ => rfl
  have B13 := F13.binds (ps := ["self", "level"]) fun _ _ _ _ _ _ us hl => match us, hl with | [_, _], _ => rfl
  have B14 := F14.binds (ps := ["self", "level"]) fun _ _ _ _ _ _ us hl => match us, hl with | [_, _], _ => rfl
  have B15 := F15.binds (ps := ["self", "level"]) fun _ _ _ _ _ _ us hl => match us, hl with | [_, _], _ => rfl
  have B16 := F16.binds (ps := ["self"]) fun _ _ _ _ _ _ us hl => match us, hl with | [_], _ => rfl
  have B17 := F17.binds (ps := ["self", "chance"]) fun _ _ _ _ _ _ us hl => match us, hl with | [_, _], _ => rfl
  have B18 := F18.binds (ps := ["self", "level", "years"]) fun _ _ _ _ _ _ us hl => match us, hl with | [_, _, _], _ => rfl
  have B19 := F19.binds (ps := ["self", "level", "least"]) fun _ _ _ _ _ _ us hl => match us, hl with | [_, _, _], _ => rfl
  have B20 := F20.binds (ps := ["self", "level"]) fun _ _ _ _ _ _ us hl => match us, hl with | [_, _], _ => rfl
  have B21 := F21.binds (ps := ["self"]) fun _ _ _ _ _ _ us hl => match us, hl with | [_], _ => rfl
  have B22 := F22.binds (ps := ["self"]) fun _ _ _ _ _ _ us hl => match us, hl with | [_], _ => rfl
  have B23 := F23.binds (ps := ["self"]) fun _ _ _ _ _ _ us hl => match us, hl with | [_], _ => rfl
  have B24 := F24.binds (ps := ["self", "level", "price", "harm"]) fun _ _ _ _ _ _ us hl => match us, hl with | [_, _, _, _], _ => rfl
  have B25 := F25.binds (ps := ["self", "price", "harm"]) fun _ _ _ _ _ _ us hl => match us, hl with | [_, _, _], _ => rfl
  have B26 := F26.binds (ps := ["self", "peak"]) fun _ _ _ _ _ _ us hl => match us, hl with | [_, _], _ => rfl
  have B27 := F27.binds (ps := ["self", "years"]) fun _ _ _ _ _ _ us hl => match us, hl with | [_, _], _ => rfl
  have B28 := F28.binds (ps := ["peaks", "wide"]) fun _ _ _ _ _ _ us hl => match us, hl with | [_, _], _ => rfl
  have B29 := F29.binds (ps := ["value"]) fun _ _ _ _ _ _ us hl => match us, hl with | [_], _ => rfl
  have B30 := F30.binds (ps := ["row", "many"]) fun _ _ _ _ _ _ us hl => match us, hl with | [_, _], _ => rfl
  have B31 := F31.binds (ps := ["row", "kinds"]) fun _ _ _ _ _ _ us hl => match us, hl with | [_, _], _ => rfl
  have B32 := F32.binds (ps := ["found", "due"]) fun _ _ _ _ _ _ us hl => match us, hl with | [_, _], _ => rfl
  have B33 := F33.binds (ps := ["row", "value"]) fun _ _ _ _ _ _ us hl => match us, hl with | [_, _], _ => rfl
  have B34 := F34.binds (ps := ["firsts", "seconds"]) fun _ _ _ _ _ _ us hl => match us, hl with | [_, _], _ => rfl
  have B35 := F35.binds (ps := ["top", "bottom"]) fun _ _ _ _ _ _ us hl => match us, hl with | [_, _], _ => rfl
  have B36 := F36.binds (ps := ["row", "made", "peaks"]) fun _ _ _ _ _ _ us hl => match us, hl with | [_, _, _], _ => rfl
  have B37 := F37.binds (ps := ["script"]) fun _ _ _ _ _ _ us hl => match us, hl with | [_], _ => rfl
  let i0 : Fi := ⟨f0, "is_whole", PySem.W.fnOf "is_whole" "is_whole" (defArgs s0) (defBody s0) (defScope s0) .none kV0 dc0 pm0 an0 cd0 ct0, ["value"]⟩
  let i1 : Fi := ⟨f1, "is_number", PySem.W.fnOf "is_number" "is_number" (defArgs s1) (defBody s1) (defScope s1) .none kV1 dc1 pm1 an1 cd1 ct1, ["value", "least", "most"]⟩
  let i2 : Fi := ⟨f2, "is_row", PySem.W.fnOf "is_row" "is_row" (defArgs s2) (defBody s2) (defScope s2) .none kV2 dc2 pm2 an2 cd2 ct2, ["value"]⟩
  let i3 : Fi := ⟨f3, "frozen", PySem.W.fnOf "frozen" "frozen" (defArgs s3) (defBody s3) (defScope s3) .none kV3 dc3 pm3 an3 cd3 ct3, ["value"]⟩
  let i4 : Fi := ⟨f4, "want_row", PySem.W.fnOf "want_row" "want_row" (defArgs s4) (defBody s4) (defScope s4) .none kV4 dc4 pm4 an4 cd4 ct4, ["value", "is_item", "most"]⟩
  let i5 : Fi := ⟨f5, "reduced", PySem.W.fnOf "reduced" "reduced" (defArgs s5) (defBody s5) (defScope s5) .none kV5 dc5 pm5 an5 cd5 ct5, ["top", "bottom"]⟩
  let i6 : Fi := ⟨f6, "minus", PySem.W.fnOf "minus" "minus" (defArgs s6) (defBody s6) (defScope s6) .none kV6 dc6 pm6 an6 cd6 ct6, ["one", "other"]⟩
  let i7 : Fi := ⟨f7, "times", PySem.W.fnOf "times" "times" (defArgs s7) (defBody s7) (defScope s7) .none kV7 dc7 pm7 an7 cd7 ct7, ["one", "other"]⟩
  let i8 : Fi := ⟨f8, "is_less", PySem.W.fnOf "is_less" "is_less" (defArgs s8) (defBody s8) (defScope s8) .none kV8 dc8 pm8 an8 cd8 ct8, ["one", "other"]⟩
  let i9 : Fi := ⟨f9, "is_peak", PySem.W.fnOf "is_peak" "is_peak" (defArgs s9) (defBody s9) (defScope s9) .none kV9 dc9 pm9 an9 cd9 ct9, ["value"]⟩
  let i10 : Fi := ⟨f10, "Record.__init__", PySem.W.fnOf "__init__" "Record.__init__" (defArgs s10) (defBody s10) (defScope s10) .none kV10 dc10 pm10 an10 cd10 ct10, ["self", "peaks"]⟩
  let i11 : Fi := ⟨f11, "Record.__eq__", PySem.W.fnOf "__eq__" "Record.__eq__" (defArgs s11) (defBody s11) (defScope s11) .none kV11 dc11 pm11 an11 cd11 ct11, ["self", "other"]⟩
  let i12 : Fi := ⟨f12, "Record.__len__", PySem.W.fnOf "__len__" "Record.__len__" (defArgs s12) (defBody s12) (defScope s12) .none kV12 dc12 pm12 an12 cd12 ct12, ["self"]⟩
  let i13 : Fi := ⟨f13, "Record.above", PySem.W.fnOf "above" "Record.above" (defArgs s13) (defBody s13) (defScope s13) .none kV13 dc13 pm13 an13 cd13 ct13, ["self", "level"]⟩
  let i14 : Fi := ⟨f14, "Record.chance", PySem.W.fnOf "chance" "Record.chance" (defArgs s14) (defBody s14) (defScope s14) .none kV14 dc14 pm14 an14 cd14 ct14, ["self", "level"]⟩
  let i15 : Fi := ⟨f15, "Record.careful_chance", PySem.W.fnOf "careful_chance" "Record.careful_chance" (defArgs s15) (defBody s15) (defScope s15) .none kV15 dc15 pm15 an15 cd15 ct15, ["self", "level"]⟩
  let i16 : Fi := ⟨f16, "Record.ranked", PySem.W.fnOf "ranked" "Record.ranked" (defArgs s16) (defBody s16) (defScope s16) .none kV16 dc16 pm16 an16 cd16 ct16, ["self"]⟩
  let i17 : Fi := ⟨f17, "Record.level_for", PySem.W.fnOf "level_for" "Record.level_for" (defArgs s17) (defBody s17) (defScope s17) .none kV17 dc17 pm17 an17 cd17 ct17, ["self", "chance"]⟩
  let i18 : Fi := ⟨f18, "Record.never", PySem.W.fnOf "never" "Record.never" (defArgs s18) (defBody s18) (defScope s18) .none kV18 dc18 pm18 an18 cd18 ct18, ["self", "level", "years"]⟩
  let i19 : Fi := ⟨f19, "Record.years_held", PySem.W.fnOf "years_held" "Record.years_held" (defArgs s19) (defBody s19) (defScope s19) .none kV19 dc19 pm19 an19 cd19 ct19, ["self", "level", "least"]⟩
  let i20 : Fi := ⟨f20, "Record.longest_dry", PySem.W.fnOf "longest_dry" "Record.longest_dry" (defArgs s20) (defBody s20) (defScope s20) .none kV20 dc20 pm20 an20 cd20 ct20, ["self", "level"]⟩
  let i21 : Fi := ⟨f21, "Record.records", PySem.W.fnOf "records" "Record.records" (defArgs s21) (defBody s21) (defScope s21) .none kV21 dc21 pm21 an21 cd21 ct21, ["self"]⟩
  let i22 : Fi := ⟨f22, "Record.mean", PySem.W.fnOf "mean" "Record.mean" (defArgs s22) (defBody s22) (defScope s22) .none kV22 dc22 pm22 an22 cd22 ct22, ["self"]⟩
  let i23 : Fi := ⟨f23, "Record.rising_pairs", PySem.W.fnOf "rising_pairs" "Record.rising_pairs" (defArgs s23) (defBody s23) (defScope s23) .none kV23 dc23 pm23 an23 cd23 ct23, ["self"]⟩
  let i24 : Fi := ⟨f24, "Record.cost", PySem.W.fnOf "cost" "Record.cost" (defArgs s24) (defBody s24) (defScope s24) .none kV24 dc24 pm24 an24 cd24 ct24, ["self", "level", "price", "harm"]⟩
  let i25 : Fi := ⟨f25, "Record.best_level", PySem.W.fnOf "best_level" "Record.best_level" (defArgs s25) (defBody s25) (defScope s25) .none kV25 dc25 pm25 an25 cd25 ct25, ["self", "price", "harm"]⟩
  let i26 : Fi := ⟨f26, "Record.with_peak", PySem.W.fnOf "with_peak" "Record.with_peak" (defArgs s26) (defBody s26) (defScope s26) .none kV26 dc26 pm26 an26 cd26 ct26, ["self", "peak"]⟩
  let i27 : Fi := ⟨f27, "Record.last", PySem.W.fnOf "last" "Record.last" (defArgs s27) (defBody s27) (defScope s27) .none kV27 dc27 pm27 an27 cd27 ct27, ["self", "years"]⟩
  let i28 : Fi := ⟨f28, "smoothed", PySem.W.fnOf "smoothed" "smoothed" (defArgs s28) (defBody s28) (defScope s28) .none kV28 dc28 pm28 an28 cd28 ct28, ["peaks", "wide"]⟩
  let i29 : Fi := ⟨f29, "are_peaks", PySem.W.fnOf "are_peaks" "are_peaks" (defArgs s29) (defBody s29) (defScope s29) .none kV29 dc29 pm29 an29 cd29 ct29, ["value"]⟩
  let i30 : Fi := ⟨f30, "_law_taken", PySem.W.fnOf "_law_taken" "_law_taken" (defArgs s30) (defBody s30) (defScope s30) .none kV30 dc30 pm30 an30 cd30 ct30, ["row", "many"]⟩
  let i31 : Fi := ⟨f31, "_law_pick", PySem.W.fnOf "_law_pick" "_law_pick" (defArgs s31) (defBody s31) (defScope s31) .none kV31 dc31 pm31 an31 cd31 ct31, ["row", "kinds"]⟩
  let i32 : Fi := ⟨f32, "_law_alike", PySem.W.fnOf "_law_alike" "_law_alike" (defArgs s32) (defBody s32) (defScope s32) .none kV32 dc32 pm32 an32 cd32 ct32, ["found", "due"]⟩
  let i33 : Fi := ⟨f33, "_law_mixed", PySem.W.fnOf "_law_mixed" "_law_mixed" (defArgs s33) (defBody s33) (defScope s33) .none kV33 dc33 pm33 an33 cd33 ct33, ["row", "value"]⟩
  let i34 : Fi := ⟨f34, "_law_pairs", PySem.W.fnOf "_law_pairs" "_law_pairs" (defArgs s34) (defBody s34) (defScope s34) .none kV34 dc34 pm34 an34 cd34 ct34, ["firsts", "seconds"]⟩
  let i35 : Fi := ⟨f35, "_law_low3", PySem.W.fnOf "_law_low3" "_law_low3" (defArgs s35) (defBody s35) (defScope s35) .none kV35 dc35 pm35 an35 cd35 ct35, ["top", "bottom"]⟩
  let i36 : Fi := ⟨f36, "_law_refused", PySem.W.fnOf "_law_refused" "_law_refused" (defArgs s36) (defBody s36) (defScope s36) .none kV36 dc36 pm36 an36 cd36 ct36, ["row", "made", "peaks"]⟩
  let i37 : Fi := ⟨f37, "law", PySem.W.fnOf "law" "law" (defArgs s37) (defBody s37) (defScope s37) .none kV37 dc37 pm37 an37 cd37 ct37, ["script"]⟩
  let fi := fiOf [i0, i1, i2, i3, i4, i5, i6, i7, i8, i9, i10, i11, i12, i13, i14, i15, i16, i17, i18, i19, i20, i21, i22, i23, i24, i25, i26, i27, i28, i29, i30, i31, i32, i33, i34, i35, i36, i37]
  let t := mkTb K [f0, f1, f2, f3, f4, f5, f6, f7, f8, f9, f10, f11, f12, f13, f14, f15, f16, f17, f18, f19, f20, f21, f22, f23, f24, f25, f26, f27, f28, f29, f30, f31, f32, f33, f34, f35, f36, f37] [D0] [C0, C1, C2] names [[], [5], [6]] []
  have hK : K = t.K := rfl
  have inj : ∀ i j, t.nm i = t.nm j → i = j := nmOf_inj (by decide +kernel) (by decide +kernel)
  have sc0 : FnScope N0 ["value"] (defScope s0) := ⟨rfl, rfl, rfl, by decide +kernel, rfl, by decide +kernel, by decide +kernel⟩
  have sc1 : FnScope N1 ["value", "least", "most"] (defScope s1) := ⟨rfl, rfl, rfl, by decide +kernel, rfl, by decide +kernel, by decide +kernel⟩
  have sc2 : FnScope N2 ["value"] (defScope s2) := ⟨rfl, rfl, rfl, by decide +kernel, rfl, by decide +kernel, by decide +kernel⟩
  have sc3 : FnScope N3 ["value"] (defScope s3) := ⟨rfl, rfl, rfl, by decide +kernel, rfl, by decide +kernel, by decide +kernel⟩
  have sc4 : FnScope N4 ["value", "is_item", "most"] (defScope s4) := ⟨rfl, rfl, rfl, by decide +kernel, rfl, by decide +kernel, by decide +kernel⟩
  have sc5 : FnScope N5 ["top", "bottom"] (defScope s5) := ⟨rfl, rfl, rfl, by decide +kernel, rfl, by decide +kernel, by decide +kernel⟩
  have sc6 : FnScope N6 ["one", "other"] (defScope s6) := ⟨rfl, rfl, rfl, by decide +kernel, rfl, by decide +kernel, by decide +kernel⟩
  have sc7 : FnScope N7 ["one", "other"] (defScope s7) := ⟨rfl, rfl, rfl, by decide +kernel, rfl, by decide +kernel, by decide +kernel⟩
  have sc8 : FnScope N8 ["one", "other"] (defScope s8) := ⟨rfl, rfl, rfl, by decide +kernel, rfl, by decide +kernel, by decide +kernel⟩
  have sc9 : FnScope N9 ["value"] (defScope s9) := ⟨rfl, rfl, rfl, by decide +kernel, rfl, by decide +kernel, by decide +kernel⟩
  have sc10 : FnScope N10 ["self", "peaks"] (defScope s10) := ⟨rfl, rfl, rfl, by decide +kernel, rfl, by decide +kernel, by decide +kernel⟩
  have sc11 : FnScope N11 ["self", "other"] (defScope s11) := ⟨rfl, rfl, rfl, by decide +kernel, rfl, by decide +kernel, by decide +kernel⟩
  have sc12 : FnScope N12 ["self"] (defScope s12) := ⟨rfl, rfl, rfl, by decide +kernel, rfl, by decide +kernel, by decide +kernel⟩
  have sc13 : FnScope N13 ["self", "level"] (defScope s13) := ⟨rfl, rfl, rfl, by decide +kernel, rfl, by decide +kernel, by decide +kernel⟩
  have sc14 : FnScope N14 ["self", "level"] (defScope s14) := ⟨rfl, rfl, rfl, by decide +kernel, rfl, by decide +kernel, by decide +kernel⟩
  have sc15 : FnScope N15 ["self", "level"] (defScope s15) := ⟨rfl, rfl, rfl, by decide +kernel, rfl, by decide +kernel, by decide +kernel⟩
  have sc16 : FnScope N16 ["self"] (defScope s16) := ⟨rfl, rfl, rfl, by decide +kernel, rfl, by decide +kernel, by decide +kernel⟩
  have sc17 : FnScope N17 ["self", "chance"] (defScope s17) := ⟨rfl, rfl, rfl, by decide +kernel, rfl, by decide +kernel, by decide +kernel⟩
  have sc18 : FnScope N18 ["self", "level", "years"] (defScope s18) := ⟨rfl, rfl, rfl, by decide +kernel, rfl, by decide +kernel, by decide +kernel⟩
  have sc19 : FnScope N19 ["self", "level", "least"] (defScope s19) := ⟨rfl, rfl, rfl, by decide +kernel, rfl, by decide +kernel, by decide +kernel⟩
  have sc20 : FnScope N20 ["self", "level"] (defScope s20) := ⟨rfl, rfl, rfl, by decide +kernel, rfl, by decide +kernel, by decide +kernel⟩
  have sc21 : FnScope N21 ["self"] (defScope s21) := ⟨rfl, rfl, rfl, by decide +kernel, rfl, by decide +kernel, by decide +kernel⟩
  have sc22 : FnScope N22 ["self"] (defScope s22) := ⟨rfl, rfl, rfl, by decide +kernel, rfl, by decide +kernel, by decide +kernel⟩
  have sc23 : FnScope N23 ["self"] (defScope s23) := ⟨rfl, rfl, rfl, by decide +kernel, rfl, by decide +kernel, by decide +kernel⟩
  have sc24 : FnScope N24 ["self", "level", "price", "harm"] (defScope s24) := ⟨rfl, rfl, rfl, by decide +kernel, rfl, by decide +kernel, by decide +kernel⟩
  have sc25 : FnScope N25 ["self", "price", "harm"] (defScope s25) := ⟨rfl, rfl, rfl, by decide +kernel, rfl, by decide +kernel, by decide +kernel⟩
  have sc26 : FnScope N26 ["self", "peak"] (defScope s26) := ⟨rfl, rfl, rfl, by decide +kernel, rfl, by decide +kernel, by decide +kernel⟩
  have sc27 : FnScope N27 ["self", "years"] (defScope s27) := ⟨rfl, rfl, rfl, by decide +kernel, rfl, by decide +kernel, by decide +kernel⟩
  have sc28 : FnScope N28 ["peaks", "wide"] (defScope s28) := ⟨rfl, rfl, rfl, by decide +kernel, rfl, by decide +kernel, by decide +kernel⟩
  have sc29 : FnScope N29 ["value"] (defScope s29) := ⟨rfl, rfl, rfl, by decide +kernel, rfl, by decide +kernel, by decide +kernel⟩
  have sc30 : FnScope N30 ["row", "many"] (defScope s30) := ⟨rfl, rfl, rfl, by decide +kernel, rfl, by decide +kernel, by decide +kernel⟩
  have sc31 : FnScope N31 ["row", "kinds"] (defScope s31) := ⟨rfl, rfl, rfl, by decide +kernel, rfl, by decide +kernel, by decide +kernel⟩
  have sc32 : FnScope N32 ["found", "due"] (defScope s32) := ⟨rfl, rfl, rfl, by decide +kernel, rfl, by decide +kernel, by decide +kernel⟩
  have sc33 : FnScope N33 ["row", "value"] (defScope s33) := ⟨rfl, rfl, rfl, by decide +kernel, rfl, by decide +kernel, by decide +kernel⟩
  have sc34 : FnScope N34 ["firsts", "seconds"] (defScope s34) := ⟨rfl, rfl, rfl, by decide +kernel, rfl, by decide +kernel, by decide +kernel⟩
  have sc35 : FnScope N35 ["top", "bottom"] (defScope s35) := ⟨rfl, rfl, rfl, by decide +kernel, rfl, by decide +kernel, by decide +kernel⟩
  have sc36 : FnScope N36 ["row", "made", "peaks"] (defScope s36) := ⟨rfl, rfl, rfl, by decide +kernel, rfl, by decide +kernel, by decide +kernel⟩
  have sc37 : FnScope N37 ["script"] (defScope s37) := ⟨rfl, rfl, rfl, by decide +kernel, rfl, by decide +kernel, by decide +kernel⟩
  have bds : ∀ f i, fi f = some i → Binds K i.fd i.ps [] := AllI.all ⟨B0, B1, B2, B3, B4, B5, B6, B7, B8, B9, B10, B11, B12, B13, B14, B15, B16, B17, B18, B19, B20, B21, B22, B23, B24, B25, B26, B27, B28, B29, B30, B31, B32, B33, B34, B35, B36, B37, trivial⟩
  have E1 : DnX.ETxt prog K C1 fI1 ("index" : Str) := { cls := ⟨_, _, _, _, _, _, _, _, _, _, _, _, _, _, _, ec1, er1, el1⟩, sa := esa1, ga := xga1, gg := xgg1, noN := xno1_5, iC := ei1, tC := et1, kC := ek1, exC := xex1, veC := ev1, tyC := xty1, hdC := xhd1, mr := em1, si := es1, op := op, top := tp, f1 := by decide +kernel, f2 := by decide +kernel, f3 := by decide +kernel, f4 := by decide +kernel, fn := ⟨_, _, _, _, _, _, _, _, _, _, _, _, _, _, _, _, _, _, _, _, _, _, _, _, _, _, _, _, _, _, _, fl1, fc1, fd1, fv1, ff1, fx1, fun _ _ => rfl, fun env => ⟨_, rfl⟩⟩ }
  have E2 : DnX.ETxt prog K C2 fI2 ("limit" : Str) := { cls := ⟨_, _, _, _, _, _, _, _, _, _, _, _, _, _, _, ec2, er2, el2⟩, sa := esa2, ga := xga2, gg := xgg2, noN := xno2_6, iC := ei2, tC := et2, kC := ek2, exC := xex2, veC := ev2, tyC := xty2, hdC := xhd2, mr := em2, si := es2, op := op, top := tp, f1 := by decide +kernel, f2 := by decide +kernel, f3 := by decide +kernel, f4 := by decide +kernel, fn := ⟨_, _, _, _, _, _, _, _, _, _, _, _, _, _, _, _, _, _, _, _, _, _, _, _, _, _, _, _, _, _, _, fl2, fc2, fd2, fv2, ff2, fx2, fun _ _ => rfl, fun env => ⟨_, rfl⟩⟩ }
  have cf0 : ∀ cd, k21_prog.cls[0]? = some cd → CF t k21_prog 0 cd := fun cd e => by
    cases e
    exact {
      ins := ⟨⟨cpg0, chd0, cpo0, csa0⟩, cha0, chn, chtk, chm0, cki0_0⟩
      noat := fun f hf => by rcases List.mem_cons.mp hf with rfl | hf; exact cno0_0; cases hf
      meth := fun m f h => look_all (p := fun m f => Meth t.K (t.ca 0) (t.nm m) (t.fa f)) (l := [(1, 13), (2, 14), (8, 15), (7, 16), (10, 17), (11, 18), (12, 19), (9, 20), (13, 21), (14, 22), (15, 23), (3, 24), (16, 25), (17, 26), (4, 27)]) ⟨⟨a13, if13, k13⟩, ⟨a14, if14, k14⟩, ⟨a15, if15, k15⟩, ⟨a16, if16, k16⟩, ⟨a17, if17, k17⟩, ⟨a18, if18, k18⟩, ⟨a19, if19, k19⟩, ⟨a20, if20, k20⟩, ⟨a21, if21, k21⟩, ⟨a22, if22, k22⟩, ⟨a23, if23, k23⟩, ⟨a24, if24, k24⟩, ⟨a25, if25, k25⟩, ⟨a26, if26, k26⟩, ⟨a27, if27, k27⟩, trivial⟩ h
      make := ⟨cmk0, a10, if10, ckp0⟩
      kit := fun y hy => match y, hy with | .int, _ => cki0_int | .bool, _ => cki0_bool | .str, _ => cki0_str | .list, _ => cki0_list | .tuple, _ => cki0_tuple | .dict, _ => cki0_dict | .cls 0, _ => cki0_0 | .cls (k + 1), h => absurd (h _ rfl) (by show ¬ _ < 1; omega)
      tik := fun k hk => match k, hk with | .non, _ => ckt0_NoneType | .ty .bool, _ => ckt0_bool | .ty .int, _ => ckt0_int | .ty .str, _ => ckt0_str | .ty .list, _ => ckt0_list | .ty .tuple, _ => ckt0_tuple | .ty .dict, _ => ckt0_dict | .ty (.cls c'), h => absurd rfl (h c')
      eqm := fun f h => by cases h; exact ⟨a11, if11, cne0⟩
      lnm := fun f h => by cases h; exact ⟨a12, if12⟩
      nf := fun k hk => match k, hk with | .non, _ => cnf0_NoneType | .ty .bool, _ => cnf0_bool | .ty .int, _ => cnf0_int | .ty .str, _ => cnf0_str | .ty .list, _ => cnf0_list | .ty .tuple, _ => cnf0_tuple | .ty .dict, _ => cnf0_dict | .ty (.cls 0), _ => cnf0_0 | .ty (.cls (k + 1)), h => absurd (h _ rfl) (by show ¬ _ < 1; omega) }
  have cfs : CFs t k21_prog := fun c cd e => match c, e with | 0, e => cf0 cd e | k + 1, e => by simp [k21_prog] at e
  have kf : KFi t.K fi := AllI.all (p := fun _ i => PySem.W.keepIn K (.ref i.a) = true) ⟨k0, k1, k2, k3, k4, k5, k6, k7, k8, k9, k10, k11, k12, k13, k14, k15, k16, k17, k18, k19, k20, k21, k22, k23, k24, k25, k26, k27, k28, k29, k30, k31, k32, k33, k34, k35, k36, k37, trivial⟩
  have af : AFi t.fa fi k21_prog := fun f hf => afi_of [i0, i1, i2, i3, i4, i5, i6, i7, i8, i9, i10, i11, i12, i13, i14, i15, i16, i17, i18, i19, i20, i21, i22, i23, i24, i25, i26, i27, i28, i29, i30, i31, i32, i33, i34, i35, i36, i37] f hf
  have L : ∀ xi : List Addr, Lf prog { t with xi := xi } mg fi := fun xi => {
    b_isinstance := PySem.W.mg_none_of X G z_isinstance,
    b_bool := PySem.W.mg_none_of X G z_bool,
    b_int := PySem.W.mg_none_of X G z_int,
    b_tuple := PySem.W.mg_none_of X G z_tuple,
    b_list := PySem.W.mg_none_of X G z_list,
    b_len := PySem.W.mg_none_of X G z_len,
    b_enumerate := PySem.W.mg_none_of X G z_enumerate,
    b_abs := PySem.W.mg_none_of X G z_abs,
    b_sorted := PySem.W.mg_none_of X G z_sorted,
    b_max := PySem.W.mg_none_of X G z_max,
    b_set := PySem.W.mg_none_of X G z_set,
    b_range := PySem.W.mg_none_of X G z_range,
    b_all := PySem.W.mg_none_of X G z_all,
    b_sum := PySem.W.mg_none_of X G z_sum,
    b_min := PySem.W.mg_none_of X G z_min,
    b_str := PySem.W.mg_none_of X G z_str,
    b_repr := PySem.W.mg_none_of X G z_repr,
    c_0 := ⟨i0, rfl, rfl, rfl, ⟨PySem.W.mg_of X G a0, k0, by show (("is_whole" : Str) == ("__debug__" : Str)) = false; decide +kernel⟩⟩,
    c_1 := ⟨i1, rfl, rfl, rfl, ⟨PySem.W.mg_of X G a1, k1, by show (("is_number" : Str) == ("__debug__" : Str)) = false; decide +kernel⟩⟩,
    c_2 := ⟨i2, rfl, rfl, rfl, ⟨PySem.W.mg_of X G a2, k2, by show (("is_row" : Str) == ("__debug__" : Str)) = false; decide +kernel⟩⟩,
    c_3 := ⟨i3, rfl, rfl, rfl, ⟨PySem.W.mg_of X G a3, k3, by show (("frozen" : Str) == ("__debug__" : Str)) = false; decide +kernel⟩⟩,
    c_4 := ⟨i4, rfl, rfl, rfl, ⟨PySem.W.mg_of X G a4, k4, by show (("want_row" : Str) == ("__debug__" : Str)) = false; decide +kernel⟩⟩,
    c_5 := ⟨i5, rfl, rfl, rfl, ⟨PySem.W.mg_of X G a5, k5, by show (("reduced" : Str) == ("__debug__" : Str)) = false; decide +kernel⟩⟩,
    c_6 := ⟨i6, rfl, rfl, rfl, ⟨PySem.W.mg_of X G a6, k6, by show (("minus" : Str) == ("__debug__" : Str)) = false; decide +kernel⟩⟩,
    c_7 := ⟨i7, rfl, rfl, rfl, ⟨PySem.W.mg_of X G a7, k7, by show (("times" : Str) == ("__debug__" : Str)) = false; decide +kernel⟩⟩,
    c_8 := ⟨i8, rfl, rfl, rfl, ⟨PySem.W.mg_of X G a8, k8, by show (("is_less" : Str) == ("__debug__" : Str)) = false; decide +kernel⟩⟩,
    c_9 := ⟨i9, rfl, rfl, rfl, ⟨PySem.W.mg_of X G a9, k9, by show (("is_peak" : Str) == ("__debug__" : Str)) = false; decide +kernel⟩⟩,
    c_28 := ⟨i28, rfl, rfl, rfl, ⟨PySem.W.mg_of X G a28, k28, by show (("smoothed" : Str) == ("__debug__" : Str)) = false; decide +kernel⟩⟩,
    c_29 := ⟨i29, rfl, rfl, rfl, ⟨PySem.W.mg_of X G a29, k29, by show (("are_peaks" : Str) == ("__debug__" : Str)) = false; decide +kernel⟩⟩,
    c_30 := ⟨i30, rfl, rfl, rfl, ⟨PySem.W.mg_of X G a30, k30, by show (("_law_taken" : Str) == ("__debug__" : Str)) = false; decide +kernel⟩⟩,
    c_31 := ⟨i31, rfl, rfl, rfl, ⟨PySem.W.mg_of X G a31, k31, by show (("_law_pick" : Str) == ("__debug__" : Str)) = false; decide +kernel⟩⟩,
    c_32 := ⟨i32, rfl, rfl, rfl, ⟨PySem.W.mg_of X G a32, k32, by show (("_law_alike" : Str) == ("__debug__" : Str)) = false; decide +kernel⟩⟩,
    c_33 := ⟨i33, rfl, rfl, rfl, ⟨PySem.W.mg_of X G a33, k33, by show (("_law_mixed" : Str) == ("__debug__" : Str)) = false; decide +kernel⟩⟩,
    c_34 := ⟨i34, rfl, rfl, rfl, ⟨PySem.W.mg_of X G a34, k34, by show (("_law_pairs" : Str) == ("__debug__" : Str)) = false; decide +kernel⟩⟩,
    c_35 := ⟨i35, rfl, rfl, rfl, ⟨PySem.W.mg_of X G a35, k35, by show (("_law_low3" : Str) == ("__debug__" : Str)) = false; decide +kernel⟩⟩,
    c_36 := ⟨i36, rfl, rfl, rfl, ⟨PySem.W.mg_of X G a36, k36, by show (("_law_refused" : Str) == ("__debug__" : Str)) = false; decide +kernel⟩⟩,
    x_1 := ⟨⟨fI1, E1⟩, rfl, PySem.W.mg_of X G xa1, PySem.W.mg_none_of X G z_super, by decide +kernel⟩,
    x_2 := ⟨⟨fI2, E2⟩, rfl, PySem.W.mg_of X G xa2, PySem.W.mg_none_of X G z_super, by decide +kernel⟩,
    xg_1 := PySem.W.mg_of X G xa1,
    xg_2 := PySem.W.mg_of X G xa2,
    n_0 := rfl,
    n_1 := rfl,
    n_2 := rfl,
    n_3 := rfl,
    n_4 := rfl,
    n_5 := rfl,
    n_6 := rfl,
    n_7 := rfl,
    n_8 := rfl,
    n_9 := rfl,
    n_10 := rfl,
    n_11 := rfl,
    n_12 := rfl,
    n_13 := rfl,
    n_14 := rfl,
    n_15 := rfl,
    n_16 := rfl,
    n_17 := rfl,
    k_0 := ⟨⟨_, i10, rfl, rfl, rfl, PySem.W.mg_of X G ka0⟩⟩,
    kc_0 := PySem.W.mg_of X G ka0,
    g_0 := ⟨_, PySem.W.mg_of X G ga0⟩,
    g_1 := ⟨_, PySem.W.mg_of X G ga1⟩,
    cf := cfs.xi,
    mf := mfi_of af (by decide +kernel),
    ef := efi_of af (by decide +kernel),
    kf := kf,
    af := af,
    xa := fun c xd e => match c, xd, e with | 0, _, e => by cases e; exact ⟨rfl, xga0, xgg0, xex0, xhd0, fun f hf => by rcases hf⟩ | 1, _, e => by cases e; exact ⟨rfl, xga1, xgg1, xex1, xhd1, fun f hf => by rcases List.mem_singleton.mp hf with rfl; exact xno1_5⟩ | 2, _, e => by cases e; exact ⟨rfl, xga2, xgg2, xex2, xhd2, fun f hf => by rcases List.mem_singleton.mp hf with rfl; exact xno2_6⟩ | k + 3, _, e => by simp [k21_prog] at e,
    em := fun c1 xd c2 e => match c1, xd, e with | 0, _, e => by cases e; exact fun h => (match c2, h with | 0, _ => exm_of xex0 xex0 xic0 xty0 xs0_0 | 1, _ => exm_of xex0 xex1 xic1 xty1 xs0_1 | 2, _ => exm_of xex0 xex2 xic2 xty2 xs0_2 | k + 3, h => absurd h (by show ¬ _ < 3; omega)) | 1, _, e => by cases e; exact fun h => (match c2, h with | 0, _ => exm_of xex1 xex0 xic0 xty0 xs1_0 | 1, _ => exm_of xex1 xex1 xic1 xty1 xs1_1 | 2, _ => exm_of xex1 xex2 xic2 xty2 xs1_2 | k + 3, h => absurd h (by show ¬ _ < 3; omega)) | 2, _, e => by cases e; exact fun h => (match c2, h with | 0, _ => exm_of xex2 xex0 xic0 xty0 xs2_0 | 1, _ => exm_of xex2 xex1 xic1 xty1 xs2_1 | 2, _ => exm_of xex2 xex2 xic2 xty2 xs2_2 | k + 3, h => absurd h (by show ¬ _ < 3; omega)) | k + 3, _, e => by simp [k21_prog] at e }
  have all : ∀ base : Heap, ∀ n f i, fi f = some i → FnG prog w K mg base (2 * n) (t.fa f) i.fd i.ps (spC t (callF k21_prog wf n) f) := fun base => all_fn fun n k fns => AllI.all ⟨
    one_fn (N := N0) rfl F0 sc0 rfl rfl hK inj bds (fun xi _ _ _ _ hp h => b0 (L xi) hp h) fns,
    one_fn (N := N1) rfl F1 sc1 rfl rfl hK inj bds (fun xi _ _ _ _ hp h => b1 (L xi) hp h) fns,
    one_fn (N := N2) rfl F2 sc2 rfl rfl hK inj bds (fun xi _ _ _ _ hp h => b2 (L xi) hp h) fns,
    one_fn (N := N3) rfl F3 sc3 rfl rfl hK inj bds (fun xi _ _ _ _ hp h => b3 (L xi) hp h) fns,
    one_fn (N := N4) rfl F4 sc4 rfl rfl hK inj bds (fun xi _ _ _ _ hp h => b4 (L xi) hp h) fns,
    one_fn (N := N5) rfl F5 sc5 rfl rfl hK inj bds (fun xi _ _ _ _ hp h => b5 (L xi) hp h) fns,
    one_fn (N := N6) rfl F6 sc6 rfl rfl hK inj bds (fun xi _ _ _ _ hp h => b6 (L xi) hp h) fns,
    one_fn (N := N7) rfl F7 sc7 rfl rfl hK inj bds (fun xi _ _ _ _ hp h => b7 (L xi) hp h) fns,
    one_fn (N := N8) rfl F8 sc8 rfl rfl hK inj bds (fun xi _ _ _ _ hp h => b8 (L xi) hp h) fns,
    one_fn (N := N9) rfl F9 sc9 rfl rfl hK inj bds (fun xi _ _ _ _ hp h => b9 (L xi) hp h) fns,
    one_fn (N := N10) rfl F10 sc10 rfl rfl hK inj bds (fun xi _ _ _ _ hp h => b10 (L xi) hp h) fns,
    one_fn (N := N11) rfl F11 sc11 rfl rfl hK inj bds (fun xi _ _ _ _ hp h => b11 (L xi) hp h) fns,
    one_fn (N := N12) rfl F12 sc12 rfl rfl hK inj bds (fun xi _ _ _ _ hp h => b12 (L xi) hp h) fns,
    one_fn (N := N13) rfl F13 sc13 rfl rfl hK inj bds (fun xi _ _ _ _ hp h => b13 (L xi) hp h) fns,
    one_fn (N := N14) rfl F14 sc14 rfl rfl hK inj bds (fun xi _ _ _ _ hp h => b14 (L xi) hp h) fns,
    one_fn (N := N15) rfl F15 sc15 rfl rfl hK inj bds (fun xi _ _ _ _ hp h => b15 (L xi) hp h) fns,
    one_fn (N := N16) rfl F16 sc16 rfl rfl hK inj bds (fun xi _ _ _ _ hp h => b16 (L xi) hp h) fns,
    one_fn (N := N17) rfl F17 sc17 rfl rfl hK inj bds (fun xi _ _ _ _ hp h => b17 (L xi) hp h) fns,
    one_fn (N := N18) rfl F18 sc18 rfl rfl hK inj bds (fun xi _ _ _ _ hp h => b18 (L xi) hp h) fns,
    one_fn (N := N19) rfl F19 sc19 rfl rfl hK inj bds (fun xi _ _ _ _ hp h => b19 (L xi) hp h) fns,
    one_fn (N := N20) rfl F20 sc20 rfl rfl hK inj bds (fun xi _ _ _ _ hp h => b20 (L xi) hp h) fns,
    one_fn (N := N21) rfl F21 sc21 rfl rfl hK inj bds (fun xi _ _ _ _ hp h => b21 (L xi) hp h) fns,
    one_fn (N := N22) rfl F22 sc22 rfl rfl hK inj bds (fun xi _ _ _ _ hp h => b22 (L xi) hp h) fns,
    one_fn (N := N23) rfl F23 sc23 rfl rfl hK inj bds (fun xi _ _ _ _ hp h => b23 (L xi) hp h) fns,
    one_fn (N := N24) rfl F24 sc24 rfl rfl hK inj bds (fun xi _ _ _ _ hp h => b24 (L xi) hp h) fns,
    one_fn (N := N25) rfl F25 sc25 rfl rfl hK inj bds (fun xi _ _ _ _ hp h => b25 (L xi) hp h) fns,
    one_fn (N := N26) rfl F26 sc26 rfl rfl hK inj bds (fun xi _ _ _ _ hp h => b26 (L xi) hp h) fns,
    one_fn (N := N27) rfl F27 sc27 rfl rfl hK inj bds (fun xi _ _ _ _ hp h => b27 (L xi) hp h) fns,
    one_fn (N := N28) rfl F28 sc28 rfl rfl hK inj bds (fun xi _ _ _ _ hp h => b28 (L xi) hp h) fns,
    one_fn (N := N29) rfl F29 sc29 rfl rfl hK inj bds (fun xi _ _ _ _ hp h => b29 (L xi) hp h) fns,
    one_fn (N := N30) rfl F30 sc30 rfl rfl hK inj bds (fun xi _ _ _ _ hp h => b30 (L xi) hp h) fns,
    one_fn (N := N31) rfl F31 sc31 rfl rfl hK inj bds (fun xi _ _ _ _ hp h => b31 (L xi) hp h) fns,
    one_fn (N := N32) rfl F32 sc32 rfl rfl hK inj bds (fun xi _ _ _ _ hp h => b32 (L xi) hp h) fns,
    one_fn (N := N33) rfl F33 sc33 rfl rfl hK inj bds (fun xi _ _ _ _ hp h => b33 (L xi) hp h) fns,
    one_fn (N := N34) rfl F34 sc34 rfl rfl hK inj bds (fun xi _ _ _ _ hp h => b34 (L xi) hp h) fns,
    one_fn (N := N35) rfl F35 sc35 rfl rfl hK inj bds (fun xi _ _ _ _ hp h => b35 (L xi) hp h) fns,
    one_fn (N := N36) rfl F36 sc36 rfl rfl hK inj bds (fun xi _ _ _ _ hp h => b36 (L xi) hp h) fns,
    one_fn (N := N37) rfl F37 sc37 rfl rfl hK inj bds (fun xi _ _ _ _ hp h => b37 (L xi) hp h) fns, trivial⟩
  exact ⟨PySem.W.fnOf "law" "law" (defArgs s37) (defBody s37) (defScope s37) .none kV37 dc37 pm37 an37 cd37 ct37, fun s v => .of_eq rfl, fun base _ _ => law_fn (all base n 37 i37 rfl) hK rfl math⟩
end K21
namespace K21
open PySem L2 Dn PyProof.Rows PySem.Spec -- names
open PySem.W PySem.Calls PySem.HandSPX -- names
theorem math : ∀ ns : List Int, ns.length ≤ 63 → ∃ S', callF k21_prog 1000000000000 30 37 [.scr (ns.map .int)] [] = .ok (.bl true) S' := fun ns _ => law_true (m := 20) ns (by decide)
end K21
open K21 PySem L2 Dn PyProof.Rows PySem.Spec PySem.W PySem.Calls PySem.HandSPX -- names
theorem PySem.Challenge.cw_warnedbanks_k21_whole_years_holds : PySem.Challenge.rw_warnedbanks_k21_whole_years.Holds := by
  w_on; o_law; k_head; (case hw => w_witness2)
  k_fill
  refine walkG (l := PySem.Challenge.rw_warnedbanks_k21_whole_years) (n := 63) (k := 2 * 30) (x := "script") (sp := fun w => spLaw _) rfl (by decide) rfl ⟨⟨rfl, by decide, by decide⟩, rfl⟩ (fun w h Y => PySem.W.kIn_of Y) ?F (fun w H a ns hl hO hS => ⟨a, ns, rfl, hl, hO, hS, fun _ => rfl⟩)
  case F =>
    intro w mg fa h KX G hmg
    refine' all_mk KX G hmg math ?ka0 ?a0 ?l0 ?d0 ?k0 ?a1 ?l1 ?d1 ?k1 ?a2 ?l2 ?d2 ?k2 ?a3 ?l3 ?d3 ?k3 ?a4 ?l4 ?d4 ?k4 ?a5 ?l5 ?d5 ?k5 ?a6 ?l6 ?d6 ?k6 ?a7 ?l7 ?d7 ?k7 ?a8 ?l8 ?d8 ?k8 ?a9 ?l9 ?d9 ?k9 ?a10 ?if10 ?l10 ?d10 ?k10 ?a11 ?if11 ?l11 ?d11 ?k11 ?a12 ?if12 ?l12 ?d12 ?k12 ?a13 ?if13 ?l13 ?d13 ?k13 ?a14 ?if14 ?l14 ?d14 ?k14 ?a15 ?if15 ?l15 ?d15 ?k15 ?a16 ?if16 ?l16 ?d16 ?k16 ?a17 ?if17 ?l17 ?d17 ?k17 ?a18 ?if18 ?l18 ?d18 ?k18 ?a19 ?if19 ?l19 ?d19 ?k19 ?a20 ?if20 ?l20 ?d20 ?k20 ?a21 ?if21 ?l21 ?d21 ?k21 ?a22 ?if22 ?l22 ?d22 ?k22 ?a23 ?if23 ?l23 ?d23 ?k23 ?a24 ?if24 ?l24 ?d24 ?k24 ?a25 ?if25 ?l25 ?d25 ?k25 ?a26 ?if26 ?l26 ?d26 ?k26 ?a27 ?if27 ?l27 ?d27 ?k27 ?a28 ?l28 ?d28 ?k28 ?a29 ?l29 ?d29 ?k29 ?a30 ?l30 ?d30 ?k30 ?a31 ?l31 ?d31 ?k31 ?a32 ?l32 ?d32 ?k32 ?a33 ?l33 ?d33 ?k33 ?a34 ?l34 ?d34 ?k34 ?a35 ?l35 ?d35 ?k35 ?a36 ?l36 ?d36 ?k36 ?a37 ?l37 ?d37 ?k37 ?chn ?chtk ?cpg0 ?chd0 ?cpo0 ?csa0 ?cha0 ?chm0 ?cmk0 ?ckp0 ?cno0_0 ?cki0_int ?cki0_bool ?cki0_str ?cki0_list ?cki0_tuple ?cki0_dict ?ckt0_NoneType ?ckt0_bool ?ckt0_int ?ckt0_str ?ckt0_list ?ckt0_tuple ?ckt0_dict ?cnf0_NoneType ?cnf0_bool ?cnf0_int ?cnf0_str ?cnf0_list ?cnf0_tuple ?cnf0_dict ?cki0_0 ?cnf0_0 ?cne0 ?ga0 ?ga1 ?z_isinstance ?z_bool ?z_int ?z_tuple ?z_list ?z_len ?z_enumerate ?z_abs ?z_sorted ?z_max ?z_set ?z_range ?z_all ?z_sum ?z_min ?z_str ?z_repr ?z_super ?xa0 ?xga0 ?xgg0 ?xex0 ?xhd0 ?xic0 ?xty0 ?xa1 ?xga1 ?xgg1 ?xex1 ?xhd1 ?xic1 ?xty1 ?xno1_5 ?xa2 ?xga2 ?xgg2 ?xex2 ?xhd2 ?xic2 ?xty2 ?xno2_6 ?xs0_0 ?xs0_1 ?xs0_2 ?xs1_0 ?xs1_1 ?xs1_2 ?xs2_0 ?xs2_1 ?xs2_2 ?ec1 ?er1 ?el1 ?esa1 ?ei1 ?et1 ?ek1 ?ev1 ?em1 ?es1 ?fl1 ?fc1 ?fd1 ?fv1 ?ff1 ?fx1 ?ec2 ?er2 ?el2 ?esa2 ?ei2 ?et2 ?ek2 ?ev2 ?em2 ?es2 ?fl2 ?fc2 ?fd2 ?fv2 ?ff2 ?fx2 ?op ?tp
    (case ka0 => k_is)
    (case a0 => k_is)
    (case l0 => k_is)
    (case d0 => k_is)
    (case k0 => k_is)
    (case a1 => k_is)
    (case l1 => k_is)
    (case d1 => k_is)
    (case k1 => k_is)
    (case a2 => k_is)
    (case l2 => k_is)
    (case d2 => k_is)
    (case k2 => k_is)
    (case a3 => k_is)
    (case l3 => k_is)
    (case d3 => k_is)
    (case k3 => k_is)
    (case a4 => k_is)
    (case l4 => k_is)
    (case d4 => k_is)
    (case k4 => k_is)
    (case a5 => k_is)
    (case l5 => k_is)
    (case d5 => k_is)
    (case k5 => k_is)
    (case a6 => k_is)
    (case l6 => k_is)
    (case d6 => k_is)
    (case k6 => k_is)
    (case a7 => k_is)
    (case l7 => k_is)
    (case d7 => k_is)
    (case k7 => k_is)
    (case a8 => k_is)
    (case l8 => k_is)
    (case d8 => k_is)
    (case k8 => k_is)
    (case a9 => k_is)
    (case l9 => k_is)
    (case d9 => k_is)
    (case k9 => k_is)
    (case a10 => k_is)
    (case if10 => k_is)
    (case l10 => k_is)
    (case d10 => k_is)
    (case k10 => k_is)
    (case a11 => k_is)
    (case if11 => k_is)
    (case l11 => k_is)
    (case d11 => k_is)
    (case k11 => k_is)
    (case a12 => k_is)
    (case if12 => k_is)
    (case l12 => k_is)
    (case d12 => k_is)
    (case k12 => k_is)
    (case a13 => k_is)
    (case if13 => k_is)
    (case l13 => k_is)
    (case d13 => k_is)
    (case k13 => k_is)
    (case a14 => k_is)
    (case if14 => k_is)
    (case l14 => k_is)
    (case d14 => k_is)
    (case k14 => k_is)
    (case a15 => k_is)
    (case if15 => k_is)
    (case l15 => k_is)
    (case d15 => k_is)
    (case k15 => k_is)
    (case a16 => k_is)
    (case if16 => k_is)
    (case l16 => k_is)
    (case d16 => k_is)
    (case k16 => k_is)
    (case a17 => k_is)
    (case if17 => k_is)
    (case l17 => k_is)
    (case d17 => k_is)
    (case k17 => k_is)
    (case a18 => k_is)
    (case if18 => k_is)
    (case l18 => k_is)
    (case d18 => k_is)
    (case k18 => k_is)
    (case a19 => k_is)
    (case if19 => k_is)
    (case l19 => k_is)
    (case d19 => k_is)
    (case k19 => k_is)
    (case a20 => k_is)
    (case if20 => k_is)
    (case l20 => k_is)
    (case d20 => k_is)
    (case k20 => k_is)
    (case a21 => k_is)
    (case if21 => k_is)
    (case l21 => k_is)
    (case d21 => k_is)
    (case k21 => k_is)
    (case a22 => k_is)
    (case if22 => k_is)
    (case l22 => k_is)
    (case d22 => k_is)
    (case k22 => k_is)
    (case a23 => k_is)
    (case if23 => k_is)
    (case l23 => k_is)
    (case d23 => k_is)
    (case k23 => k_is)
    (case a24 => k_is)
    (case if24 => k_is)
    (case l24 => k_is)
    (case d24 => k_is)
    (case k24 => k_is)
    (case a25 => k_is)
    (case if25 => k_is)
    (case l25 => k_is)
    (case d25 => k_is)
    (case k25 => k_is)
    (case a26 => k_is)
    (case if26 => k_is)
    (case l26 => k_is)
    (case d26 => k_is)
    (case k26 => k_is)
    (case a27 => k_is)
    (case if27 => k_is)
    (case l27 => k_is)
    (case d27 => k_is)
    (case k27 => k_is)
    (case a28 => k_is)
    (case l28 => k_is)
    (case d28 => k_is)
    (case k28 => k_is)
    (case a29 => k_is)
    (case l29 => k_is)
    (case d29 => k_is)
    (case k29 => k_is)
    (case a30 => k_is)
    (case l30 => k_is)
    (case d30 => k_is)
    (case k30 => k_is)
    (case a31 => k_is)
    (case l31 => k_is)
    (case d31 => k_is)
    (case k31 => k_is)
    (case a32 => k_is)
    (case l32 => k_is)
    (case d32 => k_is)
    (case k32 => k_is)
    (case a33 => k_is)
    (case l33 => k_is)
    (case d33 => k_is)
    (case k33 => k_is)
    (case a34 => k_is)
    (case l34 => k_is)
    (case d34 => k_is)
    (case k34 => k_is)
    (case a35 => k_is)
    (case l35 => k_is)
    (case d35 => k_is)
    (case k35 => k_is)
    (case a36 => k_is)
    (case l36 => k_is)
    (case d36 => k_is)
    (case k36 => k_is)
    (case a37 => k_is)
    (case l37 => k_is)
    (case d37 => k_is)
    (case k37 => k_is)
    (case chn => k_is)
    (case chtk => k_is)
    (case cpg0 => k_is)
    (case chd0 => k_is)
    (case cpo0 => k_is)
    (case csa0 => k_is)
    (case cha0 => k_is)
    (case chm0 => k_is)
    (case cmk0 => k_is)
    (case ckp0 => k_is)
    (case cno0_0 => k_is)
    (case cki0_int => kernel_rfl)
    (case cki0_bool => kernel_rfl)
    (case cki0_str => kernel_rfl)
    (case cki0_list => kernel_rfl)
    (case cki0_tuple => kernel_rfl)
    (case cki0_dict => kernel_rfl)
    (case ckt0_NoneType => kernel_rfl)
    (case ckt0_bool => kernel_rfl)
    (case ckt0_int => kernel_rfl)
    (case ckt0_str => kernel_rfl)
    (case ckt0_list => kernel_rfl)
    (case ckt0_tuple => kernel_rfl)
    (case ckt0_dict => kernel_rfl)
    (case cnf0_NoneType => k_is)
    (case cnf0_bool => k_is)
    (case cnf0_int => k_is)
    (case cnf0_str => k_is)
    (case cnf0_list => k_is)
    (case cnf0_tuple => k_is)
    (case cnf0_dict => k_is)
    (case cki0_0 => kernel_rfl)
    (case cnf0_0 => k_is)
    (case cne0 => k_is)
    (case ga0 => k_is)
    (case ga1 => k_is)
    (case z_isinstance => k_is)
    (case z_bool => k_is)
    (case z_int => k_is)
    (case z_tuple => k_is)
    (case z_list => k_is)
    (case z_len => k_is)
    (case z_enumerate => k_is)
    (case z_abs => k_is)
    (case z_sorted => k_is)
    (case z_max => k_is)
    (case z_set => k_is)
    (case z_range => k_is)
    (case z_all => k_is)
    (case z_sum => k_is)
    (case z_min => k_is)
    (case z_str => k_is)
    (case z_repr => k_is)
    (case z_super => k_is)
    (case xa0 => k_is)
    (case xga0 => k_is)
    (case xgg0 => k_is)
    (case xex0 => k_is)
    (case xhd0 => k_is)
    (case xic0 => k_is)
    (case xty0 => k_is)
    (case xa1 => k_is)
    (case xga1 => k_is)
    (case xgg1 => k_is)
    (case xex1 => k_is)
    (case xhd1 => k_is)
    (case xic1 => k_is)
    (case xty1 => k_is)
    (case xno1_5 => k_is)
    (case xa2 => k_is)
    (case xga2 => k_is)
    (case xgg2 => k_is)
    (case xex2 => k_is)
    (case xhd2 => k_is)
    (case xic2 => k_is)
    (case xty2 => k_is)
    (case xno2_6 => k_is)
    (case xs0_0 => first | rfl | k_is)
    (case xs0_1 => first | rfl | k_is)
    (case xs0_2 => first | rfl | k_is)
    (case xs1_0 => first | rfl | k_is)
    (case xs1_1 => first | rfl | k_is)
    (case xs1_2 => first | rfl | k_is)
    (case xs2_0 => first | rfl | k_is)
    (case xs2_1 => first | rfl | k_is)
    (case xs2_2 => first | rfl | k_is)
    (case ec1 => k_is)
    (case er1 => decide +kernel)
    (case el1 => k_is)
    (case esa1 => k_is)
    (case ei1 => k_is)
    (case et1 => k_is)
    (case ek1 => k_is)
    (case ev1 => k_is)
    (case em1 => k_is)
    (case es1 => kernel_rfl)
    (case fl1 => k_is)
    (case fc1 => k_is)
    (case fd1 => k_is)
    (case fv1 => rfl)
    (case ff1 => decide +kernel)
    (case fx1 => k_is)
    (case ec2 => k_is)
    (case er2 => decide +kernel)
    (case el2 => k_is)
    (case esa2 => k_is)
    (case ei2 => k_is)
    (case et2 => k_is)
    (case ek2 => k_is)
    (case ev2 => k_is)
    (case em2 => k_is)
    (case es2 => kernel_rfl)
    (case fl2 => k_is)
    (case fc2 => k_is)
    (case fd2 => k_is)
    (case fv2 => rfl)
    (case ff2 => decide +kernel)
    (case fx2 => k_is)
    (case op => k_is)
    (case tp => decide +kernel)
