import PyProof.Rows.All
import Wide.All
import OpenK.AllK
import Wide.FinOn
import PySem.Str
import HandS.Base
import HandS.Call
import HandS.List
import HandS.Comp
import HandS.Exc
import HandS.Flow
import HandS.Words
import HandS.WordsExc
import HandS.HeadHook1
import HandS.Wide
import HandS.TupAny
import HandS.TupMul
import HandS.Codes
import HandS.Deep
import HandS.Text
import PyProof.Rows.InDataRows
import KE.SortData
import HandS.SortInts
import KE.DataMinMax
import HandS.Gcd
import PyProof.Rows.SumAny
import PyProof.WalksMore
import HandS.IsInst
import HandS.More
import KE.GoesEnum
import KE.GoesZip
import HandS.Iter
import HandS.Conv
import HandS.NoneIn
import HandS.Style
import HandS.Star
import HandS.CallSlots
import HandS.Defaults
import HandS.ExcIs
import HandS.ExcField
import KE.KExcSuper
import KE.KExcInit
import KE.KSuper
import HandS.Dict
import HandS.WideMore
import HandS.ExcOwn
import HandS.TryMany
import HandS.ExcValue
import HandS.ExcInit
import KE.KExcIs
import KE.KStateDown
import HandS.Ends
import HandS.EndBits
import HandS.Head0
import HandS.Head1
import HandS.Head2
import HandS.HeadEnd
import HandS.HeadHook2
import HandS.HeadHook3
import PySem.Challenge.RW_foldedstreets_k27_sheets_and_marks_refus
import HandS.Head3
set_option Elab.async false
set_option linter.all false
set_option maxRecDepth 100000
set_option maxHeartbeats 0
section
/-! MiA: a small language of data (own AST, own values, a store of lists) and its interpreter. -/
namespace Mi
open PySem (Str)

/-! ### values -/
/-- fl: a list that nobody writes to (by value); ref: a list of the store; dct: a dict of the store; obj: an object of an own class -/
inductive D where
  | non | bl (b : Bool) | int (i : Int) | str (x : Str) | tup (xs : List D) | fl (xs : List D) | ref (n : Nat) | dct (n : Nat) | obj (c : Str) (n : Nat)
  deriving Inhabited

abbrev Sto := List (List D)
abbrev Env := List (Option D)

mutual
/-- no reference to the store -/
def D.pur : D → Bool
  | .tup xs => D.purs xs
  | .fl xs => D.purs xs
  | .ref _ => false
  | .dct _ => false
  | .obj _ _ => false
  | .non => true
  | .bl _ => true
  | .int _ => true
  | .str _ => true
def D.purs : List D → Bool
  | [] => true
  | x :: xs => D.pur x && D.purs xs
end
mutual
/-- references below n alone -/
def D.low (n : Nat) : D → Bool
  | .tup xs => D.lows n xs
  | .fl xs => D.lows n xs
  | .ref k => decide (k < n)
  | .dct k => decide (k < n)
  | .obj _ k => decide (k < n)
  | .non => true
  | .bl _ => true
  | .int _ => true
  | .str _ => true
def D.lows (n : Nat) : List D → Bool
  | [] => true
  | x :: xs => D.low n x && D.lows n xs
end
mutual
def D.beq : D → D → Bool
  | .non, .non => true
  | .bl a, .bl b => a == b
  | .int a, .int b => decide (a = b)
  | .str a, .str b => decide (a = b)
  | .tup xs, .tup ys => D.beqs xs ys
  | .fl xs, .fl ys => D.beqs xs ys
  | .ref a, .ref b => decide (a = b)
  | .dct a, .dct b => decide (a = b)
  | .obj c a, .obj d b => decide (c = d) && decide (a = b)
  | .non, .bl _ | .non, .int _ | .non, .str _ | .non, .tup _ | .non, .fl _ | .non, .ref _ | .non, .dct _ | .non, .obj _ _ => false
  | .bl _, .non | .bl _, .int _ | .bl _, .str _ | .bl _, .tup _ | .bl _, .fl _ | .bl _, .ref _ | .bl _, .dct _ | .bl _, .obj _ _ => false
  | .int _, .non | .int _, .bl _ | .int _, .str _ | .int _, .tup _ | .int _, .fl _ | .int _, .ref _ | .int _, .dct _ | .int _, .obj _ _ => false
  | .str _, .non | .str _, .bl _ | .str _, .int _ | .str _, .tup _ | .str _, .fl _ | .str _, .ref _ | .str _, .dct _ | .str _, .obj _ _ => false
  | .tup _, .non | .tup _, .bl _ | .tup _, .int _ | .tup _, .str _ | .tup _, .fl _ | .tup _, .ref _ | .tup _, .dct _ | .tup _, .obj _ _ => false
  | .fl _, .non | .fl _, .bl _ | .fl _, .int _ | .fl _, .str _ | .fl _, .tup _ | .fl _, .ref _ | .fl _, .dct _ | .fl _, .obj _ _ => false
  | .dct _, .non | .dct _, .bl _ | .dct _, .int _ | .dct _, .str _ | .dct _, .tup _ | .dct _, .fl _ | .dct _, .ref _ | .dct _, .obj _ _ => false
  | .obj _ _, .non | .obj _ _, .bl _ | .obj _ _, .int _ | .obj _ _, .str _ | .obj _ _, .tup _ | .obj _ _, .fl _ | .obj _ _, .ref _ | .obj _ _, .dct _ => false
  | .ref _, .non | .ref _, .bl _ | .ref _, .int _ | .ref _, .str _ | .ref _, .tup _ | .ref _, .fl _ | .ref _, .dct _ | .ref _, .obj _ _ => false
def D.beqs : List D → List D → Bool
  | [], [] => true
  | x :: xs, y :: ys => D.beq x y && D.beqs xs ys
  | [], _ :: _ => false
  | _ :: _, [] => false
end
mutual
theorem D.beq_eq : ∀ (a b : D), D.beq a b = true → a = b
  | .non, b, h => by cases b <;> simp [D.beq] at h <;> rfl
  | .bl a, b, h => by cases b <;> simp [D.beq] at h <;> simp [h]
  | .int a, b, h => by cases b <;> simp [D.beq] at h <;> simp [h]
  | .str a, b, h => by cases b <;> simp [D.beq] at h <;> simp [h]
  | .ref a, b, h => by cases b <;> simp [D.beq] at h <;> simp [h]
  | .dct a, b, h => by cases b <;> simp [D.beq] at h <;> simp [h]
  | .obj c a, b, h => by cases b <;> simp [D.beq] at h <;> simp [h]
  | .tup xs, b, h => by
    cases b <;> simp [D.beq] at h
    rw [D.beqs_eq _ _ h]
  | .fl xs, b, h => by
    cases b <;> simp [D.beq] at h
    rw [D.beqs_eq _ _ h]
theorem D.beqs_eq : ∀ (a b : List D), D.beqs a b = true → a = b
  | [], b, h => by cases b <;> simp [D.beqs] at h <;> rfl
  | x :: xs, b, h => by
    cases b with
    | nil => simp [D.beqs] at h
    | cons y ys =>
      simp only [D.beqs, Bool.and_eq_true] at h
      rw [D.beq_eq _ _ h.1, D.beqs_eq _ _ h.2]
end
mutual
theorem D.beq_refl : ∀ (a : D), D.beq a a = true
  | .non => by simp [D.beq]
  | .bl a => by simp [D.beq]
  | .int a => by simp [D.beq]
  | .str a => by simp [D.beq]
  | .ref a => by simp [D.beq]
  | .dct a => by simp [D.beq]
  | .obj c a => by simp [D.beq]
  | .tup xs => by simp only [D.beq]; exact D.beqs_refl xs
  | .fl xs => by simp only [D.beq]; exact D.beqs_refl xs
theorem D.beqs_refl : ∀ (a : List D), D.beqs a a = true
  | [] => by simp [D.beqs]
  | x :: xs => by simp only [D.beqs, Bool.and_eq_true]; exact ⟨D.beq_refl x, D.beqs_refl xs⟩
end
instance : DecidableEq D := fun a b => if h : D.beq a b = true then .isTrue (D.beq_eq a b h) else .isFalse fun e => h (by rw [e]; exact D.beq_refl b)

/-- references from n on are read out of the store (k deep) -/
def D.frz (n : Nat) (st : Sto) : Nat → D → D
  | 0, d => d
  | k + 1, .tup xs => .tup (xs.map (D.frz n st k))
  | k + 1, .fl xs => .fl (xs.map (D.frz n st k))
  | k + 1, .ref m => if m < n then .ref m else match st[m]? with
    | some xs => .fl (xs.map (D.frz n st k))
    | none => .ref m
  | _ + 1, .non => .non
  | _ + 1, .bl b => .bl b
  | _ + 1, .int i => .int i
  | _ + 1, .str x => .str x
  | _ + 1, .dct m => .dct m
  | _ + 1, .obj c m => .obj c m

/-- what stands in a sequence -/
def D.seq? (st : Sto) : D → Option (List D)
  | .tup xs => some xs
  | .fl xs => some xs
  | .ref n => st[n]?
  | _ => none
/-- what stands in a list -/
def D.lst? (st : Sto) : D → Option (List D)
  | .fl xs => some xs
  | .ref n => st[n]?
  | _ => none
def intsOf : List D → Option (List Int)
  | [] => some []
  | .int i :: r => (intsOf r).map (i :: ·)
  | _ :: _ => none
def blsOf : List D → Option (List Bool)
  | [] => some []
  | .bl b :: r => (blsOf r).map (b :: ·)
  | _ :: _ => none
def strsOf : List D → Option (List Str)
  | [] => some []
  | .str b :: r => (strsOf r).map (b :: ·)
  | _ :: _ => none

/-! ### results -/
structure Xn where
  c : Nat
  v : Option D
inductive Out (α : Type) where
  | ok (a : α) (st : Sto)
  | exc (x : Xn) (st : Sto)
  | bad
def Out.bind {α β : Type} : Out α → (α → Sto → Out β) → Out β
  | .ok a st, k => k a st
  | .exc x st, _ => .exc x st
  | .bad, _ => .bad
@[simp] theorem Out.bind_ok {α β : Type} (a : α) (st : Sto) (k : α → Sto → Out β) : (Out.ok a st).bind k = k a st := rfl
@[simp] theorem Out.bind_exc {α β : Type} (x : Xn) (st : Sto) (k : α → Sto → Out β) : (Out.exc x st : Out α).bind k = .exc x st := rfl
@[simp] theorem Out.bind_bad {α β : Type} (k : α → Sto → Out β) : (Out.bad : Out α).bind k = .bad := rfl
/-- of a value that may lack -/
def ofO {α : Type} (o : Option α) (st : Sto) : Out α := match o with
  | some a => .ok a st
  | none => .bad
inductive SOut where
  | nxt (env : Env) (st : Sto)
  | ret (d : D) (st : Sto)
  | brk (env : Env) (st : Sto)
  | cnt (env : Env) (st : Sto)
  | exc (x : Xn) (env : Env) (st : Sto)
  | bad
/-- an expression's result, then a statement -/
def Out.thn {α : Type} (o : Out α) (env : Env) (k : α → Sto → SOut) : SOut := match o with
  | .ok a st => k a st
  | .exc x st => .exc x env st
  | .bad => .bad
@[simp] theorem Out.thn_ok {α : Type} (a : α) (st : Sto) (env : Env) (k : α → Sto → SOut) : (Out.ok a st).thn env k = k a st := rfl
@[simp] theorem Out.thn_exc {α : Type} (x : Xn) (st : Sto) (env : Env) (k : α → Sto → SOut) : (Out.exc x st : Out α).thn env k = .exc x env st := rfl
@[simp] theorem Out.thn_bad {α : Type} (env : Env) (k : α → Sto → SOut) : (Out.bad : Out α).thn env k = .bad := rfl

/-! ### the language -/
inductive Bop where
  | add | sub | mul | fdiv | mod | pow | fdv | mdv
  deriving DecidableEq
inductive Cop where
  | eq | ne | lt | le | gt | ge | in_ | notIn
  deriving DecidableEq
/-- built-in functions of values -/
inductive Bi where
  | len | sum | all | any | abs | int | list | tuple | str | max | min | sorted | divmod | gcd
  deriving DecidableEq
/-- methods of built-in objects -/
inductive Mt where
  | append | extend | pop | popAt | insert | index | split | join
  deriving DecidableEq
inductive Ty where
  | int | bool | str | list | tuple
  deriving DecidableEq
inductive G where
  | nm (i : Nat)
  | tup (gs : List G)
mutual
inductive E where
  | no
  | var (i : Nat) | cst (d : D) | glob (x : Str)
  | tup (es : Es) | lst (fz : Bool) (es : Es)
  | bin (fz : Bool) (o : Bop) (a b : E) | neg (a : E)
  | cmp (o : Cop) (a b : E) | chain (o p : Cop) (a b c : E) | isN (a : E) | notN (a : E)
  | and_ (a b : E) | or_ (a b : E) | not_ (a : E) | ite (c a b : E)
  | ix (a b : E) | sl (a : E) (lo hi : Eo)
  | call (fz : Bool) (f : Nat) (es : Es) (ks : List Nat) (kes : Es)
  | bi (fz : Bool) (b : Bi) (es : Es)
  | isi (a : E) (ts : List Ty)
  | rev (fz : Bool) (a : E) | tupS (a b : E) | look (a b : E) | glook (x : Str) (ps : List (Str × Str)) (b : E)
  | mth (fz : Bool) (m : Mt) (o : E) (es : Es)
  | rg (tu fz : Bool) (lo : Eo) (hi : E)
  | lc (fz : Bool) (own : List Nat) (g : G) (s : Sr) (t : Eo) (e : E)
  | dnew | dnew1 (a b : E) | dget (a b : E) | din (neg : Bool) (a b : E)
  | fld (c : Str) (a : E) (f : Str) | new (c : Str) (f : Nat) (es : Es) | mcall (fz : Bool) (c m : Str) (f : Nat) (o : E) (es : Es)
  | lc2 (fz : Bool) (own own2 : List Nat) (g : G) (s : Sr) (t : Eo) (g2 : G) (s2 : Sr) (t2 : Eo) (e : E)
inductive Es where
  | nil | cons (e : E) (es : Es)
inductive Eo where
  | none | some (e : E)
inductive Sr where
  | seq (e : E) | rng (es : Es) | enum (c : Nat) (es : Es) | zip (es : Es)
end
mutual
inductive S where
  | no
  | asg (g : G) (e : E)
  | par (is : List Nat) (es : Es)
  | sub (o i e : E)
  | swp (o i o2 i2 : E) (es : Es)
  | dput (o i e : E)
  | setf (c : Str) (o : E) (f : Str) (e : E)
  | setf2 (c : Str) (o : E) (f : Str) (o2 : E) (f2 : Str) (es : Es)
  | aug (i : Nat) (o : Bop) (e : E)
  | augS (o i : E) (op : Bop) (e : E)
  | ex (e : E) | ret (e : E) | ret0
  | if_ (c : E) (a b : Ss)
  | for_ (g : G) (s : Sr) (b : Ss)
  | whil (c : E) (b : Ss)
  | brk | cnt | pass
  | raise (c : Nat) (es : Es)
  | try_ (b : Ss) (hs : Hs)
inductive Ss where
  | nil | cons (s : S) (ss : Ss)
/-- except clauses: the class, the name's slot (or none), the suite -/
inductive Hs where
  | nil | cons (c : Nat) (nm : Option Nat) (b : Su) (hs : Hs)
/-- an except suite: name = [..], name = a constant, name.append(a constant) -/
inductive Su where
  | asgL (i : Nat) (es : Xs)
  | asgC (i : Nat) (d : D)
  | app (i : Nat) (d : D)
inductive Xs where
  | nil | cons (x : Xe) (xs : Xs)
/-- in an except suite: a constant, the error's field, isinstance of it -/
inductive Xe where
  | cst (d : D) | fld | isi (cs : List Nat) | andNot (cs ds : List Nat)
end
def Es.toList : Es → List E
  | .nil => []
  | .cons e es => e :: es.toList
def Es.ofList : List E → Es
  | [] => .nil
  | e :: es => .cons e (Es.ofList es)
def Ss.ofList : List S → Ss
  | [] => .nil
  | e :: es => .cons e (Ss.ofList es)
def Hs.ofList : List (Nat × Option Nat × Su) → Hs
  | [] => .nil
  | (a, b, c) :: es => .cons a b c (Hs.ofList es)
def Xs.ofList : List Xe → Xs
  | [] => .nil
  | e :: es => .cons e (Xs.ofList es)
end Mi
end
section
/-! MiB: the interpreter. -/
namespace Mi
open PySem (Str)

abbrev lineN : Nat := 16777216
/-! ### values' operations -/
def tru (st : Sto) : D → Option Bool
  | .non => some false
  | .bl b => some b
  | .int i => some (i != 0)
  | .str x => if x.length ≤ lineN then some (x.length != 0) else none
  | .tup xs => some (!xs.isEmpty)
  | .fl xs => some (!xs.isEmpty)
  | .ref n => (st[n]?).map fun xs => !xs.isEmpty
  | .dct _ => none
  | .obj _ _ => none
/-- an index: from the end if below 0 -/
def ixN (n : Nat) (i : Int) : Option Nat := if 0 ≤ i then (if i < n then some i.toNat else none) else if -(n : Int) ≤ i then some (i + n).toNat else none
def atI {α : Type} (xs : List α) (i : Int) : Option α := (ixN xs.length i).bind fun j => xs[j]?
/-- a slice's bound -/
def sIx (n d : Nat) : Option Int → Nat
  | none => d
  | some v => if v < 0 then (v + (n : Int)).toNat else min v.toNat n
def cut {α : Type} (xs : List α) (lo hi : Option Int) : List α := (xs.drop (sIx xs.length 0 lo)).take (sIx xs.length xs.length hi - sIx xs.length 0 lo)
def chars (x : Str) : List D := x.cps.toList.map fun c => .str ⟨#[c]⟩
def cutS (x : Str) (lo hi : Option Int) : Str := ⟨(cut x.cps.toList lo hi).toArray⟩

def mulOk (i j : Int) : Bool := decide (-(2 ^ 64) < i ∧ i < 2 ^ 64) || (decide (-(2 ^ 64) < j ∧ j < 2 ^ 64) || decide (i.natAbs.log2 + j.natAbs.log2 < 1000000))
/-- a divisor of any sign -/
def ndivOk (j : Int) : Bool := decide (j ≠ 0 ∧ j.natAbs.log2 < 9000)
def divOk (j : Int) : Bool := decide (0 < j ∧ j.natAbs.log2 < 9000)
/-- a new list -/
def mkL (fz : Bool) (xs : List D) (st : Sto) : Out D := if xs.length ≤ lineN then (if fz then .ok (.fl xs) st else .ok (.ref st.length) (st ++ [xs])) else .bad
def mkT (xs : List D) (st : Sto) : Out D := if xs.length ≤ lineN then .ok (.tup xs) st else .bad
def repL (xs : List D) (k : Int) : List D := (List.replicate k.toNat xs).flatten
def isLst : D → Bool
  | .fl _ => true
  | .ref _ => true
  | _ => false
def isTup : D → Bool
  | .tup _ => true
  | _ => false
def binL (fz : Bool) (o : Bop) (a b : D) (st : Sto) : Out D := match o with
  | .add => (match a, b with
    | .str x, .str y => if x.length + y.length ≤ lineN then .ok (.str (x ++ y)) st else .bad
    | .tup xs, .tup ys => mkT (xs ++ ys) st
    | .fl xs, .fl ys => mkL fz (xs ++ ys) st
    | .fl xs, .ref n => (match st[n]? with
      | some ys => mkL fz (xs ++ ys) st
      | none => .bad)
    | .ref n, .fl ys => (match st[n]? with
      | some xs => mkL fz (xs ++ ys) st
      | none => .bad)
    | .ref n, .ref m => (match st[n]?, st[m]? with
      | some xs, some ys => mkL fz (xs ++ ys) st
      | _, _ => .bad)
    | _, _ => .bad)
  | .mul => (match a, b with
    | .tup xs, .int k => if -1000000 < k ∧ k < 1000000 ∧ xs.length * k.toNat ≤ lineN then .ok (.tup (repL xs k)) st else .bad
    | .fl xs, .int k => if 0 ≤ k ∧ k < 1000000 ∧ xs.length * k.toNat ≤ lineN then mkL fz (repL xs k) st else .bad
    | _, _ => .bad)
  | _ => .bad
def binI (o : Bop) (i j : Int) (st : Sto) : Out D := match o with
  | .add => .ok (.int (i + j)) st
  | .sub => .ok (.int (i - j)) st
  | .mul => if mulOk i j then .ok (.int (i * j)) st else .bad
  | .fdiv => if divOk j then .ok (.int (i / j)) st else .bad
  | .mod => if 0 < j then .ok (.int (i % j)) st else .bad
  | .fdv => if ndivOk j then .ok (.int (i.fdiv j)) st else .bad
  | .mdv => if j ≠ 0 then .ok (.int (i.fmod j)) st else .bad
  | .pow => if 0 ≤ j ∧ j ≤ 1000000 ∧ i.natAbs < 2 ^ 64 then .ok (.int (i ^ j.toNat)) st else .bad
def binD (fz : Bool) (o : Bop) (a b : D) (st : Sto) : Out D := match a, b with
  | .int i, .int j => binI o i j st
  | _, _ => binL fz o a b st

/-! ### == -/
def strB (x : Str) : Bool := x.cps.all fun c => decide (c < 1114112)
mutual
/-- plain data, k deep at most -/
def D.fine : Nat → D → Bool
  | _, .non => true
  | _, .bl _ => true
  | _, .int _ => true
  | _, .str x => strB x
  | 0, .tup _ => false
  | 0, .fl _ => false
  | k + 1, .tup xs => D.fines k xs
  | k + 1, .fl xs => D.fines k xs
  | _, .ref _ => false
  | _, .dct _ => false
  | _, .obj _ _ => false
def D.fines : Nat → List D → Bool
  | _, [] => true
  | k, x :: xs => D.fine k x && D.fines k xs
end
mutual
def D.eqv : D → D → Bool
  | .non, .non => true
  | .bl a, .bl b => a == b
  | .bl a, .int j => decide ((if a then 1 else 0) = j)
  | .int i, .bl b => decide (i = (if b then 1 else 0))
  | .int i, .int j => decide (i = j)
  | .str x, .str y => decide (x = y)
  | .tup xs, .tup ys => D.eqvs xs ys
  | .fl xs, .fl ys => D.eqvs xs ys
  | _, _ => false
def D.eqvs : List D → List D → Bool
  | [], [] => true
  | x :: xs, y :: ys => D.eqv x y && D.eqvs xs ys
  | _, _ => false
end
def deep (st : Sto) (d : D) : D := if d.pur then d else D.frz 0 st 40 d
def eqD (st : Sto) (a b : D) : Option Bool := match a, b with
  | .int i, .int j => some (decide (i = j))
  | .str x, .str y => some (decide (x = y))
  | .non, .int _ => some false
  | .int _, .non => some false
  | .non, .non => some true
  | .bl a, .bl b => some (a == b)
  | a, b => let x := deep st a; let y := deep st b; if D.fine 40 x && D.fine 40 y then some (D.eqv x y) else none
/-! ### in -/
def inD (st : Sto) (a b : D) : Option Bool := match b with
  | .str y => (match a with
    | .str x => if x.length = 1 ∧ y.length ≤ lineN then some (x.cps.toList.all fun c => y.cps.toList.contains c) else none
    | _ => none)
  | b => match b.seq? st with
    | none => none
    | some xs => let x := deep st a; let ys := xs.map (deep st); if D.fine 40 x && D.fines 39 ys then some (ys.any fun y => D.eqv y x) else none
/-! ### < -/
def ltD (a b : D) : Option Bool := match a, b with
  | .int i, .int j => some (decide (i < j))
  | _, _ => none
def cmpD (o : Cop) (a b : D) (st : Sto) : Out D := match o with
  | .eq => ofO ((eqD st a b).map .bl) st
  | .ne => ofO ((eqD st a b).map fun c => .bl !c) st
  | .lt => ofO ((ltD a b).map .bl) st
  | .gt => ofO ((ltD b a).map .bl) st
  | .le => ofO ((ltD b a).map fun c => .bl !c) st
  | .ge => ofO ((ltD a b).map fun c => .bl !c) st
  | .in_ => ofO ((inD st a b).map .bl) st
  | .notIn => ofO ((inD st a b).map fun c => .bl !c) st

/-! ### [ ] -/
def ixD (a b : D) (st : Sto) : Out D := match a, b with
  | .str x, .int i => if x.length ≤ lineN then ofO ((atI x.cps.toList i).map fun c => .str ⟨#[c]⟩) st else .bad
  | a, .int i => (match a.seq? st with
    | some xs => ofO (atI xs i) st
    | none => .bad)
  | _, _ => .bad
def slD (a : D) (lo hi : Option Int) (st : Sto) : Out D := match a with
  | .tup xs => .ok (.tup (cut xs lo hi)) st
  | .str x => if x.length ≤ lineN then .ok (.str (cutS x lo hi)) st else .bad
  | .fl xs => .ok (.fl (cut xs lo hi)) st
  | .ref n => (match st[n]? with
    | some xs => .ok (.fl (cut xs lo hi)) st
    | none => .bad)
  | _ => .bad
def ixL (a b : D) (st : Sto) : Out D := if isLst a then ixD a b st else .bad
/-- turned about -/
def revD (fz : Bool) (a : D) (st : Sto) : Out D := match a with
  | .fl xs => mkL fz xs.reverse st
  | .tup xs => mkT xs.reverse st
  | .ref n => (match st[n]? with
    | some xs => mkL fz xs.reverse st
    | none => .bad)
  | _ => .bad
/-- pairs of texts and values, as a dict takes them -/
def dicP : List D → Option (List (Str × D))
  | [] => some []
  | .tup [.str k, d] :: r => (dicP r).map ((k, d) :: ·)
  | _ => none
def lookP (ps : List (Str × D)) (z : Str) : Option D := ps.reverse.lookup z
def dicO (a : D) : Option (List (Str × D)) := match a with
  | .fl xs => if xs.length ≤ 1000 then dicP xs else none
  | _ => none
def intO : Option D → Option (Option Int)
  | none => some none
  | some (.int i) => some (some i)
  | some _ => none

/-! ### built-in functions -/
def insI (i : Int) : List Int → List Int
  | [] => [i]
  | j :: r => if i ≤ j then i :: j :: r else j :: insI i r
def sortI : List Int → List Int
  | [] => []
  | i :: r => insI i (sortI r)
/-! sorted: tuples, texts, rows; what stands at one place is of one kind -/
mutual
def D.lik : D → D → Bool
  | .bl _, .bl _ => true
  | .int _, .int _ => true
  | .str _, .str _ => true
  | .tup xs, .tup ys => D.liks xs ys
  | .fl xs, .fl ys => D.liks xs ys
  | _, _ => false
def D.liks : List D → List D → Bool
  | x :: xs, y :: ys => D.lik x y && D.liks xs ys
  | [], _ => true
  | _ :: _, [] => true
end
mutual
/-- a row of signs -/
def D.tok : D → List (Int ⊕ List Nat)
  | .bl b => [.inl (if b = true then 1 else 0)]
  | .int n => [.inl n]
  | .str x => [.inr x.cps.toList]
  | .tup xs => D.toks xs
  | .fl xs => D.toks xs
  | .non => []
  | .ref _ => []
  | .dct _ => []
  | .obj _ _ => []
def D.toks : List D → List (Int ⊕ List Nat)
  | [] => [.inl 0]
  | x :: xs => .inl 1 :: (D.tok x ++ D.toks xs)
end
def sgLt : Int ⊕ List Nat → Int ⊕ List Nat → Bool
  | .inl a, .inl b => decide (a < b)
  | .inl _, .inr _ => true
  | .inr _, .inl _ => false
  | .inr a, .inr b => decide (a < b)
def rwLt : List (Int ⊕ List Nat) → List (Int ⊕ List Nat) → Bool
  | [], [] => false
  | [], _ :: _ => true
  | _ :: _, [] => false
  | x :: r, y :: t => sgLt x y || (!sgLt y x && rwLt r t)
/-- a < b -/
def D.ltb (a b : D) : Bool := rwLt a.tok b.tok
def insD (d : D) : List D → List D
  | [] => [d]
  | e :: r => if D.ltb e d then e :: insD d r else d :: e :: r
def sortD : List D → List D
  | [] => []
  | d :: r => insD d (sortD r)
def tup1 : D → Bool
  | .tup (_ :: _) => true
  | _ => false
def nTup : D → Bool
  | .tup _ => false
  | .non => false
  | _ => true
def sortOk (xs : List D) : Bool := decide (xs.length ≤ lineN) && ((xs.all fun x => xs.all fun y => D.lik x y) && ((xs.all tup1 || xs.all nTup) && (D.purs xs && D.fines 40 xs)))
def maxI (i : Int) : List Int → Int
  | [] => i
  | j :: r => maxI (if j > i then j else i) r
def minI (i : Int) : List Int → Int
  | [] => i
  | j :: r => minI (if j < i then j else i) r
/-! min and max of rows, texts: the first of the least -/
def minR (d : D) (ds : List D) : D := ds.foldl (fun a y => if D.ltb y a = true then y else a) d
def maxR (d : D) (ds : List D) : D := ds.foldl (fun a y => if D.ltb a y = true then y else a) d
def mnOk (xs : List D) : Bool := (xs.all fun x => xs.all fun y => D.lik x y) && (D.purs xs && D.fines 40 xs)
def minW (xs : Option (List D)) (st : Sto) : Out D := match xs with
  | some (d :: r) => if mnOk (d :: r) = true then .ok (minR d r) st else .bad
  | _ => .bad
def maxW (xs : Option (List D)) (st : Sto) : Out D := match xs with
  | some (d :: r) => if mnOk (d :: r) = true then .ok (maxR d r) st else .bad
  | _ => .bad
def srtT (fz : Bool) (d : D) (st : Sto) : Out D := match d with
  | .tup xs => (match intsOf xs with
    | some ns => mkL fz ((sortI ns).map .int) st
    | none => .bad)
  | _ => .bad
def biD (fz : Bool) (b : Bi) (ds : List D) (st : Sto) : Out D := match b, ds with
  | .len, [.str x] => if x.length ≤ lineN then .ok (.int x.length) st else .bad
  | .len, [a] => ofO ((a.seq? st).map fun xs => .int xs.length) st
  | .sum, [a] => ofO (((a.seq? st).bind intsOf).map fun ns => .int ns.sum) st
  | .all, [a] => ofO (((a.lst? st).bind blsOf).map fun bs => .bl (bs.all id)) st
  | .any, [a] => ofO (((a.lst? st).bind blsOf).map fun bs => .bl (bs.any id)) st
  | .abs, [.int i] => .ok (.int (if i < 0 then -i else i)) st
  | .int, [.int i] => .ok (.int i) st
  | .int, [.bl c] => .ok (.int (if c then 1 else 0)) st
  | .list, [a] => (match a.seq? st with
    | some xs => mkL fz xs st
    | none => .bad)
  | .tuple, [a] => ofO ((a.seq? st).map .tup) st
  | .str, [.int i] => if i.natAbs.log2 < 1920 then .ok (.str (toString i)) st else .bad
  | .max, [.int i, .int j] => .ok (.int (if j > i then j else i)) st
  | .min, [.int i, .int j] => .ok (.int (if j < i then j else i)) st
  | .max, [a] => (match (a.seq? st).bind intsOf with
    | some (i :: r) => .ok (.int (maxI i r)) st
    | some [] => .bad
    | none => maxW (a.seq? st) st)
  | .min, [a] => (match (a.seq? st).bind intsOf with
    | some (i :: r) => .ok (.int (minI i r)) st
    | some [] => .bad
    | none => minW (a.seq? st) st)
  | .sorted, [a] => (match (a.lst? st).bind intsOf with
    | some ns => mkL fz ((sortI ns).map .int) st
    | none => (match a.lst? st with
      | some xs => if sortOk xs then mkL fz (sortD xs) st else .bad
      | none => srtT fz a st))
  | .divmod, [.int i, .int j] => if 0 < j ∧ j < 1073741824 then .ok (.tup [.int (i / j), .int (i % j)]) st else .bad
  | .gcd, [.int i, .int j] => .ok (.int (Nat.gcd i.natAbs j.natAbs : Nat)) st
  | _, _ => .bad
def isTy (d : D) : Ty → Bool
  | .int => (match d with
    | .int _ => true
    | .bl _ => true
    | _ => false)
  | .bool => (match d with
    | .bl _ => true
    | _ => false)
  | .str => (match d with
    | .str _ => true
    | _ => false)
  | .list => isLst d
  | .tuple => isTup d
/-! ### methods -/
def splitC (c : Nat) : List Nat → List (List Nat)
  | [] => [[]]
  | x :: r => if x = c then [] :: splitC c r else match splitC c r with
    | [] => [[x]]
    | y :: ys => (x :: y) :: ys
def joinC (s : List Nat) : List (List Nat) → List Nat
  | [] => []
  | [x] => x
  | x :: r => x ++ s ++ joinC s r
def mtD (fz : Bool) (m : Mt) (o : D) (ds : List D) (st : Sto) : Out D := match m, o, ds with
  | .append, .ref n, [d] => (match st[n]? with
    | some xs => if xs.length < lineN then .ok .non (st.set n (xs ++ [d])) else .bad
    | none => .bad)
  | .extend, .ref n, [d] => (match st[n]?, d.seq? st with
    | some xs, some ys => if d.beq (.ref n) then .bad else if xs.length + ys.length ≤ lineN then .ok .non (st.set n (xs ++ ys)) else .bad
    | _, _ => .bad)
  | .pop, .ref n, [] => (match st[n]? with
    | some xs => (match xs.getLast? with
      | some y => .ok y (st.set n xs.dropLast)
      | none => .bad)
    | none => .bad)
  | .popAt, .ref n, [.int i] => (match st[n]? with
    | some xs => (match ixN xs.length i with
      | some k => (match xs[k]? with
        | some y => .ok y (st.set n (xs.eraseIdx k))
        | none => .bad)
      | none => .bad)
    | none => .bad)
  | .insert, .ref n, [.int i, d] => (match st[n]? with
    | some xs => if xs.length < lineN ∧ 0 ≤ i ∧ i < 2 ^ 63 then .ok .non (st.set n (xs.take i.toNat ++ [d] ++ xs.drop i.toNat)) else .bad
    | none => .bad)
  | _, _, _ => .bad

def mtOk (m : Mt) (x : D) : Bool := match m with
  | .split => (match x with
    | .str _ => true
    | _ => false)
  | .join => (match x with
    | .str _ => true
    | _ => false)
  | _ => isLst x
/-- x op= y -/
def augD (o : Bop) (x y : D) (st : Sto) : Out D := match o, x, y with
  | .add, .int i, .int j => .ok (.int (i + j)) st
  | .sub, .int i, .int j => .ok (.int (i - j)) st
  | .mul, .int i, .int j => if mulOk i j then .ok (.int (i * j)) st else .bad
  | .fdiv, .int i, .int j => if divOk j then .ok (.int (i / j)) st else .bad
  | _, _, _ => .bad
/-! ### dicts: a list of the store, pair by pair -/
def dFind : List D → Int → Option D
  | .tup [.int j, v] :: r, i => if j = i then some v else dFind r i
  | _, _ => none
def dRep (i : Int) (v : D) : D → D
  | .tup [.int j, w] => if j = i then .tup [.int j, v] else .tup [.int j, w]
  | d => d
def dPut (xs : List D) (i : Int) (v : D) : List D := if (dFind xs i).isSome then xs.map (dRep i v) else xs ++ [.tup [.int i, v]]
def dgetD (x y : D) (st : Sto) : Out D := match x, y with
  | .dct n, .int i => (match st[n]? with
    | some xs => ofO (dFind xs i) st
    | none => .bad)
  | _, _ => .bad
def dinD (neg : Bool) (x y : D) (st : Sto) : Out D := match x, y with
  | .int i, .dct n => (match st[n]? with
    | some xs => .ok (.bl ((dFind xs i).isSome != neg)) st
    | none => .bad)
  | _, _ => .bad
def dputD (x y v : D) (st : Sto) : Option Sto := match x, y with
  | .dct n, .int i => (st[n]?).bind fun xs => if xs.length < lineN then some (st.set n (dPut xs i v)) else none
  | _, _ => none
def dnewD (x v : D) (st : Sto) : Out D := match x with
  | .int i => .ok (.dct st.length) (st ++ [[.tup [.int i, v]]])
  | _ => .bad
/-! ### objects: a list of the store, attribute by attribute -/
def oGet : List D → Str → Option D
  | .tup [.str g, v] :: r, f => if g = f then some v else oGet r f
  | _, _ => none
def oPut (f : Str) (v : D) : List D → List D
  | [] => [.tup [.str f, v]]
  | .tup [.str g, w] :: r => if g = f then .tup [.str g, v] :: r else .tup [.str g, w] :: oPut f v r
  | l => l
def fldD (c : Str) (x : D) (f : Str) (st : Sto) : Out D := match x with
  | .obj c' n => if c' = c then (match st[n]? with
    | some xs => ofO (oGet xs f) st
    | none => .bad) else .bad
  | _ => .bad
def setfD (c : Str) (x : D) (f : Str) (v : D) (st : Sto) : Option Sto := match x with
  | .obj c' n => if c' = c then (st[n]?).bind fun xs => if xs.length < 1000 then some (st.set n (oPut f v xs)) else none else none
  | _ => none
/-- an object whose own attributes have no such name -/
def mOk (c m : Str) (x : D) (st : Sto) : Bool := match x with
  | .obj c' n => decide (c' = c) && (match st[n]? with
    | some xs => (oGet xs m).isNone
    | none => false)
  | _ => false
/-! ### names -/
mutual
def gset : G → D → Env → Option Env
  | .nm i, d, env => if i < env.length then some (env.set i (some d)) else none
  | .tup gs, .tup ds, env => gsets gs ds env
  | .tup gs, .fl ds, env => gsets gs ds env
  | .tup _, _, _ => none
def gsets : List G → List D → Env → Option Env
  | [], [], env => some env
  | g :: gs, d :: ds, env => (gset g d env).bind (gsets gs ds)
  | _, _, _ => none
end
def wipe (env : Env) : List Nat → Env
  | [] => env
  | i :: r => wipe (env.set i none) r
def setsR (env : Env) : List Nat → List D → Env
  | i :: is, d :: ds => (setsR env is ds).set i (some d)
  | _, _ => env
def sets (env : Env) (is : List Nat) (ds : List D) : Option Env := if is.length = ds.length ∧ ∀ i ∈ is, i < env.length then some (setsR env is ds) else none

/-! ### walks -/
abbrev Wt := List (Nat × List D)
def okW (st : Sto) (wt : Wt) : Bool := wt.all fun p => match st[p.1]? with
  | some xs => D.beqs xs p.2
  | none => false
/-- what is walked: the items, the lists that must stay -/
def srcD (a : D) (st : Sto) : Option (List D × Wt) := match a with
  | .tup xs => some (xs, [])
  | .fl xs => some (xs, [])
  | .ref n => (st[n]?).map fun xs => (xs, [(n, xs)])
  | .str x => some (chars x, [])
  | _ => none
def srcL (a : D) (st : Sto) : Option (List D × Wt) := match a with
  | .str _ => none
  | a => srcD a st
def enumD : Nat → List D → List D
  | _, [] => []
  | c, x :: xs => .tup [.int (c : Nat), x] :: enumD (c + 1) xs
def zipD (xs ys : List D) : List D := (xs.zip ys).map fun p => .tup [p.1, p.2]
def rngD (lo : Int) (n : Nat) : List D := (List.range n).map fun (i : Nat) => .int (lo + i)
def rngS (lo c : Int) (n : Nat) : List D := (List.range n).map fun (i : Nat) => .int (lo + i * c)
def rgOk (j : Int) : Bool := decide (-(2 ^ 62) ≤ j ∧ j < 2 ^ 62)

def rngO (ds : List D) (st : Sto) : Out (List D × Wt) := match ds with
  | [.int j] => if rgOk j then .ok (rngD 0 j.toNat, []) st else .bad
  | [.int i, .int j] => if rgOk i && rgOk j then .ok (rngD i (j - i).toNat, []) st else .bad
  | [.int i, .int j, .int k] => if (rgOk i && rgOk j) && decide (k = -1) then .ok (rngS i (-1) (i - j).toNat, []) st else .bad
  | _ => .bad
def enumO (c : Nat) (ds : List D) (st : Sto) : Out (List D × Wt) := match ds with
  | [x] => ofO ((srcL x st).map fun p => (enumD c p.1, p.2)) st
  | _ => .bad
def zipO (ds : List D) (st : Sto) : Out (List D × Wt) := match ds with
  | [x, y] => (match srcL x st, srcL y st with
    | some p, some q => .ok (zipD p.1 q.1, p.2 ++ q.2) st
    | _, _ => .bad)
  | _ => .bad
def intB (d : Option D) (st : Sto) : Out (Option Int) := ofO (intO d) st
/-- list(range(..)), tuple(range(..)) -/
def rgD (tu fz : Bool) (i : Int) (y : D) (st : Sto) : Out D := match y with
  | .int j => if (rgOk i && rgOk j) && decide ((j - i).toNat ≤ lineN) then (if tu then .ok (.tup (rngD i (j - i).toNat)) st else mkL fz (rngD i (j - i).toNat) st) else .bad
  | _ => .bad
structure Cx where
  call : Bool → Nat → List D → Sto → Out D
  glob : Str → Option D

/-- a for's turns -/
def forL (wt : Wt) (g : G) (body : Env → Sto → SOut) : List D → Env → Sto → SOut
  | [], env, st => if okW st wt then .nxt env st else .bad
  | d :: ds, env, st => if okW st wt then (match gset g d env with
    | none => .bad
    | some env1 => match body env1 st with
      | .nxt e s => forL wt g body ds e s
      | .cnt e s => forL wt g body ds e s
      | .brk e s => .nxt e s
      | .ret d s => .ret d s
      | .exc x e s => .exc x e s
      | .bad => .bad) else .bad
/-- a while's -/
def whileN (c : Env → Sto → Out Bool) (body : Env → Sto → SOut) : Nat → Env → Sto → SOut
  | 0, _, _ => .bad
  | n + 1, env, st => (c env st).thn env fun b st1 => match b with
    | false => .nxt env st1
    | true => match body env st1 with
      | .nxt e s => whileN c body n e s
      | .cnt e s => whileN c body n e s
      | .brk e s => .nxt e s
      | .ret d s => .ret d s
      | .exc x e s => .exc x e s
      | .bad => .bad
/-- a comprehension's turns; env: the block's own names forgotten -/
def lcL (wt : Wt) (g : G) (t : Env → Sto → Out Bool) (e : Env → Sto → Out D) (env : Env) : List D → Sto → Out (List D)
  | [], st => if okW st wt then .ok [] st else .bad
  | d :: ds, st => if okW st wt then (match gset g d env with
    | none => .bad
    | some env1 => (t env1 st).bind fun b st1 => match b with
      | false => lcL wt g t e env ds st1
      | true => (e env1 st1).bind fun y st2 => (lcL wt g t e env ds st2).bind fun ys st3 => .ok (y :: ys) st3) else .bad
/-- the second clause's turns within the first's -/
def lcL2 (wt : Wt) (g : G) (t : Env → Sto → Out Bool) (inner : Env → Sto → Out (List D)) (env : Env) : List D → Sto → Out (List D)
  | [], st => if okW st wt then .ok [] st else .bad
  | d :: ds, st => if okW st wt then (match gset g d env with
    | none => .bad
    | some env1 => (t env1 st).bind fun b st1 => match b with
      | false => lcL2 wt g t inner env ds st1
      | true => (inner env1 st1).bind fun y st2 => (lcL2 wt g t inner env ds st2).bind fun ys st3 => .ok (y ++ ys) st3) else .bad
/-- no exception leaves a comprehension -/
def nox {α : Type} : Out α → Out α
  | .ok a st => .ok a st
  | _ => .bad
/-- keyword arguments into their places -/
def placed (ds : List D) (ks : List Nat) (zs : List D) : Option (List D) := match ks with
  | [] => some ds
  | _ => if ks.length = zs.length then (List.range (ds.length + ks.length)).mapM fun i => if i < ds.length then ds[i]? else (ks.zip zs).lookup i else none

structure Pv where
  v : Env → Sto → Out D
  t : Env → Sto → Out Bool
/-- a test by the value -/
def val (f : Env → Sto → Out D) : Pv := ⟨f, fun env st => (f env st).bind fun x s1 => ofO (tru s1 x) s1⟩
mutual
def evP (cx : Cx) : E → Pv
  | .no => val fun _ _ => .bad
  | .var i => val fun env st => (match env[i]? with
    | some (some d) => .ok d st
    | _ => .bad)
  | .cst d => val fun _ st => .ok d st
  | .glob x => val fun _ st => ofO (cx.glob x) st
  | .tup es => val fun env st => (evEs cx es env st).bind mkT
  | .lst fz es => val fun env st => (evEs cx es env st).bind (mkL fz)
  | .bin fz o a b => val fun env st => ((evP cx a).v env st).bind fun x s1 => ((evP cx b).v env s1).bind fun y s2 => binD fz o x y s2
  | .neg a => val fun env st => ((evP cx a).v env st).bind fun x s1 => match x with
    | .int i => .ok (.int (-i)) s1
    | _ => .bad
  | .cmp o a b => val fun env st => ((evP cx a).v env st).bind fun x s1 => ((evP cx b).v env s1).bind fun y s2 => cmpD o x y s2
  | .chain o p a b c => val fun env st => ((evP cx a).v env st).bind fun x s1 => ((evP cx b).v env s1).bind fun y s2 => (cmpD o x y s2).bind fun r s3 => match r with
    | .bl true => ((evP cx c).v env s3).bind fun z s4 => cmpD p y z s4
    | .bl false => .ok (.bl false) s3
    | _ => .bad
  | .isN a => val fun env st => ((evP cx a).v env st).bind fun x s1 => .ok (.bl (match x with
    | .non => true
    | _ => false)) s1
  | .notN a => val fun env st => ((evP cx a).v env st).bind fun x s1 => .ok (.bl (match x with
    | .non => false
    | _ => true)) s1
  | .and_ a b => ⟨fun env st => ((evP cx a).v env st).bind fun x s1 => match tru s1 x with
    | some true => (evP cx b).v env s1
    | some false => .ok x s1
    | none => .bad, fun env st => ((evP cx a).t env st).bind fun k s1 => match k with
    | true => (evP cx b).t env s1
    | false => .ok false s1⟩
  | .or_ a b => ⟨fun env st => ((evP cx a).v env st).bind fun x s1 => match tru s1 x with
    | some false => (evP cx b).v env s1
    | some true => .ok x s1
    | none => .bad, fun env st => ((evP cx a).t env st).bind fun k s1 => match k with
    | true => .ok true s1
    | false => (evP cx b).t env s1⟩
  | .not_ a => ⟨fun env st => ((evP cx a).v env st).bind fun x s1 => ofO ((tru s1 x).map fun c => .bl !c) s1, fun env st => ((evP cx a).t env st).bind fun k s1 => .ok (!k) s1⟩
  | .ite c a b => ⟨fun env st => ((evP cx c).t env st).bind fun k s1 => match k with
    | true => (evP cx a).v env s1
    | false => (evP cx b).v env s1, fun env st => ((evP cx c).t env st).bind fun k s1 => match k with
    | true => (evP cx a).t env s1
    | false => (evP cx b).t env s1⟩
  | .ix a b => val fun env st => ((evP cx a).v env st).bind fun x s1 => ((evP cx b).v env s1).bind fun y s2 => ixD x y s2
  | .sl a lo hi => val fun env st => ((evP cx a).v env st).bind fun x s1 => ((evO cx lo env s1).bind intB).bind fun l s2 => ((evO cx hi env s2).bind intB).bind fun h s3 => slD x l h s3
  | .call fz f es ks kes => val fun env st => (evEs cx es env st).bind fun ds s1 => (evEs cx kes env s1).bind fun zs s2 => match placed ds ks zs with
    | some ds => cx.call fz f ds s2
    | none => .bad
  | .bi fz b es => val fun env st => (evEs cx es env st).bind fun ds s1 => biD fz b ds s1
  | .rev fz a => val fun env st => ((evP cx a).v env st).bind fun x s1 => revD fz x s1
  | .tupS a b => val fun env st => ((evP cx a).v env st).bind fun x s1 => ((evP cx b).v env s1).bind fun y s2 => match y.seq? s2 with
    | some ys => mkT (x :: ys) s2
    | none => .bad
  | .look a b => val fun env st => ((evP cx a).v env st).bind fun x s1 => match dicO x with
    | some ps => ((evP cx b).v env s1).bind fun y s2 => (match y with
      | .str z => ofO (lookP ps z) s2
      | _ => .bad)
    | none => .bad
  | .glook _ ps b => val fun env st => ((evP cx b).v env st).bind fun y s1 => match y with
    | .str z => ofO ((ps.lookup z).map .str) s1
    | _ => .bad
  | .isi a ts => val fun env st => ((evP cx a).v env st).bind fun x s1 => .ok (.bl (ts.any (isTy x))) s1
  | .mth fz m o es => val fun env st => ((evP cx o).v env st).bind fun x s1 => if mtOk m x then (evEs cx es env s1).bind fun ds s2 => mtD fz m x ds s2 else .bad
  | .rg tu fz lo hi => val fun env st => ((evO cx lo env st).bind intB).bind fun l s1 => ((evP cx hi).v env s1).bind fun y s2 => rgD tu fz (l.getD 0) y s2
  | .dnew => val fun _ st => .ok (.dct st.length) (st ++ [[]])
  | .dnew1 a b => val fun env st => ((evP cx a).v env st).bind fun x s1 => ((evP cx b).v env s1).bind fun y s2 => dnewD x y s2
  | .dget a b => val fun env st => ((evP cx a).v env st).bind fun x s1 => ((evP cx b).v env s1).bind fun y s2 => dgetD x y s2
  | .fld c a f => val fun env st => ((evP cx a).v env st).bind fun x s1 => fldD c x f s1
  | .new c f es => val fun env st => (evEs cx es env st).bind fun ds s1 => (cx.call false f (.obj c s1.length :: ds) (s1 ++ [[]])).bind fun x s2 => match x with
    | .non => .ok (.obj c s1.length) s2
    | _ => .bad
  | .mcall fz c m f o es => val fun env st => ((evP cx o).v env st).bind fun x s1 => if mOk c m x s1 then (evEs cx es env s1).bind fun ds s2 => cx.call fz f (x :: ds) s2 else .bad
  | .din neg a b => val fun env st => ((evP cx a).v env st).bind fun x s1 => ((evP cx b).v env s1).bind fun y s2 => dinD neg x y s2
  | .lc fz own g s t e => val fun env st => nox ((evS cx s env st).bind fun p s1 => if p.1.length ≤ lineN then
      (lcL p.2 g (evOT cx t) ((evP cx e).v) (wipe env own) p.1 s1).bind fun ys s2 => mkL fz ys s2 else .bad)
  | .lc2 fz own own2 g s t g2 s2 t2 e => val fun env st => nox ((evS cx s env st).bind fun p s1 => if p.1.length ≤ lineN then
      (lcL2 p.2 g (evOT cx t) (fun env1 st1 => (evS cx s2 env1 st1).bind fun q st2 => if q.1.length ≤ lineN then lcL q.2 g2 (evOT cx t2) ((evP cx e).v) (wipe env1 own2) q.1 st2 else .bad) (wipe env own) p.1 s1).bind fun ys s2 => mkL fz ys s2 else .bad)
def evEs (cx : Cx) : Es → Env → Sto → Out (List D)
  | .nil, _, st => .ok [] st
  | .cons e es, env, st => ((evP cx e).v env st).bind fun x s1 => (evEs cx es env s1).bind fun xs s2 => .ok (x :: xs) s2
def evO (cx : Cx) : Eo → Env → Sto → Out (Option D)
  | .none, _, st => .ok none st
  | .some e, env, st => ((evP cx e).v env st).bind fun x s1 => .ok (some x) s1
def evOT (cx : Cx) : Eo → Env → Sto → Out Bool
  | .none, _, st => .ok true st
  | .some e, env, st => (evP cx e).t env st
def evS (cx : Cx) : Sr → Env → Sto → Out (List D × Wt)
  | .seq e, env, st => ((evP cx e).v env st).bind fun x s1 => ofO (srcD x s1) s1
  | .rng es, env, st => (evEs cx es env st).bind rngO
  | .enum c es, env, st => (evEs cx es env st).bind (enumO c)
  | .zip es, env, st => (evEs cx es env st).bind zipO
end
abbrev evE (cx : Cx) (e : E) : Env → Sto → Out D := (evP cx e).v
abbrev evT (cx : Cx) (e : E) : Env → Sto → Out Bool := (evP cx e).t

/-! ### statements -/
def setD (o i d : D) (st : Sto) : Option Sto := match o, i with
  | .ref n, .int k => (st[n]?).bind fun xs => (ixN xs.length k).map fun j => st.set n (xs.set j d)
  | _, _ => none
/-- o.f = d -/
def stF (c f : Str) (fo : Env → Sto → Out D) (d : D) (env : Env) (st : Sto) : Out Unit := (fo env st).bind fun x s1 => match setfD c x f d s1 with
  | some s2 => .ok () s2
  | none => .bad
/-- o[i] = d -/
def stO (fo fi : Env → Sto → Out D) (d : D) (env : Env) (st : Sto) : Out Unit := (fo env st).bind fun x s1 => (fi env s1).bind fun y s2 => match setD x y d s2 with
  | some s3 => .ok () s3
  | none => .bad
def whileFuel : Nat := 1000000000
def suiD (x : Xn) : Xe → Option D
  | .cst d => some d
  | .fld => x.v
  | .isi cs => some (.bl (cs.contains x.c))
  | .andNot cs ds => some (.bl (cs.contains x.c && !ds.contains x.c))
def suiL (x : Xn) : Xs → Option (List D)
  | .nil => some []
  | .cons e xs => (suiD x e).bind fun d => (suiL x xs).map (d :: ·)
def suite (x : Xn) (b : Su) (nm : Option Nat) (env : Env) (st : Sto) : SOut := match b with
  | .asgL i es => match suiL x es with
    | some ds => (match mkL true ds st with
      | .ok d s1 => if i < env.length then .nxt (match nm with
        | some j => (env.set i (some d)).set j none
        | none => env.set i (some d)) s1 else .bad
      | _ => .bad)
    | none => .bad
  | .asgC i d => if i < env.length then .nxt (match nm with
      | some j => (env.set i (some d)).set j none
      | none => env.set i (some d)) st else .bad
  | .app i d => match env[i]? with
    | some (some o) => (match mtD true .append o [d] st with
      | .ok _ s1 => .nxt (match nm with
        | some j => env.set j none
        | none => env) s1
      | _ => .bad)
    | _ => .bad
def hands (x : Xn) : Hs → Env → Sto → SOut
  | .nil, env, st => .exc x env st
  | .cons c nm b hs, env, st => if c = x.c then (if (nm.all fun j => decide (j < env.length)) = true then suite x b nm env st else .bad) else hands x hs env st
mutual
def exS (cx : Cx) : S → Env → Sto → SOut
  | .no, _, _ => .bad
  | .asg g e, env, st => (evE cx e env st).thn env fun d s1 => match gset g d env with
    | some env1 => .nxt env1 s1
    | none => .bad
  | .par is es, env, st => (evEs cx es env st).thn env fun ds s1 => match sets env is ds with
    | some env1 => .nxt env1 s1
    | none => .bad
  | .sub o i e, env, st => (evE cx e env st).thn env fun d s1 => (stO (evE cx o) (evE cx i) d env s1).thn env fun _ s2 => .nxt env s2
  | .setf c o f e, env, st => (evE cx e env st).thn env fun d s1 => (stF c f (evE cx o) d env s1).thn env fun _ s2 => .nxt env s2
  | .setf2 c o f o2 f2 es, env, st => (evEs cx es env st).thn env fun ds s1 => match ds with
    | [x, y] => (stF c f (evE cx o) x env s1).thn env fun _ s2 => (stF c f2 (evE cx o2) y env s2).thn env fun _ s3 => .nxt env s3
    | _ => .bad
  | .dput o i e, env, st => (evE cx e env st).thn env fun d s1 => (evE cx o env s1).thn env fun x s2 => (evE cx i env s2).thn env fun y s3 => (match dputD x y d s3 with
    | some s4 => .nxt env s4
    | none => .bad)
  | .swp o i o2 i2 es, env, st => (evEs cx es env st).thn env fun ds s1 => match ds with
    | [x, y] => (stO (evE cx o) (evE cx i) x env s1).thn env fun _ s2 => (stO (evE cx o2) (evE cx i2) y env s2).thn env fun _ s3 => .nxt env s3
    | _ => .bad
  | .aug i o e, env, st => (match env[i]? with
    | some (some x) => (evE cx e env st).thn env fun y s1 => (augD o x y s1).thn env fun z s2 => .nxt (env.set i (some z)) s2
    | _ => .bad)
  | .augS o i op e, env, st => (evE cx o env st).thn env fun x s1 => (evE cx i env s1).thn env fun y s2 => (ixL x y s2).thn env fun u s3 => (evE cx e env s3).thn env fun v s4 =>
      (augD op u v s4).thn env fun z s5 => match setD x y z s5 with
    | some s6 => .nxt env s6
    | none => .bad
  | .ex e, env, st => (evE cx e env st).thn env fun _ s1 => .nxt env s1
  | .ret e, env, st => (evE cx e env st).thn env fun d s1 => .ret d s1
  | .ret0, _, st => .ret .non st
  | .if_ c a b, env, st => (evT cx c env st).thn env fun k s1 => match k with
    | true => exSs cx a env s1
    | false => exSs cx b env s1
  | .for_ g s b, env, st => (evS cx s env st).thn env fun p s1 => forL p.2 g (exSs cx b) p.1 env s1
  | .whil c b, env, st => whileN (evT cx c) (exSs cx b) whileFuel env st
  | .brk, env, st => .brk env st
  | .cnt, env, st => .cnt env st
  | .pass, env, st => .nxt env st
  | .raise c es, env, st => (evEs cx es env st).thn env fun ds s1 => match ds with
    | [] => .exc ⟨c, none⟩ env s1
    | [d] => .exc ⟨c, some d⟩ env s1
    | _ => .bad
  | .try_ b hs, env, st => (match exSs cx b env st with
    | .exc x e s => hands x hs e s
    | r => r)
def exSs (cx : Cx) : Ss → Env → Sto → SOut
  | .nil, env, st => .nxt env st
  | .cons s ss, env, st => (match exS cx s env st with
    | .nxt e s1 => exSs cx ss e s1
    | r => r)
end

/-! ### calls -/
structure Def where
  name : Str
  np : Nat
  names : List Str
  body : Ss
structure Prg where
  defs : List Def
  globs : List (Str × D)

def envOf (d : Def) (ds : List D) : Env := ds.map some ++ List.replicate (d.names.length - ds.length) none
/-- what a def hands back, where its arguments do not reach the store: it ran over a store of its own -/
def nestD : List D → Option Nat
  | [.bl true, .ref m] => some m
  | _ => none
theorem nestD_some {xs : List D} {m : Nat} (h : nestD xs = some m) : xs = [.bl true, .ref m] := by
  unfold nestD at h
  split at h
  · cases h; rfl
  · cases h
def outP (fz : Bool) (st : Sto) (d : D) (st' : Sto) : Out D :=
  if d.pur then .ok d st else if fz then (let d' := D.frz 0 st' 40 d; if d'.pur then .ok d' st else .bad) else match d with
    | .ref n => (match st'[n]? with
      | some xs => (match nestD xs with
        | some m => (match st'[m]? with
          | some zs => if n ≠ m ∧ D.purs (zs.map (D.frz 0 ((st'.set n [.ref n]).set m [.ref m]) 40)) = true then .ok (.ref (st.length + 1)) (st ++ [zs.map (D.frz 0 ((st'.set n [.ref n]).set m [.ref m]) 40), [.bl true, .ref st.length]]) else .bad
          | none => .bad)
        | none => if D.purs (xs.map (D.frz 0 (st'.set n [.ref n]) 40)) then .ok (.ref st.length) (st ++ [xs.map (D.frz 0 (st'.set n [.ref n]) 40)]) else .bad)
      | none => .bad)
    | _ => .bad
/-- .. where they do: what it made is left out, or kept -/
def outR (fz : Bool) (st : Sto) (d : D) (st' : Sto) : Out D :=
  if fz then (let d' := D.frz st.length st' 40 d; let s1 := st'.take st.length; if st.length ≤ st'.length && d'.low st.length && s1.all (D.lows st.length) then .ok d' s1 else .bad) else .ok d st'
def runD (fz : Bool) (o : SOut) (pure : Bool) (st : Sto) : Out D := match o with
  | .ret d s => if pure then outP fz st d s else outR fz st d s
  | .nxt _ s => if pure then .ok .non st else outR fz st .non s
  | .exc x _ s => if pure then (match x.v with
    | none => .exc x st
    | some d => if d.pur then .exc x st else .bad) else .exc x s
  | _ => .bad
def callR (p : Prg) : Nat → Bool → Nat → List D → Sto → Out D
  | 0, _, _, _, _ => .bad
  | k + 1, fz, f, ds, st => match p.defs[f]? with
    | none => .bad
    | some df => if ds.length = df.np ∧ df.np ≤ df.names.length then
        (let cx : Cx := ⟨callR p k, fun x => p.globs.lookup x⟩
         if D.purs ds then runD fz (exSs cx df.body (envOf df ds) []) true st else runD fz (exSs cx df.body (envOf df ds) st) false st)
      else .bad
/-- .. not to be unfolded by the elaborator -/
@[irreducible] def callN (p : Prg) (k : Nat) (fz : Bool) (f : Nat) (ds : List D) (st : Sto) : Out D := callR p k fz f ds st
theorem callN_R (p : Prg) (k : Nat) : callN p k = callR p k := by funext fz f ds st; unfold callN; rfl
theorem callN_zero {p : Prg} {fz : Bool} {f : Nat} {ds : List D} {st : Sto} : callN p 0 fz f ds st = .bad := by rw [callN_R]; rfl
theorem callN_succ {p : Prg} {k : Nat} {fz : Bool} {f : Nat} {ds : List D} {st : Sto} : callN p (k + 1) fz f ds st = match p.defs[f]? with
    | none => .bad
    | some df => if ds.length = df.np ∧ df.np ≤ df.names.length then
        (let cx : Cx := ⟨callN p k, fun x => p.globs.lookup x⟩
         if D.purs ds then runD fz (exSs cx df.body (envOf df ds) []) true st else runD fz (exSs cx df.body (envOf df ds) st) false st)
      else .bad := by
  rw [callN_R, callN_R]; rfl
/-! ### sorted -/
theorem insI_perm (i : Int) : ∀ l : List Int, (insI i l).Perm (i :: l)
  | [] => .refl _
  | j :: l => by
    rw [insI]
    split
    · exact .refl _
    · exact ((insI_perm i l).cons j).trans (.swap i j l)
theorem insI_up (i : Int) : ∀ l : List Int, l.Pairwise (· ≤ ·) → (insI i l).Pairwise (· ≤ ·)
  | [], _ => List.pairwise_singleton _ _
  | j :: l, h => by
    have hj := List.pairwise_cons.mp h
    rw [insI]
    split
    · rename_i c
      refine List.pairwise_cons.mpr ⟨fun y hy => ?_, h⟩
      rcases List.mem_cons.mp hy with e | hy
      · exact e ▸ c
      · exact Int.le_trans c (hj.1 y hy)
    · rename_i c
      refine List.pairwise_cons.mpr ⟨fun y hy => ?_, insI_up i l hj.2⟩
      rcases List.mem_cons.mp ((insI_perm i l).mem_iff.mp hy) with e | hy
      · subst e; omega
      · exact hj.1 y hy
theorem sortI_perm : ∀ l : List Int, (sortI l).Perm l
  | [] => .refl _
  | i :: l => (insI_perm i _).trans ((sortI_perm l).cons i)
theorem sortI_up : ∀ l : List Int, (sortI l).Pairwise (· ≤ ·)
  | [] => .nil
  | i :: l => insI_up i _ (sortI_up l)
theorem up_one : ∀ {a b : List Int}, a.Perm b → a.Pairwise (· ≤ ·) → b.Pairwise (· ≤ ·) → a = b
  | [], b, h, _, _ => (List.nil_perm.mp h).symm
  | x :: a, [], h, _, _ => absurd h.length_eq (by simp)
  | x :: a, y :: b, h, ha, hb => by
    have pa := List.pairwise_cons.mp ha
    have pb := List.pairwise_cons.mp hb
    have e : x = y := by
      have h1 := h.mem_iff.mp (List.mem_cons_self (a := x) (l := a))
      have h2 := h.mem_iff.mpr (List.mem_cons_self (a := y) (l := b))
      rcases List.mem_cons.mp h1 with e | h1
      · exact e
      · rcases List.mem_cons.mp h2 with e | h2
        · exact e.symm
        · exact Int.le_antisymm (pa.1 _ h2) (pb.1 _ h1)
    subst e
    rw [up_one ((List.perm_cons x).mp h) pa.2 pb.2]
end Mi
end
namespace Mi
open PySem PySem.Spec PyProof.Rows L2
structure EC where
  name : Str
  le : Bool
  ini : Bool
  fld : Str := ""
structure Tx where
  p : Prg
  kwp : List (Nat × List Nat)
  ug : Bool
  cls : List EC := []
  file : Str := ""
  dics : List (Str × List (Str × Str)) := []
  /-- methods: class, name, def -/
  mths : List (Str × Str × Nat) := []
  /-- attributes: class, name -/
  ats : List (Str × Str) := []
def bltN : List Str := ["len", "sum", "all", "any", "abs", "int", "list", "tuple", "str", "max", "min", "sorted", "divmod", "range", "enumerate", "zip", "isinstance", "bool", "ValueError", "LookupError", "dict"]
def bmX (le : Bool) : List Value := (if le then Value.type "LookupError" else .type "ValueError") :: [.type "Exception", .type "BaseException", .type "object"]
def newX (le : Bool) : String := if le then "LookupError.__new__" else "ValueError.__new__"
def baX (le : Bool) : String := if le then "LookupError" else "ValueError"
def inX (le : Bool) : String := if le then "LookupError.__init__" else "ValueError.__init__"
def clsB : Stmt → List Stmt
  | .ClassDef _ _ _ b _ _ _ _ _ _ _ => b
  | _ => []
def clD : List Str → List Str
  | [] => []
  | x :: r => if x ∈ r then clD r else x :: clD r
def notM (T : Tx) (f : Nat) : Bool := T.mths.all fun q => decide (q.2.2 ≠ f)
def gloM (T : Tx) : List He.Fa := T.p.defs.zipIdx.filterMap fun q => if notM T q.2 = true then some (.glo q.1.name) else none
def clsM (T : Tx) : List He.Fa := (clD (T.mths.map (·.1) ++ T.ats.map (·.1))).map .cls ++ (T.mths.map (fun q => .meth q.1 q.2.1) ++ (T.mths.flatMap (fun q => if q.2.1 = ("__init__" : Str) then [.mkr q.1, .glo q.1] else []) ++ T.ats.map fun q => .noat q.1 q.2))
def faM (T : Tx) : List He.Fa := bltN.map .free ++ (gloM T ++ ((T.p.globs.filterMap fun q => match q.2 with
  | .int i => some (.int q.1 i)
  | .str z => some (.str q.1 z)
  | _ => none) ++ clsM T))
def ddOf (tp : Nat → Stmt) (nm : Str) (i : Nat) : He.DefD := ⟨(nm, none), nm, nm, defArgs (tp i), defBody (tp i), defScope (tp i), [], []⟩
def ddM (T : Tx) (tp : Nat → Stmt) (j : Nat) (nm : Str) (i : Nat) : He.DefD := match T.mths.find? fun q => q.2.2 == j with
  | some q => ⟨(q.1, some q.2.1), q.2.1, nm, defArgs (tp i), defBody (tp i), defScope (tp i), [], []⟩
  | none => ddOf tp nm i
def fnM (tp : Nat → Stmt) (T : Tx) (ix : List Nat) : List He.DefD := (T.p.defs.zip ix).zipIdx.map fun q => ddM T tp q.2 q.1.1.name q.1.2
def obB (K : PySem.W.Frag) (C : Addr) : Bool := decide (PySem.W.findIn K (.ref C) "__class__" = some (some (.builtin "object.__class__"))) && (decide (PySem.W.specialIn K (.builtin "object.__class__") "__get__" = some (some (.builtin "getset_descriptor.__get__"))) && (decide (PySem.W.takesIn K (.builtin "object.__class__") = some true) && (decide (PySem.W.mroIn K C (.type "object") = some true) &&
  (["int", "bool", "str", "list", "tuple"] : List String).all fun t => decide (PySem.W.kitOne K (.ref C) (.type t) = some false))))
def prmB (fld : Str) : Arguments → Bool
  | ⟨[], [a0, a1], none, [], _, none, _⟩ => decide (a0.arg = "self") && decide (a1.arg = fld)
  | _ => false
def s0B (fld : Str) : Stmt → Bool
  | .Expr (.Call (.Attribute (.Call (.Name a _) [] [] _) i p2) [.Name x _] [] p4) _ => decide (a = "super") && (decide (i = "__init__") && (decide (x = fld) && (p2.endLine == p4.line)))
  | _ => false
def s1B (fld : Str) : Stmt → Bool
  | .Assign [.Attribute (.Name s _) f _] (.Name x _) _ => decide (s = "self") && (decide (f = fld) && decide (x = fld))
  | _ => false
def bodB (fld : Str) : FuncBody → Bool
  | .stmts [s0, s1] => s0B fld s0 && s1B fld s1
  | _ => false
def scpB (fld : Str) : Scope → Bool
  | ⟨.function, nms, false, false, _⟩ => decide (nms.lookup ("super" : Str) = some .globalImplicit) && (decide (nms.lookup ("__class__" : Str) = some .free) && (decide (nms.lookup ("self" : Str) = some .local) && (decide (nms.lookup fld = some .local) && nms.all fun x => decide (x.2 ≠ .cell))))
  | _ => false
def codB (K : PySem.W.Frag) (file : Str) (cda : Addr) : Bool := match K.lookup cda with
  | some ⟨_, _, .fields vs, _⟩ => (match vs[2]? with
    | some (Value.str f _) => decide (f = file)
    | _ => false)
  | _ => false
def celB (K : PySem.W.Frag) (C cc : Addr) : Bool := match K.lookup cc with
  | some ⟨_, _, .cell (some (.ref D)), _⟩ => decide (D = C)
  | _ => false
def funB (K : PySem.W.Frag) (file : Str) (C : Addr) (fld : Str) : FuncData → Bool
  | ⟨_, qual, params, body, scope, gl, [(cn, cc)], .none, _, _, _, _, .ref cda, _, bl⟩ => prmB fld params && (bodB fld body && (scpB fld scope && (codB K file cda && (celB K C cc && (PySem.W.codeIn K (.ref cda) qual && (decide (gl = mainGlobals) && (decide (bl = builtinsNs) && decide (cn = "__class__"))))))))
  | _ => false
def iniB (K : PySem.W.Frag) (file : Str) (C : Addr) (le : Bool) (fld : Str) : Bool := match PySem.W.findIn K (.ref C) "__init__" with
  | some (some (.ref fI)) => (match K.lookup fI with
    | some ⟨_, _, .func fd, _⟩ => funB K file C fld fd && (PySem.W.excInitIn K C (bmX le) (newX le) && (PySem.W.isFn K (.ref fI) && ((PySem.W.clsIn K C).isSome && (decide (PySem.W.mroIn K C (.ref C) = some true) && (decide (PySem.W.nsIn K mainGlobals "super" = some none) &&
      (decide (PySem.W.nsIn K cStatics "thirdparty.any" = some none) && (decide (PySem.W.ks_superIn K C C "__init__" = some (some (.builtin (inX le)))) && (decide (PySem.W.subIn K (.ref C) (.type (baX le)) = some true) && (decide (PySem.W.findIn K (.ref C) "__setattr__" = some (some (.builtin "object.__setattr__"))) &&
      (PySem.W.excOver K C (bmX le) && (decide (PySem.W.takerIn K C fld = some none) && (PySem.W.hasDictIn K C && (PySem.W.keepIn K (.ref C) && ((!(fld == ("self" : Str))) && !(fld == ("__debug__" : Str))))))))))))))))
    | _ => false)
  | _ => false
def excB (K : PySem.W.Frag) (C : Addr) : Bool := decide (PySem.W.findIn K (.ref C) "__getattribute__" = some (some (.builtin "BaseException.__getattribute__"))) && (decide (PySem.W.findIn K (.ref C) "__getattr__" = some none) && (decide (PySem.W.subIn K (.ref C) (.type "BaseException") = some true) && (PySem.W.hasDictIn K C &&
  (decide (PySem.W.findIn K (.ref C) "__class__" = some (some (.builtin "object.__class__"))) && (decide (PySem.W.specialIn K (.builtin "object.__class__") "__get__" = some (some (.builtin "getset_descriptor.__get__"))) && (decide (PySem.W.takesIn K (.builtin "object.__class__") = some true) && decide (PySem.W.mroIn K C (.type "object") = some true)))))))
def clX (K : PySem.W.Frag) (file : Str) (cls : List EC) (q : EC × Nat) : Bool := excB K (He.ga K q.1.name) && (decide (PySem.W.kitOne K (.ref (He.ga K q.1.name)) (.type "ValueError") = some (!q.1.le)) && (decide (PySem.W.kitOne K (.ref (He.ga K q.1.name)) (.type "LookupError") = some q.1.le) &&
  ((cls.zipIdx).all (fun z => decide (PySem.W.kitOne K (.ref (He.ga K q.1.name)) (.ref (He.ga K z.1.name)) = some (decide (z.2 = q.2)))) && (!q.1.ini || (xfB K (He.ga K q.1.name) && (decide (PySem.W.findIn K (.ref (He.ga K q.1.name)) q.1.fld = some none) && iniB K file (He.ga K q.1.name) q.1.le q.1.fld))))))
def clB (K : PySem.W.Frag) (cls : List EC) (q : EC × Nat) : Bool := He.eqO (PySem.W.nsIn K mainGlobals q.1.name) (some (some (.ref (He.ga K q.1.name)))) && (PySem.W.keepIn K (.ref (He.ga K q.1.name)) && (decide (PySem.W.subIn K (.ref (He.ga K q.1.name)) (.type "BaseException") = some true) && (decide (PySem.W.typeIn K (.ref (He.ga K q.1.name)) = some (.type "type")) &&
  ((q.1.ini || PySem.W.excIn K (He.ga K q.1.name) (bmX q.1.le) (newX q.1.le)) && (cls.zipIdx).all fun z => decide (PySem.W.exmOne K (.ref (He.ga K q.1.name)) (.ref (He.ga K z.1.name)) = some (decide (z.2 = q.2)))))))
def itB : D → Value → Bool
  | .int i, .int j _ => decide (i = j)
  | .str x, .str y _ => decide (x = y)
  | _, _ => false
def itsB : List D → List Value → Bool
  | [], [] => true
  | d :: ds, v :: vs => itB d v && itsB ds vs
  | _, _ => false
def tuB (K : PySem.W.Frag) (q : Str × D) : Bool := match q.2 with
  | .tup ds => He.eqO (PySem.W.nsIn K mainGlobals q.1) (some (some (.ref (He.ga K q.1)))) && (match K.lookup (He.ga K q.1) with
    | some o => decide (o.cls = .type "tuple") && (match o.data with
      | .seq its _ => decide (its.size ≤ sizeLine) && itsB ds its.toList
      | _ => false)
    | none => false)
  | _ => true
def exM0 (T : Tx) (K : PySem.W.Frag) : Bool := ((K.all fun q => !(q.2.cls == .type "list")) && (!T.ug || He.eqO (PySem.W.nsIn K mainGlobals ("gcd" : Str)) (some (some (.builtin "math.gcd"))))) && (T.cls.zipIdx).all fun q => clB K T.cls q && clX K T.file T.cls q
def dcB (K : PySem.W.Frag) (q : Str × List (Str × Str)) : Bool := He.eqO (PySem.W.nsIn K mainGlobals q.1) (some (some (.ref (He.ga K q.1)))) && q.2.all fun z => match PySem.W.nsIn K (He.ga K q.1) z.1 with
  | some (some (.str y _)) => decide (y = z.2)
  | _ => false
def exM (T : Tx) (K : PySem.W.Frag) : Bool := exM0 T K && ((T.p.globs.all (tuB K) && T.dics.all (dcB K)) && (clD (T.mths.map (·.1))).all fun c => obB K (He.ga K c))
abbrev AlM : Type := (Bool × He.AlD) × List (Option (List (Option (Str × Int))))
def obM (n : Nat) (ug : Tx) (fa : List He.Fa) (fn : List He.DefD) (g : Addr → Option Obj) : AlM := ((exM ug (He.frG g (cStatics :: He.asD g n)), He.obsD fa fn (He.frG g (cStatics :: He.asD g n))), ug.dics.map fun q => He.dicW (He.frG g (cStatics :: He.asD g n)) (He.ga (He.frG g (cStatics :: He.asD g n)) q.1))
def hookM (n : Nat) (ug : Tx) (fa : List He.Fa) (fn : List He.DefD) : PySem.W.Hook where
  α := AlM
  obs := fun s => obM n ug fa fn s.heap.get?
  val := fun w => ((true, He.valD fn), ug.dics.map fun q => some (He.keysIn w.params (q.2.map (·.1))))
  says := fun w h => ∃ K : PySem.W.Frag, K.In h ∧ exM ug K = true ∧ He.SaysD fa fn K ∧ ug.dics.map (fun q => He.dicW K (He.ga K q.1)) = ug.dics.map fun q => some (He.keysIn w.params (q.2.map (·.1)))
  of := fun _ _ e => ⟨_, He.frG_in, congrArg (fun z : AlM => z.1.1) e, congrArg (fun z : AlM => z.1.2) e, by
    have q := congrArg (fun z : AlM => z.2) e
    exact q⟩
  keeps := fun _ _ _ ⟨K, hK, c⟩ k => ⟨K, PySem.W.Frag.In.keeps hK k, c⟩
theorem obM_eq {n : Nat} {ug : Tx} {fa : List He.Fa} {fn : List He.DefD} {g : Addr → Option Obj} {s : Shared} (h : ∀ a, g a = s.heap.get? a) : obM n ug fa fn g = (hookM n ug fa fn).obs s := by
  have e : g = s.heap.get? := funext h
  rw [e] <;> rfl
end Mi
namespace Pk27
open Mi
def b_is_number : Mi.Ss := (.cons (.ret (.and_ (.isi (.var 0) [.int]) (.not_ (.isi (.var 0) [.bool]))))
   .nil)
def b_is_from : Mi.Ss := (.cons (.ret (.and_ (.call true 0 (.cons (.var 0) .nil) [] .nil) (.cmp .ge (.var 0) (.var 1))))
   .nil)
def b_is_long : Mi.Ss := (.cons (.ret (.and_ (.isi (.var 0) [.tuple]) (.cmp .eq (.bi true .len (.cons (.var 0) .nil)) (.var 1))))
   .nil)
def b_tupled : Mi.Ss := (.cons (.ret (.ite (.isi (.var 0) [.list, .tuple]) (.bi true .tuple (.cons (.lc true [1] (.nm 1) (.seq (.var 0)) .none (.call true 3 (.cons (.var 1) .nil) [] .nil)) .nil)) (.var 0)))
   .nil)
def b_are_numbers : Mi.Ss := (.cons (.ret (.and_ (.isi (.var 0) [.tuple]) (.bi true .all (.cons (.lc true [1] (.nm 1) (.seq (.var 0)) .none (.call true 0 (.cons (.var 1) .nil) [] .nil)) .nil))))
   .nil)
def b_are_from : Mi.Ss := (.cons (.ret (.and_ (.call true 4 (.cons (.var 0) .nil) [] .nil) (.bi true .all (.cons (.lc true [2] (.nm 2) (.seq (.var 0)) .none (.cmp .ge (.var 2) (.var 1))) .nil))))
   .nil)
def b_is_row_of : Mi.Ss := (.cons (.ret (.and_ (.call true 2 (.cons (.var 0) (.cons (.var 1) .nil)) [] .nil) (.call true 5 (.cons (.var 0) (.cons (.var 2) .nil)) [] .nil)))
   .nil)
def b_unit_row : Mi.Ss := (.cons (.ret (.bi true .tuple (.cons (.lc true [2] (.nm 2) (.rng (.cons (.var 0) .nil)) .none (.ite (.cmp .eq (.var 2) (.var 1)) (.cst (.int 1)) (.cst (.int 0)))) .nil)))
   .nil)
def b_sure_from : Mi.Ss := (.cons (.if_ (.not_ (.call true 1 (.cons (.var 0) (.cons (.var 1) .nil)) [] .nil))
   (.cons (.raise 2 .nil)
   .nil)
   .nil)
   (.cons (.ret (.var 0))
   .nil))
def b_is_town_in : Mi.Ss := (.cons (.if_ (.or_ (.not_ (.isi (.var 0) [.tuple])) (.cmp .eq (.bi true .len (.cons (.var 0) .nil)) (.cst (.int 0))))
   (.cons (.ret (.cst (.bl false)))
   .nil)
   .nil)
   (.cons (.ret (.bi true .all (.cons (.lc true [1] (.nm 1) (.seq (.var 0)) .none (.call true 6 (.cons (.var 1) (.cons (.bi true .len (.cons (.var 0) .nil)) (.cons (.cst (.int 0)) .nil))) [] .nil)) .nil)))
   .nil))
def b_sure_town : Mi.Ss := (.cons (.asg (.nm 1) (.call true 3 (.cons (.var 0) .nil) [] .nil))
   (.cons (.if_ (.not_ (.call true 9 (.cons (.var 1) .nil) [] .nil))
   (.cons (.raise 2 .nil)
   .nil)
   .nil)
   (.cons (.ret (.var 1))
   .nil)))
def b_times_column : Mi.Ss := (.cons (.ret (.bi true .tuple (.cons (.lc true [2] (.nm 2) (.seq (.var 0)) .none (.bi true .sum (.cons (.lc true [3, 4] (.tup [(.nm 3), (.nm 4)]) (.zip (.cons (.var 2) (.cons (.var 1) .nil))) .none (.bin true .mul (.var 3) (.var 4))) .nil))) .nil)))
   .nil)
def b_identity_of : Mi.Ss := (.cons (.ret (.bi true .tuple (.cons (.lc true [1] (.nm 1) (.rng (.cons (.var 0) .nil)) .none (.call true 7 (.cons (.var 0) (.cons (.var 1) .nil)) [] .nil)) .nil)))
   .nil)
def b_rest_in : Mi.Ss := (.cons (.ret (.bi true .tuple (.cons (.lc true [1, 2] (.tup [(.nm 1), (.nm 2)]) (.enum 0 (.cons (.var 0) .nil)) .none (.bi true .tuple (.cons (.lc true [3, 4] (.tup [(.nm 3), (.nm 4)]) (.enum 0 (.cons (.var 2) .nil)) .none (.bin true .sub (.var 4) (.bi true .int (.cons (.cmp .eq (.var 1) (.var 3)) .nil)))) .nil))) .nil)))
   .nil)
def b_pivot_row : Mi.Ss := (.cons (.for_ (.nm 2) (.rng (.cons (.var 1) (.cons (.bi true .len (.cons (.var 0) .nil)) .nil)))
   (.cons (.if_ (.cmp .ne (.ix (.ix (.var 0) (.var 2)) (.var 1)) (.cst (.int 0)))
   (.cons (.ret (.var 2))
   .nil)
   .nil)
   .nil))
   (.cons (.ret (.neg (.cst (.int 1))))
   .nil))
def b_box_in : Mi.Ss := (.cons (.par [1, 2, 3] (.cons (.lc false [9] (.nm 9) (.seq (.var 0)) .none (.bi true .list (.cons (.var 9) .nil))) (.cons (.cst (.int 1)) (.cons (.cst (.int 1)) .nil))))
   (.cons (.for_ (.nm 4) (.rng (.cons (.bin true .sub (.bi true .len (.cons (.var 1) .nil)) (.cst (.int 1))) .nil))
   (.cons (.asg (.nm 5) (.call true 14 (.cons (.var 1) (.cons (.var 4) .nil)) [] .nil))
   (.cons (.if_ (.cmp .lt (.var 5) (.cst (.int 0)))
   (.cons (.ret (.cst (.int 0)))
   .nil)
   .nil)
   (.cons (.if_ (.cmp .ne (.var 5) (.var 4))
   (.cons (.swp (.var 1) (.var 5) (.var 1) (.var 4) (.cons (.ix (.var 1) (.var 4)) (.cons (.ix (.var 1) (.var 5)) .nil)))
   (.cons (.asg (.nm 2) (.neg (.var 2)))
   .nil))
   .nil)
   (.cons (.asg (.nm 6) (.ix (.var 1) (.var 4)))
   (.cons (.for_ (.nm 7) (.rng (.cons (.bin true .add (.var 4) (.cst (.int 1))) (.cons (.bi true .len (.cons (.var 1) .nil)) .nil)))
   (.cons (.asg (.nm 8) (.ix (.ix (.var 1) (.var 7)) (.var 4)))
   (.cons (.sub (.var 1) (.var 7) (.lc true [10, 11] (.tup [(.nm 10), (.nm 11)]) (.zip (.cons (.var 6) (.cons (.ix (.var 1) (.var 7)) .nil))) .none (.bin true .fdv (.bin true .sub (.bin true .mul (.ix (.var 6) (.var 4)) (.var 11)) (.bin true .mul (.var 8) (.var 10))) (.var 3))))
   .nil)))
   (.cons (.asg (.nm 3) (.ix (.var 6) (.var 4)))
   .nil)))))))
   (.cons (.ret (.bin true .mul (.var 2) (.ix (.ix (.var 1) (.neg (.cst (.int 1)))) (.neg (.cst (.int 1))))))
   .nil)))
def b_worked : Mi.Ss := (.cons (.asg (.nm 1) (.new ⟨#[87, 111, 114, 107]⟩ 55 (.cons (.var 0) .nil)))
   (.cons (.ex (.mcall false ⟨#[87, 111, 114, 107]⟩ ⟨#[115, 101, 116, 116, 108, 101]⟩ 64 (.var 1) .nil))
   (.cons (.asg (.nm 2) (.bi true .min (.cons (.bi true .len (.cons (.var 0) .nil)) (.cons (.bi true .len (.cons (.ix (.var 0) (.cst (.int 0))) .nil)) .nil))))
   (.cons (.par [3, 4] (.cons (.bi true .tuple (.cons (.lc true [5] (.nm 5) (.seq (.fld ⟨#[87, 111, 114, 107]⟩ (.var 1) ⟨#[108, 101, 102, 116]⟩)) .none (.bi true .tuple (.cons (.var 5) .nil))) .nil)) (.cons (.bi true .tuple (.cons (.lc true [5] (.nm 5) (.seq (.fld ⟨#[87, 111, 114, 107]⟩ (.var 1) ⟨#[114, 105, 103, 104, 116]⟩)) .none (.bi true .tuple (.cons (.var 5) .nil))) .nil)) .nil)))
   (.cons (.ret (.tup (.cons (.var 3) (.cons (.bi true .tuple (.cons (.lc true [6] (.nm 6) (.rng (.cons (.var 2) .nil)) .none (.ix (.ix (.fld ⟨#[87, 111, 114, 107]⟩ (.var 1) ⟨#[114, 111, 119, 115]⟩) (.var 6)) (.var 6))) .nil)) (.cons (.var 4) .nil)))))
   .nil)))))
def b_factors_in : Mi.Ss := (.cons (.ret (.ix (.call true 16 (.cons (.var 0) .nil) [] .nil) (.cst (.int 1))))
   .nil)
def b_divides : Mi.Ss := (.cons (.ret (.ite (.cmp .eq (.var 0) (.cst (.int 0))) (.cmp .eq (.var 1) (.cst (.int 0))) (.cmp .eq (.bin true .mod (.var 1) (.var 0)) (.cst (.int 0)))))
   .nil)
def b_are_parts_in : Mi.Ss := (.cons (.if_ (.or_ (.not_ (.call true 5 (.cons (.var 0) (.cons (.cst (.int 0)) .nil)) [] .nil)) (.cmp .in_ (.cst (.int 1)) (.var 0)))
   (.cons (.ret (.cst (.bl false)))
   .nil)
   .nil)
   (.cons (.ret (.bi true .all (.cons (.lc true [1] (.nm 1) (.rng (.cons (.bin true .sub (.bi true .len (.cons (.var 0) .nil)) (.cst (.int 1))) .nil)) .none (.call true 18 (.cons (.ix (.var 0) (.var 1)) (.cons (.ix (.var 0) (.bin true .add (.var 1) (.cst (.int 1)))) .nil)) [] .nil)) .nil)))
   .nil))
def b_is_sheet_in : Mi.Ss := (.cons (.if_ (.or_ (.not_ (.call true 2 (.cons (.var 0) (.cons (.cst (.int 2)) .nil)) [] .nil)) (.or_ (.not_ (.call true 19 (.cons (.ix (.var 0) (.cst (.int 0))) .nil) [] .nil)) (.or_ (.not_ (.call true 0 (.cons (.ix (.var 0) (.cst (.int 1))) .nil) [] .nil)) (.cmp .notIn (.ix (.var 0) (.cst (.int 1))) (.tup (.cons (.neg (.cst (.int 1))) (.cons (.cst (.int 0)) (.cons (.cst (.int 1)) .nil))))))))
   (.cons (.ret (.cst (.bl false)))
   .nil)
   .nil)
   (.cons (.ret (.cmp .eq (.cmp .eq (.ix (.var 0) (.cst (.int 1))) (.cst (.int 0))) (.cmp .in_ (.cst (.int 0)) (.ix (.var 0) (.cst (.int 0))))))
   .nil))
def b_sure_sheet : Mi.Ss := (.cons (.asg (.nm 1) (.call true 3 (.cons (.var 0) .nil) [] .nil))
   (.cons (.if_ (.not_ (.call true 20 (.cons (.var 1) .nil) [] .nil))
   (.cons (.raise 2 .nil)
   .nil)
   .nil)
   (.cons (.ret (.var 1))
   .nil)))
def b_sign_of : Mi.Ss := (.cons (.ret (.bin true .sub (.bi true .int (.cons (.cmp .gt (.var 0) (.cst (.int 0))) .nil)) (.bi true .int (.cons (.cmp .lt (.var 0) (.cst (.int 0))) .nil))))
   .nil)
def b_sheet_in : Mi.Ss := (.cons (.asg (.nm 1) (.call true 13 (.cons (.var 0) .nil) [] .nil))
   (.cons (.asg (.nm 2) (.call true 15 (.cons (.var 1) .nil) [] .nil))
   (.cons (.asg (.nm 3) (.call true 22 (.cons (.ite (.cmp .eq (.bin true .mod (.bi true .len (.cons (.var 0) .nil)) (.cst (.int 2))) (.cst (.int 1))) (.neg (.var 2)) (.var 2)) .nil) [] .nil))
   (.cons (.ret (.tup (.cons (.bi true .tuple (.cons (.lc true [4] (.nm 4) (.seq (.call true 17 (.cons (.var 1) .nil) [] .nil)) (.some (.cmp .ne (.var 4) (.cst (.int 1)))) (.var 4)) .nil)) (.cons (.var 3) .nil))))
   .nil))))
def b_marks_by : Mi.Ss := (.cons (.asg (.nm 2) (.cst (.int 1)))
   (.cons (.for_ (.nm 3) (.seq (.var 0))
   (.cons (.asg (.nm 2) (.bin true .mul (.var 2) (.bi true .gcd (.cons (.var 3) (.cons (.var 1) .nil)))))
   .nil))
   (.cons (.ret (.var 2))
   .nil)))
def b_full_parts : Mi.Ss := (.cons (.ret (.bin true .add (.bin true .mul (.tup (.cons (.cst (.int 1)) .nil)) (.bin true .sub (.var 1) (.bi true .len (.cons (.var 0) .nil)))) (.var 0)))
   .nil)
def b_chains_of : Mi.Ss := (.cons (.if_ (.cmp .eq (.var 0) (.cst (.int 1)))
   (.cons (.ret (.lst true (.cons (.tup .nil) .nil)))
   .nil)
   .nil)
   (.cons (.asg (.nm 2) (.lst false .nil))
   (.cons (.for_ (.nm 3) (.rng (.cons (.cst (.int 2)) (.cons (.bin true .add (.var 0) (.cst (.int 1))) .nil)))
   (.cons (.if_ (.and_ (.cmp .eq (.bin true .mod (.var 0) (.var 3)) (.cst (.int 0))) (.cmp .eq (.bin true .mod (.var 3) (.var 1)) (.cst (.int 0))))
   (.cons (.ex (.mth true .extend (.var 2) (.cons (.lc true [4] (.nm 4) (.seq (.call true 26 (.cons (.bin true .fdiv (.var 0) (.var 3)) (.cons (.var 3) .nil)) [] .nil)) .none (.bin true .add (.tup (.cons (.var 3) .nil)) (.var 4))) .nil)))
   .nil)
   .nil)
   .nil))
   (.cons (.ret (.var 2))
   .nil))))
def b_unlike_in : Mi.Ss := (.cons (.asg (.nm 2) (.bi true .max (.cons (.bi true .len (.cons (.var 0) .nil)) (.cons (.bi true .len (.cons (.var 1) .nil)) .nil))))
   (.cons (.for_ (.tup [(.nm 3), (.nm 4)]) (.zip (.cons (.call true 25 (.cons (.var 0) (.cons (.var 2) .nil)) [] .nil) (.cons (.call true 25 (.cons (.var 1) (.cons (.var 2) .nil)) [] .nil) .nil)))
   (.cons (.if_ (.cmp .ne (.var 3) (.var 4))
   (.cons (.if_ (.or_ (.cmp .eq (.var 3) (.cst (.int 0))) (.cmp .eq (.var 4) (.cst (.int 0))))
   (.cons (.ret (.bin true .mul (.cst (.int 2)) (.bi true .max (.cons (.var 3) (.cons (.var 4) .nil)))))
   .nil)
   .nil)
   (.cons (.ret (.ite (.cmp .ne (.bin true .mod (.var 4) (.var 3)) (.cst (.int 0))) (.var 3) (.var 4)))
   .nil))
   .nil)
   .nil))
   (.cons (.ret (.cst .non))
   .nil)))
def b_sheet : Mi.Ss := (.cons (.ret (.call true 23 (.cons (.call true 10 (.cons (.var 0) .nil) [] .nil) .nil) [] .nil))
   .nil)
def b_order_of : Mi.Ss := (.cons (.asg (.nm 1) (.cst (.int 1)))
   (.cons (.for_ (.nm 2) (.seq (.var 0))
   (.cons (.asg (.nm 1) (.bin true .mul (.var 1) (.var 2)))
   .nil))
   (.cons (.ret (.var 1))
   .nil)))
def b_sheet_order : Mi.Ss := (.cons (.ret (.call true 29 (.cons (.ix (.call true 21 (.cons (.var 0) .nil) [] .nil) (.cst (.int 0))) .nil) [] .nil))
   .nil)
def b_marks_of_sheet : Mi.Ss := (.cons (.asg (.nm 2) (.call true 21 (.cons (.var 0) .nil) [] .nil))
   (.cons (.ret (.call true 24 (.cons (.ix (.var 2) (.cst (.int 0))) (.cons (.call true 8 (.cons (.var 1) (.cons (.cst (.int 1)) .nil)) [] .nil) .nil)) [] .nil))
   .nil))
def b_unlike_number : Mi.Ss := (.cons (.par [2, 3] (.cons (.call true 21 (.cons (.var 0) .nil) [] .nil) (.cons (.call true 21 (.cons (.var 1) .nil) [] .nil) .nil)))
   (.cons (.ret (.call true 27 (.cons (.ix (.var 2) (.cst (.int 0))) (.cons (.ix (.var 3) (.cst (.int 0))) .nil)) [] .nil))
   .nil))
def b_is_unlike_number : Mi.Ss := (.cons (.par [3, 4] (.cons (.call true 21 (.cons (.var 0) .nil) [] .nil) (.cons (.call true 21 (.cons (.var 1) .nil) [] .nil) .nil)))
   (.cons (.ret (.and_ (.call true 1 (.cons (.var 2) (.cons (.cst (.int 2)) .nil)) [] .nil) (.cmp .ne (.call true 24 (.cons (.ix (.var 3) (.cst (.int 0))) (.cons (.var 2) .nil)) [] .nil) (.call true 24 (.cons (.ix (.var 4) (.cst (.int 0))) (.cons (.var 2) .nil)) [] .nil))))
   .nil))
def b_sheet_beside : Mi.Ss := (.cons (.par [2, 3] (.cons (.call true 21 (.cons (.var 0) .nil) [] .nil) (.cons (.call true 21 (.cons (.var 1) .nil) [] .nil) .nil)))
   (.cons (.asg (.nm 4) (.bi false .list (.cons (.bin true .add (.ix (.var 2) (.cst (.int 0))) (.ix (.var 3) (.cst (.int 0)))) .nil)))
   (.cons (.for_ (.nm 5) (.rng (.cons (.bi true .len (.cons (.var 4) .nil)) .nil))
   (.cons (.for_ (.nm 6) (.rng (.cons (.bin true .add (.var 5) (.cst (.int 1))) (.cons (.bi true .len (.cons (.var 4) .nil)) .nil)))
   (.cons (.asg (.nm 7) (.bi true .gcd (.cons (.ix (.var 4) (.var 5)) (.cons (.ix (.var 4) (.var 6)) .nil))))
   (.cons (.swp (.var 4) (.var 5) (.var 4) (.var 6) (.cons (.var 7) (.cons (.ite (.cmp .ne (.var 7) (.cst (.int 0))) (.bin true .fdiv (.bin true .mul (.ix (.var 4) (.var 5)) (.ix (.var 4) (.var 6))) (.var 7)) (.cst (.int 0))) .nil)))
   .nil)))
   .nil))
   (.cons (.ret (.tup (.cons (.bi true .tuple (.cons (.lc true [8] (.nm 8) (.seq (.var 4)) (.some (.cmp .ne (.var 8) (.cst (.int 1)))) (.var 8)) .nil)) (.cons (.bin true .mul (.ix (.var 2) (.cst (.int 1))) (.ix (.var 3) (.cst (.int 1)))) .nil))))
   .nil))))
def b_sheets_of : Mi.Ss := (.cons (.asg (.nm 1) (.call true 8 (.cons (.var 0) (.cons (.cst (.int 1)) .nil)) [] .nil))
   (.cons (.if_ (.cmp .gt (.var 1) (.glob ⟨#[77, 79, 83, 84, 95, 84, 79, 76, 68, 95, 115, 104, 101, 101, 116, 115]⟩))
   (.cons (.raise 1 .nil)
   .nil)
   .nil)
   (.cons (.ret (.bi true .sorted (.cons (.lc2 true [2, 3] [3] (.nm 2) (.seq (.call true 26 (.cons (.var 1) (.cons (.cst (.int 1)) .nil)) [] .nil)) .none (.nm 3) (.seq (.tup (.cons (.neg (.cst (.int 1))) (.cons (.cst (.int 1)) .nil)))) .none (.tup (.cons (.var 2) (.cons (.var 3) .nil)))) .nil)))
   .nil)))
def b_are_marks_in : Mi.Ss := (.cons (.if_ (.or_ (.not_ (.call true 4 (.cons (.var 2) .nil) [] .nil)) (.cmp .ne (.bi true .len (.cons (.var 2) .nil)) (.bi true .len (.cons (.var 0) .nil))))
   (.cons (.ret (.cst (.bl false)))
   .nil)
   .nil)
   (.cons (.asg (.nm 3) (.call true 11 (.cons (.call true 13 (.cons (.var 0) .nil) [] .nil) (.cons (.var 2) .nil)) [] .nil))
   (.cons (.if_ (.cmp .eq (.var 1) (.cst (.int 0)))
   (.cons (.ret (.bi true .all (.cons (.lc true [4] (.nm 4) (.seq (.var 3)) .none (.cmp .eq (.var 4) (.cst (.int 0)))) .nil)))
   .nil)
   .nil)
   (.cons (.ret (.and_ (.bi true .all (.cons (.lc true [4] (.nm 4) (.seq (.var 2)) .none (.chain .le .lt (.cst (.int 0)) (.var 4) (.var 1))) .nil)) (.bi true .all (.cons (.lc true [4] (.nm 4) (.seq (.var 3)) .none (.cmp .eq (.bin true .mod (.var 4) (.var 1)) (.cst (.int 0)))) .nil))))
   .nil))))
def b_worth_in : Mi.Ss := (.cons (.asg (.nm 3) (.bi true .sum (.cons (.lc true [4, 5] (.tup [(.nm 4), (.nm 5)]) (.zip (.cons (.var 1) (.cons (.var 2) .nil))) .none (.bin true .mul (.var 4) (.var 5))) .nil)))
   (.cons (.ret (.ite (.cmp .eq (.var 0) (.cst (.int 0))) (.var 3) (.bin true .mod (.var 3) (.var 0))))
   .nil))
def b_step_marks : Mi.Ss := (.cons (.asg (.nm 3) (.lc true [4] (.nm 4) (.rng (.cons (.var 0) .nil)) (.some (.cmp .eq (.bin true .mod (.bin true .mul (.var 4) (.var 1)) (.var 0)) (.cst (.int 0)))) (.var 4)))
   (.cons (.ret (.lc true [4] (.nm 4) (.seq (.var 3)) .none (.bi true .tuple (.cons (.lc true [5] (.nm 5) (.seq (.var 2)) .none (.bin true .mod (.bin true .mul (.var 4) (.var 5)) (.var 0))) .nil))))
   .nil))
def b_marks_in : Mi.Ss := (.cons (.asg (.tup [(.nm 2), (.nm 3), (.nm 4)]) (.call true 16 (.cons (.call true 13 (.cons (.var 0) .nil) [] .nil) .nil) [] .nil))
   (.cons (.asg (.nm 5) (.lst true (.cons (.bin true .mul (.tup (.cons (.cst (.int 0)) .nil)) (.bi true .len (.cons (.var 0) .nil))) .nil)))
   (.cons (.for_ (.tup [(.nm 6), (.nm 7)]) (.enum 0 (.cons (.var 3) .nil))
   (.cons (.asg (.nm 8) (.lc true [10] (.nm 10) (.seq (.var 4)) .none (.ix (.var 10) (.var 6))))
   (.cons (.asg (.nm 9) (.call true 38 (.cons (.var 1) (.cons (.var 7) (.cons (.var 8) .nil))) [] .nil))
   (.cons (.asg (.nm 5) (.lc2 true [11, 12] [12] (.nm 11) (.seq (.var 5)) .none (.nm 12) (.seq (.var 9)) .none (.bi true .tuple (.cons (.lc true [13, 14] (.tup [(.nm 13), (.nm 14)]) (.zip (.cons (.var 11) (.cons (.var 12) .nil))) .none (.bin true .mod (.bin true .add (.var 13) (.var 14)) (.var 1))) .nil))))
   .nil))))
   (.cons (.ret (.bi true .sorted (.cons (.var 5) .nil)))
   .nil))))
def b_whole_in : Mi.Ss := (.cons (.asg (.tup [(.nm 1), (.nm 2), (.nm 3)]) (.call true 16 (.cons (.call true 13 (.cons (.var 0) .nil) [] .nil) .nil) [] .nil))
   (.cons (.ret (.bi true .tuple (.cons (.lc true [4, 5] (.tup [(.nm 4), (.nm 5)]) (.enum 0 (.cons (.var 2) .nil)) (.some (.cmp .eq (.var 5) (.cst (.int 0)))) (.bi true .tuple (.cons (.lc true [6] (.nm 6) (.seq (.var 3)) .none (.ix (.var 6) (.var 4))) .nil))) .nil)))
   .nil))
def b_are_marks : Mi.Ss := (.cons (.asg (.nm 3) (.call true 10 (.cons (.var 0) .nil) [] .nil))
   (.cons (.ret (.call true 36 (.cons (.var 3) (.cons (.call true 8 (.cons (.var 1) (.cons (.cst (.int 0)) .nil)) [] .nil) (.cons (.var 2) .nil))) [] .nil))
   .nil))
def b_many_marks : Mi.Ss := (.cons (.asg (.nm 2) (.call true 10 (.cons (.var 0) .nil) [] .nil))
   (.cons (.ret (.call true 24 (.cons (.ix (.call true 23 (.cons (.var 2) .nil) [] .nil) (.cst (.int 0))) (.cons (.call true 8 (.cons (.var 1) (.cons (.cst (.int 1)) .nil)) [] .nil) .nil)) [] .nil))
   .nil))
def b_all_marks : Mi.Ss := (.cons (.par [2, 3] (.cons (.call true 10 (.cons (.var 0) .nil) [] .nil) (.cons (.call true 8 (.cons (.var 1) (.cons (.cst (.int 1)) .nil)) [] .nil) .nil)))
   (.cons (.if_ (.or_ (.cmp .gt (.call true 24 (.cons (.ix (.call true 23 (.cons (.var 2) .nil) [] .nil) (.cst (.int 0))) (.cons (.var 3) .nil)) [] .nil) (.glob ⟨#[77, 79, 83, 84, 95, 84, 79, 76, 68, 95, 109, 97, 114, 107, 115]⟩)) (.cmp .gt (.var 3) (.glob ⟨#[77, 79, 83, 84, 95, 84, 79, 76, 68, 95, 109, 97, 114, 107, 115]⟩)))
   (.cons (.raise 1 .nil)
   .nil)
   .nil)
   (.cons (.ret (.call true 39 (.cons (.var 2) (.cons (.var 3) .nil)) [] .nil))
   .nil)))
def b_whole_marks : Mi.Ss := (.cons (.ret (.call true 40 (.cons (.call true 10 (.cons (.var 0) .nil) [] .nil) .nil) [] .nil))
   .nil)
def b_are_whole_marks : Mi.Ss := (.cons (.asg (.nm 2) (.call true 10 (.cons (.var 0) .nil) [] .nil))
   (.cons (.if_ (.or_ (.not_ (.isi (.var 1) [.tuple])) (.not_ (.bi true .all (.cons (.lc true [4] (.nm 4) (.seq (.var 1)) .none (.call true 36 (.cons (.var 2) (.cons (.cst (.int 0)) (.cons (.var 4) .nil))) [] .nil)) .nil))))
   (.cons (.ret (.cst (.bl false)))
   .nil)
   .nil)
   (.cons (.if_ (.cmp .ne (.bi true .len (.cons (.var 1) .nil)) (.bi true .len (.cons (.lc true [3] (.nm 3) (.seq (.call true 17 (.cons (.call true 13 (.cons (.var 2) .nil) [] .nil) .nil) [] .nil)) (.some (.cmp .eq (.var 3) (.cst (.int 0)))) (.var 3)) .nil)))
   (.cons (.ret (.cst (.bl false)))
   .nil)
   .nil)
   (.cons (.ret (.or_ (.cmp .eq (.var 1) (.tup .nil)) (.bi true .all (.cons (.lc true [3] (.nm 3) (.seq (.call true 17 (.cons (.var 1) .nil) [] .nil)) .none (.cmp .eq (.var 3) (.cst (.int 1)))) .nil))))
   .nil))))
def b_worth : Mi.Ss := (.cons (.par [3, 4, 5] (.cons (.call true 8 (.cons (.var 0) (.cons (.cst (.int 0)) .nil)) [] .nil) (.cons (.call true 3 (.cons (.var 1) .nil) [] .nil) (.cons (.call true 3 (.cons (.var 2) .nil) [] .nil) .nil))))
   (.cons (.if_ (.or_ (.not_ (.call true 4 (.cons (.var 4) .nil) [] .nil)) (.or_ (.not_ (.call true 4 (.cons (.var 5) .nil) [] .nil)) (.not_ (.call true 2 (.cons (.var 5) (.cons (.bi true .len (.cons (.var 4) .nil)) .nil)) [] .nil))))
   (.cons (.raise 2 .nil)
   .nil)
   .nil)
   (.cons (.ret (.call true 37 (.cons (.var 3) (.cons (.var 4) (.cons (.var 5) .nil))) [] .nil))
   .nil)))
def b__law_box : Mi.Ss := (.cons (.asg (.nm 2) (.ite (.cmp .lt (.var 1) (.bi true .len (.cons (.var 0) .nil))) (.ix (.var 0) (.var 1)) (.cst (.int 0))))
   (.cons (.ret (.lst false (.cons (.bin true .mul (.bi true .abs (.cons (.var 2) .nil)) (.bi true .int (.cons (.cmp .ge (.bi true .abs (.cons (.var 2) .nil)) (.bin true .pow (.cst (.int 10)) (.cst (.int 18)))) .nil))) (.cons (.bin true .add (.bin true .add (.bin true .mod (.bi true .int (.cons (.var 2) .nil)) (.cst (.int 2305843009213693951))) (.bin true .mul (.cst (.int 39373)) (.var 1))) (.cst (.int 7049027))) (.cons (.cst (.int 0)) .nil)))))
   .nil))
def b__law_take : Mi.Ss := (.cons (.if_ (.cmp .gt (.ix (.var 0) (.cst (.int 0))) (.cst (.int 0)))
   (.cons (.asg (.nm 5) (.bin true .mod (.bi true .int (.cons (.ix (.var 0) (.cst (.int 0))) .nil)) (.var 1)))
   (.cons (.sub (.var 0) (.cst (.int 0)) (.bin true .fdiv (.ix (.var 0) (.cst (.int 0))) (.var 1)))
   (.cons (.ret (.var 5))
   .nil)))
   .nil)
   (.cons (.sub (.var 0) (.cst (.int 2)) (.bin true .add (.ix (.var 0) (.cst (.int 2))) (.cst (.int 1))))
   (.cons (.asg (.nm 2) (.bin true .mod (.bi true .int (.cons (.bin true .mul (.bin true .add (.ix (.var 0) (.cst (.int 1))) (.bin true .mul (.cst (.int 48271)) (.ix (.var 0) (.cst (.int 2))))) (.bin true .add (.cst (.int 39373)) (.ix (.var 0) (.cst (.int 2))))) .nil)) (.cst (.int 2147483647))))
   (.cons (.asg (.nm 3) (.bin true .add (.bin true .mod (.bi true .int (.cons (.var 2) .nil)) (.cst (.int 40009))) (.cst (.int 7))))
   (.cons (.asg (.nm 4) (.bin true .mod (.bi true .int (.cons (.bin true .mul (.bin true .add (.bin true .add (.var 2) (.ix (.var 0) (.cst (.int 2)))) (.bin true .fdiv (.ix (.var 0) (.cst (.int 1))) (.cst (.int 1000003)))) (.var 3)) .nil)) (.cst (.int 2147483629))))
   (.cons (.ret (.bin true .mod (.bi true .int (.cons (.bin true .fdiv (.bin true .mod (.bi true .int (.cons (.bin true .add (.bin true .mul (.var 4) (.cst (.int 48271))) (.var 2)) .nil)) (.cst (.int 2147483587))) (.cst (.int 64))) .nil)) (.var 1)))
   .nil))))))
def b__law_cells : Mi.Ss := (.cons (.asg (.nm 2) (.or_ (.bi false .list (.cons (.sl (.var 0) .none (.some (.var 1))) .nil)) (.lst false (.cons (.cst (.int 0)) .nil))))
   (.cons (.for_ (.tup [(.nm 3), (.nm 4)]) (.enum 0 (.cons (.sl (.var 0) (.some (.var 1)) (.some (.cst (.int 63)))) .nil))
   (.cons (.asg (.nm 5) (.bin true .mod (.bi true .int (.cons (.var 3) .nil)) (.var 1)))
   (.cons (.sub (.var 2) (.var 5) (.bin true .add (.ix (.var 2) (.var 5)) (.bin true .mul (.var 4) (.bin true .add (.var 3) (.cst (.int 2))))))
   .nil)))
   (.cons (.ret (.var 2))
   .nil)))
def b__law_of : Mi.Ss := (.cons (.ret (.ix (.var 1) (.call true 48 (.cons (.var 0) (.cons (.bi true .len (.cons (.var 1) .nil)) .nil)) [] .nil)))
   .nil)
def b__law_same : Mi.Ss := (.cons (.if_ (.isi (.var 1) [.list, .tuple])
   (.cons (.if_ (.or_ (.cmp .ne (.isi (.var 0) [.list]) (.isi (.var 1) [.list])) (.cmp .ne (.isi (.var 0) [.tuple]) (.isi (.var 1) [.tuple])))
   (.cons (.ret (.cst (.bl false)))
   .nil)
   .nil)
   (.cons (.ret (.and_ (.cmp .eq (.bi true .len (.cons (.var 0) .nil)) (.bi true .len (.cons (.var 1) .nil))) (.bi true .all (.cons (.lc true [2, 3] (.tup [(.nm 2), (.nm 3)]) (.zip (.cons (.var 0) (.cons (.var 1) .nil))) .none (.call true 51 (.cons (.var 2) (.cons (.var 3) .nil)) [] .nil)) .nil))))
   .nil))
   .nil)
   (.cons (.if_ (.isN (.var 1))
   (.cons (.ret (.isN (.var 0)))
   .nil)
   .nil)
   (.cons (.if_ (.isi (.var 1) [.bool, .str])
   (.cons (.ret (.and_ (.cmp .eq (.isi (.var 0) [.bool]) (.isi (.var 1) [.bool])) (.and_ (.cmp .eq (.isi (.var 0) [.str]) (.isi (.var 1) [.str])) (.cmp .eq (.var 0) (.var 1)))))
   .nil)
   .nil)
   (.cons (.ret (.and_ (.isi (.var 0) [.int]) (.and_ (.not_ (.isi (.var 0) [.bool])) (.cmp .eq (.var 0) (.var 1)))))
   .nil))))
def b__law_asked : Mi.Ss := (.cons (.if_ (.cmp .eq (.var 0) (.cst (.int 0)))
   (.cons (.ret (.call true 28 (.cons (.var 1) .nil) [] .nil))
   .nil)
   .nil)
   (.cons (.if_ (.cmp .eq (.var 0) (.cst (.int 1)))
   (.cons (.ret (.call true 41 (.cons (.var 1) (.cons (.var 2) (.cons (.var 3) .nil))) [] .nil))
   .nil)
   .nil)
   (.cons (.if_ (.cmp .eq (.var 0) (.cst (.int 2)))
   (.cons (.ret (.call true 42 (.cons (.var 1) (.cons (.var 2) .nil)) [] .nil))
   .nil)
   .nil)
   (.cons (.if_ (.cmp .eq (.var 0) (.cst (.int 3)))
   (.cons (.ret (.call true 43 (.cons (.var 1) (.cons (.var 2) .nil)) [] .nil))
   .nil)
   .nil)
   (.cons (.if_ (.cmp .eq (.var 0) (.cst (.int 4)))
   (.cons (.ret (.call true 44 (.cons (.var 1) .nil) [] .nil))
   .nil)
   .nil)
   (.cons (.if_ (.cmp .eq (.var 0) (.cst (.int 5)))
   (.cons (.ret (.call true 45 (.cons (.var 1) (.cons (.var 2) .nil)) [] .nil))
   .nil)
   .nil)
   (.cons (.if_ (.cmp .eq (.var 0) (.cst (.int 6)))
   (.cons (.ret (.call true 30 (.cons (.var 1) .nil) [] .nil))
   .nil)
   .nil)
   (.cons (.if_ (.cmp .eq (.var 0) (.cst (.int 7)))
   (.cons (.ret (.call true 31 (.cons (.var 1) (.cons (.var 2) .nil)) [] .nil))
   .nil)
   .nil)
   (.cons (.if_ (.cmp .eq (.var 0) (.cst (.int 8)))
   (.cons (.ret (.call true 32 (.cons (.var 1) (.cons (.var 2) .nil)) [] .nil))
   .nil)
   .nil)
   (.cons (.if_ (.cmp .eq (.var 0) (.cst (.int 9)))
   (.cons (.ret (.call true 33 (.cons (.var 1) (.cons (.var 2) (.cons (.var 3) .nil))) [] .nil))
   .nil)
   .nil)
   (.cons (.if_ (.cmp .eq (.var 0) (.cst (.int 10)))
   (.cons (.ret (.call true 34 (.cons (.var 1) (.cons (.var 2) .nil)) [] .nil))
   .nil)
   .nil)
   (.cons (.if_ (.cmp .eq (.var 0) (.cst (.int 11)))
   (.cons (.ret (.call true 35 (.cons (.var 1) .nil) [] .nil))
   .nil)
   .nil)
   (.cons (.ret (.call true 46 (.cons (.var 1) (.cons (.var 2) (.cons (.var 3) .nil))) [] .nil))
   .nil)))))))))))))
def b__law_caught : Mi.Ss := (.cons (.asg (.nm 4) (.lst true (.cons (.cst (.str ⟨#[116, 111, 108, 100]⟩)) .nil)))
   (.cons (.try_ (.cons (.ex (.call true 52 (.cons (.var 0) (.cons (.var 1) (.cons (.var 2) (.cons (.var 3) .nil)))) [] .nil))
   .nil) (.cons 2 (some 5) (.asgL 4 (.cons (.cst (.str ⟨#[117, 110, 102, 105, 116]⟩)) (.cons (.isi [0, 1, 2]) (.cons (.isi [0, 1]) .nil)))) (.cons 1 (some 5) (.asgL 4 (.cons (.cst (.str ⟨#[109, 97, 110, 121]⟩)) (.cons (.isi [0, 1, 2]) (.cons (.isi []) .nil)))) .nil)))
   (.cons (.ret (.var 4))
   .nil)))
def b_law : Mi.Ss := (.cons (.asg (.nm 1) (.call false 47 (.cons (.call true 49 (.cons (.var 0) (.cons (.cst (.int 1)) .nil)) [] .nil) (.cons (.cst (.int 0)) .nil)) [] .nil))
   (.cons (.par [2, 3] (.cons (.lst true (.cons (.cst (.str ⟨#[117, 110, 102, 105, 116]⟩)) (.cons (.cst (.bl true)) (.cons (.cst (.bl false)) .nil)))) (.cons (.lst true (.cons (.cst (.str ⟨#[109, 97, 110, 121]⟩)) (.cons (.cst (.bl true)) (.cons (.cst (.bl false)) .nil)))) .nil)))
   (.cons (.asg (.nm 4) (.call true 50 (.cons (.var 1) (.cons (.lst true (.cons (.tup .nil) (.cons (.tup (.cons (.tup (.cons (.cst (.int 1)) (.cons (.cst (.int 0)) .nil))) .nil)) (.cons (.tup (.cons (.tup (.cons (.neg (.cst (.int 1))) .nil)) .nil)) (.cons (.cst (.int 7)) (.cons (.cst .non) (.cons (.lst true (.cons (.lst true (.cons (.cst (.bl true)) .nil)) .nil)) (.cons (.tup (.cons (.tup (.cons (.cst (.int 1)) (.cons (.cst (.int 2)) .nil))) (.cons (.tup (.cons (.cst (.int 3)) .nil)) .nil))) .nil)))))))) .nil)) [] .nil))
   (.cons (.asg (.nm 5) (.call true 50 (.cons (.var 1) (.cons (.lst true (.cons (.tup .nil) (.cons (.tup (.cons (.tup (.cons (.cst (.int 2)) .nil)) .nil)) (.cons (.tup (.cons (.tup (.cons (.cst (.int 2)) (.cons (.cst (.int 3)) .nil))) (.cons (.cst (.int 1)) .nil))) (.cons (.tup (.cons (.tup (.cons (.cst (.int 0)) .nil)) (.cons (.cst (.int 1)) .nil))) (.cons (.tup (.cons (.tup (.cons (.cst (.int 2)) .nil)) (.cons (.cst (.int 0)) .nil))) (.cons (.tup (.cons (.tup (.cons (.cst (.int 1)) .nil)) (.cons (.cst (.int 1)) .nil))) (.cons (.tup (.cons (.tup (.cons (.cst (.int 2)) (.cons (.cst (.int 0)) .nil))) (.cons (.cst (.int 1)) .nil))) (.cons (.cst (.int 5)) (.cons (.cst .non) (.cons (.tup (.cons (.tup (.cons (.neg (.cst (.int 2))) .nil)) (.cons (.cst (.int 1)) .nil))) (.cons (.tup (.cons (.tup (.cons (.cst (.int 2)) .nil)) (.cons (.cst (.bl true)) .nil))) (.cons (.tup (.cons (.tup .nil) (.cons (.cst (.int 0)) .nil))) .nil))))))))))))) .nil)) [] .nil))
   (.cons (.par [6, 7] (.cons (.tup (.cons (.tup (.cons (.cst (.int 1)) (.cons (.cst (.int 1)) .nil))) (.cons (.tup (.cons (.cst (.int 1)) (.cons (.cst (.int 0)) .nil))) .nil))) (.cons (.tup (.cons (.tup (.cons (.cst (.int 2)) .nil)) (.cons (.cst (.int 1)) .nil))) .nil)))
   (.cons (.asg (.nm 8) (.bin true .add (.lc true [12] (.nm 12) (.rng (.cons (.cst (.int 6)) .nil)) .none (.call true 53 (.cons (.var 12) (.cons (.var 4) (.cons (.call true 50 (.cons (.var 1) (.cons (.lst true (.cons (.cst (.int 0)) (.cons (.cst (.int 3000)) (.cons (.cst .non) .nil)))) .nil)) [] .nil) (.cons (.cst (.int 0)) .nil)))) [] .nil)) (.lc true [12] (.nm 12) (.seq (.tup (.cons (.cst (.int 6)) (.cons (.cst (.int 7)) (.cons (.cst (.int 8)) (.cons (.cst (.int 9)) (.cons (.cst (.int 10)) .nil))))))) .none (.call true 53 (.cons (.var 12) (.cons (.var 5) (.cons (.call true 50 (.cons (.var 1) (.cons (.lst true (.cons (.cst (.int 0)) (.cons (.cst (.int 3)) (.cons (.var 7) .nil)))) .nil)) [] .nil) (.cons (.cst (.int 0)) .nil)))) [] .nil))))
   (.cons (.asg (.nm 8) (.bin true .add (.var 8) (.lc true [12] (.nm 12) (.seq (.tup (.cons (.cst (.int 8)) (.cons (.cst (.int 9)) (.cons (.cst (.int 10)) .nil))))) .none (.call true 53 (.cons (.var 12) (.cons (.var 7) (.cons (.var 5) (.cons (.cst (.int 0)) .nil)))) [] .nil))))
   (.cons (.for_ (.nm 9) (.seq (.tup (.cons (.cst (.int 0)) (.cons (.neg (.cst (.int 1))) (.cons (.cst .non) (.cons (.cst (.bl true)) (.cons (.tup (.cons (.cst (.int 1)) .nil)) (.cons (.cst (.str ⟨#[49]⟩)) .nil))))))))
   (.cons (.asg (.nm 8) (.bin true .add (.bin true .add (.var 8) (.lc true [12] (.nm 12) (.seq (.tup (.cons (.cst (.int 2)) (.cons (.cst (.int 3)) .nil)))) .none (.call true 53 (.cons (.var 12) (.cons (.var 6) (.cons (.var 9) (.cons (.cst (.int 0)) .nil)))) [] .nil))) (.lst true (.cons (.call true 53 (.cons (.cst (.int 7)) (.cons (.var 7) (.cons (.var 9) (.cons (.cst (.int 0)) .nil)))) [] .nil) (.cons (.call true 53 (.cons (.cst (.int 11)) (.cons (.var 9) (.cons (.cst (.int 0)) (.cons (.cst (.int 0)) .nil)))) [] .nil) .nil)))))
   (.cons (.if_ (.cmp .ne (.var 9) (.cst (.int 0)))
   (.cons (.asg (.nm 8) (.bin true .add (.var 8) (.lst true (.cons (.call true 53 (.cons (.cst (.int 1)) (.cons (.var 6) (.cons (.var 9) (.cons (.tup (.cons (.cst (.int 0)) (.cons (.cst (.int 0)) .nil))) .nil)))) [] .nil) (.cons (.call true 53 (.cons (.cst (.int 12)) (.cons (.var 9) (.cons (.tup (.cons (.cst (.int 1)) .nil)) (.cons (.tup (.cons (.cst (.int 1)) .nil)) .nil)))) [] .nil) .nil)))))
   .nil)
   .nil)
   .nil)))
   (.cons (.for_ (.nm 9) (.seq (.tup (.cons (.tup (.cons (.cst (.int 1)) .nil)) (.cons (.tup (.cons (.cst (.int 1)) (.cons (.cst (.int 2)) (.cons (.cst (.int 3)) .nil)))) (.cons (.cst .non) (.cons (.cst (.int 5)) (.cons (.tup (.cons (.cst (.int 1)) (.cons (.cst .non) .nil))) (.cons (.tup (.cons (.cst (.int 1)) (.cons (.cst (.bl true)) .nil))) (.cons (.cst (.str ⟨#[97, 98]⟩)) .nil)))))))))
   (.cons (.asg (.nm 8) (.bin true .add (.var 8) (.lst true (.cons (.call true 53 (.cons (.cst (.int 12)) (.cons (.cst (.int 5)) (.cons (.var 9) (.cons (.tup (.cons (.cst (.int 1)) (.cons (.cst (.int 2)) .nil))) .nil)))) [] .nil) (.cons (.call true 53 (.cons (.cst (.int 12)) (.cons (.cst (.int 0)) (.cons (.tup (.cons (.cst (.int 1)) (.cons (.cst (.int 2)) .nil))) (.cons (.var 9) .nil)))) [] .nil) .nil)))))
   .nil))
   (.cons (.if_ (.not_ (.call true 51 (.cons (.var 8) (.cons (.bin true .mul (.lst true (.cons (.var 2) .nil)) (.bi true .len (.cons (.var 8) .nil))) .nil)) [] .nil))
   (.cons (.ret (.cst (.bl false)))
   .nil)
   .nil)
   (.cons (.asg (.nm 10) (.bin true .add (.cst (.int 2001)) (.call true 48 (.cons (.var 1) (.cons (.bin true .pow (.cst (.int 10)) (.cst (.int 8))) .nil)) [] .nil)))
   (.cons (.asg (.nm 8) (.lst true (.cons (.call true 53 (.cons (.cst (.int 3)) (.cons (.var 6) (.cons (.var 10) (.cons (.cst (.int 0)) .nil)))) [] .nil) (.cons (.call true 53 (.cons (.cst (.int 3)) (.cons (.tup (.cons (.tup (.cons (.cst (.int 1)) (.cons (.cst (.int 0)) .nil))) (.cons (.tup (.cons (.cst (.int 0)) (.cons (.cst (.int 1)) .nil))) .nil))) (.cons (.cst (.int 45)) (.cons (.cst (.int 0)) .nil)))) [] .nil) (.cons (.call true 53 (.cons (.cst (.int 11)) (.cons (.var 10) (.cons (.cst (.int 0)) (.cons (.cst (.int 0)) .nil)))) [] .nil) (.cons (.call true 53 (.cons (.cst (.int 3)) (.cons (.var 6) (.cons (.cst (.int 2000)) (.cons (.cst (.int 0)) .nil)))) [] .nil) .nil))))))
   (.cons (.asg (.nm 8) (.bin true .add (.var 8) (.lst true (.cons (.call true 53 (.cons (.cst (.int 1)) (.cons (.var 6) (.cons (.cst (.int 0)) (.cons (.cst .non) .nil)))) [] .nil) (.cons (.call true 53 (.cons (.cst (.int 12)) (.cons (.cst (.int 0)) (.cons (.tup .nil) (.cons (.tup .nil) .nil)))) [] .nil) .nil)))))
   (.cons (.if_ (.not_ (.call true 51 (.cons (.var 8) (.cons (.bin true .add (.bin true .mul (.lst true (.cons (.var 3) .nil)) (.cst (.int 3))) (.bin true .mul (.lst true (.cons (.lst true (.cons (.cst (.str ⟨#[116, 111, 108, 100]⟩)) .nil)) .nil)) (.cst (.int 3)))) .nil)) [] .nil))
   (.cons (.ret (.cst (.bl false)))
   .nil)
   .nil)
   (.cons (.asg (.nm 8) (.lst true (.cons (.call true 28 .nil [0] (.cons (.lst true (.cons (.lst true (.cons (.cst (.int 3)) (.cons (.cst (.int 0)) .nil))) (.cons (.lst true (.cons (.cst (.int 0)) (.cons (.cst (.int 3)) .nil))) .nil))) .nil)) (.cons (.call true 30 .nil [0] (.cons (.lst true (.cons (.lst true (.cons (.cst (.int 2)) (.cons (.cst (.int 6)) .nil))) (.cons (.cst (.int 1)) .nil))) .nil)) (.cons (.call true 31 .nil [1, 0] (.cons (.cst (.int 4)) (.cons (.lst true (.cons (.lst true (.cons (.cst (.int 2)) (.cons (.cst (.int 12)) .nil))) (.cons (.neg (.cst (.int 1))) .nil))) .nil))) (.cons (.call true 34 .nil [1, 0] (.cons (.lst true (.cons (.lst true (.cons (.cst (.int 6)) (.cons (.cst (.int 0)) .nil))) (.cons (.cst (.int 0)) .nil))) (.cons (.lst true (.cons (.lst true (.cons (.cst (.int 4)) .nil)) (.cons (.neg (.cst (.int 1))) .nil))) .nil))) (.cons (.call true 35 .nil [0] (.cons (.cst (.int 4)) .nil)) .nil)))))))
   (.cons (.asg (.nm 8) (.bin true .add (.var 8) (.lst true (.cons (.call true 32 .nil [1, 0] (.cons (.tup (.cons (.tup (.cons (.cst (.int 2)) .nil)) (.cons (.cst (.int 1)) .nil))) (.cons (.tup (.cons (.tup (.cons (.cst (.int 2)) .nil)) (.cons (.neg (.cst (.int 1))) .nil))) .nil))) (.cons (.call true 33 .nil [2, 1, 0] (.cons (.cst (.int 2)) (.cons (.tup (.cons (.tup (.cons (.cst (.int 2)) (.cons (.cst (.int 2)) .nil))) (.cons (.cst (.int 1)) .nil))) (.cons (.tup (.cons (.tup (.cons (.cst (.int 4)) .nil)) (.cons (.cst (.int 1)) .nil))) .nil)))) (.cons (.call true 43 .nil [1, 0] (.cons (.cst (.int 6)) (.cons (.lst true (.cons (.lst true (.cons (.cst (.int 3)) .nil)) .nil)) .nil))) .nil))))))
   (.cons (.asg (.nm 8) (.bin true .add (.var 8) (.lst true (.cons (.call true 42 .nil [0, 1] (.cons (.lst true (.cons (.lst true (.cons (.cst (.int 3)) (.cons (.cst (.int 1)) .nil))) (.cons (.lst true (.cons (.cst (.int 2)) (.cons (.cst (.int 2)) .nil))) .nil))) (.cons (.cst (.int 4)) .nil))) .nil))))
   (.cons (.asg (.nm 8) (.bin true .add (.var 8) (.lst true (.cons (.call true 41 .nil [2, 1, 0] (.cons (.tup (.cons (.cst (.int 1)) (.cons (.neg (.cst (.int 1))) .nil))) (.cons (.cst (.int 0)) (.cons (.lst true (.cons (.lst true (.cons (.cst (.int 2)) (.cons (.cst (.int 1)) .nil))) (.cons (.lst true (.cons (.cst (.int 1)) (.cons (.cst (.int 2)) .nil))) .nil))) .nil)))) (.cons (.call true 45 .nil [1, 0] (.cons (.tup (.cons (.tup (.cons (.cst (.int 1)) (.cons (.neg (.cst (.int 1))) .nil))) .nil)) (.cons (.lst true (.cons (.lst true (.cons (.cst (.int 2)) (.cons (.cst (.int 1)) .nil))) (.cons (.lst true (.cons (.cst (.int 1)) (.cons (.cst (.int 2)) .nil))) .nil))) .nil))) (.cons (.call true 44 .nil [0] (.cons (.lst true (.cons (.lst true (.cons (.cst (.int 1)) (.cons (.cst (.int 1)) .nil))) (.cons (.lst true (.cons (.cst (.int 1)) (.cons (.cst (.int 0)) .nil))) .nil))) .nil)) .nil))))))
   (.cons (.asg (.nm 8) (.bin true .add (.var 8) (.lst true (.cons (.call true 46 .nil [2, 1, 0] (.cons (.lst true (.cons (.cst (.int 2)) (.cons (.cst (.int 4)) .nil))) (.cons (.lst true (.cons (.cst (.int 1)) (.cons (.cst (.int 3)) .nil))) (.cons (.cst (.int 5)) .nil)))) .nil))))
   (.cons (.asg (.nm 11) (.lst true (.cons (.tup (.cons (.tup (.cons (.cst (.int 2)) (.cons (.cst (.int 2)) .nil))) (.cons (.cst (.int 1)) .nil))) (.cons (.cst (.int 12)) (.cons (.cst (.int 8)) (.cons (.tup (.cons (.tup (.cons (.cst (.int 2)) (.cons (.cst (.int 12)) (.cons (.cst (.int 0)) .nil)))) (.cons (.cst (.int 0)) .nil))) (.cons (.lst true (.cons (.tup (.cons (.tup (.cons (.cst (.int 2)) (.cons (.cst (.int 2)) .nil))) (.cons (.neg (.cst (.int 1))) .nil))) (.cons (.tup (.cons (.tup (.cons (.cst (.int 2)) (.cons (.cst (.int 2)) .nil))) (.cons (.cst (.int 1)) .nil))) (.cons (.tup (.cons (.tup (.cons (.cst (.int 4)) .nil)) (.cons (.neg (.cst (.int 1))) .nil))) (.cons (.tup (.cons (.tup (.cons (.cst (.int 4)) .nil)) (.cons (.cst (.int 1)) .nil))) .nil))))) (.cons (.cst .non) (.cons (.cst (.bl true)) (.cons (.lst true (.cons (.tup (.cons (.cst (.int 0)) .nil)) (.cons (.tup (.cons (.cst (.int 3)) .nil)) .nil))) (.cons (.cst (.int 4)) (.cons (.cst (.bl true)) (.cons (.cst (.bl true)) (.cons (.tup .nil) (.cons (.cst (.int 4)) .nil)))))))))))))))
   (.cons (.ret (.call true 51 (.cons (.var 8) (.cons (.var 11) .nil)) [] .nil))
   .nil)))))))))))))))))))))
def b_Work___init__ : Mi.Ss := (.cons (.setf ⟨#[87, 111, 114, 107]⟩ (.var 0) ⟨#[114, 111, 119, 115]⟩ (.lc false [2] (.nm 2) (.seq (.var 1)) .none (.bi false .list (.cons (.var 2) .nil))))
   (.cons (.setf ⟨#[87, 111, 114, 107]⟩ (.var 0) ⟨#[108, 101, 102, 116]⟩ (.lc false [2] (.nm 2) (.seq (.call true 12 (.cons (.bi true .len (.cons (.var 1) .nil)) .nil) [] .nil)) .none (.bi false .list (.cons (.var 2) .nil))))
   (.cons (.setf ⟨#[87, 111, 114, 107]⟩ (.var 0) ⟨#[114, 105, 103, 104, 116]⟩ (.lc false [2] (.nm 2) (.seq (.call true 12 (.cons (.bi true .len (.cons (.ix (.var 1) (.cst (.int 0))) .nil)) .nil) [] .nil)) .none (.bi false .list (.cons (.var 2) .nil))))
   .nil)))
def b_Work_add_row : Mi.Ss := (.cons (.for_ (.nm 4) (.seq (.tup (.cons (.fld ⟨#[87, 111, 114, 107]⟩ (.var 0) ⟨#[114, 111, 119, 115]⟩) (.cons (.fld ⟨#[87, 111, 114, 107]⟩ (.var 0) ⟨#[108, 101, 102, 116]⟩) .nil))))
   (.cons (.sub (.var 4) (.var 1) (.lc false [5, 6] (.tup [(.nm 5), (.nm 6)]) (.zip (.cons (.ix (.var 4) (.var 1)) (.cons (.ix (.var 4) (.var 2)) .nil))) .none (.bin true .add (.var 5) (.bin true .mul (.var 3) (.var 6)))))
   .nil))
   .nil)
def b_Work_add_column : Mi.Ss := (.cons (.for_ (.nm 4) (.seq (.tup (.cons (.fld ⟨#[87, 111, 114, 107]⟩ (.var 0) ⟨#[114, 111, 119, 115]⟩) (.cons (.fld ⟨#[87, 111, 114, 107]⟩ (.var 0) ⟨#[114, 105, 103, 104, 116]⟩) .nil))))
   (.cons (.for_ (.nm 5) (.seq (.var 4))
   (.cons (.augS (.var 5) (.var 1) .add (.bin true .mul (.var 3) (.ix (.var 5) (.var 2))))
   .nil))
   .nil))
   .nil)
def b_Work_exchange_rows : Mi.Ss := (.cons (.for_ (.nm 3) (.seq (.tup (.cons (.fld ⟨#[87, 111, 114, 107]⟩ (.var 0) ⟨#[114, 111, 119, 115]⟩) (.cons (.fld ⟨#[87, 111, 114, 107]⟩ (.var 0) ⟨#[108, 101, 102, 116]⟩) .nil))))
   (.cons (.swp (.var 3) (.var 1) (.var 3) (.var 2) (.cons (.ix (.var 3) (.var 2)) (.cons (.ix (.var 3) (.var 1)) .nil)))
   .nil))
   .nil)
def b_Work_exchange_columns : Mi.Ss := (.cons (.for_ (.nm 3) (.seq (.tup (.cons (.fld ⟨#[87, 111, 114, 107]⟩ (.var 0) ⟨#[114, 111, 119, 115]⟩) (.cons (.fld ⟨#[87, 111, 114, 107]⟩ (.var 0) ⟨#[114, 105, 103, 104, 116]⟩) .nil))))
   (.cons (.for_ (.nm 4) (.seq (.var 3))
   (.cons (.swp (.var 4) (.var 1) (.var 4) (.var 2) (.cons (.ix (.var 4) (.var 2)) (.cons (.ix (.var 4) (.var 1)) .nil)))
   .nil))
   .nil))
   .nil)
def b_Work_least_from : Mi.Ss := (.cons (.asg (.nm 2) (.cst .non))
   (.cons (.for_ (.nm 3) (.rng (.cons (.var 1) (.cons (.bi true .len (.cons (.fld ⟨#[87, 111, 114, 107]⟩ (.var 0) ⟨#[114, 111, 119, 115]⟩) .nil)) .nil)))
   (.cons (.for_ (.nm 4) (.rng (.cons (.var 1) (.cons (.bi true .len (.cons (.ix (.fld ⟨#[87, 111, 114, 107]⟩ (.var 0) ⟨#[114, 111, 119, 115]⟩) (.cst (.int 0))) .nil)) .nil)))
   (.cons (.asg (.nm 5) (.bi true .abs (.cons (.ix (.ix (.fld ⟨#[87, 111, 114, 107]⟩ (.var 0) ⟨#[114, 111, 119, 115]⟩) (.var 3)) (.var 4)) .nil)))
   (.cons (.if_ (.and_ (.cmp .gt (.var 5) (.cst (.int 0))) (.or_ (.isN (.var 2)) (.cmp .lt (.var 5) (.bi true .abs (.cons (.ix (.ix (.fld ⟨#[87, 111, 114, 107]⟩ (.var 0) ⟨#[114, 111, 119, 115]⟩) (.ix (.var 2) (.cst (.int 0)))) (.ix (.var 2) (.cst (.int 1)))) .nil)))))
   (.cons (.asg (.nm 2) (.tup (.cons (.var 3) (.cons (.var 4) .nil))))
   .nil)
   .nil)
   .nil)))
   .nil))
   (.cons (.ret (.var 2))
   .nil)))
def b_Work_swept : Mi.Ss := (.cons (.for_ (.nm 2) (.rng (.cons (.bin true .add (.var 1) (.cst (.int 1))) (.cons (.bi true .len (.cons (.fld ⟨#[87, 111, 114, 107]⟩ (.var 0) ⟨#[114, 111, 119, 115]⟩) .nil)) .nil)))
   (.cons (.ex (.mcall false ⟨#[87, 111, 114, 107]⟩ ⟨#[97, 100, 100, 95, 114, 111, 119]⟩ 56 (.var 0) (.cons (.var 2) (.cons (.var 1) (.cons (.neg (.bin true .fdv (.ix (.ix (.fld ⟨#[87, 111, 114, 107]⟩ (.var 0) ⟨#[114, 111, 119, 115]⟩) (.var 2)) (.var 1)) (.ix (.ix (.fld ⟨#[87, 111, 114, 107]⟩ (.var 0) ⟨#[114, 111, 119, 115]⟩) (.var 1)) (.var 1)))) .nil)))))
   .nil))
   (.cons (.for_ (.nm 3) (.rng (.cons (.bin true .add (.var 1) (.cst (.int 1))) (.cons (.bi true .len (.cons (.ix (.fld ⟨#[87, 111, 114, 107]⟩ (.var 0) ⟨#[114, 111, 119, 115]⟩) (.cst (.int 0))) .nil)) .nil)))
   (.cons (.ex (.mcall false ⟨#[87, 111, 114, 107]⟩ ⟨#[97, 100, 100, 95, 99, 111, 108, 117, 109, 110]⟩ 57 (.var 0) (.cons (.var 3) (.cons (.var 1) (.cons (.neg (.bin true .fdv (.ix (.ix (.fld ⟨#[87, 111, 114, 107]⟩ (.var 0) ⟨#[114, 111, 119, 115]⟩) (.var 1)) (.var 3)) (.ix (.ix (.fld ⟨#[87, 111, 114, 107]⟩ (.var 0) ⟨#[114, 111, 119, 115]⟩) (.var 1)) (.var 1)))) .nil)))))
   .nil))
   (.cons (.asg (.nm 4) (.bi true .all (.cons (.lc true [2] (.nm 2) (.rng (.cons (.bin true .add (.var 1) (.cst (.int 1))) (.cons (.bi true .len (.cons (.fld ⟨#[87, 111, 114, 107]⟩ (.var 0) ⟨#[114, 111, 119, 115]⟩) .nil)) .nil))) .none (.cmp .eq (.ix (.ix (.fld ⟨#[87, 111, 114, 107]⟩ (.var 0) ⟨#[114, 111, 119, 115]⟩) (.var 2)) (.var 1)) (.cst (.int 0)))) .nil)))
   (.cons (.ret (.and_ (.var 4) (.bi true .all (.cons (.lc true [2] (.nm 2) (.seq (.sl (.ix (.fld ⟨#[87, 111, 114, 107]⟩ (.var 0) ⟨#[114, 111, 119, 115]⟩) (.var 1)) (.some (.bin true .add (.var 1) (.cst (.int 1)))) .none)) .none (.cmp .eq (.var 2) (.cst (.int 0)))) .nil))))
   .nil))))
def b_Work_row_left_over : Mi.Ss := (.cons (.asg (.nm 2) (.ix (.ix (.fld ⟨#[87, 111, 114, 107]⟩ (.var 0) ⟨#[114, 111, 119, 115]⟩) (.var 1)) (.var 1)))
   (.cons (.for_ (.nm 3) (.rng (.cons (.bin true .add (.var 1) (.cst (.int 1))) (.cons (.bi true .len (.cons (.fld ⟨#[87, 111, 114, 107]⟩ (.var 0) ⟨#[114, 111, 119, 115]⟩) .nil)) .nil)))
   (.cons (.if_ (.bi true .any (.cons (.lc true [4] (.nm 4) (.seq (.sl (.ix (.fld ⟨#[87, 111, 114, 107]⟩ (.var 0) ⟨#[114, 111, 119, 115]⟩) (.var 3)) (.some (.bin true .add (.var 1) (.cst (.int 1)))) .none)) .none (.cmp .ne (.bin true .mdv (.var 4) (.var 2)) (.cst (.int 0)))) .nil))
   (.cons (.ret (.var 3))
   .nil)
   .nil)
   .nil))
   (.cons (.ret (.neg (.cst (.int 1))))
   .nil)))
def b_Work_is_settled : Mi.Ss := (.cons (.asg (.nm 2) (.mcall false ⟨#[87, 111, 114, 107]⟩ ⟨#[108, 101, 97, 115, 116, 95, 102, 114, 111, 109]⟩ 60 (.var 0) (.cons (.var 1) .nil)))
   (.cons (.if_ (.isN (.var 2))
   (.cons (.ret (.cst (.bl true)))
   .nil)
   .nil)
   (.cons (.ex (.mcall false ⟨#[87, 111, 114, 107]⟩ ⟨#[101, 120, 99, 104, 97, 110, 103, 101, 95, 114, 111, 119, 115]⟩ 58 (.var 0) (.cons (.var 1) (.cons (.ix (.var 2) (.cst (.int 0))) .nil))))
   (.cons (.ex (.mcall false ⟨#[87, 111, 114, 107]⟩ ⟨#[101, 120, 99, 104, 97, 110, 103, 101, 95, 99, 111, 108, 117, 109, 110, 115]⟩ 59 (.var 0) (.cons (.var 1) (.cons (.ix (.var 2) (.cst (.int 1))) .nil))))
   (.cons (.if_ (.not_ (.mcall false ⟨#[87, 111, 114, 107]⟩ ⟨#[115, 119, 101, 112, 116]⟩ 61 (.var 0) (.cons (.var 1) .nil)))
   (.cons (.ret (.cst (.bl false)))
   .nil)
   .nil)
   (.cons (.asg (.nm 3) (.mcall false ⟨#[87, 111, 114, 107]⟩ ⟨#[114, 111, 119, 95, 108, 101, 102, 116, 95, 111, 118, 101, 114]⟩ 62 (.var 0) (.cons (.var 1) .nil)))
   (.cons (.if_ (.cmp .ge (.var 3) (.cst (.int 0)))
   (.cons (.ex (.mcall false ⟨#[87, 111, 114, 107]⟩ ⟨#[97, 100, 100, 95, 114, 111, 119]⟩ 56 (.var 0) (.cons (.var 1) (.cons (.var 3) (.cons (.cst (.int 1)) .nil)))))
   (.cons (.ret (.cst (.bl false)))
   .nil))
   .nil)
   (.cons (.if_ (.cmp .lt (.ix (.ix (.fld ⟨#[87, 111, 114, 107]⟩ (.var 0) ⟨#[114, 111, 119, 115]⟩) (.var 1)) (.var 1)) (.cst (.int 0)))
   (.cons (.ex (.mcall false ⟨#[87, 111, 114, 107]⟩ ⟨#[97, 100, 100, 95, 114, 111, 119]⟩ 56 (.var 0) (.cons (.var 1) (.cons (.var 1) (.cons (.neg (.cst (.int 2))) .nil)))))
   .nil)
   .nil)
   (.cons (.ret (.cst (.bl true)))
   .nil)))))))))
def b_Work_settle : Mi.Ss := (.cons (.for_ (.nm 1) (.rng (.cons (.bi true .min (.cons (.bi true .len (.cons (.fld ⟨#[87, 111, 114, 107]⟩ (.var 0) ⟨#[114, 111, 119, 115]⟩) .nil)) (.cons (.bi true .len (.cons (.ix (.fld ⟨#[87, 111, 114, 107]⟩ (.var 0) ⟨#[114, 111, 119, 115]⟩) (.cst (.int 0))) .nil)) .nil))) .nil))
   (.cons (.asg (.nm 2) (.cst (.bl false)))
   (.cons (.whil (.not_ (.var 2))
   (.cons (.asg (.nm 2) (.mcall false ⟨#[87, 111, 114, 107]⟩ ⟨#[105, 115, 95, 115, 101, 116, 116, 108, 101, 100]⟩ 63 (.var 0) (.cons (.var 1) .nil)))
   .nil))
   .nil)))
   .nil)
def d_is_number : Mi.Def := ⟨⟨#[105, 115, 95, 110, 117, 109, 98, 101, 114]⟩, 1, [⟨#[116, 104, 105, 110, 103]⟩], b_is_number⟩
def d_is_from : Mi.Def := ⟨⟨#[105, 115, 95, 102, 114, 111, 109]⟩, 2, [⟨#[116, 104, 105, 110, 103]⟩, ⟨#[108, 101, 97, 115, 116]⟩], b_is_from⟩
def d_is_long : Mi.Def := ⟨⟨#[105, 115, 95, 108, 111, 110, 103]⟩, 2, [⟨#[116, 104, 105, 110, 103]⟩, ⟨#[108, 101, 110, 103, 116, 104]⟩], b_is_long⟩
def d_tupled : Mi.Def := ⟨⟨#[116, 117, 112, 108, 101, 100]⟩, 1, [⟨#[118, 97, 108, 117, 101]⟩, ⟨#[111, 119, 110]⟩], b_tupled⟩
def d_are_numbers : Mi.Def := ⟨⟨#[97, 114, 101, 95, 110, 117, 109, 98, 101, 114, 115]⟩, 1, [⟨#[116, 104, 105, 110, 103]⟩, ⟨#[111, 119, 110]⟩], b_are_numbers⟩
def d_are_from : Mi.Def := ⟨⟨#[97, 114, 101, 95, 102, 114, 111, 109]⟩, 2, [⟨#[116, 104, 105, 110, 103]⟩, ⟨#[108, 101, 97, 115, 116]⟩, ⟨#[111, 119, 110]⟩], b_are_from⟩
def d_is_row_of : Mi.Def := ⟨⟨#[105, 115, 95, 114, 111, 119, 95, 111, 102]⟩, 3, [⟨#[116, 104, 105, 110, 103]⟩, ⟨#[109, 97, 110, 121]⟩, ⟨#[108, 101, 97, 115, 116]⟩], b_is_row_of⟩
def d_unit_row : Mi.Def := ⟨⟨#[117, 110, 105, 116, 95, 114, 111, 119]⟩, 2, [⟨#[109, 97, 110, 121]⟩, ⟨#[112, 108, 97, 99, 101]⟩, ⟨#[111, 119, 110]⟩], b_unit_row⟩
def d_sure_from : Mi.Def := ⟨⟨#[115, 117, 114, 101, 95, 102, 114, 111, 109]⟩, 2, [⟨#[118, 97, 108, 117, 101]⟩, ⟨#[108, 101, 97, 115, 116]⟩], b_sure_from⟩
def d_is_town_in : Mi.Def := ⟨⟨#[105, 115, 95, 116, 111, 119, 110, 95, 105, 110]⟩, 1, [⟨#[116, 104, 105, 110, 103]⟩, ⟨#[114, 111, 119]⟩], b_is_town_in⟩
def d_sure_town : Mi.Def := ⟨⟨#[115, 117, 114, 101, 95, 116, 111, 119, 110]⟩, 1, [⟨#[118, 97, 108, 117, 101]⟩, ⟨#[111, 119, 110]⟩], b_sure_town⟩
def d_times_column : Mi.Def := ⟨⟨#[116, 105, 109, 101, 115, 95, 99, 111, 108, 117, 109, 110]⟩, 2, [⟨#[116, 97, 98, 108, 101]⟩, ⟨#[99, 111, 108, 117, 109, 110]⟩, ⟨#[114, 111, 119]⟩, ⟨#[97]⟩, ⟨#[98]⟩], b_times_column⟩
def d_identity_of : Mi.Def := ⟨⟨#[105, 100, 101, 110, 116, 105, 116, 121, 95, 111, 102]⟩, 1, [⟨#[109, 97, 110, 121]⟩, ⟨#[112, 108, 97, 99, 101]⟩], b_identity_of⟩
def d_rest_in : Mi.Def := ⟨⟨#[114, 101, 115, 116, 95, 105, 110]⟩, 1, [⟨#[116, 111, 119, 110]⟩, ⟨#[111, 119, 110]⟩, ⟨#[114, 111, 119]⟩, ⟨#[107]⟩, ⟨#[109, 97, 110, 121]⟩], b_rest_in⟩
def d_pivot_row : Mi.Def := ⟨⟨#[112, 105, 118, 111, 116, 95, 114, 111, 119]⟩, 2, [⟨#[114, 111, 119, 115]⟩, ⟨#[112, 108, 97, 99, 101]⟩, ⟨#[111, 119, 110]⟩], b_pivot_row⟩
def d_box_in : Mi.Def := ⟨⟨#[98, 111, 120, 95, 105, 110]⟩, 1, [⟨#[116, 97, 98, 108, 101]⟩, ⟨#[114, 111, 119, 115]⟩, ⟨#[115, 105, 103, 110]⟩, ⟨#[108, 97, 115, 116]⟩, ⟨#[112, 108, 97, 99, 101]⟩, ⟨#[97, 116]⟩, ⟨#[104, 101, 97, 100]⟩, ⟨#[111, 119, 110]⟩, ⟨#[102, 105, 114, 115, 116]⟩, ⟨#[114, 111, 119]⟩, ⟨#[97]⟩, ⟨#[98]⟩], b_box_in⟩
def d_worked : Mi.Def := ⟨⟨#[119, 111, 114, 107, 101, 100]⟩, 1, [⟨#[116, 97, 98, 108, 101]⟩, ⟨#[119, 111, 114, 107]⟩, ⟨#[109, 97, 110, 121]⟩, ⟨#[108, 101, 102, 116]⟩, ⟨#[114, 105, 103, 104, 116]⟩, ⟨#[114, 111, 119]⟩, ⟨#[107]⟩], b_worked⟩
def d_factors_in : Mi.Def := ⟨⟨#[102, 97, 99, 116, 111, 114, 115, 95, 105, 110]⟩, 1, [⟨#[116, 97, 98, 108, 101]⟩], b_factors_in⟩
def d_divides : Mi.Def := ⟨⟨#[100, 105, 118, 105, 100, 101, 115]⟩, 2, [⟨#[111, 110, 101]⟩, ⟨#[111, 116, 104, 101, 114]⟩], b_divides⟩
def d_are_parts_in : Mi.Def := ⟨⟨#[97, 114, 101, 95, 112, 97, 114, 116, 115, 95, 105, 110]⟩, 1, [⟨#[116, 104, 105, 110, 103]⟩, ⟨#[107]⟩], b_are_parts_in⟩
def d_is_sheet_in : Mi.Def := ⟨⟨#[105, 115, 95, 115, 104, 101, 101, 116, 95, 105, 110]⟩, 1, [⟨#[116, 104, 105, 110, 103]⟩], b_is_sheet_in⟩
def d_sure_sheet : Mi.Def := ⟨⟨#[115, 117, 114, 101, 95, 115, 104, 101, 101, 116]⟩, 1, [⟨#[118, 97, 108, 117, 101]⟩, ⟨#[111, 119, 110]⟩], b_sure_sheet⟩
def d_sign_of : Mi.Def := ⟨⟨#[115, 105, 103, 110, 95, 111, 102]⟩, 1, [⟨#[110, 117, 109, 98, 101, 114]⟩], b_sign_of⟩
def d_sheet_in : Mi.Def := ⟨⟨#[115, 104, 101, 101, 116, 95, 105, 110]⟩, 1, [⟨#[116, 111, 119, 110]⟩, ⟨#[116, 97, 98, 108, 101]⟩, ⟨#[119, 111, 114, 116, 104]⟩, ⟨#[115, 105, 103, 110]⟩, ⟨#[111, 119, 110]⟩], b_sheet_in⟩
def d_marks_by : Mi.Def := ⟨⟨#[109, 97, 114, 107, 115, 95, 98, 121]⟩, 2, [⟨#[112, 97, 114, 116, 115]⟩, ⟨#[109, 97, 110, 121]⟩, ⟨#[102, 111, 117, 110, 100]⟩, ⟨#[111, 119, 110]⟩], b_marks_by⟩
def d_full_parts : Mi.Def := ⟨⟨#[102, 117, 108, 108, 95, 112, 97, 114, 116, 115]⟩, 2, [⟨#[112, 97, 114, 116, 115]⟩, ⟨#[112, 108, 97, 99, 101, 115]⟩], b_full_parts⟩
def d_chains_of : Mi.Def := ⟨⟨#[99, 104, 97, 105, 110, 115, 95, 111, 102]⟩, 2, [⟨#[111, 114, 100, 101, 114]⟩, ⟨#[108, 101, 97, 115, 116]⟩, ⟨#[102, 111, 117, 110, 100]⟩, ⟨#[111, 119, 110]⟩, ⟨#[105, 116, 115]⟩], b_chains_of⟩
def d_unlike_in : Mi.Def := ⟨⟨#[117, 110, 108, 105, 107, 101, 95, 105, 110]⟩, 2, [⟨#[110, 101, 97, 114]⟩, ⟨#[102, 97, 114]⟩, ⟨#[115, 105, 122, 101]⟩, ⟨#[111, 110, 101]⟩, ⟨#[111, 116, 104, 101, 114]⟩], b_unlike_in⟩
def d_sheet : Mi.Def := ⟨⟨#[115, 104, 101, 101, 116]⟩, 1, [⟨#[116, 111, 119, 110]⟩], b_sheet⟩
def d_order_of : Mi.Def := ⟨⟨#[111, 114, 100, 101, 114, 95, 111, 102]⟩, 1, [⟨#[112, 97, 114, 116, 115]⟩, ⟨#[102, 111, 117, 110, 100]⟩, ⟨#[111, 119, 110]⟩], b_order_of⟩
def d_sheet_order : Mi.Def := ⟨⟨#[115, 104, 101, 101, 116, 95, 111, 114, 100, 101, 114]⟩, 1, [⟨#[115, 104, 101, 101, 116]⟩], b_sheet_order⟩
def d_marks_of_sheet : Mi.Def := ⟨⟨#[109, 97, 114, 107, 115, 95, 111, 102, 95, 115, 104, 101, 101, 116]⟩, 2, [⟨#[115, 104, 101, 101, 116]⟩, ⟨#[109, 97, 110, 121]⟩, ⟨#[111, 119, 110]⟩], b_marks_of_sheet⟩
def d_unlike_number : Mi.Def := ⟨⟨#[117, 110, 108, 105, 107, 101, 95, 110, 117, 109, 98, 101, 114]⟩, 2, [⟨#[111, 110, 101]⟩, ⟨#[111, 116, 104, 101, 114]⟩, ⟨#[110, 101, 97, 114]⟩, ⟨#[102, 97, 114]⟩], b_unlike_number⟩
def d_is_unlike_number : Mi.Def := ⟨⟨#[105, 115, 95, 117, 110, 108, 105, 107, 101, 95, 110, 117, 109, 98, 101, 114]⟩, 3, [⟨#[111, 110, 101]⟩, ⟨#[111, 116, 104, 101, 114]⟩, ⟨#[116, 104, 105, 110, 103]⟩, ⟨#[110, 101, 97, 114]⟩, ⟨#[102, 97, 114]⟩], b_is_unlike_number⟩
def d_sheet_beside : Mi.Def := ⟨⟨#[115, 104, 101, 101, 116, 95, 98, 101, 115, 105, 100, 101]⟩, 2, [⟨#[111, 110, 101]⟩, ⟨#[111, 116, 104, 101, 114]⟩, ⟨#[110, 101, 97, 114]⟩, ⟨#[102, 97, 114]⟩, ⟨#[114, 111, 119]⟩, ⟨#[107]⟩, ⟨#[106]⟩, ⟨#[109, 111, 115, 116]⟩, ⟨#[111, 119, 110]⟩], b_sheet_beside⟩
def d_sheets_of : Mi.Def := ⟨⟨#[115, 104, 101, 101, 116, 115, 95, 111, 102]⟩, 1, [⟨#[111, 114, 100, 101, 114]⟩, ⟨#[111, 119, 110]⟩, ⟨#[112, 97, 114, 116, 115]⟩, ⟨#[115, 105, 103, 110]⟩], b_sheets_of⟩
def d_are_marks_in : Mi.Def := ⟨⟨#[97, 114, 101, 95, 109, 97, 114, 107, 115, 95, 105, 110]⟩, 3, [⟨#[116, 111, 119, 110]⟩, ⟨#[109, 97, 110, 121]⟩, ⟨#[116, 104, 105, 110, 103]⟩, ⟨#[119, 111, 114, 116, 104, 115]⟩, ⟨#[111, 119, 110]⟩], b_are_marks_in⟩
def d_worth_in : Mi.Def := ⟨⟨#[119, 111, 114, 116, 104, 95, 105, 110]⟩, 3, [⟨#[109, 97, 110, 121]⟩, ⟨#[109, 97, 114, 107, 115]⟩, ⟨#[114, 111, 119]⟩, ⟨#[102, 111, 117, 110, 100]⟩, ⟨#[97]⟩, ⟨#[98]⟩], b_worth_in⟩
def d_step_marks : Mi.Def := ⟨⟨#[115, 116, 101, 112, 95, 109, 97, 114, 107, 115]⟩, 3, [⟨#[109, 97, 110, 121]⟩, ⟨#[102, 97, 99, 116, 111, 114]⟩, ⟨#[99, 111, 108, 117, 109, 110]⟩, ⟨#[115, 116, 101, 112, 115]⟩, ⟨#[111, 119, 110]⟩, ⟨#[105, 116, 115]⟩], b_step_marks⟩
def d_marks_in : Mi.Def := ⟨⟨#[109, 97, 114, 107, 115, 95, 105, 110]⟩, 2, [⟨#[116, 111, 119, 110]⟩, ⟨#[109, 97, 110, 121]⟩, ⟨#[108, 101, 102, 116]⟩, ⟨#[112, 97, 114, 116, 115]⟩, ⟨#[114, 105, 103, 104, 116]⟩, ⟨#[102, 111, 117, 110, 100]⟩, ⟨#[107]⟩, ⟨#[102, 97, 99, 116, 111, 114]⟩, ⟨#[99, 111, 108, 117, 109, 110]⟩, ⟨#[114, 111, 119, 115]⟩, ⟨#[108, 105, 110, 101]⟩, ⟨#[111, 119, 110]⟩, ⟨#[105, 116, 115]⟩, ⟨#[97]⟩, ⟨#[98]⟩], b_marks_in⟩
def d_whole_in : Mi.Def := ⟨⟨#[119, 104, 111, 108, 101, 95, 105, 110]⟩, 1, [⟨#[116, 111, 119, 110]⟩, ⟨#[108, 101, 102, 116]⟩, ⟨#[112, 97, 114, 116, 115]⟩, ⟨#[114, 105, 103, 104, 116]⟩, ⟨#[107]⟩, ⟨#[102, 97, 99, 116, 111, 114]⟩, ⟨#[108, 105, 110, 101]⟩], b_whole_in⟩
def d_are_marks : Mi.Def := ⟨⟨#[97, 114, 101, 95, 109, 97, 114, 107, 115]⟩, 3, [⟨#[116, 111, 119, 110]⟩, ⟨#[109, 97, 110, 121]⟩, ⟨#[116, 104, 105, 110, 103]⟩, ⟨#[111, 119, 110]⟩], b_are_marks⟩
def d_many_marks : Mi.Def := ⟨⟨#[109, 97, 110, 121, 95, 109, 97, 114, 107, 115]⟩, 2, [⟨#[116, 111, 119, 110]⟩, ⟨#[109, 97, 110, 121]⟩, ⟨#[111, 119, 110]⟩], b_many_marks⟩
def d_all_marks : Mi.Def := ⟨⟨#[97, 108, 108, 95, 109, 97, 114, 107, 115]⟩, 2, [⟨#[116, 111, 119, 110]⟩, ⟨#[109, 97, 110, 121]⟩, ⟨#[111, 119, 110]⟩, ⟨#[115, 105, 122, 101]⟩], b_all_marks⟩
def d_whole_marks : Mi.Def := ⟨⟨#[119, 104, 111, 108, 101, 95, 109, 97, 114, 107, 115]⟩, 1, [⟨#[116, 111, 119, 110]⟩], b_whole_marks⟩
def d_are_whole_marks : Mi.Def := ⟨⟨#[97, 114, 101, 95, 119, 104, 111, 108, 101, 95, 109, 97, 114, 107, 115]⟩, 2, [⟨#[116, 111, 119, 110]⟩, ⟨#[116, 104, 105, 110, 103]⟩, ⟨#[111, 119, 110]⟩, ⟨#[105, 116, 115]⟩, ⟨#[114, 111, 119]⟩], b_are_whole_marks⟩
def d_worth : Mi.Def := ⟨⟨#[119, 111, 114, 116, 104]⟩, 3, [⟨#[109, 97, 110, 121]⟩, ⟨#[109, 97, 114, 107, 115]⟩, ⟨#[114, 111, 119]⟩, ⟨#[115, 105, 122, 101]⟩, ⟨#[111, 119, 110]⟩, ⟨#[105, 116, 115]⟩], b_worth⟩
def d__law_box : Mi.Def := ⟨⟨#[95, 108, 97, 119, 95, 98, 111, 120]⟩, 2, [⟨#[115, 99, 114, 105, 112, 116]⟩, ⟨#[107]⟩, ⟨#[98, 105, 116, 95, 115, 111]⟩], b__law_box⟩
def d__law_take : Mi.Def := ⟨⟨#[95, 108, 97, 119, 95, 116, 97, 107, 101]⟩, 2, [⟨#[116, 105, 110]⟩, ⟨#[98, 101, 108, 111, 119, 95, 115, 111]⟩, ⟨#[111, 110, 99, 101, 95, 115, 111]⟩, ⟨#[119, 105, 100, 101, 95, 115, 111]⟩, ⟨#[116, 119, 105, 99, 101, 95, 115, 111]⟩, ⟨#[100, 114, 97, 119, 110, 95, 115, 111]⟩], b__law_take⟩
def d__law_cells : Mi.Def := ⟨⟨#[95, 108, 97, 119, 95, 99, 101, 108, 108, 115]⟩, 2, [⟨#[115, 99, 114, 105, 112, 116]⟩, ⟨#[109, 111, 115, 116, 95, 115, 111]⟩, ⟨#[99, 101, 108, 108, 115, 95, 115, 111]⟩, ⟨#[107]⟩, ⟨#[98, 105, 116, 95, 115, 111]⟩, ⟨#[97, 116, 95, 115, 111]⟩], b__law_cells⟩
def d__law_of : Mi.Def := ⟨⟨#[95, 108, 97, 119, 95, 111, 102]⟩, 2, [⟨#[116, 105, 110]⟩, ⟨#[103, 111, 111, 100, 115, 95, 115, 111]⟩], b__law_of⟩
def d__law_same : Mi.Def := ⟨⟨#[95, 108, 97, 119, 95, 115, 97, 109, 101]⟩, 2, [⟨#[103, 111, 116]⟩, ⟨#[100, 117, 101]⟩, ⟨#[109, 105, 110, 101]⟩, ⟨#[105, 116, 115]⟩], b__law_same⟩
def d__law_asked : Mi.Def := ⟨⟨#[95, 108, 97, 119, 95, 97, 115, 107, 101, 100]⟩, 4, [⟨#[107]⟩, ⟨#[111, 110, 101]⟩, ⟨#[116, 119, 111]⟩, ⟨#[116, 104, 114, 101, 101]⟩], b__law_asked⟩
def d__law_caught : Mi.Def := ⟨⟨#[95, 108, 97, 119, 95, 99, 97, 117, 103, 104, 116]⟩, 4, [⟨#[107]⟩, ⟨#[111, 110, 101]⟩, ⟨#[116, 119, 111]⟩, ⟨#[116, 104, 114, 101, 101]⟩, ⟨#[116, 111, 108, 100, 95, 115, 111]⟩, ⟨#[101, 114, 114, 111, 114]⟩], b__law_caught⟩
def d_law : Mi.Def := ⟨⟨#[108, 97, 119]⟩, 1, [⟨#[115, 99, 114, 105, 112, 116]⟩, ⟨#[116, 105, 110]⟩, ⟨#[117, 110, 102, 105, 116, 95, 115, 111]⟩, ⟨#[109, 97, 110, 121, 95, 115, 111]⟩, ⟨#[98, 97, 100, 95, 115, 111]⟩, ⟨#[110, 111, 110, 101, 95, 115, 111]⟩, ⟨#[103, 111, 108, 100, 95, 115, 111]⟩, ⟨#[103, 111, 111, 100, 95, 115, 111]⟩, ⟨#[103, 111, 116]⟩, ⟨#[111, 119, 110]⟩, ⟨#[103, 114, 101, 97, 116, 95, 115, 111]⟩, ⟨#[100, 117, 101]⟩, ⟨#[107]⟩], b_law⟩
def d_Work___init__ : Mi.Def := ⟨⟨#[87, 111, 114, 107, 46, 95, 95, 105, 110, 105, 116, 95, 95]⟩, 2, [⟨#[115, 101, 108, 102]⟩, ⟨#[116, 97, 98, 108, 101]⟩, ⟨#[114, 111, 119]⟩], b_Work___init__⟩
def d_Work_add_row : Mi.Def := ⟨⟨#[87, 111, 114, 107, 46, 97, 100, 100, 95, 114, 111, 119]⟩, 4, [⟨#[115, 101, 108, 102]⟩, ⟨#[112, 108, 97, 99, 101]⟩, ⟨#[111, 116, 104, 101, 114]⟩, ⟨#[116, 105, 109, 101, 115]⟩, ⟨#[116, 97, 98, 108, 101]⟩, ⟨#[97]⟩, ⟨#[98]⟩], b_Work_add_row⟩
def d_Work_add_column : Mi.Def := ⟨⟨#[87, 111, 114, 107, 46, 97, 100, 100, 95, 99, 111, 108, 117, 109, 110]⟩, 4, [⟨#[115, 101, 108, 102]⟩, ⟨#[112, 108, 97, 99, 101]⟩, ⟨#[111, 116, 104, 101, 114]⟩, ⟨#[116, 105, 109, 101, 115]⟩, ⟨#[116, 97, 98, 108, 101]⟩, ⟨#[114, 111, 119]⟩], b_Work_add_column⟩
def d_Work_exchange_rows : Mi.Def := ⟨⟨#[87, 111, 114, 107, 46, 101, 120, 99, 104, 97, 110, 103, 101, 95, 114, 111, 119, 115]⟩, 3, [⟨#[115, 101, 108, 102]⟩, ⟨#[112, 108, 97, 99, 101]⟩, ⟨#[111, 116, 104, 101, 114]⟩, ⟨#[116, 97, 98, 108, 101]⟩], b_Work_exchange_rows⟩
def d_Work_exchange_columns : Mi.Def := ⟨⟨#[87, 111, 114, 107, 46, 101, 120, 99, 104, 97, 110, 103, 101, 95, 99, 111, 108, 117, 109, 110, 115]⟩, 3, [⟨#[115, 101, 108, 102]⟩, ⟨#[112, 108, 97, 99, 101]⟩, ⟨#[111, 116, 104, 101, 114]⟩, ⟨#[116, 97, 98, 108, 101]⟩, ⟨#[114, 111, 119]⟩], b_Work_exchange_columns⟩
def d_Work_least_from : Mi.Def := ⟨⟨#[87, 111, 114, 107, 46, 108, 101, 97, 115, 116, 95, 102, 114, 111, 109]⟩, 2, [⟨#[115, 101, 108, 102]⟩, ⟨#[115, 116, 97, 114, 116]⟩, ⟨#[102, 111, 117, 110, 100]⟩, ⟨#[111, 119, 110]⟩, ⟨#[107]⟩, ⟨#[115, 105, 122, 101]⟩], b_Work_least_from⟩
def d_Work_swept : Mi.Def := ⟨⟨#[87, 111, 114, 107, 46, 115, 119, 101, 112, 116]⟩, 2, [⟨#[115, 101, 108, 102]⟩, ⟨#[115, 116, 97, 114, 116]⟩, ⟨#[111, 119, 110]⟩, ⟨#[107]⟩, ⟨#[105, 115, 95, 99, 108, 101, 97, 114]⟩], b_Work_swept⟩
def d_Work_row_left_over : Mi.Def := ⟨⟨#[87, 111, 114, 107, 46, 114, 111, 119, 95, 108, 101, 102, 116, 95, 111, 118, 101, 114]⟩, 2, [⟨#[115, 101, 108, 102]⟩, ⟨#[115, 116, 97, 114, 116]⟩, ⟨#[104, 101, 97, 100]⟩, ⟨#[111, 119, 110]⟩, ⟨#[109, 97, 110, 121]⟩], b_Work_row_left_over⟩
def d_Work_is_settled : Mi.Def := ⟨⟨#[87, 111, 114, 107, 46, 105, 115, 95, 115, 101, 116, 116, 108, 101, 100]⟩, 2, [⟨#[115, 101, 108, 102]⟩, ⟨#[115, 116, 97, 114, 116]⟩, ⟨#[97, 116]⟩, ⟨#[111, 116, 104, 101, 114]⟩], b_Work_is_settled⟩
def d_Work_settle : Mi.Def := ⟨⟨#[87, 111, 114, 107, 46, 115, 101, 116, 116, 108, 101]⟩, 1, [⟨#[115, 101, 108, 102]⟩, ⟨#[115, 116, 97, 114, 116]⟩, ⟨#[105, 115, 95, 100, 111, 110, 101]⟩], b_Work_settle⟩
def defs : List Mi.Def := [d_is_number, d_is_from, d_is_long, d_tupled, d_are_numbers, d_are_from, d_is_row_of, d_unit_row, d_sure_from, d_is_town_in, d_sure_town, d_times_column, d_identity_of, d_rest_in, d_pivot_row, d_box_in, d_worked, d_factors_in, d_divides, d_are_parts_in, d_is_sheet_in, d_sure_sheet, d_sign_of, d_sheet_in, d_marks_by, d_full_parts, d_chains_of, d_unlike_in, d_sheet, d_order_of, d_sheet_order, d_marks_of_sheet, d_unlike_number, d_is_unlike_number, d_sheet_beside, d_sheets_of, d_are_marks_in, d_worth_in, d_step_marks, d_marks_in, d_whole_in, d_are_marks, d_many_marks, d_all_marks, d_whole_marks, d_are_whole_marks, d_worth, d__law_box, d__law_take, d__law_cells, d__law_of, d__law_same, d__law_asked, d__law_caught, d_law, d_Work___init__, d_Work_add_row, d_Work_add_column, d_Work_exchange_rows, d_Work_exchange_columns, d_Work_least_from, d_Work_swept, d_Work_row_left_over, d_Work_is_settled, d_Work_settle]
def globs : List (PySem.Str × Mi.D) := [(⟨#[77, 79, 83, 84, 95, 84, 79, 76, 68, 95, 115, 104, 101, 101, 116, 115]⟩, (.int 2000)), (⟨#[77, 79, 83, 84, 95, 84, 79, 76, 68, 95, 109, 97, 114, 107, 115]⟩, (.int 2000))]
def prg : Mi.Prg := ⟨defs, globs⟩
abbrev i_is_number : Nat := 0
abbrev i_is_from : Nat := 1
abbrev i_is_long : Nat := 2
abbrev i_tupled : Nat := 3
abbrev i_are_numbers : Nat := 4
abbrev i_are_from : Nat := 5
abbrev i_is_row_of : Nat := 6
abbrev i_unit_row : Nat := 7
abbrev i_sure_from : Nat := 8
abbrev i_is_town_in : Nat := 9
abbrev i_sure_town : Nat := 10
abbrev i_times_column : Nat := 11
abbrev i_identity_of : Nat := 12
abbrev i_rest_in : Nat := 13
abbrev i_pivot_row : Nat := 14
abbrev i_box_in : Nat := 15
abbrev i_worked : Nat := 16
abbrev i_factors_in : Nat := 17
abbrev i_divides : Nat := 18
abbrev i_are_parts_in : Nat := 19
abbrev i_is_sheet_in : Nat := 20
abbrev i_sure_sheet : Nat := 21
abbrev i_sign_of : Nat := 22
abbrev i_sheet_in : Nat := 23
abbrev i_marks_by : Nat := 24
abbrev i_full_parts : Nat := 25
abbrev i_chains_of : Nat := 26
abbrev i_unlike_in : Nat := 27
abbrev i_sheet : Nat := 28
abbrev i_order_of : Nat := 29
abbrev i_sheet_order : Nat := 30
abbrev i_marks_of_sheet : Nat := 31
abbrev i_unlike_number : Nat := 32
abbrev i_is_unlike_number : Nat := 33
abbrev i_sheet_beside : Nat := 34
abbrev i_sheets_of : Nat := 35
abbrev i_are_marks_in : Nat := 36
abbrev i_worth_in : Nat := 37
abbrev i_step_marks : Nat := 38
abbrev i_marks_in : Nat := 39
abbrev i_whole_in : Nat := 40
abbrev i_are_marks : Nat := 41
abbrev i_many_marks : Nat := 42
abbrev i_all_marks : Nat := 43
abbrev i_whole_marks : Nat := 44
abbrev i_are_whole_marks : Nat := 45
abbrev i_worth : Nat := 46
abbrev i__law_box : Nat := 47
abbrev i__law_take : Nat := 48
abbrev i__law_cells : Nat := 49
abbrev i__law_of : Nat := 50
abbrev i__law_same : Nat := 51
abbrev i__law_asked : Nat := 52
abbrev i__law_caught : Nat := 53
abbrev i_law : Nat := 54
abbrev i_Work___init__ : Nat := 55
abbrev i_Work_add_row : Nat := 56
abbrev i_Work_add_column : Nat := 57
abbrev i_Work_exchange_rows : Nat := 58
abbrev i_Work_exchange_columns : Nat := 59
abbrev i_Work_least_from : Nat := 60
abbrev i_Work_swept : Nat := 61
abbrev i_Work_row_left_over : Nat := 62
abbrev i_Work_is_settled : Nat := 63
abbrev i_Work_settle : Nat := 64
end Pk27

namespace Pk27h
open PySem PySem.Spec PyProof.Rows L2 Pk27
def top (i : Nat) : Stmt := match i / 1000, PySem.Challenge.pw_foldedstreets_k27_sheets_and_marks_refus.main.body.getD (i % 1000) (.Pass ⟨0, 0, 0, 0⟩) with | 0, s => s | j + 1, s => (Mi.clsB s).getD j (.Pass ⟨0, 0, 0, 0⟩)
def ix : List Nat := [6, 7, 8, 9, 10, 11, 12, 13, 14, 16, 17, 19, 20, 21, 22, 23, 26, 27, 30, 31, 32, 33, 34, 35, 36, 37, 38, 39, 40, 41, 42, 43, 44, 45, 46, 47, 50, 51, 52, 53, 54, 55, 56, 57, 58, 59, 60, 62, 63, 64, 65, 66, 67, 68, 69, 1025, 2025, 3025, 4025, 5025, 6025, 7025, 8025, 9025, 10025]
def tx : Mi.Tx := ⟨prg, [(46, [2, 1, 0]), (41, [2, 1, 0]), (45, [1, 0]), (44, [0]), (42, [0, 1]), (32, [1, 0]), (33, [2, 1, 0]), (43, [1, 0]), (28, [0]), (30, [0]), (31, [1, 0]), (34, [1, 0]), (35, [0])], true, [⟨"CanNot", false, false, ""⟩, ⟨"TooMany", false, false, ""⟩, ⟨"Unfit", false, false, ""⟩], PySem.Challenge.pw_foldedstreets_k27_sheets_and_marks_refus.main.file, [], [(⟨#[87, 111, 114, 107]⟩, ⟨#[95, 95, 105, 110, 105, 116, 95, 95]⟩, 55), (⟨#[87, 111, 114, 107]⟩, ⟨#[97, 100, 100, 95, 114, 111, 119]⟩, 56), (⟨#[87, 111, 114, 107]⟩, ⟨#[97, 100, 100, 95, 99, 111, 108, 117, 109, 110]⟩, 57), (⟨#[87, 111, 114, 107]⟩, ⟨#[101, 120, 99, 104, 97, 110, 103, 101, 95, 114, 111, 119, 115]⟩, 58), (⟨#[87, 111, 114, 107]⟩, ⟨#[101, 120, 99, 104, 97, 110, 103, 101, 95, 99, 111, 108, 117, 109, 110, 115]⟩, 59), (⟨#[87, 111, 114, 107]⟩, ⟨#[108, 101, 97, 115, 116, 95, 102, 114, 111, 109]⟩, 60), (⟨#[87, 111, 114, 107]⟩, ⟨#[115, 119, 101, 112, 116]⟩, 61), (⟨#[87, 111, 114, 107]⟩, ⟨#[114, 111, 119, 95, 108, 101, 102, 116, 95, 111, 118, 101, 114]⟩, 62), (⟨#[87, 111, 114, 107]⟩, ⟨#[105, 115, 95, 115, 101, 116, 116, 108, 101, 100]⟩, 63), (⟨#[87, 111, 114, 107]⟩, ⟨#[115, 101, 116, 116, 108, 101]⟩, 64)], [(⟨#[87, 111, 114, 107]⟩, ⟨#[114, 111, 119, 115]⟩), (⟨#[87, 111, 114, 107]⟩, ⟨#[108, 101, 102, 116]⟩), (⟨#[87, 111, 114, 107]⟩, ⟨#[114, 105, 103, 104, 116]⟩)]⟩
def fa : List He.Fa := Mi.faM tx
def fn : List He.DefD := Mi.fnM top tx ix
abbrev R : PySem.W.OpenRow := PySem.W.OpenLaw.row PySem.Challenge.rw_foldedstreets_k27_sheets_and_marks_refus
abbrev hook : PySem.W.Hook := Mi.hookM 5 tx fa fn
def ob (s : PySem.W.SharedT) : Mi.AlM := Mi.obM 5 tx fa fn (HandSHeadRun.getT s)
def names : List PySem.Str := (["CanNot", "TooMany", "Unfit", "is_number", "is_from", "is_long", "tupled", "are_numbers", "are_from", "is_row_of", "unit_row", "sure_from", "is_town_in", "sure_town", "times_column", "identity_of", "rest_in", "pivot_row", "box_in", "Work", "worked", "factors_in", "MOST_TOLD_sheets", "divides", "are_parts_in", "is_sheet_in", "sure_sheet", "sign_of", "sheet_in", "marks_by"] : List PySem.Str) ++ (["full_parts", "chains_of", "unlike_in", "sheet", "order_of", "sheet_order", "marks_of_sheet", "unlike_number", "is_unlike_number", "sheet_beside", "sheets_of", "MOST_TOLD_marks", "are_marks_in", "worth_in", "step_marks", "marks_in", "whole_in", "are_marks", "many_marks", "all_marks", "whole_marks", "are_whole_marks", "worth", "_law_box", "_law_take", "_law_cells", "_law_of", "_law_same", "_law_asked", "_law_caught"] : List PySem.Str)
theorem ob_eq (s : PySem.W.SharedT) : ob s = hook.obs s.abs := Mi.obM_eq (HandSHeadRun.getT_eq s)
theorem run3 {al be ga de : Type} {X : Option al} {f : al → be} {g : al → ga} {h : al → de} {a : be} {b : ga} {c : de} (h1 : X.map f = some a) (h2 : X.map g = some b) (h3 : X.map h = some c) : X.map (fun s => (f s, g s, h s)) = some (a, b, c) := by
  cases X with
  | none => cases h1
  | some x => rw [Option.some.inj h1.symm, Option.some.inj h2.symm, Option.some.inj h3.symm]; rfl
theorem run (w : World) : HandSHeadRun.RunEqI R (PySem.W.view R.prog [0, 69]) hook ob 4000 names w := by
  unfold HandSHeadRun.RunEqI
  refine run3 ?_ ?_ ?_
  · kernel_rfl
  · kernel_rfl
  · kernel_rfl
end Pk27h
section
/-! MiC: what the small language's values, stores, names stand for; the readings that its interpreter gives. -/
namespace Mi
open PySem PySem.Spec PyProof.Rows L2

/-! ### what stands for what -/
/-- where the lists of the store stand; lists that nothing refers to -/
structure Rg where
  l : List Addr
  p : List Addr
instance : Membership Addr Rg := ⟨fun r a => a ∈ r.l ∨ a ∈ r.p⟩
theorem Rg.out {r : Rg} {a : Addr} (h : a ∉ r) : a ∉ r.l := fun q => h (.inl q)
/-- a list stands there; a dict -/
def LstH (H : Hp) (a : Addr) : Prop := ∃ xs, H a = some (.lst xs)
def DctAt (H : Hp) (a : Addr) : Prop := ∃ kvs, H a = some (.dK kvs)
def ObjAt (H : Hp) (a C : Addr) : Prop := ∃ dx fs, H a = some (.ins C dx fs)
def Mb (H : Hp) (a : Addr) : Prop := LstH H a ∨ DctAt H a ∨ ∃ C, ObjAt H a C
theorem LstH.mb {H : Hp} {a : Addr} (h : LstH H a) : Mb H a := .inl h
theorem Mb.some_ {H : Hp} {a : Addr} (h : Mb H a) : ∃ o, H a = some o := by
  rcases h with ⟨x, e⟩ | ⟨x, e⟩ | ⟨C, dx, fs, e⟩ <;> exact ⟨_, e⟩
theorem Mb.upd {H : Hp} {a b : Addr} {o : HO} (h : Mb H b) (n : b ≠ a) : Mb (upd H a o) b := by
  rcases h with ⟨x, e⟩ | ⟨x, e⟩ | ⟨C, dx, fs, e⟩
  · exact .inl ⟨x, by rw [upd_ne n]; exact e⟩
  · exact .inr (.inl ⟨x, by rw [upd_ne n]; exact e⟩)
  · exact .inr (.inr ⟨C, dx, fs, by rw [upd_ne n]; exact e⟩)
theorem Mb.ne {H : Hp} {a b : Addr} (h : Mb H b) (n : H a = none) : b ≠ a := fun z => by
  obtain ⟨o, e⟩ := h.some_
  rw [z, n] at e; cases e
theorem Mb.same {H H' : Hp} {b : Addr} (h : Mb H b) (s : ∀ o, H b = some o → H' b = some o) : Mb H' b := by
  rcases h with ⟨x, e⟩ | ⟨x, e⟩ | ⟨C, dx, fs, e⟩
  · exact .inl ⟨x, s _ e⟩
  · exact .inr (.inl ⟨x, s _ e⟩)
  · exact .inr (.inr ⟨C, dx, fs, s _ e⟩)
/-- of one kind -/
structure SameK (o u : HO) : Prop where
  l : ∀ xs, o = .lst xs → ∃ ys, u = .lst ys
  d : ∀ xs, o = .dK xs → ∃ ys, u = .dK ys
  i : ∀ C dx fs, o = .ins C dx fs → ∃ gs, u = .ins C dx gs
theorem SameK.refl (o : HO) : SameK o o := ⟨fun xs e => ⟨xs, e⟩, fun xs e => ⟨xs, e⟩, fun C dx fs e => ⟨fs, e⟩⟩
theorem SameK.trans {o u w : HO} (h : SameK o u) (k : SameK u w) : SameK o w := ⟨fun xs e => let ⟨ys, f⟩ := h.l xs e; k.l ys f, fun xs e => let ⟨ys, f⟩ := h.d xs e; k.d ys f, fun C dx xs e => let ⟨ys, f⟩ := h.i C dx xs e; k.i C dx ys f⟩
theorem SameK.lst {xs ys : List V} : SameK (.lst xs) (.lst ys) := ⟨fun _ _ => ⟨ys, rfl⟩, (fun _ e => by cases e), fun _ _ _ e => by cases e⟩
theorem SameK.dK {xs ys : List (Key × V)} : SameK (.dK xs) (.dK ys) := ⟨(fun _ e => by cases e), fun _ _ => ⟨ys, rfl⟩, fun _ _ _ e => by cases e⟩
theorem SameK.ins {C dx : Addr} {xs ys : List (Str × V)} : SameK (.ins C dx xs) (.ins C dx ys) := ⟨(fun _ e => by cases e), (fun _ e => by cases e), fun _ _ _ e => by cases e; exact ⟨ys, rfl⟩⟩
/-- what is known of an own class -/
structure ObK (K : PySem.W.Frag) (C : Addr) : Prop where
  cl : Cls K C
  ha : PySem.W.findIn K (.ref C) "__class__" = some (some (.builtin "object.__class__"))
  hn : PySem.W.specialIn K (.builtin "object.__class__") "__get__" = some (some (.builtin "getset_descriptor.__get__"))
  htk : PySem.W.takesIn K (.builtin "object.__class__") = some true
  hm : PySem.W.mroIn K C (.type "object") = some true
  kt : ∀ t ∈ (["int", "bool", "str", "list", "tuple"] : List String), PySem.W.kitOne K (.ref C) (.type t) = some false
mutual
inductive Rep (K : PySem.W.Frag) (r : Rg) (H : Hp) : V → D → Prop
  | non : Rep K r H .non .non
  | bl (b : Bool) : Rep K r H (.bl b) (.bl b)
  | int (i : Int) : Rep K r H (.int i) (.int i)
  | str (x : Str) : Rep K r H (.str x) (.str x)
  | tup {a : Addr} {xs : List V} {ds : List D} : SqT K H a xs → Reps K r H xs ds → Rep K r H (.ref a) (.tup ds)
  | fl {a : Addr} {xs : List V} {ds : List D} : Rd H a (.lst xs) → a ∉ r → Reps K r H xs ds → Rep K r H (.ref a) (.fl ds)
  | ref {a : Addr} {n : Nat} : r.l[n]? = some a → LstH H a → Rep K r H (.ref a) (.ref n)
  | dct {a : Addr} {n : Nat} : r.l[n]? = some a → DctAt H a → Rep K r H (.ref a) (.dct n)
  | obj {a : Addr} {n : Nat} {c : Str} : r.l[n]? = some a → ObjAt H a (He.ga K c) → ObK K (He.ga K c) → Rep K r H (.ref a) (.obj c n)
inductive Reps (K : PySem.W.Frag) (r : Rg) (H : Hp) : List V → List D → Prop
  | nil : Reps K r H [] []
  | cons {v : V} {vs : List V} {d : D} {ds : List D} : Rep K r H v d → Reps K r H vs ds → Reps K r H (v :: vs) (d :: ds)
end
/-- a dict's pairs -/
inductive RepKV (K : PySem.W.Frag) (r : Rg) (H : Hp) : List (Key × V) → List D → Prop
  | nil : RepKV K r H [] []
  | cons {i : Int} {v : V} {kvs : List (Key × V)} {d : D} {ds : List D} : Rep K r H v d → RepKV K r H kvs ds → RepKV K r H ((.inl i, v) :: kvs) (.tup [.int i, d] :: ds)
/-- an object's attributes -/
inductive RepF (K : PySem.W.Frag) (r : Rg) (H : Hp) : List (Str × V) → List D → Prop
  | nil : RepF K r H [] []
  | cons {f : Str} {v : V} {fs : List (Str × V)} {d : D} {ds : List D} : Rep K r H v d → RepF K r H fs ds → RepF K r H ((f, v) :: fs) (.tup [.str f, d] :: ds)
/-- what stands in the store there: a list, a dict, an object -/
def Cel (K : PySem.W.Frag) (r : Rg) (H : Hp) (a : Addr) (xs : List D) : Prop := (∃ vs, H a = some (.lst vs) ∧ Reps K r H vs xs) ∨ (∃ kvs, H a = some (.dK kvs) ∧ RepKV K r H kvs xs) ∨ ∃ C dx fs, H a = some (.ins C dx fs) ∧ RepF K r H fs xs
theorem Cel.mb {K : PySem.W.Frag} {r : Rg} {H : Hp} {a : Addr} {xs : List D} (h : Cel K r H a xs) : Mb H a := by
  rcases h with ⟨x, e, _⟩ | ⟨x, e, _⟩ | ⟨C, dx, x, e, _⟩
  · exact .inl ⟨x, e⟩
  · exact .inr (.inl ⟨x, e⟩)
  · exact .inr (.inr ⟨C, dx, x, e⟩)
/-- behind: more lists, what was tracked and no list of the store is as it was -/
structure Ext (r : Rg) (H : Hp) (r' : Rg) (H' : Hp) : Prop where
  pre : ∃ more, r' = ⟨r.l ++ more, r.p⟩ ∧ ∀ a ∈ more, H a = none
  same : ∀ a o, H a = some o → a ∉ r.l → H' a = some o
  there : ∀ a o, H a = some o → ∃ o', H' a = some o' ∧ SameK o o'
/-- the store -/
structure RelH (K : PySem.W.Frag) (r : Rg) (st : Sto) (H : Hp) : Prop where
  nd : r.l.Nodup
  len : r.l.length = st.length
  hid : ∀ a ∈ r.p, a ∉ r.l ∧ Mb H a
  any : ∀ (n : Nat) (xs : List D), st[n]? = some xs → ∃ a : Addr, r.l[n]? = some a ∧ Cel K r H a xs
/-- the names -/
structure RelE (K : PySem.W.Frag) (r : Rg) (H : Hp) (env : Env) (σ : L2.St) : Prop where
  len : env.length = σ.length
  has : ∀ (i : Nat) (d : D), env[i]? = some (some d) → ∃ v, σ[i]? = some (some v) ∧ Rep K r H v d

section
variable {K : PySem.W.Frag} {r r' r'' : Rg} {H H' H'' : Hp} {st : Sto} {v : V} {d : D} {vs : List V} {ds : List D} {env : Env} {σ : L2.St}
theorem Ext.refl : Ext r H r H := ⟨⟨[], by simp, fun _ h => nomatch h⟩, fun _ _ h _ => h, fun _ o h => ⟨o, h, .refl o⟩⟩
theorem Ext.trans (e : Ext r H r' H') (f : Ext r' H' r'' H'') : Ext r H r'' H'' := by
  obtain ⟨⟨m1, e1, n1⟩, s1, t1⟩ := e
  obtain ⟨⟨m2, e2, n2⟩, s2, t2⟩ := f
  subst e1
  subst e2
  refine ⟨⟨m1 ++ m2, by simp [List.append_assoc], fun a ha => ?_⟩, fun a o h hn => ?_, fun a o h => ?_⟩
  · rcases List.mem_append.mp ha with h | h
    · exact n1 a h
    · have := n2 a h
      cases q : H a with
      | none => rfl
      | some o =>
        obtain ⟨o', q', _⟩ := t1 a o q
        rw [q'] at this; cases this
  · refine s2 a o (s1 a o h hn) fun hr => ?_
    rcases List.mem_append.mp hr with q | q
    · exact hn q
    · rw [n1 a q] at h; cases h
  · obtain ⟨o', q', k1⟩ := t1 a o h
    obtain ⟨o2, q2, k2⟩ := t2 a o' q'
    exact ⟨o2, q2, k1.trans k2⟩
theorem Ext.lst (e : Ext r H r' H') {a : Addr} (h : LstH H a) : LstH H' a := by
  obtain ⟨xs, h⟩ := h
  obtain ⟨o, q, k⟩ := e.there a _ h
  obtain ⟨ys, z⟩ := k.l xs rfl
  exact ⟨ys, by rw [q, z]⟩
theorem Ext.dct (e : Ext r H r' H') {a : Addr} (h : DctAt H a) : DctAt H' a := by
  obtain ⟨xs, h⟩ := h
  obtain ⟨o, q, k⟩ := e.there a _ h
  obtain ⟨ys, z⟩ := k.d xs rfl
  exact ⟨ys, by rw [q, z]⟩
theorem Ext.obj (e : Ext r H r' H') {a C : Addr} (h : ObjAt H a C) : ObjAt H' a C := by
  obtain ⟨dx, fs, h⟩ := h
  obtain ⟨o, q, k⟩ := e.there a _ h
  obtain ⟨ys, z⟩ := k.i C dx fs rfl
  exact ⟨dx, ys, by rw [q, z]⟩
/-- a list of the store -/
theorem RelH.has (R : RelH K r st H) (n : Nat) (xs : List D) (h : st[n]? = some xs) {a : Addr} (ha : r.l[n]? = some a) (hk : LstH H a) : ∃ (a : Addr) (vs : List V), r.l[n]? = some a ∧ H a = some (.lst vs) ∧ Reps K r H vs xs := by
  obtain ⟨b, h1, h2⟩ := R.any n xs h
  rw [ha] at h1; cases h1
  rcases h2 with ⟨vs, e, q⟩ | ⟨kvs, e, _⟩ | ⟨C, dx, fs, e, _⟩
  · exact ⟨a, vs, ha, e, q⟩
  · obtain ⟨ys, z⟩ := hk
    rw [e] at z; cases z
  · obtain ⟨ys, z⟩ := hk
    rw [e] at z; cases z
/-- a dict of the store -/
theorem RelH.dic (R : RelH K r st H) (n : Nat) (xs : List D) (h : st[n]? = some xs) {a : Addr} (ha : r.l[n]? = some a) (hk : DctAt H a) : ∃ kvs, H a = some (.dK kvs) ∧ RepKV K r H kvs xs := by
  obtain ⟨b, h1, h2⟩ := R.any n xs h
  rw [ha] at h1; cases h1
  rcases h2 with ⟨vs, e, q⟩ | ⟨kvs, e, q⟩ | ⟨C, dx, fs, e, _⟩
  · obtain ⟨ys, z⟩ := hk
    rw [e] at z; cases z
  · exact ⟨kvs, e, q⟩
  · obtain ⟨ys, z⟩ := hk
    rw [e] at z; cases z
/-- an object of the store -/
theorem RelH.ins (R : RelH K r st H) (n : Nat) (xs : List D) (h : st[n]? = some xs) {a C : Addr} (ha : r.l[n]? = some a) (hk : ObjAt H a C) : ∃ dx fs, H a = some (.ins C dx fs) ∧ RepF K r H fs xs := by
  obtain ⟨b, h1, h2⟩ := R.any n xs h
  rw [ha] at h1; cases h1
  rcases h2 with ⟨vs, e, q⟩ | ⟨kvs, e, q⟩ | ⟨C2, dx, fs, e, q⟩
  · obtain ⟨_, ys, z⟩ := hk
    rw [e] at z; cases z
  · obtain ⟨_, ys, z⟩ := hk
    rw [e] at z; cases z
  · obtain ⟨_, ys, z⟩ := hk
    rw [e] at z; cases z
    exact ⟨_, _, e, q⟩
theorem RelH.memL (R : RelH K r st H) {a : Addr} (h : a ∈ r.l) : Mb H a := by
  obtain ⟨n, hn, e⟩ := List.mem_iff_getElem.mp h
  have hn' : n < st.length := by rw [← R.len]; exact hn
  obtain ⟨b, e1, e2⟩ := R.any n st[n] (List.getElem?_eq_getElem hn')
  rw [List.getElem?_eq_getElem hn, e] at e1
  cases e1
  exact e2.mb
theorem RelH.mem (R : RelH K r st H) {a : Addr} (h : a ∈ r) : Mb H a := by
  rcases h with h | h
  · exact R.memL h
  · exact (R.hid a h).2
theorem RelH.notin (R : RelH K r st H) {a : Addr} {xs : List V} (h : H a = some (.tup xs)) : a ∉ r := fun q => by
  rcases R.mem q with ⟨ys, e⟩ | ⟨ys, e⟩ | ⟨_, _, ys, e⟩ <;> (rw [h] at e; cases e)
theorem RelH.notfr (R : RelH K r st H) {a : Addr} {o : Obj} {u : HO} (h : H a = some (.frz o u)) : a ∉ r := fun q => by
  rcases R.mem q with ⟨ys, e⟩ | ⟨ys, e⟩ | ⟨_, _, ys, e⟩ <;> (rw [h] at e; cases e)
theorem RelH.fresh (R : RelH K r st H) {a : Addr} (h : H a = none) : a ∉ r := fun q => by
  rcases R.mem q with ⟨ys, e⟩ | ⟨ys, e⟩ | ⟨_, _, ys, e⟩ <;> (rw [h] at e; cases e)
theorem Ext.sqt (e : Ext r H r' H') (R : RelH K r st H) {a : Addr} {xs : List V} (h : SqT K H a xs) : SqT K H' a xs := by
  rcases h with (h | ⟨o, h⟩) | h
  · exact .inl (.inl (e.same _ _ h (Rg.out (R.notin h))))
  · exact .inl (.inr ⟨o, e.same _ _ h (Rg.out (R.notfr h))⟩)
  · exact .inr h
theorem Ext.rd (e : Ext r H r' H') {a : Addr} {u : HO} (h : Rd H a u) (hn : a ∉ r) : Rd H' a u := by
  rcases h with h | ⟨o, h⟩
  · exact .inl (e.same _ _ h (Rg.out hn))
  · exact .inr ⟨o, e.same _ _ h (Rg.out hn)⟩
theorem Ext.notin (e : Ext r H r' H') {a : Addr} {u : HO} (h : Rd H a u) (hn : a ∉ r) : a ∉ r' := by
  obtain ⟨m, e1, n1⟩ := e.pre
  subst e1
  intro q
  rcases q with q | q
  · rcases List.mem_append.mp q with q | q
    · exact hn (.inl q)
    · have := n1 a q
      rcases h with h | ⟨o, h⟩ <;> rw [this] at h <;> cases h
  · exact hn (.inr q)
theorem Ext.get (e : Ext r H r' H') {n : Nat} {a : Addr} (h : r.l[n]? = some a) : r'.l[n]? = some a := by
  obtain ⟨m, e1, _⟩ := e.pre
  subst e1
  show (r.l ++ m)[n]? = some a
  rw [List.getElem?_append_left (List.getElem?_eq_some_iff.mp h).1, h]
mutual
theorem Rep.ext (e : Ext r H r' H') (R : RelH K r st H) : ∀ {v : V} {d : D}, Rep K r H v d → Rep K r' H' v d
  | _, _, .non => .non
  | _, _, .bl b => .bl b
  | _, _, .int i => .int i
  | _, _, .str x => .str x
  | _, _, .tup h q => .tup (e.sqt R h) (Reps.ext e R q)
  | _, _, .fl h n q => .fl (e.rd h n) (e.notin h n) (Reps.ext e R q)
  | _, _, .ref h k => .ref (e.get h) (e.lst k)
  | _, _, .dct h k => .dct (e.get h) (e.dct k)
  | _, _, .obj h k o => .obj (e.get h) (e.obj k) o
theorem Reps.ext (e : Ext r H r' H') (R : RelH K r st H) : ∀ {vs : List V} {ds : List D}, Reps K r H vs ds → Reps K r' H' vs ds
  | _, _, .nil => .nil
  | _, _, .cons p q => .cons (Rep.ext e R p) (Reps.ext e R q)
end
theorem RepKV.ext (e : Ext r H r' H') (R : RelH K r st H) : ∀ {kvs : List (Key × V)} {ds : List D}, RepKV K r H kvs ds → RepKV K r' H' kvs ds
  | _, _, .nil => .nil
  | _, _, .cons p q => .cons (p.ext e R) (RepKV.ext e R q)
theorem RepF.ext (e : Ext r H r' H') (R : RelH K r st H) : ∀ {kvs : List (Str × V)} {ds : List D}, RepF K r H kvs ds → RepF K r' H' kvs ds
  | _, _, .nil => .nil
  | _, _, .cons p q => .cons (p.ext e R) (RepF.ext e R q)
theorem Cel.ext (e : Ext r H r' H') (R : RelH K r st H) {a : Addr} {xs : List D} (h : Cel K r H a xs) (s : ∀ o, H a = some o → H' a = some o) : Cel K r' H' a xs := by
  rcases h with ⟨vs, h1, h2⟩ | ⟨vs, h1, h2⟩ | ⟨C, dx, vs, h1, h2⟩
  · exact .inl ⟨vs, s _ h1, h2.ext e R⟩
  · exact .inr (.inl ⟨vs, s _ h1, h2.ext e R⟩)
  · exact .inr (.inr ⟨C, dx, vs, s _ h1, h2.ext e R⟩)
theorem RelE.ext (e : Ext r H r' H') (R : RelH K r st H) (h : RelE K r H env σ) : RelE K r' H' env σ :=
  ⟨h.len, fun i d q => let ⟨v, a, b⟩ := h.has i d q; ⟨v, a, b.ext e R⟩⟩
theorem Reps.len : ∀ {vs : List V} {ds : List D}, Reps K r H vs ds → vs.length = ds.length
  | _, _, .nil => rfl
  | _, _, .cons _ q => congrArg (· + 1) (Reps.len q)
theorem Reps.get : ∀ {vs : List V} {ds : List D} {i : Nat} {d : D}, Reps K r H vs ds → ds[i]? = some d → ∃ v, vs[i]? = some v ∧ Rep K r H v d
  | _, _, _, _, .nil, e => by simp at e
  | _, _, 0, _, .cons p _, e => by simp at e; subst e; exact ⟨_, rfl, p⟩
  | _, _, i + 1, _, .cons _ q, e => by simpa using Reps.get (i := i) q (by simpa using e)
theorem Reps.getv : ∀ {vs : List V} {ds : List D} {i : Nat} {v : V}, Reps K r H vs ds → vs[i]? = some v → ∃ d, ds[i]? = some d ∧ Rep K r H v d
  | _, _, _, _, .nil, e => by simp at e
  | _, _, 0, _, .cons p _, e => by simp at e; subst e; exact ⟨_, rfl, p⟩
  | _, _, i + 1, _, .cons _ q, e => by simpa using Reps.getv (i := i) q (by simpa using e)
theorem Reps.append : ∀ {vs ws : List V} {ds es : List D}, Reps K r H vs ds → Reps K r H ws es → Reps K r H (vs ++ ws) (ds ++ es)
  | _, _, _, _, .nil, q => q
  | _, _, _, _, .cons p t, q => .cons p (Reps.append t q)
theorem Reps.take : ∀ {vs : List V} {ds : List D} (n : Nat), Reps K r H vs ds → Reps K r H (vs.take n) (ds.take n)
  | _, _, 0, _ => .nil
  | _, _, _ + 1, .nil => .nil
  | _, _, n + 1, .cons p t => .cons p (Reps.take n t)
theorem Reps.drop : ∀ {vs : List V} {ds : List D} (n : Nat), Reps K r H vs ds → Reps K r H (vs.drop n) (ds.drop n)
  | _, _, 0, q => q
  | _, _, _ + 1, .nil => .nil
  | _, _, n + 1, .cons _ t => Reps.drop n t
theorem Reps.set {v : V} {d : D} (p : Rep K r H v d) : ∀ {vs : List V} {ds : List D} (i : Nat), Reps K r H vs ds → Reps K r H (vs.set i v) (ds.set i d)
  | _, _, _, .nil => .nil
  | _, _, 0, .cons _ t => .cons p t
  | _, _, i + 1, .cons q t => .cons q (Reps.set p i t)
theorem Reps.erase : ∀ {vs : List V} {ds : List D} (i : Nat), Reps K r H vs ds → Reps K r H (vs.eraseIdx i) (ds.eraseIdx i)
  | _, _, _, .nil => .nil
  | _, _, 0, .cons _ t => t
  | _, _, i + 1, .cons q t => .cons q (Reps.erase i t)
theorem Reps.dropLast : ∀ {vs : List V} {ds : List D}, Reps K r H vs ds → Reps K r H vs.dropLast ds.dropLast
  | _, _, .nil => .nil
  | _, _, .cons _ .nil => .nil
  | _, _, .cons p (.cons q t) => .cons p (Reps.dropLast (.cons q t))
theorem Reps.rep {vs : List V} {ds : List D} (h : Reps K r H vs ds) : ∀ k : Nat, Reps K r H (List.replicate k vs).flatten (List.replicate k ds).flatten
  | 0 => .nil
  | k + 1 => by
    rw [List.replicate_succ, List.replicate_succ, List.flatten_cons, List.flatten_cons]
    exact h.append (Reps.rep h k)
/-- a new object that is no list of the store -/
theorem Ext.new {a : Addr} {o : HO} (h : H a = none) : Ext r H r (upd H a o) :=
  ⟨⟨[], by simp, fun _ q => nomatch q⟩, fun b u q _ => by rw [upd_ne (ne_of_none q h)]; exact q, fun b u q => ⟨u, by rw [upd_ne (ne_of_none q h)]; exact q, .refl u⟩⟩
theorem RelH.ext_new (R : RelH K r st H) {a : Addr} {o : HO} (h : H a = none) : RelH K r st (upd H a o) :=
  ⟨R.nd, R.len, fun b hb => ⟨(R.hid b hb).1, (R.hid b hb).2.upd ((R.hid b hb).2.ne h)⟩, fun n xs e => let ⟨b, h1, h2⟩ := R.any n xs e; ⟨b, h1, h2.ext (Ext.new h) R fun o q => by rw [upd_ne (ne_of_none q h)]; exact q⟩⟩
/-- a new list of the store -/
def Rg.add (r : Rg) (a : Addr) : Rg := ⟨r.l ++ [a], r.p⟩
theorem Ext.newL {a : Addr} {o : HO} (h : H a = none) : Ext r H (r.add a) (upd H a o) :=
  ⟨⟨[a], rfl, fun b q => by simp at q; subst q; exact h⟩, fun b u q _ => by rw [upd_ne (ne_of_none q h)]; exact q, fun b u q => ⟨u, by rw [upd_ne (ne_of_none q h)]; exact q, .refl u⟩⟩
theorem RelH.newC (R : RelH K r st H) {a : Addr} {o : HO} {ds : List D} (h : H a = none) (q : Cel K (r.add a) (upd H a o) a ds) : RelH K (r.add a) (st ++ [ds]) (upd H a o) := by
  have hn : a ∉ r.l := Rg.out (R.fresh h)
  refine ⟨?_, by simp [R.len, Rg.add], fun b hb => ?_, fun n ys e => ?_⟩
  · show (r.l ++ [a]).Nodup
    rw [List.nodup_append]
    refine ⟨R.nd, by simp, fun b hb c hc z => ?_⟩
    simp at hc
    subst hc z
    exact hn hb
  · obtain ⟨h1, h2⟩ := R.hid b hb
    have hne := h2.ne h
    refine ⟨fun m => ?_, h2.upd hne⟩
    rcases List.mem_append.mp m with m | m
    · exact h1 m
    · simp at m; exact hne m
  · by_cases hl : n < st.length
    · rw [List.getElem?_append_left hl] at e
      obtain ⟨b, h1, h2⟩ := R.any n ys e
      exact ⟨b, by show (r.l ++ [a])[n]? = _; rw [List.getElem?_append_left (by rw [R.len]; exact hl)]; exact h1, h2.ext (Ext.newL h) R fun o q => by rw [upd_ne (ne_of_none q h)]; exact q⟩
    · have hle : n < (st ++ [ds]).length := (List.getElem?_eq_some_iff.mp e).1
      have hn' : n = st.length := by rw [List.length_append] at hle; simp at hle; omega
      subst hn'
      rw [List.getElem?_concat_length] at e
      cases e
      exact ⟨a, by show (r.l ++ [a])[st.length]? = _; rw [← R.len, List.getElem?_concat_length], q⟩
theorem RelH.newL (R : RelH K r st H) {a : Addr} {xs : List V} {ds : List D} (h : H a = none) (q : Reps K r H xs ds) : RelH K (r.add a) (st ++ [ds]) (upd H a (.lst xs)) :=
  R.newC h (.inl ⟨xs, upd_same, q.ext (Ext.newL h) R⟩)
theorem Rg.last {r : Rg} {a : Addr} (R : RelH K r st H) : (r.add a).l[st.length]? = some a := by
  show (r.l ++ [a])[st.length]? = _
  rw [← R.len, List.getElem?_concat_length]
/-- a list of the store is written -/
theorem Ext.write {n : Nat} {a : Addr} {o : HO} (h : r.l[n]? = some a) (hk : ∀ u, H a = some u → SameK u o) : Ext r H r (upd H a o) := by
  have hm : a ∈ r.l := List.mem_of_getElem? h
  refine ⟨⟨[], by simp, fun _ q => nomatch q⟩, fun b u q hn => ?_, fun b u q => ?_⟩
  · rw [upd_ne (fun z => hn (by rw [z]; exact hm))]; exact q
  · by_cases z : b = a
    · subst z; exact ⟨o, upd_same, hk u q⟩
    · exact ⟨u, by rw [upd_ne z]; exact q, .refl u⟩
theorem LstH.same {a : Addr} {xs : List V} (h : LstH H a) : ∀ u, H a = some u → SameK u (.lst xs) := fun u q => by
  obtain ⟨ys, e⟩ := h
  rw [e] at q; cases q
  exact .lst
theorem DctAt.same {a : Addr} {xs : List (Key × V)} (h : DctAt H a) : ∀ u, H a = some u → SameK u (.dK xs) := fun u q => by
  obtain ⟨ys, e⟩ := h
  rw [e] at q; cases q
  exact .dK
theorem RelH.writeC (R : RelH K r st H) {n : Nat} {a : Addr} {o : HO} {ds : List D} (h : r.l[n]? = some a) (hk : ∀ u, H a = some u → SameK u o) (q : Cel K r (upd H a o) a ds) : RelH K r (st.set n ds) (upd H a o) := by
  have hx : Ext r H r (upd H a o) := Ext.write h hk
  have hm : a ∈ r.l := List.mem_of_getElem? h
  refine ⟨R.nd, by simp [R.len], fun b hb => ?_, fun m ys e => ?_⟩
  · obtain ⟨h1, h2⟩ := R.hid b hb
    exact ⟨h1, h2.upd fun z => h1 (by rw [z]; exact hm)⟩
  by_cases hmn : m = n
  · subst hmn
    have hl : m < st.length := by rw [← R.len]; exact (List.getElem?_eq_some_iff.mp h).1
    rw [List.getElem?_set_self hl] at e
    cases e
    exact ⟨a, h, q⟩
  · rw [List.getElem?_set_ne (Ne.symm hmn)] at e
    obtain ⟨b, h1, h2⟩ := R.any m ys e
    have hne : b ≠ a := fun z => by
      subst z
      have l1 := (List.getElem?_eq_some_iff.mp h1)
      have l2 := (List.getElem?_eq_some_iff.mp h)
      obtain ⟨a1, b1⟩ := l1
      obtain ⟨a2, b2⟩ := l2
      exact hmn ((List.getElem_inj R.nd).mp (b1.trans b2.symm))
    exact ⟨b, h1, h2.ext hx R fun o q => by rw [upd_ne hne]; exact q⟩
theorem RelH.write (R : RelH K r st H) {n : Nat} {a : Addr} {xs : List V} {ds : List D} (h : r.l[n]? = some a) (hk : LstH H a) (q : Reps K r H xs ds) : RelH K r (st.set n ds) (upd H a (.lst xs)) :=
  R.writeC h hk.same (.inl ⟨xs, upd_same, q.ext (Ext.write h hk.same) R⟩)
/-! ### a list that nothing refers to -/
/-- later: nothing that a value stands on has changed -/
structure Fut (r : Rg) (H : Hp) (r' : Rg) (H' : Hp) : Prop where
  l : ∀ (n : Nat) (a : Addr), r.l[n]? = some a → r'.l[n]? = some a
  out : ∀ a u, Rd H a u → a ∉ r → a ∉ r'
  same : ∀ a o, H a = some o → a ∉ r → H' a = some o
  kk : ∀ a o, a ∈ r.l → H a = some o → ∃ o', H' a = some o' ∧ SameK o o'
theorem Fut.kl (e : Fut r H r' H') : ∀ a, a ∈ r.l → LstH H a → LstH H' a := fun a m h => by
  obtain ⟨xs, h⟩ := h
  obtain ⟨o, q, k⟩ := e.kk a _ m h
  obtain ⟨ys, z⟩ := k.l xs rfl
  exact ⟨ys, by rw [q, z]⟩
theorem Fut.kd (e : Fut r H r' H') : ∀ a, a ∈ r.l → DctAt H a → DctAt H' a := fun a m h => by
  obtain ⟨xs, h⟩ := h
  obtain ⟨o, q, k⟩ := e.kk a _ m h
  obtain ⟨ys, z⟩ := k.d xs rfl
  exact ⟨ys, by rw [q, z]⟩
theorem Fut.ko (e : Fut r H r' H') : ∀ a C, a ∈ r.l → ObjAt H a C → ObjAt H' a C := fun a C m h => by
  obtain ⟨dx, xs, h⟩ := h
  obtain ⟨o, q, k⟩ := e.kk a _ m h
  obtain ⟨ys, z⟩ := k.i C dx xs rfl
  exact ⟨dx, ys, by rw [q, z]⟩
theorem Ext.fut (e : Ext r H r' H') : Fut r H r' H' := ⟨fun _ _ h => e.get h, fun _ _ h n => e.notin h n, fun a o h n => e.same a o h (Rg.out n), fun a o _ h => e.there a o h⟩
theorem Fut.mem (e : Fut r H r' H') {a : Addr} (h : a ∈ r.l) : a ∈ r'.l := by
  obtain ⟨n, hn, q⟩ := List.mem_iff_getElem.mp h
  exact List.mem_of_getElem? (e.l n a (by rw [List.getElem?_eq_getElem hn, q]))
theorem Fut.trans (e : Fut r H r' H') (f : Fut r' H' r'' H'') : Fut r H r'' H'' :=
  ⟨fun n a h => f.l n a (e.l n a h), fun a u h n => f.out a u (by
    rcases h with h | ⟨o, h⟩
    · exact .inl (e.same _ _ h n)
    · exact .inr ⟨o, e.same _ _ h n⟩) (e.out a u h n), fun a o h n => f.same a o (e.same a o h n) (e.out a o (.inl h) n), fun a o m h => let ⟨o1, h1, k1⟩ := e.kk a o m h; let ⟨o2, h2, k2⟩ := f.kk a o1 (e.mem m) h1; ⟨o2, h2, k1.trans k2⟩⟩
mutual
theorem Rep.keep (e : Fut r H r' H') (R : RelH K r st H) : ∀ {v : V} {d : D}, Rep K r H v d → Rep K r' H' v d
  | _, _, .non => .non
  | _, _, .bl b => .bl b
  | _, _, .int i => .int i
  | _, _, .str x => .str x
  | _, _, .tup h q => .tup (by
      rcases h with (h | ⟨o, h⟩) | h
      · exact .inl (.inl (e.same _ _ h (R.notin h)))
      · exact .inl (.inr ⟨o, e.same _ _ h (R.notfr h)⟩)
      · exact .inr h) (Reps.keep e R q)
  | _, _, .fl h n q => .fl (by
      rcases h with h | ⟨o, h⟩
      · exact .inl (e.same _ _ h n)
      · exact .inr ⟨o, e.same _ _ h n⟩) (e.out _ _ h n) (Reps.keep e R q)
  | _, _, .ref h k => .ref (e.l _ _ h) (e.kl _ (List.mem_of_getElem? h) k)
  | _, _, .dct h k => .dct (e.l _ _ h) (e.kd _ (List.mem_of_getElem? h) k)
  | _, _, .obj h k o => .obj (e.l _ _ h) (e.ko _ _ (List.mem_of_getElem? h) k) o
theorem Reps.keep (e : Fut r H r' H') (R : RelH K r st H) : ∀ {vs : List V} {ds : List D}, Reps K r H vs ds → Reps K r' H' vs ds
  | _, _, .nil => .nil
  | _, _, .cons p q => .cons (Rep.keep e R p) (Reps.keep e R q)
end
theorem RepKV.keep (e : Fut r H r' H') (R : RelH K r st H) : ∀ {kvs : List (Key × V)} {ds : List D}, RepKV K r H kvs ds → RepKV K r' H' kvs ds
  | _, _, .nil => .nil
  | _, _, .cons p q => .cons (p.keep e R) (RepKV.keep e R q)
theorem RepF.keep (e : Fut r H r' H') (R : RelH K r st H) : ∀ {kvs : List (Str × V)} {ds : List D}, RepF K r H kvs ds → RepF K r' H' kvs ds
  | _, _, .nil => .nil
  | _, _, .cons p q => .cons (p.keep e R) (RepF.keep e R q)
theorem Cel.keep (e : Fut r H r' H') (R : RelH K r st H) {a : Addr} {xs : List D} (h : Cel K r H a xs) (s : ∀ o, H a = some o → H' a = some o) : Cel K r' H' a xs := by
  rcases h with ⟨vs, h1, h2⟩ | ⟨vs, h1, h2⟩ | ⟨C, dx, vs, h1, h2⟩
  · exact .inl ⟨vs, s _ h1, h2.keep e R⟩
  · exact .inr (.inl ⟨vs, s _ h1, h2.keep e R⟩)
  · exact .inr (.inr ⟨C, dx, vs, s _ h1, h2.keep e R⟩)
theorem RelE.keep (e : Fut r H r' H') (R : RelH K r st H) (h : RelE K r H env σ) : RelE K r' H' env σ :=
  ⟨h.len, fun i d q => let ⟨v, a, b⟩ := h.has i d q; ⟨v, a, b.keep e R⟩⟩
theorem RelH.keep (e : Fut r H r' H') (R : RelH K r st H) (hl : r'.l = r.l) (hs : ∀ a o, a ∈ r.l → H a = some o → H' a = some o) (hid : ∀ a ∈ r'.p, a ∉ r'.l ∧ Mb H' a) : RelH K r' st H' :=
  ⟨by rw [hl]; exact R.nd, by rw [hl]; exact R.len, hid, fun n xs h => let ⟨a, h1, h2⟩ := R.any n xs h; ⟨a, e.l _ _ h1, h2.keep e R (hs a · (List.mem_of_getElem? h1))⟩⟩
/-- such a list begins -/
def Rg.hide (r : Rg) (a : Addr) : Rg := ⟨r.l, a :: r.p⟩
theorem Fut.hide {a : Addr} {o : HO} (h : H a = none) : Fut r H (r.hide a) (upd H a o) :=
  ⟨fun _ _ q => q, fun b u hb n q => by
    rcases q with q | q
    · exact n (.inl q)
    · rcases List.mem_cons.mp q with q | q
      · rw [q] at hb
        rcases hb with hb | ⟨o, hb⟩ <;> rw [h] at hb <;> cases hb
      · exact n (.inr q), fun b u q _ => by rw [upd_ne (ne_of_none q h)]; exact q, fun b o _ q => ⟨o, by rw [upd_ne (ne_of_none q h)]; exact q, .refl o⟩⟩
theorem RelH.hide (R : RelH K r st H) {a : Addr} {xs : List V} (h : H a = none) : RelH K (r.hide a) st (upd H a (.lst xs)) :=
  R.keep (Fut.hide h) rfl (fun b o _ q => by rw [upd_ne (ne_of_none q h)]; exact q) fun b hb => by
    rcases List.mem_cons.mp hb with q | q
    · rw [q]; exact ⟨fun z => R.fresh h (.inl z), .inl ⟨xs, upd_same⟩⟩
    · obtain ⟨h1, h2⟩ := R.hid b q
      exact ⟨h1, h2.upd (h2.ne h)⟩
/-- .. is written -/
theorem Fut.wr {a : Addr} {o : HO} (h : a ∈ r.p) (hn : a ∉ r.l) : Fut r H r (upd H a o) :=
  ⟨fun _ _ q => q, fun _ _ _ n => n, fun b u q n => by rw [upd_ne (fun z => n (by rw [z]; exact .inr h))]; exact q, fun b o m q => ⟨o, by rw [upd_ne (fun z => hn (by rw [← z]; exact m))]; exact q, .refl o⟩⟩
theorem RelH.wrH (R : RelH K r st H) {a : Addr} {xs : List V} (h : a ∈ r.p) : RelH K r st (upd H a (.lst xs)) :=
  R.keep (Fut.wr h (R.hid a h).1) rfl (fun b o m q => by rw [upd_ne (fun z => (R.hid a h).1 (by rw [← z]; exact m))]; exact q) fun b hb => by
    obtain ⟨h1, h2⟩ := R.hid b hb
    by_cases z : b = a
    · subst z; exact ⟨h1, .inl ⟨xs, upd_same⟩⟩
    · exact ⟨h1, h2.upd z⟩
/-- .. is known from here on: by value -/
def Rg.show_ (r : Rg) : Rg := ⟨r.l, r.p.tail⟩
theorem Fut.show_ : Fut r H r.show_ H :=
  ⟨fun _ _ q => q, fun b u _ n q => by
    rcases q with q | q
    · exact n (.inl q)
    · exact n (.inr (List.mem_of_mem_tail q)), fun _ _ q _ => q, fun _ o _ q => ⟨o, q, .refl o⟩⟩
theorem RelH.show_ (R : RelH K r st H) : RelH K r.show_ st H :=
  R.keep Fut.show_ rfl (fun _ _ _ q => q) fun b hb => R.hid b (List.mem_of_mem_tail hb)
/-- .. as a list of the store -/
theorem Fut.adopt {a : Addr} (h : a ∈ r.p) : Fut r H (r.show_.add a) H :=
  ⟨fun n b q => by
    show (r.l ++ [a])[n]? = some b
    rw [List.getElem?_append_left (List.getElem?_eq_some_iff.mp q).1, q], fun b u _ n q => by
    rcases q with q | q
    · have q : b ∈ r.l ++ [a] := q
      rcases List.mem_append.mp q with q | q
      · exact n (.inl q)
      · simp at q; exact n (.inr (by rw [q]; exact h))
    · exact n (.inr (List.mem_of_mem_tail q)), fun _ _ q _ => q, fun _ o _ q => ⟨o, q, .refl o⟩⟩
theorem RelH.adopt (R : RelH K r st H) {a : Addr} {p : List Addr} {xs : List V} {ds : List D} (h : r.p = a :: p) (hn : a ∉ p) (ha : H a = some (.lst xs)) (q : Reps K r H xs ds) : RelH K (r.show_.add a) (st ++ [ds]) H := by
  have hm : a ∈ r.p := by rw [h]; exact List.mem_cons_self
  have f : Fut r H (r.show_.add a) H := Fut.adopt hm
  have hal := (R.hid a hm).1
  refine ⟨?_, by simp [R.len, Rg.add, Rg.show_], fun b hb => ?_, fun n ys e => ?_⟩
  · show (r.l ++ [a]).Nodup
    rw [List.nodup_append]
    refine ⟨R.nd, by simp, fun b hb c hc z => ?_⟩
    simp at hc
    subst hc z
    exact hal hb
  · have hb : b ∈ r.p.tail := hb
    obtain ⟨h1, h2⟩ := R.hid b (List.mem_of_mem_tail hb)
    refine ⟨fun m => ?_, h2⟩
    have m : b ∈ r.l ++ [a] := m
    rcases List.mem_append.mp m with m | m
    · exact h1 m
    · simp at m
      rw [h] at hb
      exact hn (by rw [← m]; exact hb)
  · by_cases hl : n < st.length
    · rw [List.getElem?_append_left hl] at e
      obtain ⟨b, h1, h2⟩ := R.any n ys e
      exact ⟨b, f.l _ _ h1, h2.keep f R fun o q => q⟩
    · have hle : n < (st ++ [ds]).length := (List.getElem?_eq_some_iff.mp e).1
      have hn' : n = st.length := by rw [List.length_append] at hle; simp at hle; omega
      subst hn'
      rw [List.getElem?_concat_length] at e
      cases e
      exact ⟨a, by show (r.l ++ [a])[st.length]? = _; rw [← R.len, List.getElem?_concat_length], .inl ⟨xs, ha, q.keep f R⟩⟩
/-- behind, the hidden list left out -/
theorem Ext.show_ (e : Ext r H r' H') : Ext r.show_ H r'.show_ H' := by
  obtain ⟨⟨m, e1, n1⟩, e2, e3⟩ := e
  subst e1
  exact ⟨⟨m, rfl, n1⟩, e2, e3⟩
theorem Ext.wrH {a : Addr} {o : HO} (e : Ext r H r' H') (h : H a = none) : Ext r H r' (upd H' a o) :=
  ⟨e.pre, fun b u q n => by rw [upd_ne (ne_of_none q h)]; exact e.same b u q n, fun b u q => by
    rw [upd_ne (ne_of_none q h)]; exact e.there b u q⟩
theorem Ext.adopt {a : Addr} (e : Ext r H r' H') (h : H a = none) : Ext r H (r'.add a) H' := by
  obtain ⟨⟨m, e1, n1⟩, e2, e3⟩ := e
  subst e1
  refine ⟨⟨m ++ [a], by simp [Rg.add, List.append_assoc], fun b hb => ?_⟩, e2, e3⟩
  rcases List.mem_append.mp hb with q | q
  · exact n1 b q
  · simp at q; rw [q]; exact h
theorem Ext.p (e : Ext r H r' H') : r'.p = r.p := by
  obtain ⟨⟨m, e1, n1⟩, e2, e3⟩ := e
  subst e1
  rfl
end

/-! ### what an interpreter's result asks of what follows -/
/-- classes of errors: where they stand, the name of their field -/
structure Kx where
  K : PySem.W.Frag
  ca : Nat → Addr
  cf : Nat → Str
  nc : Nat := 0
def RepX (k : Kx) (r : Rg) (H : Hp) (x : Xn) (c : Value) (dx : Option Addr) : Prop := x.c < k.nc ∧ c = .ref (k.ca x.c) ∧ match x.v with
  | none => dx = none
  | some d => ∃ a v, dx = some a ∧ H a = some (.xd [(k.cf x.c, v)]) ∧ Rep k.K r H v d
/-- the result o, begun at (r, H), then Q -/
def CP {α β : Type} (R : Rg → Hp → β → α → Prop) (k : Kx) (W : WX) (σ : L2.St) (r : Rg) (H : Hp) (o : Out α) (Q : β → Hp → Prop) : Prop := match o with
  | .ok d st => ∀ r' H' v, Ext r H r' H' → RelH k.K r' st H' → R r' H' v d → Q v H'
  | .exc x st => ∀ r' H' c dx, Ext r H r' H' → RelH k.K r' st H' → RepX k r' H' x c dx → W c dx σ H'
  | .bad => False
def CS (k : Kx) (W : WX) (r : Rg) (H : Hp) (o : SOut) (D : Ends) : Prop := match o with
  | .nxt env st => ∀ r' H' σ', Ext r H r' H' → RelH k.K r' st H' → RelE k.K r' H' env σ' → D.nx σ' H'
  | .ret d st => ∀ r' H' v, Ext r H r' H' → RelH k.K r' st H' → Rep k.K r' H' v d → D.rt v H'
  | .brk env st => ∀ r' H' σ', Ext r H r' H' → RelH k.K r' st H' → RelE k.K r' H' env σ' → D.bk σ' H'
  | .cnt env st => ∀ r' H' σ', Ext r H r' H' → RelH k.K r' st H' → RelE k.K r' H' env σ' → D.ct σ' H'
  | .exc x env st => ∀ r' H' σ' c dx, Ext r H r' H' → RelH k.K r' st H' → RelE k.K r' H' env σ' → RepX k r' H' x c dx → W c dx σ' H'
  | .bad => False
section
variable {α β γ δ : Type} {R : Rg → Hp → β → α → Prop} {R2 : Rg → Hp → δ → γ → Prop} {k : Kx} {W : WX} {σ : L2.St} {r r' : Rg} {H H' : Hp} {st : Sto} {env : Env}
theorem CP.mono {o : Out α} {Q : β → Hp → Prop} (h : CP R k W σ r H o Q) (e : Ext r H r' H') : CP R k W σ r' H' o Q := by
  cases o with
  | ok d st => exact fun r2 H2 v f a b => h r2 H2 v (e.trans f) a b
  | exc x st => exact fun r2 H2 c dx f a b => h r2 H2 c dx (e.trans f) a b
  | bad => exact h
theorem CS.mono {o : SOut} {D : Ends} (h : CS k W r H o D) (e : Ext r H r' H') : CS k W r' H' o D := by
  cases o with
  | nxt env st => exact fun r2 H2 s2 f a b => h r2 H2 s2 (e.trans f) a b
  | ret d st => exact fun r2 H2 v f a b => h r2 H2 v (e.trans f) a b
  | brk env st => exact fun r2 H2 s2 f a b => h r2 H2 s2 (e.trans f) a b
  | cnt env st => exact fun r2 H2 s2 f a b => h r2 H2 s2 (e.trans f) a b
  | exc x env st => exact fun r2 H2 s2 c dx f a b c2 => h r2 H2 s2 c dx (e.trans f) a b c2
  | bad => exact h
/-- the reading of f -/
def cr (R : Rg → Hp → β → α → Prop) (k : Kx) (W : WX) (f : Env → Sto → Out α) (σ : L2.St) (H : Hp) (Q : β → Hp → Prop) : Prop :=
  ∃ r env st, RelH k.K r st H ∧ RelE k.K r H env σ ∧ CP R k W σ r H (f env st) Q
def crS (k : Kx) (W : WX) (f : Env → Sto → SOut) : TS := fun D σ H => ∃ r env st, RelH k.K r st H ∧ RelE k.K r H env σ ∧ CS k W r H (f env st) D
/-- f first, then the rest -/
theorem cr_seq {f : Env → Sto → Out α} {g : α → Sto → Out γ} {Q : δ → Hp → Prop} {P : β → Hp → Prop} (hR : RelH k.K r st H) (hE : RelE k.K r H env σ) (hc : CP R2 k W σ r H ((f env st).bind g) Q)
    (next : ∀ d s1 r1 H1 v, Ext r H r1 H1 → RelH k.K r1 s1 H1 → RelE k.K r1 H1 env σ → R r1 H1 v d → CP R2 k W σ r1 H1 (g d s1) Q → P v H1) : cr R k W f σ H P := by
  refine ⟨r, env, st, hR, hE, ?_⟩
  cases e : f env st with
  | ok d s1 =>
    rw [e] at hc
    exact fun r1 H1 v x a b => next d s1 r1 H1 v x a (hE.ext x hR) b (CP.mono hc x)
  | exc x s1 => rw [e] at hc; exact hc
  | bad => rw [e] at hc; exact hc
theorem cs_seq {f : Env → Sto → Out α} {g : α → Sto → SOut} {D : Ends} {P : β → Hp → Prop} (hR : RelH k.K r st H) (hE : RelE k.K r H env σ) (hc : CS k W r H ((f env st).thn env g) D)
    (next : ∀ d s1 r1 H1 v, Ext r H r1 H1 → RelH k.K r1 s1 H1 → RelE k.K r1 H1 env σ → R r1 H1 v d → CS k W r1 H1 (g d s1) D → P v H1) : cr R k W f σ H P := by
  refine ⟨r, env, st, hR, hE, ?_⟩
  cases e : f env st with
  | ok d s1 =>
    rw [e] at hc
    exact fun r1 H1 v x a b => next d s1 r1 H1 v x a (hE.ext x hR) b (CS.mono hc x)
  | exc x s1 =>
    rw [e] at hc
    exact fun r1 H1 c dx y a b => hc r1 H1 σ c dx y a (hE.ext y hR) b
  | bad => rw [e] at hc; exact hc
/-- what is known at once -/
theorem CP.now {d : α} {v : β} {Q : β → Hp → Prop} (h : CP R k W σ r H (.ok d st) Q) (hR : RelH k.K r st H) (hv : R r H v d) : Q v H := h r H v Ext.refl hR hv
theorem CP.ofO {o : Option α} {Q : β → Hp → Prop} (h : CP R k W σ r H (ofO o st) Q) : ∃ d, o = some d ∧ CP R k W σ r H (.ok d st) Q := by
  cases o with
  | none => exact h.elim
  | some d => exact ⟨d, rfl, h⟩
end
abbrev RV (k : Kx) : Rg → Hp → V → D → Prop := fun r H v d => Rep k.K r H v d
abbrev RVs (k : Kx) : Rg → Hp → List V → List D → Prop := fun r H v d => Reps k.K r H v d
abbrev RB : Rg → Hp → Bool → Bool → Prop := fun _ _ a b => a = b
/-- a reading is weakened -/
theorem PEi {X : L2.Cx} {e : Expr} {t t' : TE} (h : PE X e t) (w : ∀ σ H Q, t' σ H Q → t σ H Q) : PE X e t' := ⟨fun pins s σ H Q I q => h.run pins s σ H Q I (w σ H Q q)⟩
theorem PTi {X : L2.Cx} {e : Expr} {t t' : TT} (h : PT X e t) (w : ∀ σ H Q, t' σ H Q → t σ H Q) : PT X e t' := ⟨fun pins s σ H Q I q => h.run pins s σ H Q I (w σ H Q q)⟩
theorem PAi {X : L2.Cx} {e : List Expr} {t t' : TA} (h : PA X e t) (w : ∀ σ H Q, t' σ H Q → t σ H Q) : PA X e t' := ⟨fun pos pins s σ H Q I q => h.run pos pins s σ H Q I (w σ H Q q)⟩
theorem PSi {X : L2.Cx} {e : Stmt} {t t' : TS} (h : PS X e t) (w : ∀ D σ H, t' D σ H → t D σ H) : PS X e t' := ⟨fun pins s σ H D I q => h.run pins s σ H D I (w D σ H q)⟩
theorem PSsi {X : L2.Cx} {e : List Stmt} {t t' : TS} (h : PSs X e t) (w : ∀ D σ H, t' D σ H → t D σ H) : PSs X e t' := ⟨fun pins s σ H D I q => h.run pins s σ H D I (w D σ H q)⟩
/-- e computes f -/
abbrev IE (X : L2.Cx) (k : Kx) (W : WX) (e : Expr) (f : Env → Sto → Out D) : Prop := PE X e (cr (RV k) k W f)
abbrev IT (X : L2.Cx) (k : Kx) (W : WX) (e : Expr) (f : Env → Sto → Out Bool) : Prop := PT X e (cr RB k W f)
abbrev IA (X : L2.Cx) (k : Kx) (W : WX) (es : List Expr) (f : Env → Sto → Out (List D)) : Prop := PA X es (cr (RVs k) k W f)
abbrev IS (X : L2.Cx) (k : Kx) (W : WX) (s : Stmt) (f : Env → Sto → SOut) : Prop := PS X s (crS k W f)
abbrev ISs (X : L2.Cx) (k : Kx) (W : WX) (s : List Stmt) (f : Env → Sto → SOut) : Prop := PSs X s (crS k W f)
end Mi
end
section
/-! MiD: the operations of values. -/
namespace Mi
open PySem PySem.Spec PyProof.Rows L2

theorem line_eq : (sizeLine : Nat) = lineN := by decide
section
variable {X : L2.Cx} {pins : List (Addr × Obj)} {σ : L2.St} {H : Hp} {s : Shared} {a : Addr} {xs : List V} {k : Kx} {r : Rg} {st : Sto}
theorem rd_raw (I : Inv X pins σ H s) (h : Rd H a (.lst xs)) : ∃ (its : List Value) (n : Nat), Vals xs its ∧ xs.length ≤ sizeLine ∧ s.heap.get? a = some { cls := .type "list", data := .seq its.toArray n } := by
  obtain ⟨z, its, n, q, e⟩ := h.ok I.hok
  exact ⟨its, n, q, z, e⟩
theorem Rep.ints {r : Rg} {K : PySem.W.Frag} : ∀ {vs : List V} {ds : List D} {ns : List Int}, Reps K r H vs ds → intsOf ds = some ns → vs = ns.map V.int
  | _, _, ns, .nil, e => by simp [intsOf] at e; subst e; rfl
  | _, _, ns, .cons (d := d) p q, e => by
    cases d with
    | int i =>
      simp only [intsOf, Option.map_eq_some_iff] at e
      obtain ⟨ms, e1, e2⟩ := e
      subst e2
      cases p
      rw [Rep.ints q e1]; rfl
    | _ => simp [intsOf] at e
theorem Rep.bls {r : Rg} {K : PySem.W.Frag} : ∀ {vs : List V} {ds : List D} {ns : List Bool}, Reps K r H vs ds → blsOf ds = some ns → vs = ns.map V.bl
  | _, _, ns, .nil, e => by simp [blsOf] at e; subst e; rfl
  | _, _, ns, .cons (d := d) p q, e => by
    cases d with
    | bl i =>
      simp only [blsOf, Option.map_eq_some_iff] at e
      obtain ⟨ms, e1, e2⟩ := e
      subst e2
      cases p
      rw [Rep.bls q e1]; rfl
    | _ => simp [blsOf] at e
/-- a list that is read: of the store, or by value -/
theorem lst_of {K : PySem.W.Frag} (R : RelH K r st H) {v : V} {d : D} {ds : List D} (p : Rep K r H v d) (e : d.lst? st = some ds) : ∃ a xs, v = .ref a ∧ Rd H a (.lst xs) ∧ Reps K r H xs ds := by
  cases p with
  | fl h n q => simp [D.lst?] at e; subst e; exact ⟨_, _, rfl, h, q⟩
  | ref h hk =>
    simp only [D.lst?] at e
    obtain ⟨b, vs, e1, e2, e3⟩ := R.has _ _ e h hk
    rw [h] at e1; cases e1
    exact ⟨_, _, rfl, .inl e2, e3⟩
  | _ => simp [D.lst?] at e
/-- a sequence that is read -/
theorem seq_of {K : PySem.W.Frag} (R : RelH K r st H) {v : V} {d : D} {ds : List D} (p : Rep K r H v d) (e : d.seq? st = some ds) : ∃ a xs, v = .ref a ∧ (Rd H a (.lst xs) ∨ SqT K H a xs) ∧ Reps K r H xs ds := by
  cases p with
  | fl h n q => simp [D.seq?] at e; subst e; exact ⟨_, _, rfl, .inl h, q⟩
  | tup h q => simp [D.seq?] at e; subst e; exact ⟨_, _, rfl, .inr h, q⟩
  | ref h hk =>
    simp only [D.seq?] at e
    obtain ⟨b, vs, e1, e2, e3⟩ := R.has _ _ e h hk
    rw [h] at e1; cases e1
    exact ⟨_, _, rfl, .inl (.inl e2), e3⟩
  | _ => simp [D.seq?] at e
/-! ### what a new object is -/
theorem CP.newT {W : WX} {ds : List D} {Q : VK} (hR : RelH k.K r st H) (hc : CP (RV k) k W σ r H (mkT ds st) Q) (q : Reps k.K r H xs ds) : xs.length ≤ sizeLine ∧ ∀ p, H p = none → Q (.ref p) (upd H p (.tup xs)) := by
  unfold mkT at hc
  split at hc
  · rename_i hl
    refine ⟨by rw [q.len, line_eq]; exact hl, fun p hp => ?_⟩
    exact hc r _ _ (Ext.new hp) (hR.ext_new hp) (.tup (.inl (.inl upd_same)) (q.ext (Ext.new hp) hR))
  · exact hc.elim
theorem CP.newL {W : WX} {fz : Bool} {ds : List D} {Q : VK} (hR : RelH k.K r st H) (hc : CP (RV k) k W σ r H (mkL fz ds st) Q) (q : Reps k.K r H xs ds) : xs.length ≤ sizeLine ∧ ∀ p, H p = none → Q (.ref p) (upd H p (.lst xs)) := by
  unfold mkL at hc
  split at hc
  · rename_i hl
    refine ⟨by rw [q.len, line_eq]; exact hl, fun p hp => ?_⟩
    have hn : p ∉ r := hR.fresh hp
    cases fz with
    | true => exact hc r _ _ (Ext.new hp) (hR.ext_new hp) (.fl (.inl upd_same) hn (q.ext (Ext.new hp) hR))
    | false => exact hc (r.add p) _ _ (Ext.newL hp) (hR.newL hp q) (.ref (Rg.last hR) ⟨_, upd_same⟩)
  · exact hc.elim

/-! ### two-place operators -/
def bop : Bop → Operator
  | .add => .Add
  | .sub => .Sub
  | .mul => .Mult
  | .fdiv => .FloorDiv
  | .fdv => .FloorDiv
  | .mod => .Mod
  | .mdv => .Mod
  | .pow => .Pow
/-- the reading of an operation of two values -/
def rF (k : Kx) (f : D → D → Sto → Out D) : R2 := fun x y H Q => ∃ r st W σ d1 d2, RelH k.K r st H ∧ Rep k.K r H x d1 ∧ Rep k.K r H y d2 ∧ CP (RV k) k W σ r H (f d1 d2 st) Q

theorem mulOk_ok {i j : Int} (h : mulOk i j = true) : IntMulOk i j := by
  unfold mulOk at h
  simp only [Bool.or_eq_true, decide_eq_true_eq] at h
  rcases h with ⟨h1, h2⟩ | ⟨h1, h2⟩ | h
  · exact .of_left (intBits_le_64 h1 h2)
  · exact .of_right (intBits_le_64 h1 h2)
  · exact CMulW.ok h
theorem op_mulM {X : L2.Cx} : OpR X (binaryOp .Mult) (rI (fun i j => mulOk i j = true) fun i j => .int (i * j)) := opI fun _ _ _ _ _ _ _ hc q => mul_int q (mulOk_ok hc)

theorem op_fdivV {X : L2.Cx} : OpR X (binaryOp .FloorDiv) (rI (fun _ j => ndivOk j = true) fun i j => .int (i.fdiv j)) := opI fun _ _ _ _ _ _ _ hc q => floordiv_int (of_decide_eq_true hc).1 q (.inl (PyProof.noPylong_of_log2 (of_decide_eq_true hc).2))

theorem op_modV {X : L2.Cx} : OpR X (binaryOp .Mod) (rI (fun _ j => j ≠ 0) fun i j => .int (i.fmod j)) := opI fun _ _ _ _ _ _ _ hc q => mod_int hc q
theorem opInt (o : Bop) {W : WX} {σ0 : L2.St} {i j : Int} {Q : VK} (hR : RelH k.K r st H) (hc : CP (RV k) k W σ0 r H (binI o i j st) Q) {v u : Value} (I : Inv X pins σ H s) (rx : RelV (.int i) v) (ry : RelV (.int j) u) :
    wpAny (model X.prog X.w) X.A (binaryOp (bop o) v u) (EP X pins σ Q) X.xe s := by
  cases o with
  | add => exact op_add pins s σ H _ _ v u Q I rx ry ⟨i, j, rfl, rfl, CP.now hc hR (.int _)⟩
  | sub => exact op_sub pins s σ H _ _ v u Q I rx ry ⟨i, j, rfl, rfl, CP.now hc hR (.int _)⟩
  | mul =>
    simp only [binI] at hc
    split at hc
    · rename_i h
      exact op_mulM pins s σ H _ _ v u Q I rx ry ⟨i, j, rfl, rfl, h, CP.now hc hR (.int _)⟩
    · exact hc.elim
  | fdiv =>
    simp only [binI] at hc
    split at hc
    · rename_i h
      have h := of_decide_eq_true h
      exact op_fdivW pins s σ H _ _ v u Q I rx ry ⟨i, j, rfl, rfl, h, CP.now hc hR (.int _)⟩
    · exact hc.elim
  | fdv =>
    simp only [binI] at hc
    split at hc
    · rename_i h
      exact op_fdivV pins s σ H _ _ v u Q I rx ry ⟨i, j, rfl, rfl, h, CP.now hc hR (.int _)⟩
    · exact hc.elim
  | mod =>
    simp only [binI] at hc
    split at hc
    · rename_i h
      exact op_mod pins s σ H _ _ v u Q I rx ry ⟨i, j, rfl, rfl, h, CP.now hc hR (.int _)⟩
    · exact hc.elim
  | mdv =>
    simp only [binI] at hc
    split at hc
    · rename_i h
      exact op_modV pins s σ H _ _ v u Q I rx ry ⟨i, j, rfl, rfl, h, CP.now hc hR (.int _)⟩
    · exact hc.elim
  | pow =>
    simp only [binI] at hc
    split at hc
    · rename_i h
      exact op_pow pins s σ H _ _ v u Q I rx ry ⟨i, j, rfl, rfl, h, CP.now hc hR (.int _)⟩
    · exact hc.elim
theorem catL {W : WX} {σ0 : L2.St} {fz : Bool} {a b : Addr} {xs ys : List V} {ds es : List D} {Q : VK} (hR : RelH k.K r st H) (ha : Rd H a (.lst xs)) (hb : Rd H b (.lst ys)) (pa : Reps k.K r H xs ds) (pb : Reps k.K r H ys es)
    (hc : CP (RV k) k W σ0 r H (mkL fz (ds ++ es) st) Q) (I : Inv X pins σ H s) : wpAny (model X.prog X.w) X.A (binaryOp .Add (.ref a) (.ref b)) (EP X pins σ Q) X.xe s := by
  obtain ⟨its, n, v1, z1, e1⟩ := rd_raw I ha
  obtain ⟨jts, m, v2, z2, e2⟩ := rd_raw I hb
  obtain ⟨hl, q⟩ := CP.newL hR hc (pa.append pb)
  have l1 := v1.length
  have l2 := v2.length
  rw [List.length_append] at hl
  refine PySem.P.add_list e1 e2 ?_ (by simp only [List.size_toArray]; omega)
  rw [show its.toArray ++ jts.toArray = (its ++ jts).toArray by simp]
  exact ⟨.ref _, _, I.lnew (t' := s.toks) (v1.append v2) (by rw [List.length_append]; exact hl), rfl, q _ I.fresh⟩
theorem rep_flat {its : List Value} (m : Nat) : List.foldl (fun a b => a ++ b) #[] (List.replicate m its.toArray) = (List.replicate m its).flatten.toArray := by
  have := foldl_rep its m []
  rw [List.nil_append] at this; exact this
theorem repL_run {W : WX} {σ0 : L2.St} {fz : Bool} {a : Addr} {xs : List V} {ds : List D} {n : Int} {Q : VK} {u : Value} (hR : RelH k.K r st H) (ha : Rd H a (.lst xs)) (pa : Reps k.K r H xs ds) (h0 : 0 ≤ n) (h1 : n < 1000000) (hz : ds.length * n.toNat ≤ lineN)
    (hc : CP (RV k) k W σ0 r H (mkL fz (repL ds n) st) Q) (I : Inv X pins σ H s) (ry : RelV (.int n) u) : wpAny (model X.prog X.w) X.A (binaryOp .Mult (.ref a) u) (EP X pins σ Q) X.xe s := by
  obtain ⟨t, rfl⟩ := ry
  obtain ⟨its, m, v1, z1, e1⟩ := rd_raw I ha
  have l1 := v1.length
  have l2 := pa.len
  obtain ⟨hl, q⟩ := CP.newL hR hc (pa.rep n.toNat)
  have hsz : its.toArray.size * n.toNat ≤ sizeLine := by
    rw [List.size_toArray, ← l1, l2, line_eq]; exact hz
  have b1 : ¬ its.toArray.size * n.toNat > (2 ^ 63 - 1) / 8 := by
    have : (sizeLine : Nat) ≤ (2 ^ 63 - 1) / 8 := by decide
    omega
  have b2 : ¬ (!Builtin.List.listFitsIndex n) = true := by
    rw [fitsIndex_both (by omega) (by omega)]; exact Bool.false_ne_true
  have b3 : ¬ Builtin.List.listTooLong (its.toArray.size * n.toNat) = true := by
    rw [notLongL hsz]; exact Bool.false_ne_true
  have b4 : List.foldl (fun x1 x2 => x1 ++ x2) #[] (List.replicate (if its.toArray.isEmpty = true then 0 else n.toNat) its.toArray) = (List.replicate n.toNat its).flatten.toArray := by
    cases its with
    | nil => rw [rep_flat]; simp
    | cons x y => rw [if_neg (by simp), rep_flat]
  have ht : s.TypeIs (.ref a) "list" := ⟨_, e1, rfl⟩
  have step := call_meets (prog := X.prog) (w := X.w) (A := X.A) (E := X.xe) (s := s) F.slot_list_mul ht F.entry_list_mul (F.args_list_mul_2 _ _) (AutoListH.list___mul___list_int_3 a its.toArray m n t b2 b1 b3)
    (Q := EP X pins σ Q) ⟨e1, by rw [b4]; exact ⟨.ref _, _, I.lnew (t' := s.toks) (v1.rep n.toNat) hl, rfl, q _ I.fresh⟩⟩
  exact wpAny_binaryOp_repeat_ref (T := "list") (U := "int") (by decide) ht (fun s' => typeIs_int s' n t) noFill_list_mul F.fills_int_mul F.slot_int_rmul repeat_list F.slot_int_index.lookup
    (call_meets F.slot_int_rmul (typeIs_int s n t) F.entry_int_rmul (F.args_int_rmul_2 _ _) (int___rmul___int_list n t a its.toArray m) ⟨e1, rfl, ht, step⟩)
/-! tuple * int -/
theorem tupMul_same (l : Addr) (items : Array Value) (n : Nat) (dd : Option Addr) (sl : Array (Option Value)) (x : Int) (u : Tok) (c0 : (decide (x < -(2 ^ 63)) || decide (x ≥ 2 ^ 63)) = false) (c1 : (items.isEmpty || x == 1) = true) :
    Meets (Builtin.«tuple.__mul__» ⟨[.ref l, .int x u], []⟩) (fun _ R s => s.heap.get? l = some { cls := .type "tuple", dict := dd, data := .seq items n, slots := sl } ∧ R (.ok (.ret (.ref l))) s) :=
  .of_wp fun prog w A R s h => by
    obtain ⟨hp, g, d, tk, os⟩ := s
    obtain ⟨hl, h⟩ := h
    wp_walk using wpAny_loadPart' hl
    refine wpAny_ite_false (decide_eq_false fun z => by rw [c0] at z; cases z) ?_
    wp_walk using wpAny_loadPart' hl
    all_goals exact ⟨_, rfl, h⟩
theorem tupMul_none (l : Addr) (items : Array Value) (n : Nat) (dd : Option Addr) (sl : Array (Option Value)) (x : Int) (u : Tok) (c0 : (decide (x < -(2 ^ 63)) || decide (x ≥ 2 ^ 63)) = false) (c1 : (items.isEmpty || x == 1) = false) (c2 : (decide (x ≤ 0) || items.isEmpty) = true) :
    Meets (Builtin.«tuple.__mul__» ⟨[.ref l, .int x u], []⟩) (fun _ R s => s.heap.get? l = some { cls := .type "tuple", dict := dd, data := .seq items n, slots := sl } ∧
      R (.ok (.ret (.ref s.heap.objs.size))) { s with heap := s.heap.push { cls := .type "tuple", data := .seq #[] }, toks := s.toks }) :=
  .of_wp fun prog w A R s h => by
    obtain ⟨hp, g, d, tk, os⟩ := s
    obtain ⟨hl, h⟩ := h
    wp_walk using wpAny_loadPart' hl
    refine wpAny_ite_false (decide_eq_false fun z => by rw [c0] at z; cases z) ?_
    wp_walk using wpAny_loadPart' hl
    all_goals exact ⟨_, rfl, h⟩
theorem repT_run {W : WX} {σ0 : L2.St} {a : Addr} {xs : List V} {ds : List D} {n : Int} {Q : VK} {u : Value} (hR : RelH k.K r st H) (ha : SqT X.K H a xs) (kK : k.K = X.K) (pa : Reps k.K r H xs ds) (h0 : -1000000 < n) (h1 : n < 1000000) (hz : ds.length * n.toNat ≤ lineN)
    (hc : CP (RV k) k W σ0 r H (.ok (.tup (repL ds n)) st) Q) (I : Inv X pins σ H s) (ry : RelV (.int n) u) : wpAny (model X.prog X.w) X.A (binaryOp .Mult (.ref a) u) (EP X pins σ Q) X.xe s := by
  obtain ⟨t, rfl⟩ := ry
  obtain ⟨its, v1, ⟨⟨cls, dd, data, sl⟩, ho, hcl, m, hd⟩, z1⟩ := I.tuple ha
  simp only at hcl hd
  subst hcl hd
  have l1 := v1.length
  have l2 := pa.len
  have ht : s.TypeIs (.ref a) "tuple" := ⟨_, ho, rfl⟩
  have c0 : (decide (n < -(2 ^ 63)) || decide (n ≥ 2 ^ 63)) = false := by
    rw [decide_eq_false (by omega), decide_eq_false (by omega)]; rfl
  have go : ∀ {Q' : Value → Shared → Prop}, wpAny (model X.prog X.w) X.A (call (.builtin "tuple.__mul__") [.ref a, .int n t]) Q' X.xe s → wpAny (model X.prog X.w) X.A (binaryOp .Mult (.ref a) (.int n t)) Q' X.xe s := fun {Q'} step =>
    wpAny_binaryOp_repeat_ref (T := "tuple") (U := "int") (by decide) ht (fun s' => typeIs_int s' n t) noFill_tuple_mul F.fills_int_mul F.slot_int_rmul repeat_tuple F.slot_int_index.lookup
      (call_meets F.slot_int_rmul (typeIs_int s n t) F.entry_int_rmul (F.args_int_rmul_2 _ _) (int_rmul_tuple n t a its.toArray m dd sl) ⟨ho, rfl, ht, step⟩)
  by_cases c1 : (its.toArray.isEmpty || n == 1) = true
  · refine go (call_meets F.slot_tuple_mul ht F.entry_tuple_mul (F.args_tuple_mul_2 _ _) (tupMul_same a its.toArray m dd sl n t c0 c1) ⟨ho, ⟨.ref a, H, I, rfl, ?_⟩⟩)
    have e : repL ds n = ds := by
      rcases Bool.or_eq_true_iff.mp c1 with e | e
      · have : its = [] := by simpa using e
        subst this
        have : xs = [] := List.eq_nil_of_length_eq_zero l1
        subst this
        have : ds = [] := List.eq_nil_of_length_eq_zero l2.symm
        subst this
        unfold repL
        simp
      · have : n = 1 := by simpa using e
        subst this
        unfold repL
        simp
    rw [e] at hc
    exact CP.now hc hR (.tup (by rw [kK]; exact ha) pa)
  · have c1 : (its.toArray.isEmpty || n == 1) = false := by simpa using c1
    by_cases c2 : (decide (n ≤ 0) || its.toArray.isEmpty) = true
    · refine go (call_meets F.slot_tuple_mul ht F.entry_tuple_mul (F.args_tuple_mul_2 _ _) (tupMul_none a its.toArray m dd sl n t c0 c1 c2) ⟨ho, ?_⟩)
      have e : repL ds n = [] := by
        rcases Bool.or_eq_true_iff.mp c2 with e | e
        · have : n ≤ 0 := of_decide_eq_true e
          unfold repL
          rw [show n.toNat = 0 by omega]
          rfl
        · rw [e] at c1
          cases c1
      rw [e] at hc
      refine ⟨.ref s.heap.objs.size, upd H s.heap.objs.size (.tup []), I.laid (t' := s.toks) (fun b ob q => Heap.get?_push_of_some _ q) (Nat.le_refl _) ⟨Nat.zero_le _, [], .nil, IsTup.new _ _⟩, rfl, ?_⟩
      exact hc r _ _ (Ext.new I.fresh) (hR.ext_new I.fresh) (.tup (.inl (.inl upd_same)) .nil)
    · have c2 : (decide (n ≤ 0) || its.toArray.isEmpty) = false := by simpa using c2
      have hn : 0 < n := by
        have := (Bool.or_eq_false_iff.mp c2).1
        have := of_decide_eq_false this
        omega
      have hm : its.toArray.size * n.toNat ≤ sizeLine := by
        rw [List.size_toArray, ← l1, l2, line_eq]; exact hz
      have hi : ((its.toArray.size : Nat) : Int) * n = ((its.toArray.size * n.toNat : Nat) : Int) := by
        rw [Int.natCast_mul, Int.toNat_of_nonneg (by omega)]
      have c3 : ¬ ((its.toArray.size : Nat) : Int) * n > (2 ^ 63 - 1) / 8 := by
        rw [hi]
        have : (sizeLine : Nat) ≤ (2 ^ 63 - 1) / 8 := by decide
        omega
      have c4 : Builtin.Tuple.tupleTooMany (((its.toArray.size : Nat) : Int) * n) = false := by
        unfold Builtin.Tuple.tupleTooMany
        rw [hi]
        exact decide_eq_false (by omega)
      have fl : (List.replicate n.toNat its).flatten.length ≤ sizeLine := by
        rw [PyProof.Rows.lm_len_rep_flat, Nat.mul_comm]; simpa using hm
      refine go (call_meets F.slot_tuple_mul ht F.entry_tuple_mul (F.args_tuple_mul_2 _ _) (tuple_mulW a its.toArray m dd sl n t c0 c1 c2 c3 c4 (by rw [rep_flat, List.size_toArray]; exact fl)) ⟨ho, ?_⟩)
      rw [rep_flat]
      refine ⟨.ref s.heap.objs.size, upd H s.heap.objs.size (.tup (List.replicate n.toNat xs).flatten), I.laid (t' := s.toks) (fun b ob q => Heap.get?_push_of_some _ q) (Nat.le_refl _) ⟨?_, _, v1.rep n.toNat, IsTup.new _ _⟩, rfl, ?_⟩
      · rw [PyProof.Rows.lm_len_rep_flat, l1, Nat.mul_comm]; simpa using hm
      · exact hc r _ _ (Ext.new I.fresh) (hR.ext_new I.fresh) (.tup (.inl (.inl upd_same)) ((pa.rep n.toNat).ext (Ext.new I.fresh) hR))
theorem opBin (kK : k.K = X.K) (fz : Bool) (o : Bop) : OpR X (binaryOp (bop o)) (rF k (binD fz o)) := by
  intro pins s σ H x y v u Q I rx ry h
  obtain ⟨r, st, W, σ0, d1, d2, hR, p, q, hc⟩ := h
  -- what is none of the forms below
  have bad : ∀ {P : Prop}, CP (RV k) k W σ0 r H .bad Q → P := fun z => z.elim
  cases p with
  | int i =>
    cases q with
    | int j => exact opInt o hR hc I rx ry
    | _ => cases o <;> exact bad hc
  | non => cases o <;> exact bad hc
  | dct => cases o <;> exact bad hc
  | obj => cases o <;> exact bad hc
  | bl b => cases o <;> exact bad hc
  | str z =>
    cases q with
    | str z2 =>
      cases o with
      | add =>
        have hc : CP (RV k) k W σ0 r H (if z.length + z2.length ≤ lineN then .ok (.str (z ++ z2)) st else .bad) Q := hc
        split at hc
        · rename_i hl
          exact op_add_str pins s σ H _ _ v u Q I rx ry ⟨z, z2, rfl, rfl, by rw [line_eq]; exact hl, CP.now hc hR (.str _)⟩
        · exact bad hc
      | _ => exact bad hc
    | _ => cases o <;> exact bad hc
  | tup ha pa =>
    cases rx
    cases q with
    | int n =>
      cases o with
      | mul =>
        rename_i ds
        have hc : CP (RV k) k W σ0 r H (if -1000000 < n ∧ n < 1000000 ∧ ds.length * n.toNat ≤ lineN then .ok (.tup (repL ds n)) st else .bad) Q := hc
        split at hc
        · rename_i hl
          exact repT_run hR (by rw [← kK]; exact ha) kK pa hl.1 hl.2.1 hl.2.2 hc I ry
        · exact bad hc
      | _ => exact bad hc
    | tup hb pb =>
      cases o with
      | add =>
        rename_i a xs ds b ys es
        have hc : CP (RV k) k W σ0 r H (mkT (ds ++ es) st) Q := hc
        have l1 := pa.len
        have l2 := pb.len
        obtain ⟨hl, qq⟩ := CP.newT hR hc (pa.append pb)
        rw [List.length_append] at hl
        have hc2 : CP (RV k) k W σ0 r H (.ok (.tup (ds ++ es)) st) Q := by
          unfold mkT at hc
          split at hc
          · exact hc
          · exact bad hc
        refine op_catA pins s σ H (.ref a) (.ref b) (.ref a) u Q I rfl ry ⟨a, b, xs, ys, rfl, rfl, by rw [← kK]; exact ha, by rw [← kK]; exact hb, hl, fun e => ?_, fun _ e => ?_, fun _ _ => qq⟩
        · subst e
          cases pa
          exact CP.now hc2 hR (.tup hb pb)
        · subst e
          cases pb
          rw [List.append_nil] at hc2
          exact CP.now hc2 hR (.tup ha pa)
      | _ => exact bad hc
    | _ => cases o <;> exact bad hc
  | fl ha hn pa =>
    cases rx
    cases q with
    | int n =>
      cases o with
      | mul =>
        rename_i ds
        have hc : CP (RV k) k W σ0 r H (if 0 ≤ n ∧ n < 1000000 ∧ ds.length * n.toNat ≤ lineN then mkL fz (repL ds n) st else .bad) Q := hc
        split at hc
        · rename_i hl
          exact repL_run hR ha pa hl.1 hl.2.1 hl.2.2 hc I ry
        · exact bad hc
      | _ => exact bad hc
    | fl hb hn2 pb =>
      cases ry
      cases o with
      | add => exact catL hR ha hb pa pb hc I
      | _ => exact bad hc
    | ref hb hbk =>
      rename_i ds b n
      cases ry
      cases o with
      | add =>
        have hc : CP (RV k) k W σ0 r H (match st[n]? with
          | some ys => mkL fz (ds ++ ys) st
          | none => .bad) Q := hc
        cases e : st[n]? with
        | none => rw [e] at hc; exact bad hc
        | some ys =>
          rw [e] at hc
          obtain ⟨c, vs, e1, e2, e3⟩ := hR.has n ys e hb hbk
          rw [hb] at e1; cases e1
          exact catL hR ha (.inl e2) pa e3 hc I
      | _ => exact bad hc
    | _ => cases o <;> exact bad hc
  | ref ha hak =>
    rename_i a n
    cases rx
    cases q with
    | fl hb hn2 pb =>
      rename_i b ys es
      cases ry
      cases o with
      | add =>
        have hc : CP (RV k) k W σ0 r H (match st[n]? with
          | some xs => mkL fz (xs ++ es) st
          | none => .bad) Q := hc
        cases e : st[n]? with
        | none => rw [e] at hc; exact bad hc
        | some xs =>
          rw [e] at hc
          obtain ⟨c, vs, e1, e2, e3⟩ := hR.has n xs e ha hak
          rw [ha] at e1; cases e1
          exact catL hR (.inl e2) hb e3 pb hc I
      | _ => exact bad hc
    | ref hb hbk =>
      rename_i b m
      cases ry
      cases o with
      | add =>
        have hc : CP (RV k) k W σ0 r H (match st[n]?, st[m]? with
          | some xs, some ys => mkL fz (xs ++ ys) st
          | _, _ => .bad) Q := hc
        cases e : st[n]? with
        | none => rw [e] at hc; exact bad hc
        | some xs =>
          cases f : st[m]? with
          | none => rw [e, f] at hc; exact bad hc
          | some ys =>
            rw [e, f] at hc
            obtain ⟨c, vs, e1, e2, e3⟩ := hR.has n xs e ha hak
            rw [ha] at e1; cases e1
            obtain ⟨c2, ws, f1, f2, f3⟩ := hR.has m ys f hb hbk
            rw [hb] at f1; cases f1
            exact catL hR (.inl e2) (.inl f2) e3 f3 hc I
      | _ => exact bad hc
    | _ => cases o <;> exact bad hc
end
end Mi
end
section
/-! MiE: comparisons, truth, items, slices. -/
namespace Mi
open PySem PySem.Spec PyProof.Rows L2
mutual
def D.py : D → PyData
  | .non => .none
  | .bl b => .bool b
  | .int i => .int i
  | .str x => .str x
  | .tup xs => .tuple (D.pys xs)
  | .fl xs => .list (D.pys xs)
  | .ref _ => .none
  | .dct _ => .none
  | .obj _ _ => .none
def D.pys : List D → List PyData
  | [] => []
  | x :: xs => D.py x :: D.pys xs
end
theorem D.pys_map : ∀ xs : List D, D.pys xs = xs.map D.py
  | [] => by simp [D.pys]
  | x :: xs => by rw [D.pys, D.pys_map xs, List.map_cons]
mutual
theorem D.eqv_py : ∀ (a b : D), D.eqv a b = true ∨ D.eqv a b = false → a.pur = true → b.pur = true → PyData.eqv a.py b.py = D.eqv a b
  | .non, b, _, _, hb => by cases b <;> simp [D.py, PyData.eqv, D.eqv, D.pur] at hb ⊢
  | .bl a, b, _, _, hb => by
    cases b <;> simp [D.py, PyData.eqv, D.eqv, D.pur] at hb ⊢
    all_goals (cases a <;> simp <;> rfl)
  | .int a, b, _, _, hb => by
    cases b <;> simp [D.py, PyData.eqv, D.eqv, D.pur] at hb ⊢
    all_goals first | rfl | (rename_i c; cases c <;> simp <;> rfl) | (rw [Bool.eq_iff_iff]; simp)
  | .str a, b, _, _, hb => by
    cases b <;> simp [D.py, PyData.eqv, D.eqv, D.pur] at hb ⊢
    all_goals first | rfl | (rw [Bool.eq_iff_iff]; simp)
  | .tup xs, b, _, ha, hb => by
    cases b <;> simp only [D.py, PyData.eqv, D.eqv, D.pur] at ha hb ⊢
    all_goals first | rfl | (cases hb; done) | exact D.eqvs_py _ _ ha hb
  | .fl xs, b, _, ha, hb => by
    cases b <;> simp only [D.py, PyData.eqv, D.eqv, D.pur] at ha hb ⊢
    all_goals first | rfl | (cases hb; done) | exact D.eqvs_py _ _ ha hb
  | .ref a, b, _, ha, _ => by simp [D.pur] at ha
  | .dct a, b, _, ha, _ => by simp [D.pur] at ha
  | .obj c a, b, _, ha, _ => by simp [D.pur] at ha
theorem D.eqvs_py : ∀ (a b : List D), D.purs a = true → D.purs b = true → PyData.eqvAll (D.pys a) (D.pys b) = D.eqvs a b
  | [], b, _, _ => by cases b <;> simp [D.pys, PyData.eqvAll, D.eqvs]
  | x :: xs, b, ha, hb => by
    cases b with
    | nil => simp [D.pys, PyData.eqvAll, D.eqvs]
    | cons y ys =>
      simp only [D.purs, Bool.and_eq_true] at ha hb
      simp only [D.pys, PyData.eqvAll, D.eqvs]
      rw [D.eqv_py x y (by cases D.eqv x y <;> simp) ha.1 hb.1, D.eqvs_py xs ys ha.2 hb.2]
end
mutual
theorem D.fine_pur : ∀ (n : Nat) (d : D), D.fine n d = true → d.pur = true
  | _, .non, _ => by simp [D.pur]
  | _, .bl _, _ => by simp [D.pur]
  | _, .int _, _ => by simp [D.pur]
  | _, .str _, _ => by simp [D.pur]
  | _, .ref _, h => by simp [D.fine] at h
  | _, .dct _, h => by simp [D.fine] at h
  | _, .obj _ _, h => by simp [D.fine] at h
  | 0, .tup _, h => by simp [D.fine] at h
  | 0, .fl _, h => by simp [D.fine] at h
  | n + 1, .tup xs, h => by
    simp only [D.fine] at h
    simp only [D.pur]
    exact D.fines_pur n xs h
  | n + 1, .fl xs, h => by
    simp only [D.fine] at h
    simp only [D.pur]
    exact D.fines_pur n xs h
theorem D.fines_pur : ∀ (n : Nat) (d : List D), D.fines n d = true → D.purs d = true
  | _, [], _ => by simp [D.purs]
  | n, x :: xs, h => by
    simp only [D.fines, Bool.and_eq_true] at h
    simp only [D.purs, Bool.and_eq_true]
    exact ⟨D.fine_pur n x h.1, D.fines_pur n xs h.2⟩
end
mutual
theorem D.fine_lay : ∀ (n : Nat) (d : D), D.fine n d = true → d.py.canLay0 = true ∧ d.py.depth ≤ n
  | _, .non, _ => by simp [D.py, PyData.canLay0, PyData.depth]
  | _, .bl _, _ => by simp [D.py, PyData.canLay0, PyData.depth]
  | _, .int _, _ => by simp [D.py, PyData.canLay0, PyData.depth]
  | _, .str x, h => by
    simp only [D.fine] at h
    simp only [D.py, PyData.canLay0, PyData.depth]
    exact ⟨by simpa [strB, PyData.strOk] using h, Nat.zero_le _⟩
  | _, .ref _, h => by simp [D.fine] at h
  | _, .dct _, h => by simp [D.fine] at h
  | _, .obj _ _, h => by simp [D.fine] at h
  | 0, .tup _, h => by simp [D.fine] at h
  | 0, .fl _, h => by simp [D.fine] at h
  | n + 1, .tup xs, h => by
    simp only [D.fine] at h
    simp only [D.py, PyData.canLay0, PyData.depth]
    have := D.fines_lay n xs h
    exact ⟨this.1, by omega⟩
  | n + 1, .fl xs, h => by
    simp only [D.fine] at h
    simp only [D.py, PyData.canLay0, PyData.depth]
    have := D.fines_lay n xs h
    exact ⟨this.1, by omega⟩
theorem D.fines_lay : ∀ (n : Nat) (d : List D), D.fines n d = true → PyData.canLayAll0 (D.pys d) = true ∧ PyData.depthAll (D.pys d) ≤ n
  | _, [], _ => by simp [D.pys, PyData.canLayAll0, PyData.depthAll]
  | n, x :: xs, h => by
    simp only [D.fines, Bool.and_eq_true] at h
    simp only [D.pys, PyData.canLayAll0, PyData.depthAll, Bool.and_eq_true]
    have h1 := D.fine_lay n x h.1
    have h2 := D.fines_lay n xs h.2
    exact ⟨⟨h1.1, h2.1⟩, by omega⟩
end
theorem D.fine_shaped {n : Nat} (hn : n ≤ 64) {d : D} (h : D.fine n d = true) : SeqAt.shaped d.py = true := by
  obtain ⟨a, b⟩ := D.fine_lay n d h
  unfold SeqAt.shaped
  simp only [Bool.and_eq_true, decide_eq_true_eq]
  exact ⟨a, by omega⟩
section
variable {K : PySem.W.Frag} {r : Rg} {H : Hp} {st : Sto}
mutual
theorem Rep.dp : ∀ {v : V} {d : D}, Rep K r H v d → d.pur = true → Dp K H v d.py
  | _, _, .non, _ => by simp only [D.py]; exact .non
  | _, _, .bl b, _ => by simp only [D.py]; exact .bl b
  | _, _, .int i, _ => by simp only [D.py]; exact .int i
  | _, _, .str x, _ => by simp only [D.py]; exact .str x
  | _, _, .tup h q, p => by simp only [D.py]; simp only [D.pur] at p; exact .tup h (Reps.dp q p)
  | _, _, .fl h n q, p => by simp only [D.py]; simp only [D.pur] at p; exact .lst (.inl h) (Reps.dp q p)
  | _, _, .ref h k, p => by simp [D.pur] at p
  | _, _, .dct h k, p => by simp [D.pur] at p
  | _, _, .obj h k o, p => by simp [D.pur] at p
theorem Reps.dp : ∀ {vs : List V} {ds : List D}, Reps K r H vs ds → D.purs ds = true → DpAll K H vs (D.pys ds)
  | _, _, .nil, _ => by simp only [D.pys]; exact .nil
  | _, _, .cons p q, h => by
    simp only [D.purs, Bool.and_eq_true] at h
    simp only [D.pys]; exact .cons (Rep.dp p h.1) (Reps.dp q h.2)
end
/-- what is read out of the store stands for the same -/
theorem frz_dp (hR : RelH K r st H) (n : Nat) : ∀ (m : Nat) {v : V} {d : D}, Rep K r H v d → (D.frz n st m d).pur = true → Dp K H v (D.frz n st m d).py := by
  intro m
  induction m with
  | zero => intro v d p h; simp only [D.frz] at h ⊢; exact p.dp h
  | succ m ih =>
    have all : ∀ {vs : List V} {ds : List D}, Reps K r H vs ds → D.purs (ds.map (D.frz n st m)) = true → DpAll K H vs (D.pys (ds.map (D.frz n st m))) := by
      intro vs ds p
      induction ds generalizing vs with
      | nil => intro _; cases p; simp only [List.map_nil, D.pys]; exact .nil
      | cons d ds ih2 =>
        intro h
        cases p with
        | cons p q =>
          simp only [List.map_cons, D.purs, Bool.and_eq_true] at h
          simp only [List.map_cons, D.pys]
          exact .cons (ih p h.1) (ih2 q h.2)
    intro v d p h
    cases p with
    | non => simp only [D.frz, D.py]; exact .non
    | bl b => simp only [D.frz, D.py]; exact .bl b
    | int i => simp only [D.frz, D.py]; exact .int i
    | str x => simp only [D.frz, D.py]; exact .str x
    | tup a q => simp only [D.frz, D.pur] at h; simp only [D.frz, D.py]; exact .tup a (all q h)
    | fl a b q => simp only [D.frz, D.pur] at h; simp only [D.frz, D.py]; exact .lst (.inl a) (all q h)
    | dct a ak => simp [D.frz, D.pur] at h
    | obj a ak ao => simp [D.frz, D.pur] at h
    | ref a ak =>
      rename_i b x
      simp only [D.frz] at h ⊢
      split at h
      · simp [D.pur] at h
      · rename_i hx
        rw [if_neg hx]
        cases e : st[x]? with
        | none => rw [e] at h; simp [D.pur] at h
        | some xs =>
          rw [e] at h
          simp only [D.pur] at h
          simp only [D.py]
          obtain ⟨c, vs, e1, e2, e3⟩ := hR.has x xs e a ak
          rw [a] at e1; cases e1
          exact .lst (.inl (.inl e2)) (all e3 h)
theorem deep_dp (hR : RelH K r st H) {v : V} {d : D} (p : Rep K r H v d) (h : (deep st d).pur = true) : Dp K H v (deep st d).py := by
  unfold deep at h ⊢
  split
  · rename_i z; exact p.dp z
  · rename_i z
    rw [if_neg z] at h
    exact frz_dp hR 0 40 p h
end
def cop : Cop → CmpOp
  | .eq => .Eq
  | .ne => .NotEq
  | .lt => .Lt
  | .le => .LtE
  | .gt => .Gt
  | .ge => .GtE
  | .in_ => .In
  | .notIn => .NotIn
section
variable {X : L2.Cx} {pins : List (Addr × Obj)} {σ σ0 : L2.St} {H : Hp} {s : Shared} {a : Addr} {k : Kx} {r : Rg} {st : Sto} {W : WX} {x y : V} {u v : Value} {d1 d2 : D} {Q : VK} {c : Bool}
/-- == by its answer -/
theorem eq_run (kK : k.K = X.K) (hu : X.A.units + 64 < cLine) (hR : RelH k.K r st H) (p : Rep k.K r H x d1) (q : Rep k.K r H y d2) (e : eqD st d1 d2 = some c) (I : Inv X pins σ H s) (rx : RelV x v) (ry : RelV y u) (h : Q (.bl c) H) :
    wpAny (model X.prog X.w) X.A (compareOp .Eq v u) (EP X pins σ Q) X.xe s := by
  have gen : (let a := deep st d1; let b := deep st d2; if D.fine 40 a && D.fine 40 b then some (D.eqv a b) else none) = some c → wpAny (model X.prog X.w) X.A (compareOp .Eq v u) (EP X pins σ Q) X.xe s := fun e => by
    dsimp only at e
    split at e
    · rename_i z
      obtain ⟨z1, z2⟩ := Bool.and_eq_true_iff.mp z
      have w1 := D.fine_pur _ _ z1
      have w2 := D.fine_pur _ _ z2
      refine op_eqD hu pins s σ H x y v u Q I rx ry ⟨_, _, by rw [← kK]; exact deep_dp hR p w1, by rw [← kK]; exact deep_dp hR q w2, D.fine_shaped (by decide) z1, D.fine_shaped (by decide) z2, ?_⟩
      rw [D.eqv_py _ _ (by cases D.eqv (deep st d1) (deep st d2) <;> simp) w1 w2]
      cases e
      exact h
    · cases e
  have sc : scal x y = true → c = decide (x = y) → wpAny (model X.prog X.w) X.A (compareOp .Eq v u) (EP X pins σ Q) X.xe s := fun h1 h2 => op_eq pins s σ H x y v u Q I rx ry ⟨h1, by rw [← h2]; exact h⟩
  unfold eqD at e
  split at e
  · cases p; cases q; cases e; exact sc rfl (by simp)
  · cases p; cases q; cases e; exact sc rfl (by simp)
  · cases p; cases q; cases e; exact sc rfl (by simp)
  · cases p; cases q; cases e; exact sc rfl (by simp)
  · cases p; cases q; cases e; exact sc rfl (by simp)
  · cases p; cases q; cases e; exact sc rfl dec_bl.symm
  · exact gen e
theorem ne_run (kK : k.K = X.K) (hu : X.A.units + 64 < cLine) (hR : RelH k.K r st H) (p : Rep k.K r H x d1) (q : Rep k.K r H y d2) (e : eqD st d1 d2 = some c) (I : Inv X pins σ H s) (rx : RelV x v) (ry : RelV y u) (h : Q (.bl !c) H) :
    wpAny (model X.prog X.w) X.A (compareOp .NotEq v u) (EP X pins σ Q) X.xe s := by
  have gen : (let a := deep st d1; let b := deep st d2; if D.fine 40 a && D.fine 40 b then some (D.eqv a b) else none) = some c → wpAny (model X.prog X.w) X.A (compareOp .NotEq v u) (EP X pins σ Q) X.xe s := fun e => by
    dsimp only at e
    split at e
    · rename_i z
      obtain ⟨z1, z2⟩ := Bool.and_eq_true_iff.mp z
      have w1 := D.fine_pur _ _ z1
      have w2 := D.fine_pur _ _ z2
      refine op_neD hu pins s σ H x y v u Q I rx ry ⟨_, _, by rw [← kK]; exact deep_dp hR p w1, by rw [← kK]; exact deep_dp hR q w2, D.fine_shaped (by decide) z1, D.fine_shaped (by decide) z2, ?_⟩
      rw [D.eqv_py _ _ (by cases D.eqv (deep st d1) (deep st d2) <;> simp) w1 w2]
      cases e
      exact h
    · cases e
  have sc : scal x y = true → c = decide (x = y) → wpAny (model X.prog X.w) X.A (compareOp .NotEq v u) (EP X pins σ Q) X.xe s := fun h1 h2 => op_ne pins s σ H x y v u Q I rx ry ⟨h1, by rw [← h2]; exact h⟩
  unfold eqD at e
  split at e
  · cases p; cases q; cases e; exact sc rfl (by simp)
  · cases p; cases q; cases e; exact sc rfl (by simp)
  · cases p; cases q; cases e; exact sc rfl (by simp)
  · cases p; cases q; cases e; exact sc rfl (by simp)
  · cases p; cases q; cases e; exact sc rfl (by simp)
  · cases p; cases q; cases e; exact sc rfl dec_bl.symm
  · exact gen e
/-- in by its answer -/
theorem in_run (kK : k.K = X.K) (hu : X.A.units + 65 < cLine) (hR : RelH k.K r st H) (p : Rep k.K r H x d1) (q : Rep k.K r H y d2) (e : inD st d1 d2 = some c) (I : Inv X pins σ H s) (rx : RelV x v) (ry : RelV y u) :
    (Q (.bl c) H → wpAny (model X.prog X.w) X.A (compareOp .In v u) (EP X pins σ Q) X.xe s) ∧ (Q (.bl !c) H → wpAny (model X.prog X.w) X.A (compareOp .NotIn v u) (EP X pins σ Q) X.xe s) := by
  have gen : ∀ xs : List D, d2.seq? st = some xs → (let a := deep st d1; let ys := xs.map (deep st); if D.fine 40 a && D.fines 39 ys then some (ys.any fun z => D.eqv z a) else none) = some c →
      (Q (.bl c) H → wpAny (model X.prog X.w) X.A (compareOp .In v u) (EP X pins σ Q) X.xe s) ∧ (Q (.bl !c) H → wpAny (model X.prog X.w) X.A (compareOp .NotIn v u) (EP X pins σ Q) X.xe s) := fun xs hs e => by
    dsimp only at e
    split at e
    · rename_i z
      obtain ⟨z1, z2⟩ := Bool.and_eq_true_iff.mp z
      have w1 := D.fine_pur _ _ z1
      have l1 := D.fine_lay _ _ z1
      have l2 := D.fines_lay _ _ z2
      have dx := deep_dp hR p w1
      rw [kK] at dx
      obtain ⟨as, r1⟩ := Dp.reads I _ x v dx rx
      obtain ⟨a, vs, rfl, hq, ps⟩ := seq_of hR q hs
      have all : ∀ {ws : List V} {ds : List D}, Reps k.K r H ws ds → D.fines 39 (ds.map (deep st)) = true → DpAll X.K H ws (D.pys (ds.map (deep st))) := by
        intro ws ds pw
        induction ds generalizing ws with
        | nil => intro _; cases pw; simp only [List.map_nil, D.pys]; exact .nil
        | cons d ds ih =>
          intro h
          cases pw with
          | cons p1 p2 =>
            simp only [List.map_cons, D.fines, Bool.and_eq_true] at h
            simp only [List.map_cons, D.pys]
            have := deep_dp hR p1 (D.fine_pur _ _ h.1)
            rw [kK] at this
            exact .cons this (ih p2 h.2)
      have dv := all ps z2
      have hc : ((D.pys (xs.map (deep st))).any fun z => PyData.eqv z (deep st d1).py) = c := by
        have e := Option.some.inj e
        rw [← e, D.pys_map, List.any_map]
        have w2 := D.fines_pur _ _ z2
        generalize xs.map (deep st) = ys at w2
        clear e dv l2 z2 z
        induction ys with
        | nil => rfl
        | cons y ys ih =>
          simp only [D.purs, Bool.and_eq_true] at w2
          rw [List.any_cons, List.any_cons, ih w2.2]
          congr 1
          exact D.eqv_py _ _ (by cases D.eqv y (deep st d1) <;> simp) w2.1 w1
      have room : X.A.units + 1 + min (PyData.depthAll (D.pys (xs.map (deep st)))) (deep st d1).py.depth < cLine := by
        have := l1.2
        omega
      rcases hq with hq | hq
      · obtain ⟨bs, r2⟩ := Dp.reads I (.list (D.pys (xs.map (deep st)))) (.ref a) u (.lst (.inl hq) dv) ry
        exact ⟨fun h => SeqAt.in_list_reads r2 r1 l2.1 l1.1 room ⟨.bl _, H, I, rfl, by rw [hc]; exact h⟩, fun h => SeqAt.notIn_list_reads r2 r1 l2.1 l1.1 room ⟨.bl _, H, I, rfl, by rw [hc]; exact h⟩⟩
      · rw [kK] at hq
        obtain ⟨bs, r2⟩ := Dp.reads I (.tuple (D.pys (xs.map (deep st)))) (.ref a) u (.tup hq dv) ry
        exact ⟨fun h => SeqAt.in_tuple_reads r2 r1 l2.1 l1.1 room ⟨.bl _, H, I, rfl, by rw [hc]; exact h⟩, fun h => SeqAt.notIn_tuple_reads r2 r1 l2.1 l1.1 room ⟨.bl _, H, I, rfl, by rw [hc]; exact h⟩⟩
    · cases e
  unfold inD at e
  split at e
  · rename_i z
    split at e
    · rename_i w
      split at e
      · rename_i hl
        cases p; cases q
        obtain ⟨cps⟩ := w
        obtain ⟨l⟩ := cps
        have hl1 : l.length = 1 := hl.1
        match l, hl1 with
        | [ch], _ =>
          have hc : c = decide (ch ∈ z.cps.toList) := by
            have e := Option.some.inj e
            rw [← e, Bool.eq_iff_iff]
            simp
          exact ⟨fun h => op_in_sign pins s σ H _ _ v u Q I rx ry ⟨ch, z, rfl, rfl, by rw [← hc]; exact h⟩, fun h => op_notIn_sign pins s σ H _ _ v u Q I rx ry ⟨ch, z, rfl, rfl, by rw [← hc]; exact h⟩⟩
      · cases e
    · cases e
  · split at e
    · cases e
    · rename_i xs hs
      exact gen xs hs e
theorem lt_run (p : Rep k.K r H x d1) (q : Rep k.K r H y d2) (e : ltD d1 d2 = some c) : ∃ i j, x = .int i ∧ y = .int j ∧ c = decide (i < j) := by
  unfold ltD at e
  split at e
  · cases p; cases q; cases e
    exact ⟨_, _, rfl, rfl, rfl⟩
  · cases e
theorem opCmp (kK : k.K = X.K) (hu : X.A.units + 65 < cLine) (o : Cop) : OpR X (compareOp (cop o)) (rF k (cmpD o)) := by
  intro pins s σ H x y v u Q I rx ry h
  obtain ⟨r, st, W, σ0, d1, d2, hR, p, q, hc⟩ := h
  cases o with
  | eq =>
    obtain ⟨d, e, hc⟩ := CP.ofO hc
    obtain ⟨c, e2, rfl⟩ := Option.map_eq_some_iff.mp e
    exact eq_run kK (by omega) hR p q e2 I rx ry (CP.now hc hR (.bl c))
  | ne =>
    obtain ⟨d, e, hc⟩ := CP.ofO hc
    obtain ⟨c, e2, rfl⟩ := Option.map_eq_some_iff.mp e
    exact ne_run kK (by omega) hR p q e2 I rx ry (CP.now hc hR (.bl !c))
  | in_ =>
    obtain ⟨d, e, hc⟩ := CP.ofO hc
    obtain ⟨c, e2, rfl⟩ := Option.map_eq_some_iff.mp e
    exact (in_run kK hu hR p q e2 I rx ry).1 (CP.now hc hR (.bl c))
  | notIn =>
    obtain ⟨d, e, hc⟩ := CP.ofO hc
    obtain ⟨c, e2, rfl⟩ := Option.map_eq_some_iff.mp e
    exact (in_run kK hu hR p q e2 I rx ry).2 (CP.now hc hR (.bl !c))
  | lt =>
    obtain ⟨d, e, hc⟩ := CP.ofO hc
    obtain ⟨c, e2, rfl⟩ := Option.map_eq_some_iff.mp e
    obtain ⟨i, j, rfl, rfl, rfl⟩ := lt_run p q e2
    exact op_lt pins s σ H _ _ v u Q I rx ry ⟨i, j, rfl, rfl, CP.now hc hR (.bl _)⟩
  | gt =>
    obtain ⟨d, e, hc⟩ := CP.ofO hc
    obtain ⟨c, e2, rfl⟩ := Option.map_eq_some_iff.mp e
    obtain ⟨j, i, rfl, rfl, rfl⟩ := lt_run q p e2
    exact op_gt pins s σ H _ _ v u Q I rx ry ⟨i, j, rfl, rfl, CP.now hc hR (.bl _)⟩
  | le =>
    obtain ⟨d, e, hc⟩ := CP.ofO hc
    obtain ⟨c, e2, rfl⟩ := Option.map_eq_some_iff.mp e
    obtain ⟨j, i, rfl, rfl, rfl⟩ := lt_run q p e2
    have z : (!decide (j < i)) = decide (i ≤ j) := by rw [Bool.eq_iff_iff]; simp
    rw [z] at hc
    exact op_le pins s σ H _ _ v u Q I rx ry ⟨i, j, rfl, rfl, CP.now hc hR (.bl _)⟩
  | ge =>
    obtain ⟨d, e, hc⟩ := CP.ofO hc
    obtain ⟨c, e2, rfl⟩ := Option.map_eq_some_iff.mp e
    obtain ⟨i, j, rfl, rfl, rfl⟩ := lt_run p q e2
    have z : (!decide (i < j)) = decide (j ≤ i) := by rw [Bool.eq_iff_iff]; simp
    rw [z] at hc
    exact op_ge pins s σ H _ _ v u Q I rx ry ⟨i, j, rfl, rfl, CP.now hc hR (.bl _)⟩
/-- a comparison's result is a truth value -/
theorem cmpD_bl {o : Cop} {st st' : Sto} {d : D} (h : cmpD o d1 d2 st = .ok d st') : ∃ c, d = .bl c ∧ st' = st := by
  have key : ∀ (w : Option Bool) (f : Bool → D), (∀ b, ∃ c, f b = .bl c) → ofO (w.map f) st = .ok d st' → ∃ c, d = .bl c ∧ st' = st := fun w f hf z => by
    cases w with
    | none => cases z
    | some b =>
      obtain ⟨c, hc⟩ := hf b
      have z : Out.ok (f b) st = .ok d st' := z
      injection z with z1 z2
      exact ⟨c, by rw [← z1, hc], z2.symm⟩
  cases o <;> exact key _ _ (fun b => ⟨_, rfl⟩) h
theorem cmpD_noexc {o : Cop} {st st' : Sto} {z : Xn} : cmpD o d1 d2 st ≠ .exc z st' := fun h => by
  have key : ∀ (w : Option D), ofO w st ≠ (Out.exc z st' : Out D) := fun w e => by cases w <;> cases e
  cases o <;> exact key _ h

/-! ### truth -/
theorem tru_run (p : Rep k.K r H x d1) (hR : RelH k.K r st H) (e : tru st d1 = some c) : TruV k.K x H c := by
  cases p with
  | dct => cases e
  | obj => cases e
  | non => cases e; rfl
  | bl b => cases e; rfl
  | int i => cases e; rfl
  | str z =>
    have e : (if z.length ≤ lineN then some (z.length != 0) else none) = some c := e
    split at e
    · rename_i hl
      cases e
      refine ⟨by rw [line_eq]; exact hl, ?_⟩
      rw [Bool.eq_iff_iff]; simp
    · cases e
  | tup h q =>
    cases e
    refine .inr (.inl ⟨_, h, ?_⟩)
    cases q <;> rfl
  | fl h n q =>
    cases e
    refine .inl ⟨_, .inl h, ?_⟩
    cases q <;> rfl
  | ref h hk =>
    obtain ⟨xs, e1, e2⟩ := Option.map_eq_some_iff.mp e
    obtain ⟨b, vs, f1, f2, f3⟩ := hR.has _ _ e1 h hk
    rw [h] at f1; cases f1
    refine .inl ⟨_, .inl (.inl f2), ?_⟩
    rw [← e2]
    cases f3 <;> rfl
end
/-! ### [ ] -/
section
variable {X : L2.Cx} {k : Kx}
theorem Reps.atI {K : PySem.W.Frag} {r : Rg} {H : Hp} {vs : List V} {ds : List D} {i : Int} {d : D} (h : Reps K r H vs ds) (e : atI ds i = some d) : ∃ v, L2.atI vs i = some v ∧ Rep K r H v d := by
  obtain ⟨j, e1, e2⟩ := Option.bind_eq_some_iff.mp e
  obtain ⟨v, e3, p⟩ := h.get e2
  refine ⟨v, ?_, p⟩
  show (L2.ixN vs.length i).bind _ = _
  rw [h.len]
  show (Mi.ixN ds.length i).bind _ = _
  rw [e1]
  exact e3
theorem ixOp (kK : k.K = X.K) : IxR X (rF k ixD) := by
  intro value slice pins s σ H x y v u Q I rx ry h hs
  obtain ⟨r, st, W, σ0, d1, d2, hR, p, q, hc⟩ := h
  cases q with
  | int i =>
    have seq : ∀ xs, d1.seq? st = some xs → CP (RV k) k W σ0 r H (ofO (atI xs i) st) Q → wpAny (model X.prog X.w) X.A (subscriptTail value slice v u) (EP X pins σ Q) X.xe s := fun xs e hc => by
      obtain ⟨d, e2, hc⟩ := CP.ofO hc
      obtain ⟨a, vs, rfl, hq, ps⟩ := seq_of hR p e
      obtain ⟨w, e3, pw⟩ := ps.atI e2
      rcases hq with hq | hq
      · exact ix_list value slice pins s σ H _ _ v u Q I rx ry ⟨a, vs, i, w, rfl, rfl, .inl hq, e3, CP.now hc hR pw⟩ hs
      · exact ix_tup value slice pins s σ H _ _ v u Q I rx ry ⟨a, vs, i, w, rfl, rfl, by rw [← kK]; exact hq, e3, CP.now hc hR pw⟩ hs
    have seq2 : CP (RV k) k W σ0 r H (match d1.seq? st with
        | some xs => ofO (atI xs i) st
        | none => .bad) Q → wpAny (model X.prog X.w) X.A (subscriptTail value slice v u) (EP X pins σ Q) X.xe s := fun hc => by
      cases e : d1.seq? st with
      | none => rw [e] at hc; exact hc.elim
      | some xs => rw [e] at hc; exact seq xs e hc
    cases p with
    | str z =>
      have hc : CP (RV k) k W σ0 r H (if z.length ≤ lineN then ofO ((atI z.cps.toList i).map fun c => .str ⟨#[c]⟩) st else .bad) Q := hc
      split at hc
      · rename_i hl
        obtain ⟨d, e2, hc⟩ := CP.ofO hc
        obtain ⟨c, e3, rfl⟩ := Option.map_eq_some_iff.mp e2
        exact ix_str value slice pins s σ H _ _ v u Q I rx ry ⟨z, i, c, rfl, rfl, by rw [line_eq]; exact hl, e3, CP.now hc hR (.str _)⟩ hs
      · exact hc.elim
    | tup h q => exact seq2 hc
    | fl h n q => exact seq2 hc
    | ref h hk => exact seq2 hc
    | _ => exact hc.elim
  | _ => cases p <;> exact hc.elim
/-- a slice -/
def rSl (k : Kx) : V → Option Int → Option Int → Hp → VK → Prop := fun x lo hi H Q => ∃ r st W σ d, RelH k.K r st H ∧ Rep k.K r H x d ∧ CP (RV k) k W σ r H (slD d lo hi st) Q
theorem sIx_same : sIx = HT.sIx := by
  funext n d o
  cases o <;> rfl
theorem Reps.cut {K : PySem.W.Frag} {r : Rg} {H : Hp} {vs : List V} {ds : List D} (h : Reps K r H vs ds) (lo hi : Option Int) : Reps K r H (cutV vs lo hi) (cut ds lo hi) := by
  unfold cutV Mi.cut
  rw [← sIx_same, h.len]
  exact (h.drop _).take _
theorem slOp (kK : k.K = X.K) : SlR X (rSl k) := by
  intro pins s σ H x v vl vu lo hi sl Q I rx hs pl pu h
  obtain ⟨r, st, W, σ0, d, hR, p, hc⟩ := h
  have lst : ∀ {a : Addr} {vs : List V} {ds : List D}, x = .ref a → Rd H a (.lst vs) → Reps k.K r H vs ds → CP (RV k) k W σ0 r H (.ok (.fl (cut ds lo hi)) st) Q →
      ∃ T id, typeLookup (.type T) "__getitem__" = pure (some (.builtin id)) ∧ s.TypeIs v T ∧ wpAny (model X.prog X.w) X.A (getItem v (.ref sl)) (EP X pins σ Q) X.xe s := fun {a vs ds} e hq ps hc => by
    refine sl_list pins s σ H x v vl vu lo hi sl Q I rx hs pl pu ⟨a, vs, e, .inl hq, fun q nq => ?_⟩
    have hn : q ∉ r := hR.fresh nq
    exact hc r _ _ (Ext.new nq) (hR.ext_new nq) (.fl (.inl upd_same) hn ((ps.cut lo hi).ext (Ext.new nq) hR))
  cases p with
  | tup h q =>
    rename_i a vs ds
    have hc : CP (RV k) k W σ0 r H (.ok (.tup (cut ds lo hi)) st) Q := hc
    refine sl_tupA pins s σ H _ v vl vu lo hi sl Q I rx hs pl pu ⟨a, vs, rfl, by rw [← kK]; exact h, fun e => ?_, fun _ p np => ?_⟩
    · have e2 : cut ds lo hi = ds := by
        unfold cut
        rw [sIx_same, ← q.len, e.1, e.2, Nat.sub_zero, List.drop_zero, q.len, List.take_length]
      rw [e2] at hc
      exact CP.now hc hR (.tup h q)
    · exact hc r _ _ (Ext.new np) (hR.ext_new np) (.tup (.inl (.inl upd_same)) ((q.cut lo hi).ext (Ext.new np) hR))
  | fl h n q => exact lst rfl h q hc
  | ref h hk =>
    rename_i a n
    have hc : CP (RV k) k W σ0 r H (match st[n]? with
      | some xs => .ok (.fl (cut xs lo hi)) st
      | none => .bad) Q := hc
    cases e : st[n]? with
    | none => rw [e] at hc; exact hc.elim
    | some xs =>
      rw [e] at hc
      obtain ⟨b, vs, f1, f2, f3⟩ := hR.has _ _ e h hk
      rw [h] at f1; cases f1
      exact lst rfl (.inl f2) f3 hc
  | str z =>
    have hc : CP (RV k) k W σ0 r H (if z.length ≤ lineN then .ok (.str (cutS z lo hi)) st else .bad) Q := hc
    split at hc
    · rename_i hl
      refine sl_str pins s σ H _ v vl vu lo hi sl Q I rx hs pl pu ⟨z, rfl, by rw [line_eq]; exact hl, ?_⟩
      have e : L2.cutS z lo hi = cutS z lo hi := by
        unfold L2.cutS cutS Mi.cut
        rw [← sIx_same]
        have : z.length = z.cps.toList.length := by simp [Str.length]
        rw [this]
      rw [e]
      exact CP.now hc hR (.str _)
    · exact hc.elim
  | _ => exact hc.elim
end
end Mi
end
section
/-! MiE2: sorted of tuples, texts, rows. -/
namespace Mi
open PySem PySem.Spec PyProof.Rows L2
theorem sgLt_item : ∀ a b : Int ⊕ List Nat, itemLt a b = sgLt a b
  | .inl a, .inl b => rfl
  | .inl a, .inr b => rfl
  | .inr a, .inl b => rfl
  | .inr a, .inr b => rfl
theorem rwLt_lex : ∀ a b : List (Int ⊕ List Nat), PyProof.Rows.lexLt itemOrd a b = rwLt a b
  | [], [] => rfl
  | [], _ :: _ => rfl
  | _ :: _, [] => rfl
  | x :: r, y :: t => by
    have h := rwLt_lex r t
    show (itemLt x y || (!itemLt y x && PyProof.Rows.lexLt itemOrd r t)) = _
    rw [h, sgLt_item, sgLt_item]
    rfl
mutual
theorem tok_py : ∀ d : D, PySem.W.keyToks d.py = d.tok
  | .non => by simp [D.py, PySem.W.keyToks, D.tok]
  | .bl b => by simp [D.py, PySem.W.keyToks, D.tok]
  | .int i => by simp [D.py, PySem.W.keyToks, D.tok]
  | .str x => by simp [D.py, PySem.W.keyToks, D.tok]
  | .tup xs => by simp only [D.py, PySem.W.keyToks, D.tok]; exact toks_py xs
  | .fl xs => by simp only [D.py, PySem.W.keyToks, D.tok]; exact toks_py xs
  | .ref _ => by simp [D.py, PySem.W.keyToks, D.tok]
  | .dct _ => by simp [D.py, PySem.W.keyToks, D.tok]
  | .obj _ _ => by simp [D.py, PySem.W.keyToks, D.tok]
theorem toks_py : ∀ ds : List D, PySem.W.keyToksAll (D.pys ds) = D.toks ds
  | [] => by simp [D.pys, PySem.W.keyToksAll, D.toks]
  | x :: xs => by simp only [D.pys, PySem.W.keyToksAll, D.toks]; rw [tok_py x, toks_py xs]
end
mutual
theorem lik_py : ∀ a b : D, D.lik a b = true → PySem.W.alike a.py b.py = true
  | .non, b, h => by cases b <;> simp [D.lik] at h
  | .bl _, b, h => by cases b <;> simp [D.lik] at h; simp [D.py, PySem.W.alike]
  | .int _, b, h => by cases b <;> simp [D.lik] at h; simp [D.py, PySem.W.alike]
  | .str _, b, h => by cases b <;> simp [D.lik] at h; simp [D.py, PySem.W.alike]
  | .tup xs, b, h => by
    cases b <;> simp only [D.lik] at h <;> first | (cases h; done) | skip
    simp only [D.py, PySem.W.alike]
    exact liks_py _ _ h
  | .fl xs, b, h => by
    cases b <;> simp only [D.lik] at h <;> first | (cases h; done) | skip
    simp only [D.py, PySem.W.alike]
    exact liks_py _ _ h
  | .ref _, b, h => by cases b <;> simp [D.lik] at h
  | .dct _, b, h => by cases b <;> simp [D.lik] at h
  | .obj _ _, b, h => by cases b <;> simp [D.lik] at h
theorem liks_py : ∀ a b : List D, D.liks a b = true → PySem.W.alikeAll (D.pys a) (D.pys b) = true
  | [], b, _ => by cases b <;> simp [D.pys, PySem.W.alikeAll]
  | x :: xs, [], _ => by simp [D.pys, PySem.W.alikeAll]
  | x :: xs, y :: ys, h => by
    simp only [D.liks, Bool.and_eq_true] at h
    simp only [D.pys, PySem.W.alikeAll, Bool.and_eq_true]
    exact ⟨lik_py x y h.1, liks_py xs ys h.2⟩
end
theorem ltb_data (a b : D) : PyProof.Rows.lexLt itemOrd (PySem.W.keyToks a.py) (PySem.W.keyToks b.py) = D.ltb a b := by
  rw [tok_py, tok_py, rwLt_lex]; rfl
abbrev leD : D → D → Bool := PySem.W.dataLe false D.py
theorem leD_eq (a b : D) : leD a b = !D.ltb b a := by
  show (!PyProof.Rows.lexLt itemOrd (PySem.W.keyToks b.py) (PySem.W.keyToks a.py)) = _
  rw [ltb_data]
theorem leD_total : PySem.W.TotalLe leD := PySem.W.sortLe_total _ _ _
theorem insD_perm (d : D) : ∀ l : List D, (insD d l).Perm (d :: l)
  | [] => .refl _
  | e :: l => by
    rw [insD]
    split
    · exact ((insD_perm d l).cons e).trans (.swap d e l)
    · exact .refl _
theorem insD_up (d : D) : ∀ l : List D, l.Pairwise (fun a b => leD a b = true) → (insD d l).Pairwise fun a b => leD a b = true
  | [], _ => List.pairwise_singleton _ _
  | e :: l, h => by
    have hj := List.pairwise_cons.mp h
    rw [insD]
    split
    · rename_i c
      refine List.pairwise_cons.mpr ⟨fun y hy => ?_, insD_up d l hj.2⟩
      rcases List.mem_cons.mp ((insD_perm d l).mem_iff.mp hy) with q | hy
      · subst q
        rcases leD_total.total e y with z | z
        · exact z
        · rw [leD_eq, c] at z; cases z
      · exact hj.1 y hy
    · rename_i c
      have c : leD d e = true := by rw [leD_eq]; simpa using c
      refine List.pairwise_cons.mpr ⟨fun y hy => ?_, h⟩
      rcases List.mem_cons.mp hy with q | hy
      · exact q ▸ c
      · exact leD_total.trans _ _ _ c (hj.1 y hy)
theorem sortD_up : ∀ l : List D, (sortD l).Pairwise fun a b => leD a b = true
  | [] => .nil
  | d :: l => insD_up d _ (sortD_up l)
theorem insD_filter (c d : D) : ∀ l : List D, (insD d l).filter (PySem.W.sameRank leD c) = (d :: l).filter (PySem.W.sameRank leD c)
  | [] => rfl
  | e :: l => by
    rw [insD]
    split
    · rename_i h
      rw [List.filter_cons, insD_filter c d l]
      by_cases h1 : PySem.W.sameRank leD c e = true
      · by_cases h2 : PySem.W.sameRank leD c d = true
        · exfalso
          unfold PySem.W.sameRank at h1 h2
          rw [Bool.and_eq_true] at h1 h2
          have := leD_total.trans _ _ _ h2.2 h1.1
          rw [leD_eq, h] at this
          cases this
        · simp only [List.filter_cons, h1, h2, if_true]; rfl
      · simp only [List.filter_cons, h1]
        by_cases h2 : PySem.W.sameRank leD c d = true
        · simp [h2]
        · simp [h2]
    · rfl
theorem sortD_filter (c : D) : ∀ l : List D, (sortD l).filter (PySem.W.sameRank leD c) = l.filter (PySem.W.sameRank leD c)
  | [] => rfl
  | d :: l => by
    rw [sortD, insD_filter, List.filter_cons, List.filter_cons, sortD_filter c l]
theorem sortD_eq (l : List D) : sortD l = l.mergeSort leD := PySem.W.sort_unique leD_total (sortD_up l) fun c => sortD_filter c l

/-- sorted(xs), xs of data -/
def rSortedD (K : PySem.W.Frag) : List V → Hp → VK → Prop := fun vs H Q => ∃ (a : Addr) (xs : List V) (ds : List D), vs = [V.ref a] ∧ SqL K H a xs ∧ DpAll K H xs (D.pys ds) ∧ sortOk ds = true ∧
  ∀ (zs : List (V × D)) (p : Addr), zs.Perm (xs.zip ds) → zs.map Prod.snd = sortD ds → H p = none → Q (.ref p) (upd H p (.lst (zs.map Prod.fst)))
theorem each_vals : ∀ {xs : List V} {us : List Value} {ds : List D}, Vals xs us → xs.length = ds.length → PySem.W.EachIs (fun u (p : V × D) => RelV p.1 u) us (xs.zip ds)
  | _, _, [], .nil, _ => .nil
  | _, _, d :: ds, .cons r t, h => .cons r (each_vals t (by simpa using h))
theorem vals_each : ∀ {us : List Value} {zs : List (V × D)}, PySem.W.EachIs (fun u (p : V × D) => RelV p.1 u) us zs → Vals (zs.map Prod.fst) us
  | _, _, .nil => .nil
  | _, _, .cons r t => .cons r (vals_each t)
theorem dp_len {K : PySem.W.Frag} {H : Hp} : ∀ {xs : List V} {ds : List D}, DpAll K H xs (D.pys ds) → xs.length = ds.length
  | xs, [], h => by simp only [D.pys] at h; cases h; rfl
  | xs, d :: ds, h => by
    simp only [D.pys] at h
    cases h with
    | cons a b => rw [List.length_cons, List.length_cons, dp_len b]
section
variable {X : L2.Cx} {pins : List (Addr × Obj)} {σ : L2.St} {H : Hp} {s : Shared}
theorem each_reads (I : Inv X pins σ H s) : ∀ {xs : List V} {us : List Value} {ds : List D}, DpAll X.K H xs (D.pys ds) → Vals xs us → PySem.W.EachIs (fun u (p : V × D) => ∃ as, Reads s.heap u p.2.py as) us (xs.zip ds)
  | xs, us, [], h, r => by simp only [D.pys] at h; cases h; cases r; exact .nil
  | xs, us, d :: ds, h, r => by
    simp only [D.pys] at h
    cases h with
    | cons h1 h2 =>
      cases r with
      | cons r1 r2 => exact .cons (Dp.reads I d.py _ _ h1 r1) (each_reads I h2 r2)
theorem cr_sortedD {X : L2.Cx} (hu : X.A.units + 65 < cLine) : CallR X (.builtin "sorted") (rSortedD X.K) := by
  intro pins s σ H vs us Q I r h
  obtain ⟨a, xs, ds, rfl, hs, hd, ok, q⟩ := h
  obtain ⟨its, rv, hl, hz⟩ := I.list hs
  rw [Vals.ref1 r]
  have hlen := dp_len hd
  unfold sortOk at ok
  simp only [Bool.and_eq_true, decide_eq_true_eq, Bool.or_eq_true, List.all_eq_true] at ok
  obtain ⟨o1, o2, o3, o4, o5⟩ := ok
  have snd : (xs.zip ds).map Prod.snd = ds := List.map_snd_zip (by omega)
  have mem : ∀ p ∈ xs.zip ds, p.2 ∈ ds := fun p hp => (List.of_mem_zip hp).2
  have e := each_vals (ds := ds) rv hlen
  have er := each_reads I hd rv
  have fin : ∀ d ∈ ds, D.fine 40 d = true := by
    have go : ∀ (l : List D), D.fines 40 l = true → ∀ d ∈ l, D.fine 40 d = true := fun l => by
      induction l with
      | nil => intro _ d hd; cases hd
      | cons x l ih =>
        intro h d hd
        simp only [D.fines, Bool.and_eq_true] at h
        rcases List.mem_cons.mp hd with rfl | hd
        · exact h.1
        · exact ih h.2 d hd
    exact go ds o5
  refine PySem.W.sorted_data (enc := fun p : V × D => p.2.py) hl.isList e er ?_ ?_ ?_ ?_ ?_
  · intro d hd d' hd'
    obtain ⟨p, hp, rfl⟩ := List.mem_map.mp hd
    obtain ⟨p', hp', rfl⟩ := List.mem_map.mp hd'
    exact lik_py _ _ (o2 _ (mem p hp) _ (mem p' hp'))
  · rcases o3 with o3 | o3
    · refine .inl fun d hd => ?_
      obtain ⟨p, hp, rfl⟩ := List.mem_map.mp hd
      have := o3 _ (mem p hp)
      match p, this with
      | (_, .tup (x :: r)), _ => exact ⟨x.py, D.pys r, by simp [D.py, D.pys]⟩
    · refine .inr fun d hd => ?_
      obtain ⟨p, hp, rfl⟩ := List.mem_map.mp hd
      have := o3 _ (mem p hp)
      have pu : p.2.pur = true := D.fine_pur _ _ (fin _ (mem p hp))
      match p, this, pu with
      | (_, .bl _), _, _ => exact ⟨by simp [D.py], by simp [D.py]⟩
      | (_, .int _), _, _ => exact ⟨by simp [D.py], by simp [D.py]⟩
      | (_, .str _), _, _ => exact ⟨by simp [D.py], by simp [D.py]⟩
      | (_, .fl _), _, _ => exact ⟨by simp [D.py], by simp [D.py]⟩
      | (_, .ref _), _, h => exact absurd h (by simp [D.pur])
  · have : lineN = sizeLine := rfl
    rw [List.length_zip, hlen, Nat.min_self]
    omega
  · intro p hp
    have := (D.fine_lay 40 _ (fin _ (mem p hp))).2
    show X.A.units + 2 + p.2.py.depth < cLine
    omega
  · intro out h1 h2
    have vo := vals_each h2
    obtain ⟨ep, he'⟩ := PyProof.Rows.sortedAll_at s.heap its out.toArray
    have hl2 : (((xs.zip ds).mergeSort (PySem.W.dataLe false fun p : V × D => p.2.py)).map Prod.fst).length ≤ sizeLine := by
      rw [List.length_map, List.length_mergeSort, List.length_zip, hlen, Nat.min_self, ← hlen]
      exact hz
    refine ⟨.ref _, upd H (s.heap.objs.size + 1) (.lst (((xs.zip ds).mergeSort (PySem.W.dataLe false fun p : V × D => p.2.py)).map Prod.fst)), I.laid (t' := s.toks) (fun _ _ => PyProof.Rows.sortedAll_old) (Nat.le_succ _) ⟨hl2, out, ep, vo, he'⟩, rfl, q _ _ (List.mergeSort_perm _ _) ?_ (I.hok.fresh (Nat.le_succ _))⟩
    rw [sortD_eq]
    have := PySem.W.sort_maps (r := PySem.W.dataLe false fun p : V × D => p.2.py) (s := leD) Prod.snd (l := xs.zip ds) (fun _ _ _ _ => rfl)
    rw [this, snd]
end
/-- what stands in sorted pairs -/
theorem Reps.zs {K : PySem.W.Frag} {r : Rg} {H : Hp} {xs : List V} {ds : List D} (p : Reps K r H xs ds) : ∀ z ∈ xs.zip ds, Rep K r H z.1 z.2 := by
  induction ds generalizing xs with
  | nil => intro z hz; simp at hz
  | cons d ds ih =>
    cases p with
    | cons a b =>
      intro z hz
      rw [List.zip_cons_cons] at hz
      rcases List.mem_cons.mp hz with rfl | hz
      · exact a
      · exact ih b z hz
theorem Reps.of_zs {K : PySem.W.Frag} {r : Rg} {H : Hp} : ∀ {zs : List (V × D)}, (∀ z ∈ zs, Rep K r H z.1 z.2) → Reps K r H (zs.map Prod.fst) (zs.map Prod.snd)
  | [], _ => .nil
  | z :: zs, h => .cons (h z List.mem_cons_self) (Reps.of_zs fun y hy => h y (List.mem_cons_of_mem _ hy))
end Mi
end
section
/-! MiE3: sorted of a tuple of ints. -/
namespace Mi
open PySem PySem.Spec PyProof.Rows L2
def rSortedTI (K : PySem.W.Frag) : List V → Hp → VK → Prop := fun vs H Q => ∃ (a : Addr) (ns : List Int), vs = [V.ref a] ∧ SqT K H a (ns.map V.int) ∧
  ∀ (ns' : List Int) (p : Addr), ns'.Perm ns → ns'.Pairwise (· ≤ ·) → H p = none → Q (.ref p) (upd H p (.lst (ns'.map V.int)))
theorem cr_sortedTI {X : L2.Cx} : CallR X (.builtin "sorted") (rSortedTI X.K) := by
  intro pins s σ H vs us Q I r h
  obtain ⟨a, ns, rfl, hs, q⟩ := h
  obtain ⟨its, rv, ⟨o, ho, hc, n, hd⟩, hz⟩ := I.tuple hs
  rw [Vals.ref1 r]
  have hi := rv.ints
  have hz2 : its.length ≤ sizeLine := by rw [← rv.length]; exact hz
  refine PySem.Calls.call_function_entry PyProof.Rows.kind_sorted PyProof.Rows.plain_sorted PyProof.Rows.entry_sorted (PyProof.Rows.args_sorted1 _) ?_
  unfold Builtin.«sorted»
  refine wpAny_bind (m := checkCount "sorted" 1 1 _) (wpAny_pure ?_)
  refine wpAny_bind (wpAny_collect_seq a (.inr rfl) ho hc hd (fun h' hk => ?_) (by rw [List.size_toArray]; exact hz2))
  have e0 : its.toArray.toList = its := by simp
  rw [e0]
  refine wpAny_bind (wpAny_newList ?_ hz2)
  have hoL : (h'.push (seqObj "list" its.toArray 0)).get? h'.objs.size = some (seqObj "list" its.toArray 0) := Heap.get?_push_size _ rfl
  have I2 : Inv X pins σ H { s with heap := h' } := I.kept (t' := s.toks) hk
  refine wpAny_bind (wpAny_holding (wpAny_call_entry PyProof.Rows.slot_list_sort ⟨_, hoL, rfl⟩ PyProof.Rows.entry_list_sort (SrtO.list_sort_ord (s := { s with heap := h'.push (seqObj "list" its.toArray 0) }) SrtO.swo_int hoL hz2 (fun h2 => SrtO.ints_sortable hi h2) fun out h1 h2 => ⟨_, rfl, ?_⟩) (PyProof.Rows.args_list_sort _)))
  refine wpAny_pure ⟨_, rfl, ?_⟩
  obtain ⟨k1, k2, k3⟩ := SrtO.ints_out hi h1 h2
  obtain ⟨ep, he'⟩ := PyProof.Rows.sortedHeap_at (vs := its) (out := out.toArray) hoL
  have hlen : ((out.map SrtO.iv).map V.int).length ≤ sizeLine := by
    rw [List.length_map, k2.length_eq]
    rw [List.length_map] at hz
    exact hz
  refine ⟨.ref _, upd H h'.objs.size (.lst ((out.map SrtO.iv).map V.int)), I2.laid (t' := s.toks) (fun b u e => ?_) (Nat.le_refl _) ⟨hlen, out, ep, vals_of_ints k1, he'⟩, rfl, q _ _ k2 k3 (I2.hok.fresh (Nat.le_refl _))⟩
  have hb : b < h'.objs.size := Heap.lt_size e
  have e2 : (h'.push (seqObj "list" its.toArray 0)).get? b = some u := Heap.get?_push_of_some _ e
  rw [PyProof.Rows.sortedHeap_old (Nat.ne_of_lt hb) (Heap.lt_size e2)]
  exact e2
end Mi
end
section
/-! MiE4: min and max of rows. -/
namespace Mi
open PySem PySem.Spec PyProof.Rows L2
theorem purs_memE : ∀ {ds : List D}, D.purs ds = true → ∀ x ∈ ds, x.pur = true
  | d :: ds, h, x, hx => by
    simp only [D.purs, Bool.and_eq_true] at h
    rcases List.mem_cons.mp hx with rfl | hx
    · exact h.1
    · exact purs_memE h.2 x hx
/-! min and max of rows -/
section
variable {X : L2.Cx} {pins : List (Addr × Obj)} {σ : L2.St} {H : Hp} {s : Shared}
theorem reads_all (I : Inv X pins σ H s) : ∀ {xs : List V} {us : List Value} {ps : List PyData}, DpAll X.K H xs ps → Vals xs us → ∃ as, ReadsAll s.heap us ps as
  | _, _, [], h, r => by cases h; cases r; exact ⟨_, .nil⟩
  | _, _, p :: ps, h, r => by
    cases h with
    | cons h1 h2 =>
      cases r with
      | cons r1 r2 =>
        obtain ⟨as, e⟩ := Dp.reads I p _ _ h1 r1
        obtain ⟨bs, f⟩ := reads_all I h2 r2
        exact ⟨_, .cons e f⟩
theorem pys_getD : ∀ (ds : List D) (i : Nat), (D.pys ds).getD i .none = (ds.getD i .non).py
  | [], _ => by simp [D.pys, D.py]
  | d :: ds, 0 => by simp [D.pys]
  | d :: ds, i + 1 => by
    have := pys_getD ds i
    simpa [D.pys] using this
theorem dlt_ltb (a b : D) : PySem.W.dataLt a.py b.py = D.ltb a b := ltb_data a b
theorem mnOk_alike {ds : List D} (h : mnOk ds = true) : PySem.W.AlikeAll (D.pys ds) ∧ D.purs ds = true ∧ PyData.depthAll (D.pys ds) ≤ 40 := by
  unfold mnOk at h
  simp only [Bool.and_eq_true, List.all_eq_true] at h
  obtain ⟨h1, h2, h3⟩ := h
  refine ⟨⟨fun x hx y hy => ?_, fun x hx => ?_⟩, h2, (D.fines_lay 40 _ h3).2⟩
  · rw [D.pys_map] at hx hy
    obtain ⟨a, ha, rfl⟩ := List.mem_map.mp hx
    obtain ⟨b, hb, rfl⟩ := List.mem_map.mp hy
    exact lik_py _ _ (h1 a ha b hb)
  · rw [D.pys_map] at hx
    obtain ⟨a, ha, rfl⟩ := List.mem_map.mp hx
    have := h1 a ha a ha
    have pu := purs_memE h2 a ha
    cases a with
    | non => simp [D.lik] at this
    | ref _ => simp [D.pur] at pu
    | dct _ => simp [D.pur] at pu
    | obj _ _ => simp [D.pur] at pu
    | _ => simp [D.py]
theorem best_at {d : D} {ds : List D} (f : D → D → Bool) : ((d :: ds)[argBest (fun i j => f ((d :: ds).getD i .non) ((d :: ds).getD j .non)) ds.length]?) = some (ds.foldl (fun a y => if f y a = true then y else a) d) := by
  obtain ⟨h1, h2⟩ := PySem.W.argBest_fold f D.non d ds ds.length (Nat.le_refl _)
  rw [List.take_length] at h2
  have hl : argBest (fun i j => f ((d :: ds).getD i .non) ((d :: ds).getD j .non)) ds.length < (d :: ds).length := by rw [List.length_cons]; omega
  rw [List.getElem?_eq_getElem hl, ← h2, List.getD_eq_getElem?_getD, List.getElem?_eq_getElem hl]
  rfl
end
section
variable {X : L2.Cx} {pins : List (Addr × Obj)} {σ : L2.St} {H : Hp} {s : Shared} {a : Addr} {ws : List V} {d : D} {ds : List D} {R : Value → Shared → Prop}
theorem best_vals {its : List Value} {v : Value} (f : D → D → Bool) (rv : Vals ws its) (hn : its.toArray.size = ds.length + 1) (hP : its.toArray[argBest (fun i j => f ((d :: ds).getD i .non) ((d :: ds).getD j .non)) (its.toArray.size - 1)]? = some v) :
    ∃ (i : Nat) (w : V), ws[i]? = some w ∧ (d :: ds)[i]? = some (ds.foldl (fun a y => if f y a = true then y else a) d) ∧ RelV w v := by
  have e1 : its.toArray.size - 1 = ds.length := by omega
  rw [e1] at hP
  have hP : its[argBest (fun i j => f ((d :: ds).getD i .non) ((d :: ds).getD j .non)) ds.length]? = some v := by simpa using hP
  have hl : argBest (fun i j => f ((d :: ds).getD i .non) ((d :: ds).getD j .non)) ds.length < its.length := (List.getElem?_eq_some_iff.mp hP).1
  have hw : ws.length = its.length := Vals.length rv
  obtain ⟨u, g1, g2⟩ := Vals.get rv (List.getElem?_eq_getElem (by rw [hw]; exact hl))
  rw [hP] at g1
  cases g1
  exact ⟨_, _, List.getElem?_eq_getElem (by rw [hw]; exact hl), best_at f, g2⟩
theorem call_min_rows (hh : X.A.handled = none) (hu : X.A.units + 65 < cLine) (I : Inv X pins σ H s) (hq : SqL X.K H a ws ∨ SqT X.K H a ws) (hd : DpAll X.K H ws (D.pys (d :: ds))) (ok : mnOk (d :: ds) = true)
    (h : ∀ (i : Nat) (v : V) (u : Value) h' tk, ws[i]? = some v → (d :: ds)[i]? = some (minR d ds) → RelV v u → (∀ b o, s.heap.get? b = some o → h'.get? b = some o) → R u { s with heap := h', toks := tk }) :
    wpAny (model X.prog X.w) X.A (call (.builtin "min") [.ref a]) R X.xe s := by
  obtain ⟨al, pu, dep⟩ := mnOk_alike ok
  have e0 : (D.pys (d :: ds)).length = ds.length + 1 := by rw [D.pys_map, List.length_map, List.length_cons]
  have eb : (fun i j => PySem.W.dataLt ((D.pys (d :: ds)).getD i .none) ((D.pys (d :: ds)).getD j .none)) = fun i j => D.ltb ((d :: ds).getD i .non) ((d :: ds).getD j .non) := by funext i j; rw [pys_getD, pys_getD, dlt_ltb]
  rcases hq with hq | hq
  · obtain ⟨its, rv, hl, hz⟩ := I.list hq
    have hl := hl.isList
    obtain ⟨as, hr⟩ := reads_all I hd rv
    have hr : ReadsAll s.heap its.toArray.toList (D.pys (d :: ds)) as := hr
    have hn : its.toArray.size = ds.length + 1 := by rw [PySem.W.readsAll_len hr, e0]
    refine PySem.call_min_walkH (PySem.W.iter_listW (A := X.A.in1) hh hl fun s₂ e W st hfp hw hk => ?_)
    refine ⟨_, _, _, _, _, _, _, s.heap, _, rfl, W, st, hfp, by omega, hw, hk, PySem.W.cmpIn_lt (A := X.A.in1) hr al (by show X.A.units + 1 + _ < _; omega), fun v s' hP m => ?_⟩
    obtain ⟨h', tk, rfl, hk'⟩ := PySem.W.moved_old e rfl m
    rw [eb] at hP
    obtain ⟨i, w, g1, g2, g3⟩ := best_vals D.ltb rv hn hP
    exact h i w v h' tk g1 g2 g3 hk'
  · obtain ⟨its, rv, hl, hz⟩ := I.tuple hq
    have hl : s.heap.IsTuple a its.toArray := hl
    obtain ⟨as, hr⟩ := reads_all I hd rv
    have hr : ReadsAll s.heap its.toArray.toList (D.pys (d :: ds)) as := hr
    have hn : its.toArray.size = ds.length + 1 := by rw [PySem.W.readsAll_len hr, e0]
    refine PySem.call_min_walkH (PySem.W.iter_tupleW (A := X.A.in1) hh hl fun s₂ e W st hfp hw hk => ?_)
    refine ⟨_, _, _, _, _, _, _, s.heap, _, rfl, W, st, hfp, by omega, hw, hk, PySem.W.cmpIn_lt (A := X.A.in1) hr al (by show X.A.units + 1 + _ < _; omega), fun v s' hP m => ?_⟩
    obtain ⟨h', tk, rfl, hk'⟩ := PySem.W.moved_old e rfl m
    rw [eb] at hP
    obtain ⟨i, w, g1, g2, g3⟩ := best_vals D.ltb rv hn hP
    exact h i w v h' tk g1 g2 g3 hk'
theorem call_max_rows (hh : X.A.handled = none) (hu : X.A.units + 65 < cLine) (I : Inv X pins σ H s) (hq : SqL X.K H a ws ∨ SqT X.K H a ws) (hd : DpAll X.K H ws (D.pys (d :: ds))) (ok : mnOk (d :: ds) = true)
    (h : ∀ (i : Nat) (v : V) (u : Value) h' tk, ws[i]? = some v → (d :: ds)[i]? = some (maxR d ds) → RelV v u → (∀ b o, s.heap.get? b = some o → h'.get? b = some o) → R u { s with heap := h', toks := tk }) :
    wpAny (model X.prog X.w) X.A (call (.builtin "max") [.ref a]) R X.xe s := by
  obtain ⟨al, pu, dep⟩ := mnOk_alike ok
  have e0 : (D.pys (d :: ds)).length = ds.length + 1 := by rw [D.pys_map, List.length_map, List.length_cons]
  have eb : (fun i j => PySem.W.dataLt ((D.pys (d :: ds)).getD j .none) ((D.pys (d :: ds)).getD i .none)) = fun i j => D.ltb ((d :: ds).getD j .non) ((d :: ds).getD i .non) := by funext i j; rw [pys_getD, pys_getD, dlt_ltb]
  rcases hq with hq | hq
  · obtain ⟨its, rv, hl, hz⟩ := I.list hq
    have hl := hl.isList
    obtain ⟨as, hr⟩ := reads_all I hd rv
    have hr : ReadsAll s.heap its.toArray.toList (D.pys (d :: ds)) as := hr
    have hn : its.toArray.size = ds.length + 1 := by rw [PySem.W.readsAll_len hr, e0]
    refine PySem.call_max_walkH (PySem.W.iter_listW (A := X.A.in1) hh hl fun s₂ e W st hfp hw hk => ?_)
    refine ⟨_, _, _, _, _, _, _, s.heap, _, rfl, W, st, hfp, by omega, hw, hk, PySem.W.cmpIn_gt (A := X.A.in1) hr al (by show X.A.units + 1 + _ < _; omega), fun v s' hP m => ?_⟩
    obtain ⟨h', tk, rfl, hk'⟩ := PySem.W.moved_old e rfl m
    rw [eb] at hP
    obtain ⟨i, w, g1, g2, g3⟩ := best_vals (fun a b => D.ltb b a) rv hn hP
    exact h i w v h' tk g1 g2 g3 hk'
  · obtain ⟨its, rv, hl, hz⟩ := I.tuple hq
    have hl : s.heap.IsTuple a its.toArray := hl
    obtain ⟨as, hr⟩ := reads_all I hd rv
    have hr : ReadsAll s.heap its.toArray.toList (D.pys (d :: ds)) as := hr
    have hn : its.toArray.size = ds.length + 1 := by rw [PySem.W.readsAll_len hr, e0]
    refine PySem.call_max_walkH (PySem.W.iter_tupleW (A := X.A.in1) hh hl fun s₂ e W st hfp hw hk => ?_)
    refine ⟨_, _, _, _, _, _, _, s.heap, _, rfl, W, st, hfp, by omega, hw, hk, PySem.W.cmpIn_gt (A := X.A.in1) hr al (by show X.A.units + 1 + _ < _; omega), fun v s' hP m => ?_⟩
    obtain ⟨h', tk, rfl, hk'⟩ := PySem.W.moved_old e rfl m
    rw [eb] at hP
    obtain ⟨i, w, g1, g2, g3⟩ := best_vals (fun a b => D.ltb b a) rv hn hP
    exact h i w v h' tk g1 g2 g3 hk'
end
end Mi
end
section
/-! MiF: built-in functions and methods. -/
namespace Mi
open PySem PySem.Spec PyProof.Rows L2
section
variable {X : L2.Cx} {pins : List (Addr × Obj)} {σ σ0 : L2.St} {H : Hp} {s : Shared} {a : Addr} {k : Kx} {r : Rg} {st : Sto} {W : WX} {Q : VK}
/-- the reading of a built-in function -/
def rBi (k : Kx) (f : List D → Sto → Out D) : List V → Hp → VK → Prop := fun vs H Q => ∃ r st W σ ds, RelH k.K r st H ∧ Reps k.K r H vs ds ∧ CP (RV k) k W σ r H (f ds st) Q
theorem Reps.zero {K : PySem.W.Frag} {vs : List V} (h : Reps K r H vs []) : vs = [] := by cases h; rfl
theorem Reps.one {K : PySem.W.Frag} {vs : List V} {d : D} (h : Reps K r H vs [d]) : ∃ v, vs = [v] ∧ Rep K r H v d := by
  cases h with
  | cons p q => cases q; exact ⟨_, rfl, p⟩
theorem Reps.two {K : PySem.W.Frag} {vs : List V} {d e : D} (h : Reps K r H vs [d, e]) : ∃ v w, vs = [v, w] ∧ Rep K r H v d ∧ Rep K r H w e := by
  cases h with
  | cons p q =>
    cases q with
    | cons p2 q => cases q; exact ⟨_, _, rfl, p, p2⟩
/-! ### len -/
theorem bi_len (kK : k.K = X.K) (fz : Bool) : CallR X (.builtin "len") (rBi k (biD fz .len)) := by
  intro pins s σ H xs us Q I rv h
  obtain ⟨r, st, W, σ0, ds, hR, hs, hc⟩ := h
  have seq : ∀ d, ds = [d] → CP (RV k) k W σ0 r H (ofO ((d.seq? st).map fun xs => .int xs.length) st) Q → wpAny (model X.prog X.w) X.A (call (.builtin "len") us) (EP X pins σ Q) X.xe s := fun d e hd => by
    clear hc
    subst e
    obtain ⟨v, rfl, p⟩ := hs.one
    obtain ⟨w, e1, hc⟩ := CP.ofO hd
    obtain ⟨ys, e2, rfl⟩ := Option.map_eq_some_iff.mp e1
    obtain ⟨a, ws, rfl, hq, ps⟩ := seq_of hR p e2
    rw [← ps.len] at hc
    have hc := CP.now hc hR (.int _)
    refine call_len_seq pins s σ H _ us Q I rv ⟨a, ws, rfl, ?_, hc⟩
    rcases hq with hq | hq
    · exact .inl (.inl hq)
    · exact .inr (by rw [← kK]; exact hq)
  match ds, hs, hc with
  | [], _, hc => exact hc.elim
  | [.str z], hs, hc =>
    obtain ⟨v, rfl, p⟩ := hs.one
    cases p
    have hc : CP (RV k) k W σ0 r H (if z.length ≤ lineN then .ok (.int z.length) st else .bad) Q := hc
    split at hc
    · rename_i hl
      exact call_len_str pins s σ H _ us Q I rv ⟨z, rfl, by rw [line_eq]; exact hl, CP.now hc hR (.int _)⟩
    · exact hc.elim
  | [.non], _, hc => exact hc.elim
  | [.bl _], _, hc => exact hc.elim
  | [.int _], _, hc => exact hc.elim
  | [.tup xs], hs, hc => exact seq _ rfl hc
  | [.fl xs], hs, hc => exact seq _ rfl hc
  | [.ref n], hs, hc => exact seq _ rfl hc
  | d :: e :: l, _, hc => cases d <;> exact hc.elim

/-! ### sum -/
theorem sum_tup (hh : X.A.handled = none) {its : List Value} {ns : List Int} {R : Value → Shared → Prop} (ht : IsTup s.heap a its.toArray) (hi : IntsAre its ns)
    (h : ∀ h' tk t', (∀ b o, s.heap.get? b = some o → h'.get? b = some o) → R (.int ns.sum t') { s with heap := h', toks := tk }) : wpAny (model X.prog X.w) X.A (call (.builtin "sum") [.ref a]) R X.xe s := by
  obtain ⟨xs, e⟩ := hi.allInts.items
  have hn : numsOf (intItems xs).toList = ns := by rw [← e]; exact hi.numsOf
  rw [nums_intItems] at hn
  rw [e] at ht
  have hlt : a < s.heap.objs.size := ht.lt
  have kp : ∀ b o, s.heap.get? b = some o → (s.heap.push { cls := .type "tuple_iterator", data := .fields #[.ref a, .int 0 0] }).get? b = some o := fun b o q => Heap.get?_push_of_some _ q
  refine call_sum_walkG (wpAny_pyIter_tuple (show s.heap.IsTuple a (intItems xs) from ht) ?_)
  obtain ⟨o, ho, hc, n, hd⟩ := ht
  refine ⟨s.heap.objs.size, _, _, _, _, _, numAt xs, rfl, Walks.tuple (A := X.A.in1) hh s.heap.objs.size a (Nat.ne_of_lt hlt) (intItems xs), ⟨⟨_, Heap.get?_push_size _ rfl, rfl, rfl⟩, ⟨o, kp _ _ ho, hc, n, hd⟩⟩, fun b hb => ?_, fun _ _ => intItems_at, fun h' tk t' hk => ?_⟩
  · show b < (s.heap.push _).objs.size
    rw [Heap.size_push]
    simp only [List.mem_cons, List.not_mem_nil, or_false] at hb
    rcases hb with rfl | rfl
    · exact Nat.lt_succ_self _
    · exact Nat.lt_succ_of_lt hlt
  · have := h h' tk t' fun b o q => hk b o (by simp only [List.mem_cons, List.not_mem_nil, or_false]; exact Nat.ne_of_lt (Heap.lt_size q)) (kp b o q)
    rw [preSum_eq, List.take_of_length_le (by simp [intItems]), hn]
    exact this
theorem bi_sum (kK : k.K = X.K) (hcm : X.calm = true) (fz : Bool) : CallR X (.builtin "sum") (rBi k (biD fz .sum)) := by
  intro pins s σ H xs us Q I rv h
  obtain ⟨r, st, W, σ0, ds, hR, hs, hc⟩ := h
  match ds, hs, hc with
  | [], _, hc => exact hc.elim
  | [d], hs, hc =>
    obtain ⟨v, rfl, p⟩ := hs.one
    have hc : CP (RV k) k W σ0 r H (ofO (((d.seq? st).bind intsOf).map fun ns => .int ns.sum) st) Q := hc
    obtain ⟨w, e1, hc⟩ := CP.ofO hc
    obtain ⟨ns, e2, rfl⟩ := Option.map_eq_some_iff.mp e1
    obtain ⟨ys, e3, e4⟩ := Option.bind_eq_some_iff.mp e2
    obtain ⟨a, ws, rfl, hq, ps⟩ := seq_of hR p e3
    have ew := Rep.ints ps e4
    subst ew
    have hc := CP.now hc hR (.int _)
    rcases hq with hq | hq
    · exact cr_sum hcm pins s σ H _ us Q I rv ⟨a, ns, rfl, .inl hq, hc⟩
    · rw [kK] at hq
      obtain ⟨its, rw', pl, hz⟩ := I.tuple hq
      rw [Vals.ref1 rv]
      exact sum_tup (I.ok.hd hcm) pl rw'.ints fun h' tk t' hk => ⟨.int _, H, I.kept hk, ⟨_, rfl⟩, hc⟩
  | _ :: _ :: _, _, hc => exact hc.elim
theorem bi_all (hcm : X.calm = true) (fz : Bool) : CallR X (.builtin "all") (rBi k (biD fz .all)) := by
  intro pins s σ H xs us Q I rv h
  obtain ⟨r, st, W, σ0, ds, hR, hs, hc⟩ := h
  match ds, hs, hc with
  | [], _, hc => exact hc.elim
  | [d], hs, hc =>
    obtain ⟨v, rfl, p⟩ := hs.one
    have hc : CP (RV k) k W σ0 r H (ofO (((d.lst? st).bind blsOf).map fun bs => .bl (bs.all id)) st) Q := hc
    obtain ⟨w, e1, hc⟩ := CP.ofO hc
    obtain ⟨ns, e2, rfl⟩ := Option.map_eq_some_iff.mp e1
    obtain ⟨ys, e3, e4⟩ := Option.bind_eq_some_iff.mp e2
    obtain ⟨a, ws, rfl, hq, ps⟩ := lst_of hR p e3
    have ew := Rep.bls ps e4
    subst ew
    exact cr_all hcm pins s σ H _ us Q I rv ⟨a, ns, rfl, .inl hq, CP.now hc hR (.bl _)⟩
  | _ :: _ :: _, _, hc => exact hc.elim
theorem bi_any (hcm : X.calm = true) (fz : Bool) : CallR X (.builtin "any") (rBi k (biD fz .any)) := by
  intro pins s σ H xs us Q I rv h
  obtain ⟨r, st, W, σ0, ds, hR, hs, hc⟩ := h
  match ds, hs, hc with
  | [], _, hc => exact hc.elim
  | [d], hs, hc =>
    obtain ⟨v, rfl, p⟩ := hs.one
    have hc : CP (RV k) k W σ0 r H (ofO (((d.lst? st).bind blsOf).map fun bs => .bl (bs.any id)) st) Q := hc
    obtain ⟨w, e1, hc⟩ := CP.ofO hc
    obtain ⟨ns, e2, rfl⟩ := Option.map_eq_some_iff.mp e1
    obtain ⟨ys, e3, e4⟩ := Option.bind_eq_some_iff.mp e2
    obtain ⟨a, ws, rfl, hq, ps⟩ := lst_of hR p e3
    have ew := Rep.bls ps e4
    subst ew
    exact cr_any hcm pins s σ H _ us Q I rv ⟨a, ns, rfl, .inl hq, CP.now hc hR (.bl _)⟩
  | _ :: _ :: _, _, hc => exact hc.elim
theorem bi_abs (fz : Bool) : CallR X (.builtin "abs") (rBi k (biD fz .abs)) := by
  intro pins s σ H xs us Q I rv h
  obtain ⟨r, st, W, σ0, ds, hR, hs, hc⟩ := h
  match ds, hs, hc with
  | [], _, hc => exact hc.elim
  | [.int i], hs, hc =>
    obtain ⟨v, rfl, p⟩ := hs.one
    cases p
    exact call_abs pins s σ H _ us Q I rv ⟨i, rfl, CP.now (d := D.int (if i < 0 then -i else i)) hc hR (.int _)⟩
  | [.non], _, hc => exact hc.elim
  | [.bl _], _, hc => exact hc.elim
  | [.str _], _, hc => exact hc.elim
  | [.tup _], _, hc => exact hc.elim
  | [.fl _], _, hc => exact hc.elim
  | [.ref _], _, hc => exact hc.elim
  | d :: _ :: _, _, hc => cases d <;> exact hc.elim
theorem bi_int (fz : Bool) : CallR X (.type "int") (rBi k (biD fz .int)) := by
  intro pins s σ H xs us Q I rv h
  obtain ⟨r, st, W, σ0, ds, hR, hs, hc⟩ := h
  match ds, hs, hc with
  | [], _, hc => exact hc.elim
  | [.int i], hs, hc =>
    obtain ⟨v, rfl, p⟩ := hs.one
    cases p
    exact call_int1 pins s σ H _ us Q I rv (.inl ⟨i, rfl, CP.now (d := D.int i) hc hR (.int _)⟩)
  | [.bl b], hs, hc =>
    obtain ⟨v, rfl, p⟩ := hs.one
    cases p
    exact call_int1 pins s σ H _ us Q I rv (.inr ⟨b, rfl, CP.now (d := D.int (if b then 1 else 0)) hc hR (.int _)⟩)
  | [.non], _, hc => exact hc.elim
  | [.str _], _, hc => exact hc.elim
  | [.tup _], _, hc => exact hc.elim
  | [.fl _], _, hc => exact hc.elim
  | [.ref _], _, hc => exact hc.elim
  | d :: _ :: _, _, hc => cases d <;> exact hc.elim
theorem bi_list (kK : k.K = X.K) (fz : Bool) : CallR X (.type "list") (rBi k (biD fz .list)) := by
  intro pins s σ H xs us Q I rv h
  obtain ⟨r, st, W, σ0, ds, hR, hs, hc⟩ := h
  match ds, hs, hc with
  | [], _, hc => exact hc.elim
  | [d], hs, hc =>
    obtain ⟨v, rfl, p⟩ := hs.one
    have hc : CP (RV k) k W σ0 r H (match d.seq? st with
      | some xs => mkL fz xs st
      | none => .bad) Q := hc
    cases e : d.seq? st with
    | none => rw [e] at hc; exact hc.elim
    | some ys =>
      rw [e] at hc
      obtain ⟨a, ws, rfl, hq, ps⟩ := seq_of hR p e
      obtain ⟨hl, q⟩ := CP.newL hR hc ps
      refine call_list_of pins s σ H _ us Q I rv ⟨a, ws, rfl, ?_, q⟩
      rcases hq with hq | hq
      · exact .inl (.inl hq)
      · exact .inr (by rw [← kK]; exact hq)
  | d :: _ :: _, _, hc => cases d <;> exact hc.elim
theorem bi_tuple (kK : k.K = X.K) (fz : Bool) : CallR X (.type "tuple") (rBi k (biD fz .tuple)) := by
  intro pins s σ H xs us Q I rv h
  obtain ⟨r, st, W, σ0, ds, hR, hs, hc⟩ := h
  match ds, hs, hc with
  | [], _, hc => exact hc.elim
  | [d], hs, hc =>
    obtain ⟨v, rfl, p⟩ := hs.one
    have hc : CP (RV k) k W σ0 r H (ofO ((d.seq? st).map .tup) st) Q := hc
    obtain ⟨w, e1, hc⟩ := CP.ofO hc
    obtain ⟨ys, e2, rfl⟩ := Option.map_eq_some_iff.mp e1
    obtain ⟨a, ws, rfl, hq, ps⟩ := seq_of hR p e2
    rcases hq with hq | hq
    · refine call_tuple_of pins s σ H _ us Q I rv ⟨a, ws, rfl, .inl ⟨.inl hq, fun l nl => ?_⟩⟩
      exact hc r _ _ (Ext.new nl) (hR.ext_new nl) (.tup (.inl (.inl upd_same)) (ps.ext (Ext.new nl) hR))
    · exact call_tuple_of pins s σ H _ us Q I rv ⟨a, ws, rfl, .inr ⟨by rw [← kK]; exact hq, CP.now hc hR (.tup hq ps)⟩⟩
  | d :: _ :: _, _, hc => cases d <;> exact hc.elim
theorem bi_str (fz : Bool) : CallR X (.type "str") (rBi k (biD fz .str)) := by
  intro pins s σ H xs us Q I rv h
  obtain ⟨r, st, W, σ0, ds, hR, hs, hc⟩ := h
  match ds, hs, hc with
  | [], _, hc => exact hc.elim
  | [.int i], hs, hc =>
    obtain ⟨v, rfl, p⟩ := hs.one
    cases p
    have hc : CP (RV k) k W σ0 r H (if i.natAbs.log2 < 1920 then .ok (.str (toString i)) st else .bad) Q := hc
    split at hc
    · rename_i hl
      exact call_str_int pins s σ H _ us Q I rv ⟨i, rfl, hl, CP.now hc hR (.str _)⟩
    · exact hc.elim
  | [.non], _, hc => exact hc.elim
  | [.bl _], _, hc => exact hc.elim
  | [.str _], _, hc => exact hc.elim
  | [.tup _], _, hc => exact hc.elim
  | [.fl _], _, hc => exact hc.elim
  | [.ref _], _, hc => exact hc.elim
  | d :: _ :: _, _, hc => cases d <;> exact hc.elim
/-! ### sorted -/
theorem Reps.ofInts {K : PySem.W.Frag} {r : Rg} {H : Hp} : ∀ ns : List Int, Reps K r H (ns.map V.int) (ns.map D.int)
  | [] => .nil
  | n :: ns => .cons (.int n) (Reps.ofInts ns)
theorem bi_sorted (kK : k.K = X.K) (hu : X.A.units + 65 < cLine) (fz : Bool) : CallR X (.builtin "sorted") (rBi k (biD fz .sorted)) := by
  intro pins s σ H xs us Q I rv h
  obtain ⟨r, st, W, σ0, ds, hR, hs, hc⟩ := h
  match ds, hs, hc with
  | [], _, hc => exact hc.elim
  | [d], hs, hc =>
    obtain ⟨v, rfl, p⟩ := hs.one
    have hc : CP (RV k) k W σ0 r H (match (d.lst? st).bind intsOf with
      | some ns => mkL fz ((sortI ns).map .int) st
      | none => (match d.lst? st with
        | some xs => if sortOk xs then mkL fz (sortD xs) st else .bad
        | none => srtT fz d st)) Q := hc
    cases e : (d.lst? st).bind intsOf with
    | none =>
      rw [e] at hc
      cases e1 : d.lst? st with
      | none =>
        rw [e1] at hc
        cases p with
        | @tup ad xs0 ds0 h q =>
          have hc : CP (RV k) k W σ0 r H (match intsOf ds0 with
            | some ns => mkL fz ((sortI ns).map .int) st
            | none => .bad) Q := hc
          cases e4 : intsOf ds0 with
          | none => rw [e4] at hc; exact hc.elim
          | some ns =>
            rw [e4] at hc
            have ew := Rep.ints q e4
            subst ew
            obtain ⟨hl, q⟩ := CP.newL hR hc (Reps.ofInts _)
            refine cr_sortedTI pins s σ H _ us Q I rv ⟨_, ns, rfl, by rw [← kK]; exact h, fun ns' l h1 h2 nl => ?_⟩
            rw [up_one (h1.trans (sortI_perm ns).symm) h2 (sortI_up ns)]
            exact q l nl
        | _ => exact hc.elim
      | some ys =>
        rw [e1] at hc
        obtain ⟨a, ws, rfl, hq, ps⟩ := lst_of hR p e1
        dsimp only at hc
        split at hc
        · rename_i ok
          have hpur : D.purs ys = true := by
            unfold sortOk at ok
            simp only [Bool.and_eq_true] at ok
            exact ok.2.2.2.1
          refine cr_sortedD hu pins s σ H _ us Q I rv ⟨a, ws, ys, rfl, .inl hq, by rw [← kK]; exact ps.dp hpur, ok, fun zs l h1 h2 nl => ?_⟩
          have pz : Reps k.K r H (zs.map Prod.fst) (sortD ys) := by
            rw [← h2]
            exact Reps.of_zs fun z hz => ps.zs z (h1.mem_iff.mp hz)
          obtain ⟨hl, q⟩ := CP.newL hR hc pz
          exact q l nl
        · exact hc.elim
    | some ns =>
      rw [e] at hc
      obtain ⟨ys, e3, e4⟩ := Option.bind_eq_some_iff.mp e
      obtain ⟨a, ws, rfl, hq, ps⟩ := lst_of hR p e3
      have ew := Rep.ints ps e4
      subst ew
      obtain ⟨hl, q⟩ := CP.newL hR hc (Reps.ofInts _)
      refine cr_sortedI pins s σ H _ us Q I rv ⟨a, ns, rfl, .inl hq, fun ns' l h1 h2 nl => ?_⟩
      rw [up_one (h1.trans (sortI_perm ns).symm) h2 (sortI_up ns)]
      exact q l nl
  | d :: _ :: _, _, hc => cases d <;> exact hc.elim
theorem max_tup (hh : X.A.handled = none) {its : List Value} {ns : List Int} {R : Value → Shared → Prop} (ht : IsTup s.heap a its.toArray) (hi : IntsAre its ns) (hne : 0 < ns.length)
    (h : ∀ h' tk m t', (∀ b o, s.heap.get? b = some o → h'.get? b = some o) → m ∈ ns → (∀ y, y ∈ ns → y ≤ m) → R (.int m t') { s with heap := h', toks := tk }) : wpAny (model X.prog X.w) X.A (call (.builtin "max") [.ref a]) R X.xe s := by
  obtain ⟨xs, e⟩ := hi.allInts.items
  have hn : numsOf (intItems xs).toList = ns := by rw [← e]; exact hi.numsOf
  rw [nums_intItems] at hn
  subst hn
  rw [e] at ht
  have hsz : 0 < xs.size := by simpa using hne
  have hlt : a < s.heap.objs.size := ht.lt
  have kp : ∀ b o, s.heap.get? b = some o → (s.heap.push { cls := .type "tuple_iterator", data := .fields #[.ref a, .int 0 0] }).get? b = some o := fun b o q => Heap.get?_push_of_some _ q
  refine call_max_walk (wpAny_pyIter_tuple (show s.heap.IsTuple a (intItems xs) from ht) ?_)
  obtain ⟨o, ho, hc, n, hd⟩ := ht
  refine ⟨s.heap.objs.size, _, _, _, _, _, _, rfl, Walks.tuple (A := X.A.in1) hh s.heap.objs.size a (Nat.ne_of_lt hlt) (intItems xs), ⟨⟨_, Heap.get?_push_size _ rfl, rfl, rfl⟩, ⟨o, kp _ _ ho, hc, n, hd⟩⟩, fun b hb => ?_, by simpa [intItems] using hsz, CmpOf.ints_gt (numAt xs) (fun _ _ => intItems_at), fun v h' tk hP hk => ?_⟩
  · show b < (s.heap.push _).objs.size
    rw [Heap.size_push]
    simp only [List.mem_cons, List.not_mem_nil, or_false] at hb
    rcases hb with rfl | rfl
    · exact Nat.lt_succ_self _
    · exact Nat.lt_succ_of_lt hlt
  · have hv : (intItems xs)[argBest (fun i j => decide (numAt xs i > numAt xs j)) (xs.size - 1)]? = some v := by simpa [intItems] using hP
    obtain ⟨t, rfl⟩ := intItems_at hv
    obtain ⟨g1, g2⟩ := argBest_gt (numAt xs) (xs.size - 1)
    refine h h' tk _ t (fun b o q => hk b o (by simp only [List.mem_cons, List.not_mem_nil, or_false]; exact Nat.ne_of_lt (Heap.lt_size q)) (kp b o q)) ?_ fun y hy => ?_
    · rw [numAt_eq]; exact PySem.getD_mem (by rw [List.length_map, Array.length_toList]; omega)
    · obtain ⟨j, hj, rfl⟩ := mem_getD hy
      rw [List.length_map, Array.length_toList] at hj
      rw [← numAt_eq]; exact g2 j (by omega)
theorem min_tup (hh : X.A.handled = none) {its : List Value} {ns : List Int} {R : Value → Shared → Prop} (ht : IsTup s.heap a its.toArray) (hi : IntsAre its ns) (hne : 0 < ns.length)
    (h : ∀ h' tk m t', (∀ b o, s.heap.get? b = some o → h'.get? b = some o) → m ∈ ns → (∀ y, y ∈ ns → m ≤ y) → R (.int m t') { s with heap := h', toks := tk }) : wpAny (model X.prog X.w) X.A (call (.builtin "min") [.ref a]) R X.xe s := by
  obtain ⟨xs, e⟩ := hi.allInts.items
  have hn : numsOf (intItems xs).toList = ns := by rw [← e]; exact hi.numsOf
  rw [nums_intItems] at hn
  subst hn
  rw [e] at ht
  have hsz : 0 < xs.size := by simpa using hne
  have hlt : a < s.heap.objs.size := ht.lt
  have kp : ∀ b o, s.heap.get? b = some o → (s.heap.push { cls := .type "tuple_iterator", data := .fields #[.ref a, .int 0 0] }).get? b = some o := fun b o q => Heap.get?_push_of_some _ q
  refine call_min_walk (wpAny_pyIter_tuple (show s.heap.IsTuple a (intItems xs) from ht) ?_)
  obtain ⟨o, ho, hc, n, hd⟩ := ht
  refine ⟨s.heap.objs.size, _, _, _, _, _, _, rfl, Walks.tuple (A := X.A.in1) hh s.heap.objs.size a (Nat.ne_of_lt hlt) (intItems xs), ⟨⟨_, Heap.get?_push_size _ rfl, rfl, rfl⟩, ⟨o, kp _ _ ho, hc, n, hd⟩⟩, fun b hb => ?_, by simpa [intItems] using hsz, CmpOf.ints_lt (numAt xs) (fun _ _ => intItems_at), fun v h' tk hP hk => ?_⟩
  · show b < (s.heap.push _).objs.size
    rw [Heap.size_push]
    simp only [List.mem_cons, List.not_mem_nil, or_false] at hb
    rcases hb with rfl | rfl
    · exact Nat.lt_succ_self _
    · exact Nat.lt_succ_of_lt hlt
  · have hv : (intItems xs)[argBest (fun i j => decide (numAt xs i < numAt xs j)) (xs.size - 1)]? = some v := by simpa [intItems] using hP
    obtain ⟨t, rfl⟩ := intItems_at hv
    obtain ⟨g1, g2⟩ := argBest_lt (numAt xs) (xs.size - 1)
    refine h h' tk _ t (fun b o q => hk b o (by simp only [List.mem_cons, List.not_mem_nil, or_false]; exact Nat.ne_of_lt (Heap.lt_size q)) (kp b o q)) ?_ fun y hy => ?_
    · rw [numAt_eq]; exact PySem.getD_mem (by rw [List.length_map, Array.length_toList]; omega)
    · obtain ⟨j, hj, rfl⟩ := mem_getD hy
      rw [List.length_map, Array.length_toList] at hj
      rw [← numAt_eq]; exact g2 j (by omega)
theorem maxI_has : ∀ (l : List Int) (i : Int), maxI i l ∈ i :: l ∧ ∀ y ∈ i :: l, y ≤ maxI i l
  | [], i => by simp [maxI]
  | j :: r, i => by
    have h := maxI_has r (if j > i then j else i)
    simp only [maxI]
    by_cases hj : j > i
    · rw [if_pos hj] at h ⊢
      refine ⟨List.mem_cons_of_mem _ h.1, fun y hy => ?_⟩
      rcases List.mem_cons.mp hy with rfl | hy
      · exact Int.le_trans (Int.le_of_lt hj) (h.2 j List.mem_cons_self)
      · exact h.2 y hy
    · rw [if_neg hj] at h ⊢
      refine ⟨?_, fun y hy => ?_⟩
      · rcases List.mem_cons.mp h.1 with e | e
        · rw [e]; exact List.mem_cons_self
        · exact List.mem_cons_of_mem _ (List.mem_cons_of_mem _ e)
      · rcases List.mem_cons.mp hy with rfl | hy
        · exact h.2 y List.mem_cons_self
        · rcases List.mem_cons.mp hy with rfl | hy
          · exact Int.le_trans (Int.not_lt.mp hj) (h.2 i List.mem_cons_self)
          · exact h.2 y (List.mem_cons_of_mem _ hy)
theorem minI_has : ∀ (l : List Int) (i : Int), minI i l ∈ i :: l ∧ ∀ y ∈ i :: l, minI i l ≤ y
  | [], i => by simp [minI]
  | j :: r, i => by
    have h := minI_has r (if j < i then j else i)
    simp only [minI]
    by_cases hj : j < i
    · rw [if_pos hj] at h ⊢
      refine ⟨List.mem_cons_of_mem _ h.1, fun y hy => ?_⟩
      rcases List.mem_cons.mp hy with rfl | hy
      · exact Int.le_trans (h.2 j List.mem_cons_self) (Int.le_of_lt hj)
      · exact h.2 y hy
    · rw [if_neg hj] at h ⊢
      refine ⟨?_, fun y hy => ?_⟩
      · rcases List.mem_cons.mp h.1 with e | e
        · rw [e]; exact List.mem_cons_self
        · exact List.mem_cons_of_mem _ (List.mem_cons_of_mem _ e)
      · rcases List.mem_cons.mp hy with rfl | hy
        · exact h.2 y List.mem_cons_self
        · rcases List.mem_cons.mp hy with rfl | hy
          · exact Int.le_trans (h.2 i List.mem_cons_self) (Int.not_lt.mp hj)
          · exact h.2 y (List.mem_cons_of_mem _ hy)
theorem bi_max (kK : k.K = X.K) (hcm : X.calm = true) (hu : X.A.units + 65 < cLine) (fz : Bool) : CallR X (.builtin "max") (rBi k (biD fz .max)) := by
  intro pins s σ H xs us Q I rv h
  obtain ⟨r, st, W, σ0, ds, hR, hs, hc⟩ := h
  have one : ∀ d, ds = [d] → CP (RV k) k W σ0 r H (match (d.seq? st).bind intsOf with
      | some (i :: l) => .ok (.int (maxI i l)) st
      | some [] => .bad
      | none => maxW (d.seq? st) st) Q → wpAny (model X.prog X.w) X.A (call (.builtin "max") us) (EP X pins σ Q) X.xe s := fun d e hd => by
    clear hc
    have hc := hd
    clear hd
    subst e
    obtain ⟨v, rfl, p⟩ := hs.one
    cases e : (d.seq? st).bind intsOf with
    | none =>
      rw [e] at hc
      have hc : CP (RV k) k W σ0 r H (maxW (d.seq? st) st) Q := hc
      cases e1 : d.seq? st with
      | none => rw [e1] at hc; exact hc.elim
      | some ys =>
        rw [e1] at hc
        cases ys with
        | nil => exact hc.elim
        | cons y ys =>
          unfold maxW at hc
          dsimp only at hc
          split at hc
          · rename_i ok
            obtain ⟨a, ws, rfl, hq, ps⟩ := seq_of hR p e1
            have hpur := (mnOk_alike ok).2.1
            rw [Vals.ref1 rv]
            refine call_max_rows (I.ok.hd hcm) hu I (hq.imp (fun h => .inl h) (fun h => by rw [← kK]; exact h)) (by rw [← kK]; exact ps.dp hpur) ok fun i v u h' tk g1 g2 g3 hk => ?_
            obtain ⟨d2, g4, g5⟩ := ps.getv g1
            rw [g2] at g4
            cases g4
            exact ⟨v, H, I.kept hk, g3, CP.now hc hR g5⟩
          · exact hc.elim
    | some ns =>
      rw [e] at hc
      cases ns with
      | nil => exact hc.elim
      | cons i l =>
        obtain ⟨ys, e3, e4⟩ := Option.bind_eq_some_iff.mp e
        obtain ⟨a, ws, rfl, hq, ps⟩ := seq_of hR p e3
        have ew := Rep.ints ps e4
        subst ew
        have fin : ∀ m, m ∈ i :: l → (∀ y, y ∈ i :: l → y ≤ m) → Q (.int m) H := fun m h1 h2 => by
          have z := maxI_has l i
          have : m = maxI i l := Int.le_antisymm (z.2 m h1) (h2 _ z.1)
          rw [this]
          exact CP.now hc hR (.int _)
        rcases hq with hq | hq
        · exact cr_max hcm pins s σ H _ us Q I rv ⟨a, i :: l, rfl, .inl hq, by simp, fin⟩
        · rw [kK] at hq
          obtain ⟨its, rw', pl, hz⟩ := I.tuple hq
          rw [Vals.ref1 rv]
          exact max_tup (I.ok.hd hcm) pl rw'.ints (by simp) fun h' tk m t' hk h1 h2 => ⟨.int _, H, I.kept hk, ⟨_, rfl⟩, fin m h1 h2⟩
  match ds, hs, hc, one with
  | [], _, hc, _ => exact hc.elim
  | [d], hs, hc, one => exact one d rfl (by cases d <;> exact hc)
  | [.int i, .int j], hs, hc, _ =>
    obtain ⟨v, w, rfl, p, q⟩ := hs.two
    cases p; cases q
    exact call_max2 hcm pins s σ H _ us Q I rv ⟨i, j, rfl, CP.now (d := D.int (if j > i then j else i)) hc hR (.int _)⟩
  | [.int _, .non], _, hc, _ => exact hc.elim
  | [.int _, .bl _], _, hc, _ => exact hc.elim
  | [.int _, .str _], _, hc, _ => exact hc.elim
  | [.int _, .tup _], _, hc, _ => exact hc.elim
  | [.int _, .fl _], _, hc, _ => exact hc.elim
  | [.int _, .ref _], _, hc, _ => exact hc.elim
  | .non :: _ :: _, _, hc, _ => exact hc.elim
  | .bl _ :: _ :: _, _, hc, _ => exact hc.elim
  | .str _ :: _ :: _, _, hc, _ => exact hc.elim
  | .tup _ :: _ :: _, _, hc, _ => exact hc.elim
  | .fl _ :: _ :: _, _, hc, _ => exact hc.elim
  | .ref _ :: _ :: _, _, hc, _ => exact hc.elim
  | .int _ :: e :: _ :: _, _, hc, _ => cases e <;> exact hc.elim
theorem bi_min (kK : k.K = X.K) (hcm : X.calm = true) (hu : X.A.units + 65 < cLine) (fz : Bool) : CallR X (.builtin "min") (rBi k (biD fz .min)) := by
  intro pins s σ H xs us Q I rv h
  obtain ⟨r, st, W, σ0, ds, hR, hs, hc⟩ := h
  have one : ∀ d, ds = [d] → CP (RV k) k W σ0 r H (match (d.seq? st).bind intsOf with
      | some (i :: l) => .ok (.int (minI i l)) st
      | some [] => .bad
      | none => minW (d.seq? st) st) Q → wpAny (model X.prog X.w) X.A (call (.builtin "min") us) (EP X pins σ Q) X.xe s := fun d e hd => by
    clear hc
    have hc := hd
    clear hd
    subst e
    obtain ⟨v, rfl, p⟩ := hs.one
    cases e : (d.seq? st).bind intsOf with
    | none =>
      rw [e] at hc
      have hc : CP (RV k) k W σ0 r H (minW (d.seq? st) st) Q := hc
      cases e1 : d.seq? st with
      | none => rw [e1] at hc; exact hc.elim
      | some ys =>
        rw [e1] at hc
        cases ys with
        | nil => exact hc.elim
        | cons y ys =>
          unfold minW at hc
          dsimp only at hc
          split at hc
          · rename_i ok
            obtain ⟨a, ws, rfl, hq, ps⟩ := seq_of hR p e1
            have hpur := (mnOk_alike ok).2.1
            rw [Vals.ref1 rv]
            refine call_min_rows (I.ok.hd hcm) hu I (hq.imp (fun h => .inl h) (fun h => by rw [← kK]; exact h)) (by rw [← kK]; exact ps.dp hpur) ok fun i v u h' tk g1 g2 g3 hk => ?_
            obtain ⟨d2, g4, g5⟩ := ps.getv g1
            rw [g2] at g4
            cases g4
            exact ⟨v, H, I.kept hk, g3, CP.now hc hR g5⟩
          · exact hc.elim
    | some ns =>
      rw [e] at hc
      cases ns with
      | nil => exact hc.elim
      | cons i l =>
        obtain ⟨ys, e3, e4⟩ := Option.bind_eq_some_iff.mp e
        obtain ⟨a, ws, rfl, hq, ps⟩ := seq_of hR p e3
        have ew := Rep.ints ps e4
        subst ew
        have fin : ∀ m, m ∈ i :: l → (∀ y, y ∈ i :: l → m ≤ y) → Q (.int m) H := fun m h1 h2 => by
          have z := minI_has l i
          have : m = minI i l := Int.le_antisymm (h2 _ z.1) (z.2 m h1)
          rw [this]
          exact CP.now hc hR (.int _)
        rcases hq with hq | hq
        · exact cr_min hcm pins s σ H _ us Q I rv ⟨a, i :: l, rfl, .inl hq, by simp, fin⟩
        · rw [kK] at hq
          obtain ⟨its, rw', pl, hz⟩ := I.tuple hq
          rw [Vals.ref1 rv]
          exact min_tup (I.ok.hd hcm) pl rw'.ints (by simp) fun h' tk m t' hk h1 h2 => ⟨.int _, H, I.kept hk, ⟨_, rfl⟩, fin m h1 h2⟩
  match ds, hs, hc, one with
  | [], _, hc, _ => exact hc.elim
  | [d], hs, hc, one => exact one d rfl (by cases d <;> exact hc)
  | [.int i, .int j], hs, hc, _ =>
    obtain ⟨v, w, rfl, p, q⟩ := hs.two
    cases p; cases q
    exact call_min2 hcm pins s σ H _ us Q I rv ⟨i, j, rfl, CP.now (d := D.int (if j < i then j else i)) hc hR (.int _)⟩
  | [.int _, .non], _, hc, _ => exact hc.elim
  | [.int _, .bl _], _, hc, _ => exact hc.elim
  | [.int _, .str _], _, hc, _ => exact hc.elim
  | [.int _, .tup _], _, hc, _ => exact hc.elim
  | [.int _, .fl _], _, hc, _ => exact hc.elim
  | [.int _, .ref _], _, hc, _ => exact hc.elim
  | .non :: _ :: _, _, hc, _ => exact hc.elim
  | .bl _ :: _ :: _, _, hc, _ => exact hc.elim
  | .str _ :: _ :: _, _, hc, _ => exact hc.elim
  | .tup _ :: _ :: _, _, hc, _ => exact hc.elim
  | .fl _ :: _ :: _, _, hc, _ => exact hc.elim
  | .ref _ :: _ :: _, _, hc, _ => exact hc.elim
  | .int _ :: e :: _ :: _, _, hc, _ => cases e <;> exact hc.elim
theorem bi_gcd (fz : Bool) : CallR X (.builtin "math.gcd") (rBi k (biD fz .gcd)) := by
  intro pins s σ H xs us Q I rv h
  obtain ⟨r, st, W, σ0, ds, hR, hs, hc⟩ := h
  match ds, hs, hc with
  | [.int i, .int j], hs, hc =>
    obtain ⟨v, w, rfl, p, q⟩ := hs.two
    cases p; cases q
    exact cr_gcd pins s σ H _ us Q I rv ⟨i, j, rfl, CP.now (d := D.int (Nat.gcd i.natAbs j.natAbs : Nat)) hc hR (.int _)⟩
  | [], _, hc => exact hc.elim
  | [d], _, hc => cases d <;> exact hc.elim
  | [.int _, .non], _, hc => exact hc.elim
  | [.int _, .bl _], _, hc => exact hc.elim
  | [.int _, .str _], _, hc => exact hc.elim
  | [.int _, .tup _], _, hc => exact hc.elim
  | [.int _, .fl _], _, hc => exact hc.elim
  | [.int _, .ref _], _, hc => exact hc.elim
  | .non :: _ :: _, _, hc => exact hc.elim
  | .bl _ :: _ :: _, _, hc => exact hc.elim
  | .str _ :: _ :: _, _, hc => exact hc.elim
  | .tup _ :: _ :: _, _, hc => exact hc.elim
  | .fl _ :: _ :: _, _, hc => exact hc.elim
  | .ref _ :: _ :: _, _, hc => exact hc.elim
  | .int _ :: e :: _ :: _, _, hc => cases e <;> exact hc.elim
theorem bi_divmod (fz : Bool) : CallR X (.builtin "divmod") (rBi k (biD fz .divmod)) := by
  intro pins s σ H xs us Q I rv h
  obtain ⟨r, st, W, σ0, ds, hR, hs, hc⟩ := h
  match ds, hs, hc with
  | [.int i, .int j], hs, hc =>
    obtain ⟨v, w, rfl, p, q⟩ := hs.two
    cases p; cases q
    have hc : CP (RV k) k W σ0 r H (if 0 < j ∧ j < 1073741824 then .ok (.tup [.int (i / j), .int (i % j)]) st else .bad) Q := hc
    split at hc
    · rename_i hl
      exact call_divmod pins s σ H _ us Q I rv ⟨i, j, rfl, hl, fun p np => hc r _ _ (Ext.new np) (hR.ext_new np) (.tup (.inl (.inl upd_same)) (.cons (.int _) (.cons (.int _) .nil)))⟩
    · exact hc.elim
  | [], _, hc => exact hc.elim
  | [d], _, hc => cases d <;> exact hc.elim
  | [.int _, .non], _, hc => exact hc.elim
  | [.int _, .bl _], _, hc => exact hc.elim
  | [.int _, .str _], _, hc => exact hc.elim
  | [.int _, .tup _], _, hc => exact hc.elim
  | [.int _, .fl _], _, hc => exact hc.elim
  | [.int _, .ref _], _, hc => exact hc.elim
  | .non :: _ :: _, _, hc => exact hc.elim
  | .bl _ :: _ :: _, _, hc => exact hc.elim
  | .str _ :: _ :: _, _, hc => exact hc.elim
  | .tup _ :: _ :: _, _, hc => exact hc.elim
  | .fl _ :: _ :: _, _, hc => exact hc.elim
  | .ref _ :: _ :: _, _, hc => exact hc.elim
  | .int _ :: e :: _ :: _, _, hc => cases e <;> exact hc.elim
end
end Mi
end
section
/-! MiG: isinstance, methods, targets, items stored. -/
namespace Mi
open PySem PySem.Spec PyProof.Rows L2
def tyS : Ty → String
  | .int => "int"
  | .bool => "bool"
  | .str => "str"
  | .list => "list"
  | .tuple => "tuple"
/-- the built-in type of a value -/
def tyN : D → String
  | .non => "NoneType"
  | .bl _ => "bool"
  | .int _ => "int"
  | .str _ => "str"
  | .tup _ => "tuple"
  | .fl _ => "list"
  | .ref _ => "list"
  | .dct _ => "dict"
  | .obj _ _ => "object"
def isOb : D → Bool
  | .obj _ _ => true
  | _ => false
theorem kit_all (d : D) (h : isOb d = false) (t : Ty) : kitB (tyN d) (tyS t) = some (isTy d t) := by
  cases d with
  | dct => cases t <;> first | rfl | (show kitB "dict" _ = some false; decide +kernel)
  | obj => cases h
  | _ => cases t <;> first | rfl | decide +kernel
/-- the type of a value -/
def tyV_ (K : PySem.W.Frag) : D → Value
  | .obj c _ => .ref (He.ga K c)
  | d => .type (tyN d)
section
variable {X : L2.Cx} {pins : List (Addr × Obj)} {σ σ0 : L2.St} {H : Hp} {s : Shared} {a : Addr} {k : Kx} {r : Rg} {st : Sto} {W : WX} {Q : VK}
theorem Rep.tyx {K : PySem.W.Frag} {v : V} {d : D} (hR : RelH K r st H) (hl : ∀ n, d = .ref n → n < st.length) (p : Rep K r H v d) : TyX K H v (tyV_ K d) := by
  cases p with
  | non => exact .base .non
  | bl b => exact .base (.bl b)
  | int i => exact .base (.int i)
  | str x => exact .base (.str x)
  | tup h q =>
    rcases h with (h | ⟨o, h⟩) | ⟨o, its, n, h, hc, _⟩
    · exact .base (.tup h)
    · exact .fTuple h
    · exact .kTuple h hc
  | fl h n q =>
    rcases h with h | ⟨o, h⟩
    · exact .base (.lst h)
    · exact .base (.frz h)
  | ref h hk =>
    rename_i n
    have hn := hl n rfl
    obtain ⟨b, vs, e1, e2, _⟩ := hR.has n _ (List.getElem?_eq_getElem hn) h hk
    rw [h] at e1; cases e1
    exact .base (.lst e2)
  | dct h hk =>
    obtain ⟨xs, e⟩ := hk
    exact .base (.dK e)
  | obj h hk o =>
    obtain ⟨dx, fs, e⟩ := hk
    exact .base (.ins e o.cl o.ha o.hn o.htk o.hm)
theorem Rep.kit {K : PySem.W.Frag} {v : V} {d : D} (p : Rep K r H v d) (t : Ty) : PySem.W.kitOne K (tyV_ K d) (.type (tyS t)) = some (isTy d t) := by
  cases p with
  | obj h hk o =>
    have := o.kt (tyS t) (by cases t <;> decide)
    rw [show isTy (.obj _ _) t = false by cases t <;> rfl]
    exact this
  | _ => exact kit_ty (kit_all _ rfl t)
theorem Rep.low {K : PySem.W.Frag} {v : V} {d : D} (hR : RelH K r st H) (p : Rep K r H v d) : ∀ n, d = .ref n → n < st.length := fun n e => by
  subst e
  cases p with
  | ref h hk => rw [← hR.len]; exact (List.getElem?_eq_some_iff.mp h).1
/-- isinstance of one type, of several -/
theorem isi_one {t : Ty} {v : V} {d : D} (kK : k.K = X.K) (hR : RelH k.K r st H) (p : Rep k.K r H v d) (h : Q (.bl (isTy d t)) H) : rIsi X.K [v, .ty (tyS t)] H Q :=
  ⟨v, .ty (tyS t), _, _, _, rfl, .ty _, by rw [← kK]; exact Rep.tyx hR (Rep.low hR p) p, by rw [← kK]; exact p.kit t, h⟩
theorem kit_any {K : PySem.W.Frag} {v : V} {d : D} (p : Rep K r H v d) : ∀ ts : List Ty, PySem.W.kitAny K (tyV_ K d) (ts.map fun t => Value.type (tyS t)) = some (ts.any (isTy d))
  | [] => rfl
  | t :: ts => by
    refine kitAny_cons (p.kit t) (fun e => ?_) fun e => ?_
    · rw [kit_any p ts, List.any_cons, e]; rfl
    · rw [List.any_cons, e]; rfl
theorem cls_ty : ∀ ts : List Ty, Paired ClsV (ts.map fun t => V.ty (tyS t)) (ts.map fun t => Value.type (tyS t))
  | [] => .nil
  | t :: ts => .cons (.ty _) (cls_ty ts)
theorem isi_many {ts : List Ty} {v : V} {d : D} {tp : Addr} (kK : k.K = X.K) (hR : RelH k.K r st H) (p : Rep k.K r H v d) (hT : H tp = some (.tup (ts.map fun t => V.ty (tyS t)))) (h : Q (.bl (ts.any (isTy d))) H) : rIsiT X.K [v, .ref tp] H Q :=
  ⟨v, tp, _, _, _, _, rfl, hT, cls_ty ts, by rw [← kK]; exact Rep.tyx hR (Rep.low hR p) p, by rw [← kK]; exact kit_any p ts, h⟩

/-! ### methods -/
def rMt (k : Kx) (f : D → List D → Sto → Out D) : V → List V → Hp → VK → Prop := fun x vs H Q => ∃ r st W σ d ds, RelH k.K r st H ∧ Rep k.K r H x d ∧ Reps k.K r H vs ds ∧ CP (RV k) k W σ r H (f d ds st) Q
/-- what a method's object is ahead of the arguments -/
theorem tyV_lst {K : PySem.W.Frag} {v : V} {d : D} (hR : RelH K r st H) (p : Rep K r H v d) (h : isLst d = true) : tyV K "list" v H := by
  cases p with
  | fl g n q => exact .inl ⟨rfl, _, .inl g⟩
  | @ref a m g gk =>
    have hn : m < st.length := Rep.low hR (.ref g gk) m rfl
    obtain ⟨b, vs, e1, e2, _⟩ := hR.has m _ (List.getElem?_eq_getElem hn) g gk
    rw [g] at e1; cases e1
    exact .inl ⟨rfl, _, .inl (.inl e2)⟩
  | _ => cases h
theorem wr_now {n : Nat} {a : Addr} {xs : List V} {ds : List D} {d : D} {v : V} (hR : RelH k.K r st H) (h : r.l[n]? = some a) (hk : LstH H a) (q : Reps k.K r H xs ds) (p : Rep k.K r H v d) (hc : CP (RV k) k W σ0 r H (.ok d (st.set n ds)) Q) : Q v (upd H a (.lst xs)) :=
  hc r _ _ (Ext.write h hk.same) (hR.write h hk q) (p.ext (Ext.write h hk.same) hR)
theorem mt_app (fz : Bool) : MtR X "list.append" (rMt k (mtD fz .append)) := by
  intro pins s σ H x vs v us Q I rx rv h
  obtain ⟨r, st, W, σ0, d, ds, hR, p, ps, hc⟩ := h
  match d, ds, p, ps, hc with
  | .ref n, [e], p, ps, hc =>
    cases p with
    | ref ha hak =>
      obtain ⟨y, rfl, py⟩ := ps.one
      have hc : CP (RV k) k W σ0 r H (match st[n]? with
        | some xs => if xs.length < lineN then .ok .non (st.set n (xs ++ [e])) else .bad
        | none => .bad) Q := hc
      cases e1 : st[n]? with
      | none => rw [e1] at hc; exact hc.elim
      | some xs =>
        rw [e1] at hc
        obtain ⟨b, ws, f1, f2, f3⟩ := hR.has n xs e1 ha hak
        rw [ha] at f1; cases f1
        dsimp only at hc
        split at hc
        · rename_i hl
          exact mt_append pins s σ H _ _ v us Q I rx rv ⟨_, ws, y, rfl, rfl, f2, by rw [f3.len, line_eq]; exact hl, wr_now hR ha hak (f3.append (.cons py .nil)) .non hc⟩
        · exact hc.elim
  | .non, _, _, _, hc => exact hc.elim
  | .bl _, _, _, _, hc => exact hc.elim
  | .int _, _, _, _, hc => exact hc.elim
  | .str _, _, _, _, hc => exact hc.elim
  | .tup _, _, _, _, hc => exact hc.elim
  | .fl _, _, _, _, hc => exact hc.elim
  | .ref _, [], _, _, hc => exact hc.elim
  | .ref _, _ :: _ :: _, _, _, hc => exact hc.elim
set_option maxRecDepth 8000 in
theorem ext_tup (l : Addr) (xs : Array Value) (n : Nat) (b : Addr) (ys : Array Value) (m : Nat) (dd : Option Addr) (sl : Array (Option Value)) (h0 : ¬(!xs.isEmpty && Builtin.List.listTooLong (xs.size + ys.size)) = true) (h1 : xs.size ≤ sizeLine) (h2 : xs.size + ys.size ≤ sizeLine + 1) :
    Meets (Builtin.«list.extend» ⟨[.ref l, .ref b], []⟩) (fun _ R s => s.heap.get? l = some { cls := .type "list", dict := none, data := .seq xs n, slots := #[] } ∧ s.heap.get? b = some ⟨.type "tuple", dd, .seq ys m, sl⟩ ∧ R (.ok (.ret Value.none)) { s with heap := s.heap.update l (Obj.mapSeq fun x => x ++ ys), toks := s.toks }) :=
  .of_wp fun prog w A R s q => by
    obtain ⟨e1, e2, q⟩ := q
    obtain ⟨hp, gs, dr, tk, os⟩ := s
    have a1 := AutoSeq1.idx_int
    have a2 := AutoSeq1.sub_tuple_tuple
    have a3 := AutoSeq1.sub_list_list
    have a4 := AutoSeq1.sub_tuple_list
    have a5 := AutoSeq1.sub_list_tuple
    have a6 : (xs ++ ys).size ≤ sizeLine + 1 := by rw [Array.size_append]; exact h2
    wp_walk using (wpAny_updateSeq e1 rfl (hz := h1) (_hz' := a6)), AutoSeq1.wpAny_loadPart' e1, AutoSeq1.wpAny_loadPart' e2; exact ⟨_, rfl, q⟩
theorem mt_ext (fz : Bool) (kK : k.K = X.K) : MtR X "list.extend" (rMt k (mtD fz .extend)) := by
  intro pins s σ H x vs v us Q I rx rv h
  obtain ⟨r, st, W, σ0, d, ds, hR, p, ps, hc⟩ := h
  match d, ds, p, ps, hc with
  | .ref n, [e], p, ps, hc =>
    cases p with
    | ref ha hak =>
      obtain ⟨y, rfl, py⟩ := ps.one
      have hc : CP (RV k) k W σ0 r H (match st[n]?, e.seq? st with
        | some xs, some ys => if e.beq (.ref n) then .bad else if xs.length + ys.length ≤ lineN then .ok .non (st.set n (xs ++ ys)) else .bad
        | _, _ => .bad) Q := hc
      cases e1 : st[n]? with
      | none => rw [e1] at hc; exact hc.elim
      | some xs =>
        cases e2 : e.seq? st with
        | none => rw [e1, e2] at hc; exact hc.elim
        | some ys =>
          rw [e1, e2] at hc
          obtain ⟨b, ws, f1, f2, f3⟩ := hR.has n xs e1 ha hak
          rw [ha] at f1; cases f1
          obtain ⟨b2, zs, rfl, g2, g3⟩ := seq_of hR py e2
          dsimp only at hc
          split at hc
          · exact hc.elim
          · split at hc
            · rename_i hl
              cases rx
              obtain ⟨u, rfl, ru⟩ := rv.one
              cases ru
              obtain ⟨its, m, v1, z1, o1⟩ := rd_raw I (.inl f2)
              have l1 := v1.length
              have l3 := f3.len
              have l4 := g3.len
              rcases g2 with g2 | g2
              · obtain ⟨jts, m2, v2, z2, o2⟩ := rd_raw I g2
                have l2 := v2.length
                have hs : its.toArray.size + jts.toArray.size ≤ sizeLine := by
                  rw [line_eq]; simp only [List.size_toArray]; omega
                have hb : ¬ (!its.toArray.isEmpty && Builtin.List.listTooLong (its.toArray.size + jts.toArray.size)) = true := by
                  rw [notLongL hs, Bool.and_false]; exact Bool.false_ne_true
                refine call_meets F.slot_list_extend ⟨_, o1, rfl⟩ F.entry_list_extend (F.args_list_extend_2 _ _) (AutoSeq1.list_extend_list_list_0 _ its.toArray m b2 jts.toArray m2 hb (by rw [List.size_toArray]; omega) (by omega)) ⟨o1, o2, ?_⟩
                refine ⟨.non, _, I.lset (its' := its ++ jts) f2 o1 (by simp) (v1.append v2) (by rw [List.length_append, line_eq]; omega), rfl, wr_now hR ha hak (f3.append g3) .non hc⟩
              · obtain ⟨jts, v2, ⟨⟨cls, dd, dt, sl⟩, o2, hcl, m2, hdt⟩, z2⟩ := I.tuple (kK ▸ g2)
                simp only at hcl hdt
                subst hcl hdt
                have l2 := v2.length
                have hs : its.toArray.size + jts.toArray.size ≤ sizeLine := by
                  rw [line_eq]; simp only [List.size_toArray]; omega
                have hb : ¬ (!its.toArray.isEmpty && Builtin.List.listTooLong (its.toArray.size + jts.toArray.size)) = true := by
                  rw [notLongL hs, Bool.and_false]; exact Bool.false_ne_true
                refine call_meets F.slot_list_extend ⟨_, o1, rfl⟩ F.entry_list_extend (F.args_list_extend_2 _ _) (ext_tup _ its.toArray m b2 jts.toArray m2 dd sl hb (by rw [List.size_toArray]; omega) (by omega)) ⟨o1, o2, ?_⟩
                refine ⟨.non, _, I.lset (its' := its ++ jts) f2 o1 (by simp) (v1.append v2) (by rw [List.length_append, line_eq]; omega), rfl, wr_now hR ha hak (f3.append g3) .non hc⟩
            · exact hc.elim
  | .non, _, _, _, hc => exact hc.elim
  | .bl _, _, _, _, hc => exact hc.elim
  | .int _, _, _, _, hc => exact hc.elim
  | .str _, _, _, _, hc => exact hc.elim
  | .tup _, _, _, _, hc => exact hc.elim
  | .fl _, _, _, _, hc => exact hc.elim
  | .ref _, [], _, _, hc => exact hc.elim
  | .ref _, _ :: _ :: _, _, _, hc => exact hc.elim
theorem mt_pop0 (fz : Bool) : MtR X "list.pop" (rMt k (mtD fz .pop)) := by
  intro pins s σ H x vs v us Q I rx rv h
  obtain ⟨r, st, W, σ0, d, ds, hR, p, ps, hc⟩ := h
  match d, ds, p, ps, hc with
  | .ref n, [], p, ps, hc =>
    cases p with
    | ref ha hak =>
      have := ps.zero
      subst this
      have hc : CP (RV k) k W σ0 r H (match st[n]? with
        | some xs => (match xs.getLast? with
          | some y => .ok y (st.set n xs.dropLast)
          | none => .bad)
        | none => .bad) Q := hc
      cases e1 : st[n]? with
      | none => rw [e1] at hc; exact hc.elim
      | some xs =>
        rw [e1] at hc
        obtain ⟨b, ws, f1, f2, f3⟩ := hR.has n xs e1 ha hak
        rw [ha] at f1; cases f1
        dsimp only at hc
        cases e2 : xs.getLast? with
        | none => rw [e2] at hc; exact hc.elim
        | some y =>
          rw [e2] at hc
          rw [List.getLast?_eq_getElem?, ← f3.len] at e2
          obtain ⟨w, e3, pw⟩ := f3.get e2
          exact mt_pop pins s σ H _ _ v us Q I rx rv ⟨_, ws, w, rfl, rfl, f2, e3, wr_now hR ha hak f3.dropLast pw hc⟩
  | .non, _, _, _, hc => exact hc.elim
  | .bl _, _, _, _, hc => exact hc.elim
  | .int _, _, _, _, hc => exact hc.elim
  | .str _, _, _, _, hc => exact hc.elim
  | .tup _, _, _, _, hc => exact hc.elim
  | .fl _, _, _, _, hc => exact hc.elim
  | .ref _, _ :: _, _, _, hc => exact hc.elim
theorem ixN_seq {n : Nat} {i : Int} {j : Nat} (h : ixN n i = some j) (hn : n ≤ sizeLine) : seqIndex? i n = some j ∧ -(2 ^ 63) ≤ i ∧ i < 2 ^ 63 := by
  obtain ⟨a, b, c, d⟩ := L2.ixN_seq (n := n) (i := i) (j := j) h
  have := line63
  exact ⟨a, by omega, by omega⟩
theorem mt_popI (fz : Bool) : MtR X "list.pop" (rMt k (mtD fz .popAt)) := by
  intro pins s σ H x vs v us Q I rx rv h
  obtain ⟨r, st, W, σ0, d, ds, hR, p, ps, hc⟩ := h
  match d, ds, p, ps, hc with
  | .ref n, [.int i], p, ps, hc =>
    cases p with
    | ref ha hak =>
      obtain ⟨y, rfl, py⟩ := ps.one
      cases py
      have hc : CP (RV k) k W σ0 r H (match st[n]? with
        | some xs => (match ixN xs.length i with
          | some k => (match xs[k]? with
            | some y => .ok y (st.set n (xs.eraseIdx k))
            | none => .bad)
          | none => .bad)
        | none => .bad) Q := hc
      cases e1 : st[n]? with
      | none => rw [e1] at hc; exact hc.elim
      | some xs =>
        rw [e1] at hc
        obtain ⟨b, ws, f1, f2, f3⟩ := hR.has n xs e1 ha hak
        rw [ha] at f1; cases f1
        dsimp only at hc
        cases e2 : ixN xs.length i with
        | none => rw [e2] at hc; exact hc.elim
        | some j =>
          rw [e2] at hc
          dsimp only at hc
          cases e3 : xs[j]? with
          | none => rw [e3] at hc; exact hc.elim
          | some y =>
            rw [e3] at hc
            obtain ⟨w, e4, pw⟩ := f3.get e3
            obtain ⟨its, m, v1, z1, o1⟩ := rd_raw I (.inl f2)
            rw [← f3.len] at e2
            obtain ⟨g1, g2, g3⟩ := ixN_seq e2 z1
            exact mt_popAt pins s σ H _ _ v us Q I rx rv ⟨_, ws, i, j, w, rfl, rfl, f2, g2, g3, g1, e4, wr_now hR ha hak (f3.erase j) pw hc⟩
  | .non, _, _, _, hc => exact hc.elim
  | .bl _, _, _, _, hc => exact hc.elim
  | .int _, _, _, _, hc => exact hc.elim
  | .str _, _, _, _, hc => exact hc.elim
  | .tup _, _, _, _, hc => exact hc.elim
  | .fl _, _, _, _, hc => exact hc.elim
  | .ref _, [], _, _, hc => exact hc.elim
  | .ref _, e :: _ :: _, _, _, hc => cases e <;> exact hc.elim
  | .ref _, [.non], _, _, hc => exact hc.elim
  | .ref _, [.bl _], _, _, hc => exact hc.elim
  | .ref _, [.str _], _, _, hc => exact hc.elim
  | .ref _, [.tup _], _, _, hc => exact hc.elim
  | .ref _, [.fl _], _, _, hc => exact hc.elim
  | .ref _, [.ref _], _, _, hc => exact hc.elim

/-! ### x[i] = v -/
theorem mt_ins (fz : Bool) : MtR X "list.insert" (rMt k (mtD fz .insert)) := by
  intro pins s σ H x vs v us Q I rx rv h
  obtain ⟨r, st, W, σ0, d, ds, hR, p, ps, hc⟩ := h
  have bad : ∀ {P : Prop}, CP (RV k) k W σ0 r H (.bad : Out D) Q → P := fun h => h.elim
  cases d with
  | ref n =>
    match ds, ps, hc with
    | [.int i, d], ps, hc =>
      cases p with
      | ref ha hak =>
        obtain ⟨y, z, rfl, py, pz⟩ := ps.two
        cases py
        have hc : CP (RV k) k W σ0 r H (match st[n]? with
          | some xs => if xs.length < lineN ∧ 0 ≤ i ∧ i < 2 ^ 63 then .ok .non (st.set n (xs.take i.toNat ++ [d] ++ xs.drop i.toNat)) else .bad
          | none => .bad) Q := hc
        cases e1 : st[n]? with
        | none => rw [e1] at hc; exact hc.elim
        | some xs =>
          rw [e1] at hc
          obtain ⟨b, ws, f1, f2, f3⟩ := hR.has n xs e1 ha hak
          rw [ha] at f1; cases f1
          dsimp only at hc
          split at hc
          · rename_i hl
            exact mt_insert pins s σ H _ _ v us Q I rx rv ⟨_, ws, i, z, rfl, rfl, f2, by rw [f3.len, line_eq]; exact hl.1, hl.2.1, hl.2.2, wr_now hR ha hak (((f3.take i.toNat).append (.cons pz .nil)).append (f3.drop i.toNat)) .non hc⟩
          · exact hc.elim
    | [], ps, hc => exact hc.elim
    | [_], ps, hc => exact (show False by revert hc; rename_i q; cases q <;> exact fun z => z).elim
    | .non :: _ :: _, ps, hc => exact hc.elim
    | .bl _ :: _ :: _, ps, hc => exact hc.elim
    | .str _ :: _ :: _, ps, hc => exact hc.elim
    | .tup _ :: _ :: _, ps, hc => exact hc.elim
    | .fl _ :: _ :: _, ps, hc => exact hc.elim
    | .ref _ :: _ :: _, ps, hc => exact hc.elim
    | .int _ :: _ :: _ :: _, ps, hc => exact hc.elim
  | _ => exact hc.elim
theorem set_now (kK : k.K = X.K) : PSet X (fun o i v H Q => ∃ r st d1 d2 d, RelH k.K r st H ∧ Rep k.K r H o d1 ∧ Rep k.K r H i d2 ∧ Rep k.K r H v d ∧ ∃ st', setD d1 d2 d st = some st' ∧ ∀ r' H', Ext r H r' H' → RelH k.K r' st' H' → Q H') := by
  intro pins s σ H o i v ov iv u Q I ro ri rv h
  obtain ⟨r, st, d1, d2, d, hR, p1, p2, p, st', e, q⟩ := h
  match d1, d2, p1, p2, e with
  | .ref n, .int m, p1, p2, e =>
    cases p1 with
    | ref ha hak =>
      cases p2
      have e : ((st[n]?).bind fun xs => (ixN xs.length m).map fun j => st.set n (xs.set j d)) = some st' := e
      obtain ⟨xs, e1, e2⟩ := Option.bind_eq_some_iff.mp e
      obtain ⟨j, e3, e4⟩ := Option.map_eq_some_iff.mp e2
      obtain ⟨b, ws, f1, f2, f3⟩ := hR.has n xs e1 ha hak
      rw [ha] at f1; cases f1
      subst e4
      rw [← f3.len] at e3
      exact set_list pins s σ H _ _ v ov iv u Q I ro ri rv ⟨_, ws, m, j, rfl, rfl, f2, e3, q r _ (Ext.write ha hak.same) (hR.write ha hak (f3.set p j))⟩
  | .non, _, _, _, e => cases e
  | .bl _, _, _, _, e => cases e
  | .int _, _, _, _, e => cases e
  | .str _, _, _, _, e => cases e
  | .tup _, _, _, _, e => cases e
  | .fl _, _, _, _, e => cases e
  | .ref _, .non, _, _, e => cases e
  | .ref _, .bl _, _, _, e => cases e
  | .ref _, .str _, _, _, e => cases e
  | .ref _, .tup _, _, _, e => cases e
  | .ref _, .fl _, _, _, e => cases e
  | .ref _, .ref _, _, _, e => cases e
end
end Mi
end
section
/-! MiH: what is walked: lists and tuples alike, enumerate, zip. -/
namespace Mi
open PySem PySem.Spec PyProof.Rows L2

/-! ### a list or a tuple -/
def SqB (b : Bool) (K : PySem.W.Frag) (H : Hp) (a : Addr) (xs : List V) : Prop := match b with
  | true => SqT K H a xs
  | false => SqL K H a xs
def ItAt (b : Bool) (h : Heap) (it a : Addr) (i : Nat) : Prop := match b with
  | true => h.IsTupleIter it a i
  | false => h.IsListIter it a i
def SqAt (b : Bool) (h : Heap) (a : Addr) (its : Array Value) : Prop := match b with
  | true => h.IsTuple a its
  | false => h.IsList a its
theorem ItAt.ob {b : Bool} {h : Heap} {it a : Addr} {i : Nat} (x : ItAt b h it a i) : ∃ o, h.get? it = some o ∧ (o.cls = .type "tuple_iterator" ∨ o.cls = .type "list_iterator") ∧ ∀ v, o.data ≠ .cell v := by
  cases b with
  | true => obtain ⟨o, e, c, d⟩ := x; exact ⟨o, e, .inl c, fun v z => by rw [d] at z; cases z⟩
  | false => obtain ⟨o, e, c, d⟩ := x; exact ⟨o, e, .inr c, fun v z => by rw [d] at z; cases z⟩
theorem ItAt.to {b : Bool} {h h' : Heap} {it a : Addr} {i : Nat} (x : ItAt b h it a i) (k : ∀ o, h.get? it = some o → h'.get? it = some o) : ItAt b h' it a i := by
  cases b with
  | true => obtain ⟨o, e, c, d⟩ := x; exact ⟨o, k o e, c, d⟩
  | false => obtain ⟨o, e, c, d⟩ := x; exact ⟨o, k o e, c, d⟩
theorem SqAt.ob {b : Bool} {h : Heap} {a : Addr} {its : Array Value} (x : SqAt b h a its) : ∃ o, h.get? a = some o ∧ (o.cls = .type "tuple" ∨ o.cls = .type "list") := by
  cases b with
  | true => obtain ⟨o, e, c, d⟩ := x; exact ⟨o, e, .inl c⟩
  | false => obtain ⟨o, e, c, d⟩ := x; exact ⟨o, e, .inr c⟩
theorem SqAt.ne {b : Bool} {h : Heap} {a c : Addr} {its : Array Value} {o : Obj} (x : SqAt b h a its) (e : h.get? c = some o) (h1 : o.cls ≠ .type "tuple") (h2 : o.cls ≠ .type "list") : a ≠ c := fun z => by
  subst z
  obtain ⟨o', e', q⟩ := x.ob
  rw [e] at e'; cases e'
  rcases q with q | q
  · exact h1 q
  · exact h2 q
theorem draws_b {prog : Program} {w : World} {A : Around} (b : Bool) (hh : A.handled = none) (it a : Addr) (hne : a ≠ it) (items : Array Value) :
    Draws prog w A it [it, a] items.size (fun i v => items[i]? = some v) (fun i h => ItAt b h it a i ∧ SqAt b h a items) := by
  cases b with
  | true => exact Draws.tuple hh it a hne items
  | false => exact Draws.list hh it a hne items
def itO (b : Bool) (a : Addr) : Obj := match b with
  | true => { cls := .type "tuple_iterator", data := .fields #[.ref a, .int 0 0] }
  | false => { cls := .type "list_iterator", data := .fields #[.ref a, .int 0 0] }
theorem begins_b (b : Bool) (a : Addr) (items : Array Value) : Begins (.ref a) (itO b a) fun h => SqAt b h a items := by
  cases b with
  | true => exact begins_tuple a items
  | false => exact begins_list a items
theorem itAt_0 {b : Bool} {h : Heap} {it a : Addr} (e : h.get? it = some (itO b a)) : ItAt b h it a 0 := by
  cases b with
  | true => exact ⟨_, e, rfl, rfl⟩
  | false => exact ⟨_, e, rfl, rfl⟩
section
variable {X : L2.Cx} {pins : List (Addr × Obj)} {σ : L2.St} {H : Hp} {s : Shared} {b : Bool} {a : Addr} {xs ys : List V}
theorem inv_sq (I : Inv X pins σ H s) (h : SqB b X.K H a xs) : ∃ its : List Value, Vals xs its ∧ SqAt b s.heap a its.toArray ∧ xs.length ≤ sizeLine := by
  cases b with
  | true => exact I.tuple h
  | false =>
    obtain ⟨its, v, p, l⟩ := I.list h
    exact ⟨its, v, p.isList, l⟩
theorem inv_inj (I : Inv X pins σ H s) (h : SqB b X.K H a xs) (h' : SqB b X.K H a ys) : xs = ys := by
  cases b with
  | true => exact I.tuple_inj h h'
  | false => exact I.list_inj h h'
end

/-! ### an iterator whose items are new pairs -/
theorem turn_walk {P : Program} {w : World} {K : PySem.W.Frag} {elts : List Expr} {kk : Nat} {tpos : Pos} {J : It} {fp : List Addr} {it : Addr} {tn : Nat → Heap → Prop} (mem : it ∈ fp)
    (obj : ∀ i h, tn i h → ∀ b ∈ fp, ∃ o, h.get? b = some o ∧ ∀ v, o.data ≠ .cell v)
    (keep : ∀ i h h', tn i h → (∀ b ∈ fp, ∀ o, h.get? b = some o → h'.get? b = some o) → tn i h')
    (self : ∀ (A : Around) (i : Nat) (s : Shared) (Q : Value → Shared → Prop) (E : Value → Shared → Prop), tn i s.heap → Q (.ref it) s → wpAny (model P w) A (pyIter (.ref it)) Q E s)
    (item : ∀ (X : L2.Cx), X.prog = P → X.w = w → X.K = K → X.A.handled = none → ∀ (i : Nat) (pins : List (Addr × Obj)) (s : Shared) (σ : L2.St) (H : Hp), Inv X pins σ H s → tn i s.heap → J.go i H →
      ∃ (fpW wr : List Addr) (n : Nat) (Pt : Nat → Array Value → Prop) (St : Nat → Heap → Prop) (Mid : Nat → Addr → Heap → Prop) (x y : V), WalksT P w X.A it fpW wr n Pt St Mid ∧ (∀ b ∈ wr, b ∈ fp) ∧ St i s.heap ∧ i < n ∧
        (∀ vals, Pt i vals → Vals [x, y] vals.toList) ∧ (∀ h', St (i + 1) h' → tn (i + 1) h') ∧ ∀ T, H T = none → J.yld i H (.ref T) (upd H T (.tup [x, y])))
    (done : ∀ (X : L2.Cx), X.prog = P → X.w = w → X.K = K → X.A.handled = none → ∀ (i : Nat) (pins : List (Addr × Obj)) (s : Shared) (σ : L2.St) (H : Hp), Inv X pins σ H s → tn i s.heap → J.stop i H →
      ∃ (fpW wr : List Addr) (Pt : Nat → Array Value → Prop) (St : Nat → Heap → Prop) (Mid : Nat → Addr → Heap → Prop), WalksT P w X.A it fpW wr i Pt St Mid ∧ (∀ b ∈ wr, b ∈ fp) ∧ St i s.heap) :
    Turn P w K (.Tuple elts kk tpos) J fp it tn where
  mem := mem
  obj := obj
  keep := keep
  self := self
  item := by
    intro X hP hw hK hc i pins s σ H E I hf st hg
    have hh := I.ok.hd hc
    obtain ⟨fpW, wr, n, Pt, St, Mid, x, y, W, hs, h0, hi, hv, ht, hJ⟩ := item X hP hw hK hh i pins s σ H I st hg
    refine W.item i s _ _ hi h0 fun T vals h' tk hPt hT hTup hMid hk => ⟨_, rfl, ?_⟩
    refine W.go elts kk tpos i T { s with heap := h', toks := tk } _ _ hMid fun h'' hSt hk2 => ?_
    have hTw := W.apart i T _ hMid
    obtain ⟨oT, eT, cT, nT, dT⟩ := hTup
    have new : ObjOk X.prog X.w (upd H T (.tup [x, y])) h'' T (.tup [x, y]) :=
      ⟨by show 2 ≤ sizeLine; decide, vals.toList, hv vals hPt, ⟨oT, hk2 T oT hTw eT, cT, nT, by rw [dT]⟩⟩
    have I1 : Inv X pins σ (upd H T (.tup [x, y])) { s with heap := h'', toks := tk } :=
      I.turnedNew (ch := fp) (fun c o hb q => hk2 c o (fun z => hb (hs c z)) (hk c o (fun z => hb (hs c z)) q)) hf hT new
    refine ⟨.ref T, _, I1, rfl, hJ T (I.hok.fresh hT), ht _ hSt, fun c hcm => ?_⟩
    obtain ⟨o, e, _⟩ := obj i _ st c hcm
    rw [upd_ne (Nat.ne_of_lt (Nat.lt_of_lt_of_le (Heap.lt_size e) hT))]
    exact (hf c hcm).1
  done := by
    intro X hP hw hK hc i pins s σ H E I hf st hg
    obtain ⟨fpW, wr, Pt, St, Mid, W, hs, h0⟩ := done X hP hw hK (I.ok.hd hc) i pins s σ H I st hg
    exact W.done s _ _ h0 fun h' tk hk => ⟨rfl, I.turnedL (ch := fp) (fun c o hb q => hk c o (fun z => hb (hs c z)) q) hf⟩

/-! ### enumerate -/
def Iten (b : Bool) (K : PySem.W.Frag) (a : Addr) (c : Int) : It :=
  ⟨fun i H => ∃ (xs : List V) (x : V), SqB b K H a xs ∧ xs[i]? = some x, fun i H v H' => ∃ T x, v = .ref T ∧ H T = none ∧ H' = upd H T (.tup [.int (c + (i : Nat)), x]) ∧ ∀ xs, SqB b K H a xs → xs[i]? = some x, fun i H => ∃ xs : List V, SqB b K H a xs ∧ xs.length = i⟩
theorem turn_en {P : Program} {w : World} {K : PySem.W.Frag} {elts : List Expr} {kk : Nat} {tpos : Pos} (b : Bool) (c : Int) (a e it : Addr) :
    Turn P w K (.Tuple elts kk tpos) (Iten b K a c) [e, it] e (fun i h => (∃ old, IsEnum h e it (c + (i : Int)) old) ∧ ItAt b h it a i ∧ e ≠ it) := by
  refine turn_walk (by simp) (fun i h st z hz => ?_) (fun i h h' st k => ?_) (fun A i s Q E st h => ?_) (fun X hP hw hK hh i pins s σ H I st hg => ?_) (fun X hP hw hK hh i pins s σ H I st hg => ?_)
  · obtain ⟨⟨old, he⟩, hi, _⟩ := st
    have e' : z = e ∨ z = it := by simpa using hz
    rcases e' with q | q
    · rw [q]; exact ⟨_, he, fun v q => nomatch q⟩
    · rw [q]; obtain ⟨o, e1, _, d⟩ := hi.ob; exact ⟨o, e1, d⟩
  · obtain ⟨⟨old, he⟩, hi, hne⟩ := st
    exact ⟨⟨old, k e (by simp) _ he⟩, hi.to fun o q => k it (by simp) o q, hne⟩
  · obtain ⟨⟨_, he⟩, _⟩ := st
    exact wpAny_pyIter_enum he h
  · subst hP hw hK
    obtain ⟨⟨old, he⟩, hit, hne⟩ := st
    obtain ⟨xs, x, hq, hx⟩ := hg
    obtain ⟨its, rv, p, hz⟩ := inv_sq I hq
    obtain ⟨u, hu, ru⟩ := rv.get hx
    obtain ⟨oi, ei, ci, _⟩ := hit.ob
    have n1 : a ≠ it := p.ne ei (by rcases ci with z | z <;> rw [z] <;> decide) (by rcases ci with z | z <;> rw [z] <;> decide)
    have n2 : a ≠ e := p.ne he (by simp) (by simp)
    have hi : i < its.toArray.size := by
      have := (List.getElem?_eq_some_iff.mp hu).1
      simpa using this
    refine ⟨_, _, _, _, _, _, .int (c + (i : Nat)), x, WalksT.enumFrom c (draws_b (A := X.A.in1) b hh it a n1 its.toArray) e hne (by simp [hne, Ne.symm n2]) (by simp), fun z hz => hz, ⟨⟨old, he⟩, hit, p⟩, hi, fun vals hv => ?_, fun h' hS => ?_, fun T hT => ?_⟩
    · obtain ⟨t, y, hy, rfl⟩ := hv
      have hy : its.toArray[i]? = some y := hy
      rw [List.getElem?_toArray, hu] at hy
      cases hy
      exact .cons ⟨_, rfl⟩ (.cons ru .nil)
    · exact ⟨hS.1, hS.2.1, hne⟩
    · exact ⟨T, x, rfl, hT, rfl, fun ys hy => by rw [inv_inj I hy hq]; exact hx⟩
  · subst hP hw hK
    obtain ⟨⟨old, he⟩, hit, hne⟩ := st
    obtain ⟨xs, hq, hx⟩ := hg
    obtain ⟨its, rv, p, hz⟩ := inv_sq I hq
    obtain ⟨oi, ei, ci, _⟩ := hit.ob
    have n1 : a ≠ it := p.ne ei (by rcases ci with z | z <;> rw [z] <;> decide) (by rcases ci with z | z <;> rw [z] <;> decide)
    have n2 : a ≠ e := p.ne he (by simp) (by simp)
    have hl : i = its.toArray.size := by
      have := rv.length
      simp only [List.size_toArray]
      omega
    subst hl
    exact ⟨_, _, _, _, _, WalksT.enumFrom c (draws_b (A := X.A.in1) b hh it a n1 its.toArray) e hne (by simp [hne, Ne.symm n2]) (by simp), fun z hz => hz, ⟨⟨old, he⟩, hit, p⟩⟩
/-! ### zip -/
def Itzz (b b2 : Bool) (K : PySem.W.Frag) (a a2 : Addr) : It :=
  ⟨fun i H => ∃ (xs ys : List V) (x y : V), SqB b K H a xs ∧ SqB b2 K H a2 ys ∧ xs[i]? = some x ∧ ys[i]? = some y,
    fun i H v H' => ∃ T x y, v = .ref T ∧ H T = none ∧ H' = upd H T (.tup [x, y]) ∧ (∀ xs, SqB b K H a xs → xs[i]? = some x) ∧ ∀ ys, SqB b2 K H a2 ys → ys[i]? = some y,
    fun i H => ∃ xs ys : List V, SqB b K H a xs ∧ SqB b2 K H a2 ys ∧ min xs.length ys.length = i⟩
structure Apart5 (z TI TO i1 i2 : Addr) : Prop where
  n1 : TI ≠ z
  n2 : TO ≠ z
  n3 : TI ≠ TO
  n4 : TI ≠ i1
  n5 : TI ≠ i2
  n6 : z ≠ i1
  n7 : z ≠ i2
  n8 : TO ≠ i1
  n9 : TO ≠ i2
  n10 : i1 ≠ i2
theorem turn_zz {P : Program} {w : World} {K : PySem.W.Frag} {elts : List Expr} {kk : Nat} {tpos : Pos} (b b2 : Bool) (a a2 z TI TO i1 i2 : Addr) (D : Apart5 z TI TO i1 i2) (m1 : a ≠ TO) (m2 : a2 ≠ TO) :
    Turn P w K (.Tuple elts kk tpos) (Itzz b b2 K a a2) [z, TI, TO, i1, i2] z (fun i h => IsZip h z TI TO .none ∧ IsTupOf2 h TI (.ref i1) (.ref i2) ∧ (∃ x y, IsTupOf2 h TO x y) ∧ ItAt b h i1 a i ∧ ItAt b2 h i2 a2 i) := by
  refine turn_walk (by simp) (fun i h st c hc => ?_) (fun i h h' st k => ?_) (fun A i s Q E st h => wpAny_pyIter_zip st.1 h) (fun X hP hw hK hh i pins s σ H I st hg => ?_) (fun X hP hw hK hh i pins s σ H I st hg => ?_)
  · obtain ⟨hz, hTI, ⟨x, y, hTO⟩, h1, h2⟩ := st
    have e' : c = z ∨ c = TI ∨ c = TO ∨ c = i1 ∨ c = i2 := by simpa using hc
    rcases e' with q | q | q | q | q
    · rw [q]; exact ⟨_, hz, fun v q => nomatch q⟩
    · rw [q]; exact ⟨_, hTI, fun v q => nomatch q⟩
    · rw [q]; exact ⟨_, hTO, fun v q => nomatch q⟩
    · rw [q]; obtain ⟨o, e1, _, d⟩ := h1.ob; exact ⟨o, e1, d⟩
    · rw [q]; obtain ⟨o, e1, _, d⟩ := h2.ob; exact ⟨o, e1, d⟩
  · obtain ⟨hz, hTI, ⟨x, y, hTO⟩, h1, h2⟩ := st
    exact ⟨k z (by simp) _ hz, k TI (by simp) _ hTI, ⟨x, y, k TO (by simp) _ hTO⟩, h1.to fun o q => k i1 (by simp) o q, h2.to fun o q => k i2 (by simp) o q⟩
  · subst hP hw hK
    obtain ⟨hz, hTI, ⟨x0, y0, hTO⟩, h1, h2⟩ := st
    obtain ⟨xs, ys, x, y, hqx, hqy, hx, hy⟩ := hg
    obtain ⟨its, rv, p, _⟩ := inv_sq I hqx
    obtain ⟨its2, rv2, p2, _⟩ := inv_sq I hqy
    obtain ⟨u, hu, ru⟩ := rv.get hx
    obtain ⟨u2, hu2, ru2⟩ := rv2.get hy
    obtain ⟨oi, ei, ci, _⟩ := h1.ob
    obtain ⟨oi2, ei2, ci2, _⟩ := h2.ob
    have k1 : a ≠ i1 := p.ne ei (by rcases ci with z | z <;> rw [z] <;> decide) (by rcases ci with z | z <;> rw [z] <;> decide)
    have k2 : a2 ≠ i2 := p2.ne ei2 (by rcases ci2 with z | z <;> rw [z] <;> decide) (by rcases ci2 with z | z <;> rw [z] <;> decide)
    have k3 : a ≠ i2 := p.ne ei2 (by rcases ci2 with z | z <;> rw [z] <;> decide) (by rcases ci2 with z | z <;> rw [z] <;> decide)
    have k4 : a2 ≠ i1 := p2.ne ei (by rcases ci with z | z <;> rw [z] <;> decide) (by rcases ci with z | z <;> rw [z] <;> decide)
    have k5 : a ≠ z := p.ne hz (by simp) (by simp)
    have k6 : a2 ≠ z := p2.ne hz (by simp) (by simp)
    have S : ZipSep2 z TI TO i1 i2 [i1, a] [i2, a2] := ⟨D.n1, D.n2, D.n3, D.n4, by simp, by simp [D.n6, Ne.symm k5], by simp [D.n8, Ne.symm m1], D.n5, by simp, by simp [D.n7, Ne.symm k6], by simp [D.n9, Ne.symm m2], by simp [D.n10, Ne.symm k4], by simp [Ne.symm D.n10, Ne.symm k3]⟩
    have hi : i < its.toArray.size := by
      have := (List.getElem?_eq_some_iff.mp hu).1
      simpa using this
    have hi2 : i < its2.toArray.size := by
      have := (List.getElem?_eq_some_iff.mp hu2).1
      simpa using this
    refine ⟨_, _, _, _, _, _, x, y, WalksT.zipD2 S (draws_b (A := X.A.in1) b hh i1 a k1 its.toArray) (draws_b (A := X.A.in1) b2 hh i2 a2 k2 its2.toArray), fun c hc => ?_, ⟨hz, hTI, ⟨x0, y0, hTO⟩, ⟨h1, p⟩, h2, p2⟩, by omega, fun vals hv => ?_, fun h' hS => ?_, fun T hT => ?_⟩
    · have e' : c = z ∨ c = TO ∨ c = i1 ∨ c = i2 := by simpa using hc
      rcases e' with q | q | q | q <;> simp [q]
    · obtain ⟨v1, v2, e1, e2, rfl⟩ := hv
      have e1 : its.toArray[i]? = some v1 := e1
      have e2 : its2.toArray[i]? = some v2 := e2
      rw [List.getElem?_toArray, hu] at e1
      rw [List.getElem?_toArray, hu2] at e2
      cases e1; cases e2
      exact .cons ru (.cons ru2 .nil)
    · exact ⟨hS.1, hS.2.1, hS.2.2.1, hS.2.2.2.1.1, hS.2.2.2.2.1⟩
    · exact ⟨T, x, y, rfl, hT, rfl, fun l hl => by rw [inv_inj I hl hqx]; exact hx, fun l hl => by rw [inv_inj I hl hqy]; exact hy⟩
  · subst hP hw hK
    obtain ⟨hz, hTI, ⟨x0, y0, hTO⟩, h1, h2⟩ := st
    obtain ⟨xs, ys, hqx, hqy, hx⟩ := hg
    obtain ⟨its, rv, p, _⟩ := inv_sq I hqx
    obtain ⟨its2, rv2, p2, _⟩ := inv_sq I hqy
    obtain ⟨oi, ei, ci, _⟩ := h1.ob
    obtain ⟨oi2, ei2, ci2, _⟩ := h2.ob
    have k1 : a ≠ i1 := p.ne ei (by rcases ci with z | z <;> rw [z] <;> decide) (by rcases ci with z | z <;> rw [z] <;> decide)
    have k2 : a2 ≠ i2 := p2.ne ei2 (by rcases ci2 with z | z <;> rw [z] <;> decide) (by rcases ci2 with z | z <;> rw [z] <;> decide)
    have k3 : a ≠ i2 := p.ne ei2 (by rcases ci2 with z | z <;> rw [z] <;> decide) (by rcases ci2 with z | z <;> rw [z] <;> decide)
    have k4 : a2 ≠ i1 := p2.ne ei (by rcases ci with z | z <;> rw [z] <;> decide) (by rcases ci with z | z <;> rw [z] <;> decide)
    have k5 : a ≠ z := p.ne hz (by simp) (by simp)
    have k6 : a2 ≠ z := p2.ne hz (by simp) (by simp)
    have S : ZipSep2 z TI TO i1 i2 [i1, a] [i2, a2] := ⟨D.n1, D.n2, D.n3, D.n4, by simp, by simp [D.n6, Ne.symm k5], by simp [D.n8, Ne.symm m1], D.n5, by simp, by simp [D.n7, Ne.symm k6], by simp [D.n9, Ne.symm m2], by simp [D.n10, Ne.symm k4], by simp [Ne.symm D.n10, Ne.symm k3]⟩
    have hl : i = min its.toArray.size its2.toArray.size := by
      have := rv.length
      have := rv2.length
      simp only [List.size_toArray]
      omega
    subst hl
    refine ⟨_, _, _, _, _, WalksT.zipD2 S (draws_b (A := X.A.in1) b hh i1 a k1 its.toArray) (draws_b (A := X.A.in1) b2 hh i2 a2 k2 its2.toArray), fun c hc => ?_, ⟨hz, hTI, ⟨x0, y0, hTO⟩, ⟨h1, p⟩, h2, p2⟩⟩
    have e' : c = z ∨ c = TO ∨ c = i1 ∨ c = i2 := by simpa using hc
    rcases e' with q | q | q | q <;> simp [q]
theorem nadd (n : Nat) {i j : Nat} (h : i ≠ j) : n + i ≠ n + j := by omega
theorem ap5 (n : Nat) : Apart5 (n + 4) (n + 2) (n + 3) n (n + 1) := ⟨nadd n (i := 2) (j := 4) (by decide), nadd n (i := 3) (j := 4) (by decide), nadd n (i := 2) (j := 3) (by decide), nadd n (i := 2) (j := 0) (by decide), nadd n (i := 2) (j := 1) (by decide), nadd n (i := 4) (j := 0) (by decide), nadd n (i := 4) (j := 1) (by decide), nadd n (i := 3) (j := 0) (by decide), nadd n (i := 3) (j := 1) (by decide), nadd n (i := 0) (j := 1) (by decide)⟩
theorem ap6 {a n : Nat} (h : a < n) : a ≠ n + 3 := by omega
theorem ap7 {c n : Nat} (h : c = n + 4 ∨ c = n + 2 ∨ c = n + 3 ∨ c = n ∨ c = n + 1) : n ≤ c := by omega
theorem zz_it {X : L2.Cx} {pins : List (Addr × Obj)} {σ : L2.St} {H : Hp} {s : Shared} {R : It → Hp → Prop} {E : Value → Shared → Prop} {elts : List Expr} {kk : Nat} {tpos : Pos} {b b2 : Bool} {a a2 : Addr} {xs ys : List V} (I : Inv X pins σ H s)
    (hq : SqB b X.K H a xs) (hq2 : SqB b2 X.K H a2 ys) (q : R (Itzz b b2 X.K a a2) H) :
    wpAny (model X.prog X.w) X.A (call (.type "zip") [.ref a, .ref a2]) (fun v s1 => wpAny (model X.prog X.w) X.A (pyIter v) (PIE X pins σ (.Tuple elts kk tpos) R) E s1) E s := by
  obtain ⟨its, rv, p, hz⟩ := inv_sq I hq
  obtain ⟨its2, rv2, p2, hz2⟩ := inv_sq I hq2
  obtain ⟨oa, ea, _⟩ := p.ob
  obtain ⟨oa2, ea2, _⟩ := p2.ob
  have la := Heap.lt_size ea
  have la2 := Heap.lt_size ea2
  refine zip_begins2 (begins_b b a its.toArray) (begins_b b2 a2 its2.toArray) p p2 fun h' hz hTI hTO h1 h2 hsz hk => wpAny_pyIter_zip hz ?_
  have I2 : Inv X pins σ H { s with heap := h' } := I.kept (t' := s.toks) hk
  refine ⟨s.heap.objs.size + 4, [s.heap.objs.size + 4, s.heap.objs.size + 2, s.heap.objs.size + 3, s.heap.objs.size, s.heap.objs.size + 1], _, _, H, rfl, I2,
    turn_zz b b2 a a2 (s.heap.objs.size + 4) (s.heap.objs.size + 2) (s.heap.objs.size + 3) s.heap.objs.size (s.heap.objs.size + 1) (ap5 _) (ap6 la) (ap6 la2), ⟨hz, hTI, ⟨_, _, hTO⟩, itAt_0 h1, itAt_0 h2⟩, fun c hcm => ?_, q⟩
  have e' : c = s.heap.objs.size + 4 ∨ c = s.heap.objs.size + 2 ∨ c = s.heap.objs.size + 3 ∨ c = s.heap.objs.size ∨ c = s.heap.objs.size + 1 := by simpa using hcm
  have hle : s.heap.objs.size ≤ c := ap7 e'
  exact I.fpOk hle (I.hok.fresh hle)
end Mi
end
section
/-! MiI: names and targets; loops and comprehensions, their readings. -/
namespace Mi
open PySem PySem.Spec PyProof.Rows L2

/-! ### names -/
/-- what is known of a body's names: the slots, the scope, names whose cells are its own -/
structure Ck where
  N : List Str
  sc : Scope
  fn : List Str
structure LX (X : L2.Cx) (c : Ck) : Prop where
  N : X.N = c.N
  nd : c.N.Nodup
  sc : X.env.scope = c.sc
  fn : ∀ x ∈ c.fn, X.fn x = true
  calm : X.calm = true
  kind : c.sc.kind = .function
def visC (c : Ck) (i : Nat) (x : Str) : Bool := decide (c.N[i]? = some x) && ((match c.sc.names.lookup x with
  | some .local => true
  | some .cell => true
  | some .free => true
  | _ => false) && (!(x == ("__debug__" : Str)) && !(x == ("__classdict__" : Str))))
def locC (c : Ck) (i : Nat) (x : Str) : Bool := decide (c.N[i]? = some x) && (match c.sc.names.lookup x with
  | some .local => true
  | some .cell => c.fn.contains x
  | _ => false)
def glC (c : Ck) (x : Str) : Bool := (match c.sc.names.lookup x with
  | some .globalImplicit => true
  | _ => false) && !(x == ("__debug__" : Str))
section
variable {X : L2.Cx} {c : Ck} {k : Kx} {W : WX}
theorem vis_of (L : LX X c) {i : Nat} {x : Str} (h : visC c i x = true) : X.N[i]? = some x ∧ Vis X.env.scope x ∧ (x == ("__debug__" : Str)) = false ∧ (x == ("__classdict__" : Str)) = false := by
  unfold visC at h
  simp only [Bool.and_eq_true, decide_eq_true_eq, Bool.not_eq_true'] at h
  obtain ⟨h1, h2, h3, h4⟩ := h
  refine ⟨by rw [L.N]; exact h1, ?_, h3, h4⟩
  unfold Vis
  rw [L.sc]
  split at h2 <;> first | exact .inl (by assumption) | exact .inr (.inl (by assumption)) | exact .inr (.inr (by assumption)) | cases h2
theorem loc_of (L : LX X c) {i : Nat} {x : Str} (h : locC c i x = true) : X.N[i]? = some x ∧ Loc X.env.scope x ∧ (X.fn x = true ∨ X.env.scope.names.lookup x = some .local) := by
  unfold locC at h
  simp only [Bool.and_eq_true, decide_eq_true_eq] at h
  obtain ⟨h1, h2⟩ := h
  refine ⟨by rw [L.N]; exact h1, ?_⟩
  unfold L2.Loc
  rw [L.sc]
  split at h2
  · exact ⟨.inl (by assumption), .inr (by assumption)⟩
  · exact ⟨.inr (by assumption), .inl (L.fn _ (by simpa using h2))⟩
  · cases h2
theorem gl_of (L : LX X c) {x : Str} (h : glC c x = true) : Gl X x ∧ (x == ("__debug__" : Str)) = false := by
  unfold glC at h
  simp only [Bool.and_eq_true, Bool.not_eq_true'] at h
  refine ⟨?_, h.2⟩
  have h1 := h.1
  show X.env.scope.names.lookup x = some .globalImplicit
  rw [L.sc]
  split at h1
  · assumption
  · cases h1

/-! ### targets -/
mutual
def gC (c : Ck) : G → Expr → Bool
  | .nm i, e => (match e with
    | .Name x _ => locC c i x
    | _ => false)
  | .tup gs, e => (match e with
    | .Tuple es _ _ => gsC c gs es
    | _ => false)
def gsC (c : Ck) : List G → List Expr → Bool
  | [], es => es.isEmpty
  | g :: gs, es => (match es with
    | e :: es => gC c g e && gsC c gs es
    | [] => false)
end
mutual
def gix : G → List Nat
  | .nm i => [i]
  | .tup gs => gixs gs
def gixs : List G → List Nat
  | [] => []
  | g :: gs => gix g ++ gixs gs
end
def rG (k : Kx) (g : G) : TG := fun v σ H Q => ∃ r st env d env1, RelH k.K r st H ∧ RelE k.K r H env σ ∧ Rep k.K r H v d ∧ gset g d env = some env1 ∧ ∀ σ', RelE k.K r H env1 σ' → (∀ i, i ∉ gix g → σ'[i]? = σ[i]?) → Q σ' H
def rGs (k : Kx) (gs : List G) : TGs := fun vs σ H Q => ∃ r st env ds env1, RelH k.K r st H ∧ RelE k.K r H env σ ∧ Reps k.K r H vs ds ∧ gsets gs ds env = some env1 ∧ ∀ σ', RelE k.K r H env1 σ' → (∀ i, i ∉ gixs gs → σ'[i]? = σ[i]?) → Q σ' H
theorem PGi {e : Expr} {t t' : TG} (h : PG X e t) (w : ∀ v σ H Q, t' v σ H Q → t v σ H Q) : PG X e t' := ⟨fun pins s σ H v u Q I r q => h.run pins s σ H v u Q I r (w _ _ _ _ q)⟩
theorem PGsi {e : List Expr} {t t' : TGs} (h : PGs X e t) (w : ∀ v σ H Q, t' v σ H Q → t v σ H Q) : PGs X e t' := ⟨fun pins s σ H v u Q I r q => h.run pins s σ H v u Q I r (w _ _ _ _ q)⟩
theorem RelE.set {K : PySem.W.Frag} {r : Rg} {H : Hp} {env : Env} {σ : L2.St} (h : RelE K r H env σ) {v : V} {d : D} (p : Rep K r H v d) (i : Nat) : RelE K r H (env.set i (some d)) (σ.set i (some v)) := by
  refine ⟨by simp [h.len], fun j e q => ?_⟩
  by_cases hj : i = j
  · subst hj
    by_cases hl : i < env.length
    · rw [List.getElem?_set_self hl] at q
      cases q
      exact ⟨v, by rw [List.getElem?_set_self (by rw [← h.len]; exact hl)], p⟩
    · rw [List.getElem?_eq_none (by simpa using hl)] at q
      cases q
  · rw [List.getElem?_set_ne hj] at q ⊢
    exact h.has j e q
theorem RelE.drop {K : PySem.W.Frag} {r : Rg} {H : Hp} {env : Env} {σ : L2.St} (h : RelE K r H env σ) (i : Nat) (o : Option V) : RelE K r H (env.set i none) (σ.set i o) := by
  refine ⟨by simp [h.len], fun j e q => ?_⟩
  by_cases hj : i = j
  · subst hj
    by_cases hl : i < env.length
    · rw [List.getElem?_set_self hl] at q; cases q
    · rw [List.getElem?_eq_none (by simpa using hl)] at q; cases q
  · rw [List.getElem?_set_ne hj] at q ⊢
    exact h.has j e q
theorem eachC (L : LX X c) : ∀ (gs : List G) (es : List Expr), gsC c gs es = true → (assignEach es X.env).length = gs.length ∧ (assignEach es X.env).findIdx? (·.1) = none
  | [], es, h => by
    unfold gsC at h
    cases es with
    | nil => exact ⟨rfl, rfl⟩
    | cons e es => cases h
  | g :: gs, [], h => by unfold gsC at h; cases h
  | g :: gs, e :: es, h => by
    unfold gsC at h
    simp only [Bool.and_eq_true] at h
    obtain ⟨i1, i2⟩ := eachC L gs es h.2
    have h1 := h.1
    have key : assignEach (e :: es) X.env = (false, assign e X.env) :: assignEach es X.env := by
      cases g with
      | nm i => unfold gC at h1; split at h1 <;> first | rfl | cases h1
      | tup gs' => unfold gC at h1; split at h1 <;> first | rfl | cases h1
    rw [key]
    exact ⟨by simp [i1], by simp [List.findIdx?_cons, i2]⟩
theorem pg_or {e : Expr} {t t' : TG} (h : PG X e t) (h' : PG X e t') : PG X e (fun v σ H Q => t v σ H Q ∨ t' v σ H Q) := ⟨fun pins s σ H v u Q I r q => q.elim (fun w => h.run pins s σ H v u Q I r w) (fun w => h'.run pins s σ H v u Q I r w)⟩
mutual
theorem pg_of (L : LX X c) (kK : k.K = X.K) : ∀ (g : G) (e : Expr), gC c g e = true → PG X e (rG k g)
  | .nm i, e, h => by
    unfold gC at h
    split at h
    · rename_i x p
      obtain ⟨h1, h2, h3⟩ := loc_of L h
      refine PGi (pg_name (by rw [L.N]; exact L.nd) h1 h2 h3) fun v σ H Q q => ?_
      obtain ⟨r, st, env, d, env1, hR, hE, p, hg, hq⟩ := q
      have hg : (if i < env.length then some (env.set i (some d)) else none) = some env1 := hg
      split at hg
      · cases hg
        exact hq _ (hE.set p i) fun j hj => List.getElem?_set_ne fun z => hj (by rw [← z]; exact List.mem_cons_self)
      · cases hg
    · cases h
  | .tup gs, e, h => by
    unfold gC at h
    split at h
    · rename_i es kk p
      obtain ⟨h1, h2⟩ := eachC L gs es h
      refine PGi (pg_or (pg_tup (L.calm) (pgs_of L kK gs es h) h1 h2) (pg_unl (L.calm) (pgs_of L kK gs es h) h1 h2)) fun v σ H Q q => ?_
      obtain ⟨r, st, env, d, env1, hR, hE, p, hg, hq⟩ := q
      have len : ∀ (gs : List G) (ds : List D) (env env1 : Env), gsets gs ds env = some env1 → ds.length = gs.length := by
        intro gs
        induction gs with
        | nil => intro ds env env1 z; cases ds with
          | nil => rfl
          | cons d ds => cases z
        | cons g gs ih => intro ds env env1 z; cases ds with
          | nil => cases z
          | cons d ds =>
            have z : (gset g d env).bind (gsets gs ds) = some env1 := z
            obtain ⟨e2, _, z2⟩ := Option.bind_eq_some_iff.mp z
            exact congrArg (· + 1) (ih _ _ _ z2)
      cases p with
      | tup hs ps =>
        have hg : gsets gs _ env = some env1 := hg
        refine .inl ⟨_, _, rfl, by rw [← kK]; exact hs, ?_, r, st, env, _, env1, hR, hE, ps, hg, hq⟩
        rw [ps.len]
        exact len _ _ _ _ hg
      | fl hs hn ps =>
        have hg : gsets gs _ env = some env1 := hg
        refine .inr ⟨_, _, rfl, .inl hs, ?_, r, st, env, _, env1, hR, hE, ps, hg, hq⟩
        rw [ps.len]
        exact len _ _ _ _ hg
      | non => cases hg
      | bl => cases hg
      | int => cases hg
      | str => cases hg
      | ref => cases hg
      | dct => cases hg
      | obj => cases hg
    · cases h
theorem pgs_of (L : LX X c) (kK : k.K = X.K) : ∀ (gs : List G) (es : List Expr), gsC c gs es = true → PGs X es (rGs k gs)
  | [], es, h => by
    unfold gsC at h
    cases es with
    | nil =>
      refine PGsi pgs_nil fun vs σ H Q q => ?_
      obtain ⟨r, st, env, ds, env1, hR, hE, p, hg, hq⟩ := q
      cases ds with
      | nil =>
        cases p
        cases hg
        exact ⟨rfl, hq _ hE fun _ _ => rfl⟩
      | cons d ds => cases hg
    | cons e es => cases h
  | g :: gs, [], h => by unfold gsC at h; cases h
  | g :: gs, e :: es, h => by
    unfold gsC at h
    simp only [Bool.and_eq_true] at h
    have h1 := h.1
    have key : (assignEach (e :: es) X.env).map (·.2) = assign e X.env :: (assignEach es X.env).map (·.2) := by
      cases g with
      | nm i => unfold gC at h1; split at h1 <;> first | rfl | cases h1
      | tup gs' => unfold gC at h1; split at h1 <;> first | rfl | cases h1
    refine PGsi (pgs_cons (pg_of L kK g e h.1) (pgs_of L kK gs es h.2) key) fun vs σ H Q q => ?_
    obtain ⟨r, st, env, ds, env1, hR, hE, p, hg, hq⟩ := q
    cases ds with
    | nil => cases hg
    | cons d ds =>
      cases p with
      | cons pv ps =>
        have hg : (gset g d env).bind (gsets gs ds) = some env1 := hg
        obtain ⟨e2, g1, g2⟩ := Option.bind_eq_some_iff.mp hg
        refine ⟨_, _, rfl, r, st, env, d, e2, hR, hE, pv, g1, fun σ' hE' hs => ⟨r, st, e2, ds, env1, hR, hE', ps, g2, fun σ2 hE2 hs2 => hq _ hE2 fun i hi => ?_⟩⟩
        have hi : i ∉ gix g ++ gixs gs := hi
        rw [hs2 i fun z => hi (List.mem_append_right _ z), hs i fun z => hi (List.mem_append_left _ z)]
end
end

/-! ### what an iterator gives -/
structure ItOk (k : Kx) (J : It) (p : List D × Wt) (r : Rg) (H : Hp) : Prop where
  go : ∀ r' st' H' i d, Fut r H r' H' → RelH k.K r' st' H' → okW st' p.2 = true → p.1[i]? = some d → J.go i H'
  yld : ∀ r' st' H' i d x H'', Fut r H r' H' → RelH k.K r' st' H' → okW st' p.2 = true → p.1[i]? = some d → J.yld i H' x H'' → Ext r' H' r' H'' ∧ RelH k.K r' st' H'' ∧ Rep k.K r' H'' x d
  stop : ∀ r' st' H', Fut r H r' H' → RelH k.K r' st' H' → okW st' p.2 = true → J.stop p.1.length H'
abbrev RI (k : Kx) : Rg → Hp → It → List D × Wt → Prop := fun r H J p => ItOk k J p r H
/-! ### for -/
section
variable {X : L2.Cx} {k : Kx} {W : WX}
theorem drop_get {α : Type} {l : List α} {i : Nat} (h : i < l.length) : ∃ d, l[i]? = some d ∧ l.drop i = d :: l.drop (i + 1) := ⟨l[i], List.getElem?_eq_getElem h, List.drop_eq_getElem_cons h⟩
theorem CS.nx {D : Ends} {r : Rg} {H : Hp} {env : Env} {st : Sto} {σ : L2.St} (h : CS k W r H (.nxt env st) D) (hR : RelH k.K r st H) (hE : RelE k.K r H env σ) : D.nx σ H := h r H σ Ext.refl hR hE
theorem for_read {src : Env → Sto → Out (List D × Wt)} {g : G} {body : Env → Sto → SOut} (D : Ends) (σ : L2.St) (H : Hp) (h : crS k W (fun env st => (src env st).thn env fun p s1 => forL p.2 g body p.1 env s1) D σ H) : tFor (cr (RI k) k W src) (rG k g) (crS k W body) D σ H := by
  obtain ⟨r, env, st, hR, hE, hc⟩ := h
  refine cs_seq hR hE hc fun p s1 r1 H1 J x hR1 hE1 hJ hc1 => ?_
  refine ⟨fun i m σ' H' => m = p.1.length - i ∧ i ≤ p.1.length ∧ ∃ r' env' st', Ext r1 H1 r' H' ∧ RelH k.K r' st' H' ∧ RelE k.K r' H' env' σ' ∧ CS k W r' H' (forL p.2 g body (p.1.drop i) env' st') D, ⟨p.1.length, by simp, Nat.zero_le _, r1, env, s1, Ext.refl, hR1, hE1, by simpa using hc1⟩, ?_⟩
  rintro i m σ' H' ⟨rfl, hi, r', env', st', x', hR', hE', hc'⟩
  by_cases hl : i < p.1.length
  · obtain ⟨d, e1, e2⟩ := drop_get hl
    rw [e2] at hc'
    have hc' : CS k W r' H' (if okW st' p.2 then (match gset g d env' with
      | none => .bad
      | some env1 => match body env1 st' with
        | .nxt e s => forL p.2 g body (p.1.drop (i + 1)) e s
        | .cnt e s => forL p.2 g body (p.1.drop (i + 1)) e s
        | .brk e s => .nxt e s
        | .ret d s => .ret d s
        | .exc x e s => .exc x e s
        | .bad => .bad) else .bad) D := hc'
    split at hc'
    · rename_i hw
      refine .inr ⟨hJ.go _ _ _ _ _ x'.fut hR' hw e1, fun σ2 H2 => p.1.length - (i + 1) = p.1.length - (i + 1) ∧ i + 1 ≤ p.1.length ∧ ∃ r2 env2 st2, Ext r1 H1 r2 H2 ∧ RelH k.K r2 st2 H2 ∧ RelE k.K r2 H2 env2 σ2 ∧ CS k W r2 H2 (forL p.2 g body (p.1.drop (i + 1)) env2 st2) D,
        fun σ2 H2 n2 => ⟨p.1.length - (i + 1), by omega, n2⟩, fun v H2 y => ?_⟩
      obtain ⟨y1, y2, y3⟩ := hJ.yld _ _ _ _ _ _ _ x'.fut hR' hw e1 y
      cases eg : gset g d env' with
      | none => rw [eg] at hc'; exact hc'.elim
      | some env1 =>
        rw [eg] at hc'
        refine ⟨r', st', env', d, env1, y2, hE'.ext y1 hR', y3, eg, fun σ2 hE2 _ => ⟨r', env1, st', y2, hE2, ?_⟩⟩
        have hc2 := CS.mono hc' y1
        have x2 := x'.trans y1
        dsimp only at hc2
        revert hc2
        cases body env1 st' with
        | nxt e s => exact fun hc2 r3 H3 σ3 x3 a b => ⟨rfl, hl, r3, e, s, x2.trans x3, a, b, CS.mono hc2 x3⟩
        | cnt e s => exact fun hc2 r3 H3 σ3 x3 a b => ⟨rfl, hl, r3, e, s, x2.trans x3, a, b, CS.mono hc2 x3⟩
        | brk e s => exact fun hc2 => hc2
        | ret d s => exact fun hc2 => hc2
        | exc x e s => exact fun hc2 => hc2
        | bad => exact fun hc2 => hc2.elim
    · exact hc'.elim
  · have e : i = p.1.length := by omega
    subst e
    rw [List.drop_length] at hc'
    have hc' : CS k W r' H' (if okW st' p.2 then .nxt env' st' else .bad) D := hc'
    split at hc'
    · rename_i hw
      exact .inl ⟨hJ.stop _ _ _ x'.fut hR' hw, CS.nx hc' hR' hE'⟩
    · exact hc'.elim
/-! ### while -/
theorem while_read {c : Env → Sto → Out Bool} {body : Env → Sto → SOut} {n : Nat} (D : Ends) (σ : L2.St) (H : Hp) (h : crS k W (fun env st => whileN c body n env st) D σ H) : tWhile (cr RB k W c) (crS k W body) D σ H := by
  obtain ⟨r, env, st, hR, hE, hc⟩ := h
  refine ⟨fun m σ H => ∃ r env st, RelH k.K r st H ∧ RelE k.K r H env σ ∧ CS k W r H (whileN c body m env st) D, ⟨n, r, env, st, hR, hE, hc⟩, ?_⟩
  rintro m σ H ⟨r, env, st, hR, hE, hc⟩
  cases m with
  | zero => exact hc.elim
  | succ m =>
    have hc : CS k W r H ((c env st).thn env fun b st1 => match b with
      | false => .nxt env st1
      | true => match body env st1 with
        | .nxt e s => whileN c body m e s
        | .cnt e s => whileN c body m e s
        | .brk e s => .nxt e s
        | .ret d s => .ret d s
        | .exc x e s => .exc x e s
        | .bad => .bad) D := hc
    refine cs_seq (R := RB) hR hE hc fun d s1 r1 H1 v x hR1 hE1 e hc1 => ?_
    subst e
    cases v with
    | false =>
      rw [if_neg Bool.false_ne_true]
      exact CS.nx hc1 hR1 hE1
    | true =>
      rw [if_pos rfl]
      refine ⟨fun σ2 H2 => ∃ r env st, RelH k.K r st H2 ∧ RelE k.K r H2 env σ2 ∧ CS k W r H2 (whileN c body m env st) D, fun σ2 H2 n2 => ⟨m, Nat.lt_succ_self _, n2⟩, r1, env, s1, hR1, hE1, ?_⟩
      dsimp only at hc1
      revert hc1
      cases body env s1 with
      | nxt e s => exact fun hc2 r3 H3 σ3 x3 a b => ⟨r3, e, s, a, b, CS.mono hc2 x3⟩
      | cnt e s => exact fun hc2 r3 H3 σ3 x3 a b => ⟨r3, e, s, a, b, CS.mono hc2 x3⟩
      | brk e s => exact fun hc2 => hc2
      | ret d s => exact fun hc2 => hc2
      | exc x e s => exact fun hc2 => hc2
      | bad => exact fun hc2 => hc2.elim
end
end Mi
end
section
/-! MiJ: the readings of comprehensions. -/
namespace Mi
open PySem PySem.Spec PyProof.Rows L2

theorem wipe_has {d : D} {i : Nat} : ∀ {vs : List Nat} {env : Env}, (Mi.wipe env vs)[i]? = some (some d) → env[i]? = some (some d) ∧ i ∉ vs
  | [], env, h => ⟨h, by simp⟩
  | v :: vs, env, h => by
    have h : (Mi.wipe (env.set v none) vs)[i]? = some (some d) := h
    obtain ⟨h1, h2⟩ := wipe_has h
    by_cases hv : v = i
    · subst hv
      by_cases hl : v < env.length
      · rw [List.getElem?_set_self hl] at h1; cases h1
      · rw [List.getElem?_eq_none (by simpa using hl)] at h1; cases h1
    · rw [List.getElem?_set_ne hv] at h1
      exact ⟨h1, by simp only [List.mem_cons, not_or]; exact ⟨fun e => hv e.symm, h2⟩⟩
theorem wipe_len : ∀ {vs : List Nat} {env : Env}, (Mi.wipe env vs).length = env.length
  | [], env => rfl
  | v :: vs, env => by
    show (Mi.wipe (env.set v none) vs).length = env.length
    rw [wipe_len, List.length_set]
theorem RelE.wipe {K : PySem.W.Frag} {r : Rg} {H : Hp} {env : Env} {σ : L2.St} (h : RelE K r H env σ) (vs : List Nat) : RelE K r H (Mi.wipe env vs) (L2.wipe σ vs) := by
  refine ⟨by rw [wipe_len, wipe_length, h.len], fun i d q => ?_⟩
  obtain ⟨q1, q2⟩ := wipe_has q
  obtain ⟨v, a, b⟩ := h.has i d q1
  exact ⟨v, by rw [wipe_out q2]; exact a, b⟩
theorem wipe_in {σ : L2.St} {i : Nat} : ∀ {vs : List Nat}, i ∈ vs → (L2.wipe σ vs)[i]? = if i < σ.length then some none else none
  | v :: vs, h => by
    show ((L2.wipe σ vs).set v none)[i]? = _
    by_cases hv : v = i
    · subst hv
      by_cases hl : v < σ.length
      · rw [List.getElem?_set_self (by rw [wipe_length]; exact hl), if_pos hl]
      · rw [List.getElem?_eq_none (by rw [List.length_set, wipe_length]; omega), if_neg hl]
    · rw [List.getElem?_set_ne hv]
      rcases List.mem_cons.mp h with e | h
      · exact absurd e.symm hv
      · exact wipe_in h
theorem wipe_back {σ σ2 : L2.St} {vs : List Nat} (hl : σ2.length = σ.length) (h : ∀ i, i ∉ vs → σ2[i]? = (L2.wipe σ vs)[i]?) : L2.wipe σ2 vs = L2.wipe σ vs := by
  apply List.ext_getElem?
  intro i
  by_cases hi : i ∈ vs
  · rw [wipe_in hi, wipe_in hi, hl]
  · rw [wipe_out hi, h i hi]
mutual
theorem gset_len : ∀ (g : G) {d : D} {env env1 : Env}, gset g d env = some env1 → env1.length = env.length
  | .nm i, d, env, env1, h => by
    have h : (if i < env.length then some (env.set i (some d)) else none) = some env1 := h
    split at h
    · cases h; simp
    · cases h
  | .tup gs, d, env, env1, h => by
    cases d with
    | tup ds => exact gsets_len gs (show gsets gs ds env = some env1 from h)
    | fl ds => exact gsets_len gs (show gsets gs ds env = some env1 from h)
    | non => cases h
    | bl => cases h
    | int => cases h
    | str => cases h
    | ref => cases h
    | dct => cases h
    | obj => cases h
theorem gsets_len : ∀ (gs : List G) {ds : List D} {env env1 : Env}, gsets gs ds env = some env1 → env1.length = env.length
  | [], ds, env, env1, h => by
    cases ds with
    | nil => cases h; rfl
    | cons d ds => cases h
  | g :: gs, ds, env, env1, h => by
    cases ds with
    | nil => cases h
    | cons d ds =>
      have h : (gset g d env).bind (gsets gs ds) = some env1 := h
      obtain ⟨e2, g1, g2⟩ := Option.bind_eq_some_iff.mp h
      rw [gsets_len gs g2, gset_len g g1]
end

section
variable {k : Kx} {W W' : WX}
theorem nox_seq {α β γ δ : Type} {R : Rg → Hp → β → α → Prop} {R2 : Rg → Hp → δ → γ → Prop} {σ : L2.St} {r : Rg} {H : Hp} {st : Sto} {env : Env} {f : Env → Sto → Out α} {g : α → Sto → Out γ} {Q : δ → Hp → Prop} {P : β → Hp → Prop} (hR : RelH k.K r st H) (hE : RelE k.K r H env σ)
    (hc : CP R2 k W σ r H (nox ((f env st).bind g)) Q)
    (next : ∀ d s1 r1 H1 v, Ext r H r1 H1 → RelH k.K r1 s1 H1 → RelE k.K r1 H1 env σ → R r1 H1 v d → CP R2 k W σ r1 H1 (nox (g d s1)) Q → P v H1) : cr R k W' f σ H P := by
  refine ⟨r, env, st, hR, hE, ?_⟩
  cases e : f env st with
  | ok d s1 =>
    rw [e] at hc
    exact fun r1 H1 v x a b => next d s1 r1 H1 v x a (hE.ext x hR) b (CP.mono hc x)
  | exc x s1 => rw [e] at hc; exact hc.elim
  | bad => rw [e] at hc; exact hc.elim

/-- the items so far, those that come: what is asked at the end -/
def finL (k : Kx) (a : Addr) (r0 : Rg) (H0 : Hp) (Q : Hp → Prop) (acc : List D) (o : Out (List D)) : Prop := match o with
  | .ok ys st => (acc ++ ys).length ≤ lineN ∧ ∀ r H vs, Ext r0 H0 r.show_ H → r.p = a :: r0.p → RelH k.K r st H → H a = some (.lst vs) → Reps k.K r H vs (acc ++ ys) → Q H
  | _ => False
/-- the state of a comprehension that runs: the list at a is hidden -/
structure LcS (k : Kx) (a : Addr) (r0 : Rg) (H0 : Hp) (env : Env) (σ : L2.St) (acc : List D) (r : Rg) (st : Sto) (H : Hp) : Prop where
  p : r.p = a :: r0.p
  R : RelH k.K r st H
  E : RelE k.K r H env σ
  x : Ext r0 H0 r.show_ H
  f : Fut r0 H0 r H
  it : ∃ vs, H a = some (.lst vs) ∧ Reps k.K r H vs acc
variable {a : Addr} {r0 : Rg} {H0 : Hp} {env : Env} {σ : L2.St} {acc : List D} {r r' : Rg} {st st' : Sto} {H H' : Hp}
theorem LcS.mem (S : LcS k a r0 H0 env σ acc r st H) : a ∈ r.p := by rw [S.p]; exact List.mem_cons_self
theorem LcS.ext (S : LcS k a r0 H0 env σ acc r st H) (e : Ext r H r' H') (hR : RelH k.K r' st' H') : LcS k a r0 H0 env σ acc r' st' H' := by
  obtain ⟨vs, h1, h2⟩ := S.it
  exact ⟨by rw [e.p, S.p], hR, S.E.ext e S.R, S.x.trans e.show_, S.f.trans e.fut, vs, e.same _ _ h1 (S.R.hid a S.mem).1, h2.ext e S.R⟩
theorem LcS.start (R : RelH k.K r0 st H0) (E : RelE k.K r0 H0 env σ) (h : H0 a = none) : LcS k a r0 H0 env σ [] (r0.hide a) st (upd H0 a (.lst [])) :=
  ⟨rfl, R.hide h, E.keep (Fut.hide h) R, (Ext.wrH Ext.refl h : Ext r0 H0 r0 (upd H0 a (.lst []))), Fut.hide h, [], upd_same, .nil⟩
theorem LcS.app {v : V} {d : D} (S : LcS k a r0 H0 env σ acc r st H) (ha : H0 a = none) (p : Rep k.K r H v d) : ∃ vs, H a = some (.lst vs) ∧ vs.length = acc.length ∧ LcS k a r0 H0 env σ (acc ++ [d]) r st (upd H a (.lst (vs ++ [v]))) := by
  obtain ⟨vs, h1, h2⟩ := S.it
  have f : Fut r H r (upd H a (.lst (vs ++ [v]))) := Fut.wr S.mem (S.R.hid a S.mem).1
  exact ⟨vs, h1, h2.len, S.p, S.R.wrH S.mem, S.E.keep f S.R, S.x.wrH ha, S.f.trans f, _, upd_same, (h2.append (.cons p .nil)).keep f S.R⟩
theorem finL.app {o : Out (List D)} {y : D} {Q : Hp → Prop} (h : finL k a r0 H0 Q acc (o.bind fun ys st => .ok (y :: ys) st)) : finL k a r0 H0 Q (acc ++ [y]) o ∧ acc.length < lineN := by
  cases o with
  | ok ys st =>
    have h : (acc ++ y :: ys).length ≤ lineN ∧ _ := h
    refine ⟨?_, by have := h.1; simp at this; omega⟩
    show (acc ++ [y] ++ ys).length ≤ lineN ∧ _
    rw [List.append_assoc]
    exact h
  | exc x st => exact h.elim
  | bad => exact h.elim
/-- the end -/
theorem lc_end {fz : Bool} {o : Out (List D)} {Q : VK} {σ0 : L2.St} (R : RelH k.K r0 st H0) (ha : H0 a = none) (hc : CP (RV k) k W σ0 r0 H0 (nox (o.bind fun ys s2 => mkL fz ys s2)) Q) : finL k a r0 H0 (Q (.ref a)) [] o := by
  cases o with
  | ok ys s2 =>
    have hc : CP (RV k) k W σ0 r0 H0 (nox (if ys.length ≤ lineN then (if fz then .ok (.fl ys) s2 else .ok (.ref s2.length) (s2 ++ [ys])) else .bad)) Q := hc
    split at hc
    · rename_i hl
      refine ⟨hl, fun r H vs x hp hR h1 h2 => ?_⟩
      have hn : a ∉ r0.p := fun z => R.fresh ha (.inr z)
      have hm : a ∈ r.p := by rw [hp]; exact List.mem_cons_self
      cases fz with
      | true =>
        refine hc r.show_ H _ x hR.show_ (.fl (.inl h1) (fun z => ?_) (h2.keep Fut.show_ hR))
        rcases z with z | z
        · exact (hR.hid a hm).1 z
        · have z : a ∈ r.p.tail := z
          rw [hp] at z
          exact hn z
      | false =>
        exact hc (r.show_.add a) H _ (x.adopt ha) (hR.adopt hp hn h1 h2) (.ref (Rg.last hR.show_) ⟨_, h1⟩)
    · exact hc.elim
  | exc x s2 => exact hc.elim
  | bad => exact hc.elim
theorem lineN_eq : lineN = sizeLine := by rw [sizeLine_eq]
/-- [e for g in s if t] -/
theorem lc_read {src : Env → Sto → Out (List D × Wt)} {g : G} {t : Env → Sto → Out Bool} {e : Env → Sto → Out D} {own : List Nat} {fz : Bool} (hg : ∀ i ∈ gix g, i ∈ own) (σ : L2.St) (H : Hp) (Q : VK)
    (h : cr (RV k) k W (fun env st => nox ((src env st).bind fun p s1 => if p.1.length ≤ lineN then (lcL p.2 g t e (Mi.wipe env own) p.1 s1).bind fun ys s2 => mkL fz ys s2 else .bad)) σ H Q) :
    tLc (cr (RI k) k W src) (rG k g) (cr RB k W' t) (cr (RV k) k W' e) own σ H Q := by
  obtain ⟨r, env, st, hR, hE, hc⟩ := h
  refine nox_seq hR hE hc fun p s1 r1 H1 J x hR1 hE1 hJ hc1 A hA => ?_
  have hf : finL k A r1 H1 (Q (.ref A)) [] (lcL p.2 g t e (Mi.wipe env own) p.1 s1) := by
    split at hc1
    · exact lc_end hR1 hA hc1
    · exact hc1.elim
  refine ⟨fun i m H' => m = p.1.length - i ∧ i ≤ p.1.length ∧ ∃ acc r' st', LcS k A r1 H1 (Mi.wipe env own) (L2.wipe σ own) acc r' st' H' ∧ finL k A r1 H1 (Q (.ref A)) acc (lcL p.2 g t e (Mi.wipe env own) (p.1.drop i) st'),
    ⟨p.1.length, by simp, Nat.zero_le _, [], _, s1, LcS.start hR1 (hE1.wipe own) hA, by simpa using hf⟩, ?_⟩
  rintro i m H' ⟨rfl, hi, acc, r', st', S, hc'⟩
  by_cases hl : i < p.1.length
  · obtain ⟨d, e1, e2⟩ := drop_get hl
    rw [e2] at hc'
    have hc' : finL k A r1 H1 (Q (.ref A)) acc (if okW st' p.2 then (match gset g d (Mi.wipe env own) with
      | none => .bad
      | some env1 => (t env1 st').bind fun b st1 => match b with
        | false => lcL p.2 g t e (Mi.wipe env own) (p.1.drop (i + 1)) st1
        | true => (e env1 st1).bind fun y st2 => (lcL p.2 g t e (Mi.wipe env own) (p.1.drop (i + 1)) st2).bind fun ys st3 => .ok (y :: ys) st3) else .bad) := hc'
    split at hc'
    · rename_i hw
      refine .inr ⟨hJ.go _ _ _ _ _ S.f S.R hw e1, fun H2 => p.1.length - (i + 1) = p.1.length - (i + 1) ∧ i + 1 ≤ p.1.length ∧ ∃ acc r' st', LcS k A r1 H1 (Mi.wipe env own) (L2.wipe σ own) acc r' st' H2 ∧ finL k A r1 H1 (Q (.ref A)) acc (lcL p.2 g t e (Mi.wipe env own) (p.1.drop (i + 1)) st'),
        fun H2 n2 => ⟨p.1.length - (i + 1), by omega, n2⟩, fun v H2 y => ?_⟩
      obtain ⟨y1, y2, y3⟩ := hJ.yld _ _ _ _ _ _ _ S.f S.R hw e1 y
      cases eg : gset g d (Mi.wipe env own) with
      | none => rw [eg] at hc'; exact hc'.elim
      | some env1 =>
        rw [eg] at hc'
        have S2 := S.ext y1 y2
        refine ⟨r', st', Mi.wipe env own, d, env1, y2, S2.E, y3, eg, fun σ2 hE2 hs2 => ⟨?_, ?_⟩⟩
        · refine wipe_back ?_ fun j hj => hs2 j fun z => hj (hg j z)
          rw [← hE2.len, gset_len g eg, wipe_len, hE1.len]
        dsimp only at hc'
        refine ⟨r', env1, st', y2, hE2, ?_⟩
        cases et : t env1 st' with
        | exc x s => rw [et] at hc'; exact hc'.elim
        | bad => rw [et] at hc'; exact hc'.elim
        | ok b st1 =>
          rw [et] at hc'
          intro r3 H3 b' x3 R3 eb
          have eb : b' = b := eb
          subst eb
          have S3 := S2.ext x3 R3
          have E3 := hE2.ext x3 y2
          cases b' with
          | false =>
            rw [if_neg Bool.false_ne_true]
            exact ⟨rfl, hl, acc, r3, st1, S3, hc'⟩
          | true =>
            rw [if_pos rfl]
            have hc' : finL k A r1 H1 (Q (.ref A)) acc ((e env1 st1).bind fun y st2 => (lcL p.2 g t e (Mi.wipe env own) (p.1.drop (i + 1)) st2).bind fun ys st3 => .ok (y :: ys) st3) := hc'
            refine ⟨r3, env1, st1, R3, E3, ?_⟩
            cases ee : e env1 st1 with
            | exc x s => rw [ee] at hc'; exact hc'.elim
            | bad => rw [ee] at hc'; exact hc'.elim
            | ok y st2 =>
              rw [ee] at hc'
              intro r4 H4 v4 x4 R4 p4
              have S4 := S3.ext x4 R4
              obtain ⟨vs, h1, h2, S5⟩ := S4.app hA p4
              obtain ⟨f1, f2⟩ := finL.app hc'
              exact ⟨vs, h1, by rw [h2, ← lineN_eq]; exact f2, rfl, hl, acc ++ [y], r4, st2, S5, f1⟩
    · exact hc'.elim
  · have e : i = p.1.length := by omega
    subst e
    rw [List.drop_length] at hc'
    have hc' : finL k A r1 H1 (Q (.ref A)) acc (if okW st' p.2 then .ok [] st' else .bad) := hc'
    split at hc'
    · rename_i hw
      obtain ⟨vs, h1, h2⟩ := S.it
      exact .inl ⟨hJ.stop _ _ _ S.f S.R hw, hc'.2 r' H' vs S.x S.p S.R h1 (by simpa using h2)⟩
    · exact hc'.elim

/-- two clauses -/
theorem finL.app2 {o : Out (List D)} {zs : List D} {Q : Hp → Prop} (h : finL k a r0 H0 Q acc (o.bind fun ys st => .ok (zs ++ ys) st)) : finL k a r0 H0 Q (acc ++ zs) o := by
  cases o with
  | ok ys st =>
    show (acc ++ zs ++ ys).length ≤ lineN ∧ _
    rw [List.append_assoc]
    exact h
  | exc x st => exact h.elim
  | bad => exact h.elim
/-- what is asked behind the second clause's items zs -/
def finI (k : Kx) (a : Addr) (r0 : Rg) (H0 : Hp) (Q : Hp → Prop) (acc : List D) (nxt : Sto → Out (List D)) (o : Out (List D)) : Prop := finL k a r0 H0 Q acc (o.bind fun y st2 => (nxt st2).bind fun ys st3 => .ok (y ++ ys) st3)
theorem finI.app {nxt : Sto → Out (List D)} {o : Out (List D)} {y : D} {Q : Hp → Prop} (h : finI k a r0 H0 Q acc nxt (o.bind fun ys st => .ok (y :: ys) st)) : finI k a r0 H0 Q (acc ++ [y]) nxt o ∧ acc.length < lineN := by
  unfold finI at h ⊢
  cases o with
  | ok zs s =>
    have h : finL k a r0 H0 Q acc ((nxt s).bind fun ys st3 => .ok (y :: zs ++ ys) st3) := h
    show finL k a r0 H0 Q (acc ++ [y]) ((nxt s).bind fun ys st3 => .ok (zs ++ ys) st3) ∧ _
    cases e : nxt s with
    | ok ys s3 =>
      rw [e] at h
      have h : (acc ++ (y :: zs ++ ys)).length ≤ lineN ∧ _ := h
      refine ⟨?_, by have := h.1; simp at this; omega⟩
      show (acc ++ [y] ++ (zs ++ ys)).length ≤ lineN ∧ _
      rw [List.append_assoc]
      exact h
    | exc x s3 => rw [e] at h; exact h.elim
    | bad => rw [e] at h; exact h.elim
  | exc x s => exact h.elim
  | bad => exact h.elim
theorem lc2_read {src : Env → Sto → Out (List D × Wt)} {g : G} {t : Env → Sto → Out Bool} {src2 : Env → Sto → Out (List D × Wt)} {g2 : G} {t2 : Env → Sto → Out Bool} {e : Env → Sto → Out D} {own own2 : List Nat} {fz : Bool} (hg : ∀ i ∈ gix g, i ∈ own) (hg2 : ∀ i ∈ gix g2, i ∈ own2) (σ : L2.St) (H : Hp) (Q : VK)
    (h : cr (RV k) k W (fun env st => nox ((src env st).bind fun p s1 => if p.1.length ≤ lineN then
      (lcL2 p.2 g t (fun env1 st1 => (src2 env1 st1).bind fun q st2 => if q.1.length ≤ lineN then lcL q.2 g2 t2 e (Mi.wipe env1 own2) q.1 st2 else .bad) (Mi.wipe env own) p.1 s1).bind fun ys s2 => mkL fz ys s2 else .bad)) σ H Q) :
    tLc2 (cr (RI k) k W src) (rG k g) (cr RB k W' t) (cr (RI k) k W' src2) (rG k g2) (cr RB k W' t2) (cr (RV k) k W' e) own own2 σ H Q := by
  obtain ⟨r, env, st, hR, hE, hc⟩ := h
  refine nox_seq hR hE hc fun p s1 r1 H1 J x hR1 hE1 hJ hc1 A hA => ?_
  generalize hin : (fun env1 st1 => (src2 env1 st1).bind fun q st2 => if q.1.length ≤ lineN then lcL q.2 g2 t2 e (Mi.wipe env1 own2) q.1 st2 else .bad) = inner at hc1
  have hf : finL k A r1 H1 (Q (.ref A)) [] (lcL2 p.2 g t inner (Mi.wipe env own) p.1 s1) := by
    split at hc1
    · exact lc_end hR1 hA hc1
    · exact hc1.elim
  refine ⟨fun i m H' => m = p.1.length - i ∧ i ≤ p.1.length ∧ ∃ acc r' st', LcS k A r1 H1 (Mi.wipe env own) (L2.wipe σ own) acc r' st' H' ∧ finL k A r1 H1 (Q (.ref A)) acc (lcL2 p.2 g t inner (Mi.wipe env own) (p.1.drop i) st'),
    ⟨p.1.length, by simp, Nat.zero_le _, [], _, s1, LcS.start hR1 (hE1.wipe own) hA, by simpa using hf⟩, ?_⟩
  rintro i m H' ⟨rfl, hi, acc, r', st', S, hc'⟩
  by_cases hl : i < p.1.length
  · obtain ⟨d, e1, e2⟩ := drop_get hl
    rw [e2] at hc'
    have hc' : finL k A r1 H1 (Q (.ref A)) acc (if okW st' p.2 then (match gset g d (Mi.wipe env own) with
      | none => .bad
      | some env1 => (t env1 st').bind fun b st1 => match b with
        | false => lcL2 p.2 g t inner (Mi.wipe env own) (p.1.drop (i + 1)) st1
        | true => (inner env1 st1).bind fun y st2 => (lcL2 p.2 g t inner (Mi.wipe env own) (p.1.drop (i + 1)) st2).bind fun ys st3 => .ok (y ++ ys) st3) else .bad) := hc'
    split at hc'
    · rename_i hw
      refine .inr ⟨hJ.go _ _ _ _ _ S.f S.R hw e1, fun H2 => p.1.length - (i + 1) = p.1.length - (i + 1) ∧ i + 1 ≤ p.1.length ∧ ∃ acc r' st', LcS k A r1 H1 (Mi.wipe env own) (L2.wipe σ own) acc r' st' H2 ∧ finL k A r1 H1 (Q (.ref A)) acc (lcL2 p.2 g t inner (Mi.wipe env own) (p.1.drop (i + 1)) st'),
        fun H2 n2 => ⟨p.1.length - (i + 1), by omega, n2⟩, fun v H2 y => ?_⟩
      obtain ⟨y1, y2, y3⟩ := hJ.yld _ _ _ _ _ _ _ S.f S.R hw e1 y
      cases eg : gset g d (Mi.wipe env own) with
      | none => rw [eg] at hc'; exact hc'.elim
      | some env1 =>
        rw [eg] at hc'
        have S2 := S.ext y1 y2
        refine ⟨r', st', Mi.wipe env own, d, env1, y2, S2.E, y3, eg, fun σ2 hE2 hs2 => ⟨?_, ?_⟩⟩
        · refine wipe_back ?_ fun j hj => hs2 j fun z => hj (hg j z)
          rw [← hE2.len, gset_len g eg, wipe_len, hE1.len]
        dsimp only at hc'
        refine ⟨r', env1, st', y2, hE2, ?_⟩
        cases et : t env1 st' with
        | exc x s => rw [et] at hc'; exact hc'.elim
        | bad => rw [et] at hc'; exact hc'.elim
        | ok b st1 =>
          rw [et] at hc'
          intro r3 H3 b' x3 R3 eb
          have eb : b' = b := eb
          subst eb
          have S3 := S2.ext x3 R3
          have E3 := hE2.ext x3 y2
          cases b' with
          | false =>
            rw [if_neg Bool.false_ne_true]
            exact ⟨rfl, hl, acc, r3, st1, S3, hc'⟩
          | true =>
            rw [if_pos rfl]
            have hc' : finI k A r1 H1 (Q (.ref A)) acc (fun st2 => lcL2 p.2 g t inner (Mi.wipe env own) (p.1.drop (i + 1)) st2) (inner env1 st1) := hc'
            rw [← hin] at hc'
            dsimp only at hc'
            refine ⟨r3, env1, st1, R3, E3, ?_⟩
            cases es : src2 env1 st1 with
            | exc x s => rw [es] at hc'; exact hc'.elim
            | bad => rw [es] at hc'; exact hc'.elim
            | ok q st2 =>
              rw [es] at hc'
              intro r4 H4 J4 x4 R4 hJ4
              have S4 := S3.ext x4 R4
              have E4 := E3.ext x4 R3
              have hc4 : finI k A r1 H1 (Q (.ref A)) acc (fun st2 => lcL2 p.2 g t inner (Mi.wipe env own) (p.1.drop (i + 1)) st2) (lcL q.2 g2 t2 e (Mi.wipe env1 own2) q.1 st2) := by
                have hc' : finI k A r1 H1 (Q (.ref A)) acc _ (if q.1.length ≤ lineN then lcL q.2 g2 t2 e (Mi.wipe env1 own2) q.1 st2 else .bad) := hc'
                split at hc'
                · rw [hin] at hc'; exact hc'
                · exact hc'.elim
              clear hc'
              -- the second clause
              refine ⟨fun j m H' => m = q.1.length - j ∧ j ≤ q.1.length ∧ ∃ acc r' st', LcS k A r1 H1 (Mi.wipe env own) (L2.wipe σ own) acc r' st' H' ∧ RelE k.K r' H' (Mi.wipe env1 own2) (L2.wipe σ2 own2) ∧ Fut r4 H4 r' H' ∧ finI k A r1 H1 (Q (.ref A)) acc (fun st2 => lcL2 p.2 g t inner (Mi.wipe env own) (p.1.drop (i + 1)) st2) (lcL q.2 g2 t2 e (Mi.wipe env1 own2) (q.1.drop j) st'),
                ⟨q.1.length, by simp, Nat.zero_le _, acc, r4, st2, S4, E4.wipe own2, Ext.refl.fut, by simpa using hc4⟩, ?_⟩
              rintro j m5 H5 ⟨rfl, hj, acc5, r5, st5, S5, E5, F5, hc5⟩
              by_cases hjl : j < q.1.length
              · obtain ⟨d5, e5, e6⟩ := drop_get hjl
                rw [e6] at hc5
                have hc5 : finI k A r1 H1 (Q (.ref A)) acc5 (fun st2 => lcL2 p.2 g t inner (Mi.wipe env own) (p.1.drop (i + 1)) st2) (if okW st5 q.2 then (match gset g2 d5 (Mi.wipe env1 own2) with
                  | none => .bad
                  | some env2 => (t2 env2 st5).bind fun b st1 => match b with
                    | false => lcL q.2 g2 t2 e (Mi.wipe env1 own2) (q.1.drop (j + 1)) st1
                    | true => (e env2 st1).bind fun y st2 => (lcL q.2 g2 t2 e (Mi.wipe env1 own2) (q.1.drop (j + 1)) st2).bind fun ys st3 => .ok (y :: ys) st3) else .bad) := hc5
                split at hc5
                · rename_i hw5
                  refine .inr ⟨hJ4.go _ _ _ _ _ F5 S5.R hw5 e5, fun H2 => q.1.length - (j + 1) = q.1.length - (j + 1) ∧ j + 1 ≤ q.1.length ∧ ∃ acc r' st', LcS k A r1 H1 (Mi.wipe env own) (L2.wipe σ own) acc r' st' H2 ∧ RelE k.K r' H2 (Mi.wipe env1 own2) (L2.wipe σ2 own2) ∧ Fut r4 H4 r' H2 ∧ finI k A r1 H1 (Q (.ref A)) acc (fun st2 => lcL2 p.2 g t inner (Mi.wipe env own) (p.1.drop (i + 1)) st2) (lcL q.2 g2 t2 e (Mi.wipe env1 own2) (q.1.drop (j + 1)) st'),
                    fun H2 n2 => ⟨q.1.length - (j + 1), by omega, n2⟩, fun v6 H6 y6 => ?_⟩
                  obtain ⟨z1, z2, z3⟩ := hJ4.yld _ _ _ _ _ _ _ F5 S5.R hw5 e5 y6
                  cases eg2 : gset g2 d5 (Mi.wipe env1 own2) with
                  | none => rw [eg2] at hc5; exact hc5.elim
                  | some env2 =>
                    rw [eg2] at hc5
                    have S6 := S5.ext z1 z2
                    have E6 := E5.ext z1 S5.R
                    refine ⟨r5, st5, Mi.wipe env1 own2, d5, env2, z2, E6, z3, eg2, fun σ3 hE3 hs3 => ⟨?_, ?_⟩⟩
                    · refine wipe_back ?_ fun j hj => hs3 j fun z => hj (hg2 j z)
                      rw [← hE3.len, gset_len g2 eg2, wipe_len, hE2.len]
                    dsimp only at hc5
                    refine ⟨r5, env2, st5, z2, hE3, ?_⟩
                    cases et2 : t2 env2 st5 with
                    | exc x s => rw [et2] at hc5; exact hc5.elim
                    | bad => rw [et2] at hc5; exact hc5.elim
                    | ok b2 st6 =>
                      rw [et2] at hc5
                      intro r7 H7 b' x7 R7 eb
                      have eb : b' = b2 := eb
                      subst eb
                      have S7 := S6.ext x7 R7
                      have E7 := hE3.ext x7 z2
                      have E7w := E6.ext x7 z2
                      have F7 := (F5.trans z1.fut).trans x7.fut
                      cases b' with
                      | false =>
                        rw [if_neg Bool.false_ne_true]
                        exact ⟨rfl, hjl, acc5, r7, st6, S7, E7w, F7, hc5⟩
                      | true =>
                        rw [if_pos rfl]
                        have hc7 : finI k A r1 H1 (Q (.ref A)) acc5 (fun st2 => lcL2 p.2 g t inner (Mi.wipe env own) (p.1.drop (i + 1)) st2) ((e env2 st6).bind fun y st2 => (lcL q.2 g2 t2 e (Mi.wipe env1 own2) (q.1.drop (j + 1)) st2).bind fun ys st3 => .ok (y :: ys) st3) := hc5
                        refine ⟨r7, env2, st6, R7, E7, ?_⟩
                        cases ee : e env2 st6 with
                        | exc x s => rw [ee] at hc7; exact hc7.elim
                        | bad => rw [ee] at hc7; exact hc7.elim
                        | ok y st7 =>
                          rw [ee] at hc7
                          intro r8 H8 v8 x8 R8 p8
                          have S8 := S7.ext x8 R8
                          have E8w := E7w.ext x8 R7
                          have F8 := F7.trans x8.fut
                          obtain ⟨vs, h1, h2, S9⟩ := S8.app hA p8
                          obtain ⟨f1, f2⟩ := finI.app hc7
                          have fw : Fut r8 H8 r8 (upd H8 A (.lst (vs ++ [v8]))) := Fut.wr S8.mem (S8.R.hid A S8.mem).1
                          exact ⟨vs, h1, by rw [h2, ← lineN_eq]; exact f2, rfl, hjl, acc5 ++ [y], r8, st7, S9, E8w.keep fw R8, F8.trans fw, f1⟩
                · exact hc5.elim
              · have e : j = q.1.length := by omega
                subst e
                rw [List.drop_length] at hc5
                have hc5 : finI k A r1 H1 (Q (.ref A)) acc5 (fun st2 => lcL2 p.2 g t inner (Mi.wipe env own) (p.1.drop (i + 1)) st2) (if okW st5 q.2 then .ok [] st5 else .bad) := hc5
                split at hc5
                · rename_i hw5
                  refine .inl ⟨hJ4.stop _ _ _ F5 S5.R hw5, rfl, hl, acc5, r5, st5, S5, ?_⟩
                  have h6 := finL.app2 hc5
                  rw [List.append_nil] at h6
                  exact h6
                · exact hc5.elim
    · exact hc'.elim
  · have e : i = p.1.length := by omega
    subst e
    rw [List.drop_length] at hc'
    have hc' : finL k A r1 H1 (Q (.ref A)) acc (if okW st' p.2 then .ok [] st' else .bad) := hc'
    split at hc'
    · rename_i hw
      obtain ⟨vs, h1, h2⟩ := S.it
      exact .inl ⟨hJ.stop _ _ _ S.f S.R hw, hc'.2 r' H' vs S.x S.p S.R h1 (by simpa using h2)⟩
    · exact hc'.elim
end
end Mi
end
section
/-! MiK: what a for or a comprehension walks. -/
namespace Mi
open PySem PySem.Spec PyProof.Rows L2
open Sem (wp)

/-! ### enumerate of one argument -/
theorem meets_enum1 {v : Value} {o : Obj} {H : Heap → Prop} (B : Begins v o H) :
    Meets (Builtin.«enumerate.__new__» ⟨[.type "enumerate", v], []⟩) (fun _ R s => H s.heap ∧
      R (.ok (.ret (.ref (s.heap.push o).objs.size))) { s with heap := (s.heap.push o).push { cls := .type "enumerate", data := .fields #[.none, .bool false, .ref s.heap.objs.size, rawInt 0, .none, .none] } }) :=
  .of_wp fun prog w A R s h => by
    obtain ⟨hp, g, d, tk, os⟩ := s; obtain ⟨h1, h⟩ := h
    have hsub := sub_enumerate
    have go : ∀ {A' : Around} {E : Value → Shared → Prop} {Q : Value → Shared → Prop}, Q (.ref hp.objs.size) ⟨hp.push o, g, d, tk, os⟩ → wpAny (model prog w) A' (pyIter v) Q E ⟨hp, g, d, tk, os⟩ :=
      fun q => B.iter prog w _ _ ⟨hp, g, d, tk, os⟩ _ h1 q
    wp_walk using go
    refine wpAny_stack_any fun st => wpAny_pure ?_
    split
    · rename_i c _ _ _ _ _
      cases (c == Value.type "enumerate") <;> (wp_walk using go; exact ⟨_, rfl, h⟩)
    · wp_walk using go
      exact ⟨_, rfl, h⟩
theorem enum_begins1 {prog : Program} {w : World} {A : Around} {E : Value → Shared → Prop} {s : Shared} {v : Value} {o : Obj} {H : Heap → Prop} {Q : Value → Shared → Prop} (B : Begins v o H) (h1 : H s.heap)
    (h : ∀ h', IsEnum h' (s.heap.objs.size + 1) s.heap.objs.size 0 .none → h'.get? s.heap.objs.size = some o → h'.objs.size = s.heap.objs.size + 2 →
      (∀ b o, s.heap.get? b = some o → h'.get? b = some o) → Q (.ref (s.heap.objs.size + 1)) { s with heap := h' }) :
    wpAny (model prog w) A (call (.type "enumerate") [v]) Q E s := by
  refine callType_new F.called_enumerate (by decide) (F.typeCall_enumerate_1 _) (F.newCall_enumerate_1 _) (fun obj => F.args_object_init_2 obj _) F.entry_enumerate_new (meets_enum1 B) ⟨h1, ?_⟩
  have z1 : (s.heap.push o).objs.size = s.heap.objs.size + 1 := Heap.size_push ..
  show _ ∧ _
  rw [z1]
  have he : IsEnum ((s.heap.push o).push { cls := .type "enumerate", data := .fields #[.none, .bool false, .ref s.heap.objs.size, rawInt 0, .none, .none] }) (s.heap.objs.size + 1) s.heap.objs.size 0 .none := by
    have q := Heap.get?_push_size (s.heap.push o) (o := { cls := .type "enumerate", data := .fields #[.none, .bool false, .ref s.heap.objs.size, rawInt 0, .none, .none] }) rfl
    rw [z1] at q; exact q
  exact ⟨⟨_, he, rfl⟩, h _ he (Heap.get?_push_of_some _ (Heap.get?_push_size _ B.free)) (by rw [Heap.size_push, z1]) fun b o x => Heap.get?_push_of_some _ (Heap.get?_push_of_some _ x)⟩

/-! ### what a list or a tuple gives -/
section
variable {X : L2.Cx} {pins : List (Addr × Obj)} {σ σ0 : L2.St} {H H' : Hp} {s : Shared} {a : Addr} {k : Kx} {r r' : Rg} {st : Sto} {W : WX} {tg : Expr}
theorem Fut.sqt {K : PySem.W.Frag} (e : Fut r H r' H') (R : RelH K r st H) {xs : List V} (h : SqT K H a xs) : SqT K H' a xs := by
  rcases h with (h | ⟨o, h⟩) | h
  · exact .inl (.inl (e.same _ _ h (R.notin h)))
  · exact .inl (.inr ⟨o, e.same _ _ h (R.notfr h)⟩)
  · exact .inr h
theorem Fut.rd (e : Fut r H r' H') {u : HO} (h : Rd H a u) (n : a ∉ r) : Rd H' a u := by
  rcases h with h | ⟨o, h⟩
  · exact .inl (e.same _ _ h n)
  · exact .inr ⟨o, e.same _ _ h n⟩
def SqOk (k : Kx) (b : Bool) (a : Addr) (p : List D × Wt) (r : Rg) (H : Hp) : Prop := ∀ r' st' H', Fut r H r' H' → RelH k.K r' st' H' → okW st' p.2 = true → ∃ vs, SqB b k.K H' a vs ∧ Reps k.K r' H' vs p.1
theorem okW_one {st : Sto} {n : Nat} {xs : List D} (h : okW st [(n, xs)] = true) : st[n]? = some xs := by
  unfold okW at h
  simp only [List.all_cons, List.all_nil, Bool.and_true] at h
  split at h
  · rename_i ys e
    rw [e, D.beqs_eq _ _ h]
  · cases h
theorem sq_src {v : V} {d : D} {p : List D × Wt} (hR : RelH k.K r st H) (q : Rep k.K r H v d) (e : srcL d st = some p) : ∃ b a, v = .ref a ∧ (∃ vs, SqB b k.K H a vs) ∧ SqOk k b a p r H := by
  cases q with
  | @tup a vs ds h ps =>
    have e : some (ds, []) = some p := e
    cases e
    exact ⟨true, _, rfl, ⟨_, h⟩, fun r' st' H' f R' _ => ⟨_, f.sqt hR h, ps.keep f hR⟩⟩
  | @fl a vs ds h n ps =>
    have e : some (ds, []) = some p := e
    cases e
    exact ⟨false, _, rfl, ⟨_, .inl h⟩, fun r' st' H' f R' _ => ⟨_, .inl (f.rd h n), ps.keep f hR⟩⟩
  | @ref a n h hk =>
    have e : (st[n]?).map (fun xs => (xs, [(n, xs)])) = some p := e
    obtain ⟨xs, e1, e2⟩ := Option.map_eq_some_iff.mp e
    cases e2
    obtain ⟨b, vs, f1, f2, f3⟩ := hR.has n xs e1 h hk
    rw [h] at f1; cases f1
    refine ⟨false, _, rfl, ⟨_, .inl (.inl f2)⟩, fun r' st' H' f R' w => ?_⟩
    have h' := f.l _ _ h
    obtain ⟨b, ws, g1, g2, g3⟩ := R'.has n xs (okW_one w) h' (f.kl _ (List.mem_of_getElem? h) hk)
    rw [h'] at g1; cases g1
    exact ⟨ws, .inl (.inl g2), g3⟩
  | non => cases e
  | bl => cases e
  | int => cases e
  | str => cases e
  | dct => cases e
  | obj => cases e
theorem it_of {b : Bool} {p : List D × Wt} (h : SqOk k b a p r H) : ItOk k (match b with
    | true => Itt k.K a
    | false => Itl k.K a) p r H := by
  refine ⟨fun r' st' H' i d f R w e => ?_, fun r' st' H' i d x H'' f R w e y => ?_, fun r' st' H' f R w => ?_⟩
  · obtain ⟨vs, h1, h2⟩ := h r' st' H' f R w
    obtain ⟨v, e1, _⟩ := h2.get e
    cases b with
    | true => exact ⟨vs, v, h1, e1⟩
    | false => exact ⟨vs, v, h1, e1⟩
  · obtain ⟨vs, h1, h2⟩ := h r' st' H' f R w
    obtain ⟨v, e1, pv⟩ := h2.get e
    cases b with
    | true =>
      obtain ⟨rfl, y⟩ := y
      rw [y vs h1] at e1; cases e1
      exact ⟨Ext.refl, R, pv⟩
    | false =>
      obtain ⟨rfl, y⟩ := y
      rw [y vs h1] at e1; cases e1
      exact ⟨Ext.refl, R, pv⟩
  · obtain ⟨vs, h1, h2⟩ := h r' st' H' f R w
    cases b with
    | true => exact ⟨vs, h1, by rw [h2.len]; exact Nat.le_refl _⟩
    | false => exact ⟨vs, h1, by rw [h2.len]; exact Nat.le_refl _⟩
theorem two_new {b : Addr} {x y : V} {d e : D} (R : RelH k.K r st H) (hb : H b = none) (p : Rep k.K r H x d) (q : Rep k.K r H y e) : Ext r H r (upd H b (.tup [x, y])) ∧ RelH k.K r st (upd H b (.tup [x, y])) ∧ Rep k.K r (upd H b (.tup [x, y])) (.ref b) (.tup [d, e]) := by
  have f : Ext r H r (upd H b (.tup [x, y])) := Ext.new hb
  exact ⟨f, R.ext_new hb, .tup (.inl (.inl upd_same)) (.cons (p.ext f R) (.cons (q.ext f R) .nil))⟩
theorem enumD_get : ∀ {xs : List D} {c i : Nat} {d : D}, (enumD c xs)[i]? = some d → ∃ x, xs[i]? = some x ∧ d = .tup [.int ((c + i : Nat) : Int), x]
  | [], c, i, d, h => by simp [enumD] at h
  | x :: xs, c, 0, d, h => by
    simp [enumD] at h
    exact ⟨x, rfl, h.symm⟩
  | x :: xs, c, i + 1, d, h => by
    have h : (enumD (c + 1) xs)[i]? = some d := by simpa [enumD] using h
    obtain ⟨y, e1, e2⟩ := enumD_get h
    exact ⟨y, by simpa using e1, by rw [e2]; congr 4; omega⟩
theorem enumD_len : ∀ {xs : List D} {c : Nat}, (enumD c xs).length = xs.length
  | [], c => rfl
  | x :: xs, c => by simp [enumD, enumD_len (xs := xs)]
theorem it_en {b : Bool} {p : List D × Wt} (c : Nat) (h : SqOk k b a p r H) : ItOk k (Iten b k.K a c) (enumD c p.1, p.2) r H := by
  refine ⟨fun r' st' H' i d f R w e => ?_, fun r' st' H' i d x H'' f R w e y => ?_, fun r' st' H' f R w => ?_⟩
  · obtain ⟨vs, h1, h2⟩ := h r' st' H' f R w
    obtain ⟨z, e1, _⟩ := enumD_get e
    obtain ⟨v, e2, _⟩ := h2.get e1
    exact ⟨vs, v, h1, e2⟩
  · obtain ⟨vs, h1, h2⟩ := h r' st' H' f R w
    obtain ⟨z, e1, rfl⟩ := enumD_get e
    obtain ⟨v, e2, pv⟩ := h2.get e1
    obtain ⟨T, u, rfl, hT, rfl, y⟩ := y
    rw [y vs h1] at e2; cases e2
    have key := two_new R hT (.int (((c + i : Nat)) : Int)) pv
    rw [show (((c + i : Nat)) : Int) = (c : Int) + (i : Nat) by omega] at key ⊢
    exact key
  · obtain ⟨vs, h1, h2⟩ := h r' st' H' f R w
    exact ⟨vs, h1, by rw [h2.len]; exact enumD_len.symm⟩
theorem okW_app {st : Sto} {w1 w2 : Wt} (h : okW st (w1 ++ w2) = true) : okW st w1 = true ∧ okW st w2 = true := by
  unfold okW at h ⊢
  rw [List.all_append, Bool.and_eq_true] at h
  exact h
theorem it_zz {b b2 : Bool} {a2 : Addr} {p q : List D × Wt} (h : SqOk k b a p r H) (g : SqOk k b2 a2 q r H) : ItOk k (Itzz b b2 k.K a a2) (zipD p.1 q.1, p.2 ++ q.2) r H := by
  have zg : ∀ {i : Nat} {d : D}, (zipD p.1 q.1)[i]? = some d → ∃ x y, p.1[i]? = some x ∧ q.1[i]? = some y ∧ d = .tup [x, y] := fun {i d} e => by
    unfold zipD at e
    rw [List.getElem?_map] at e
    obtain ⟨z, e1, e2⟩ := Option.map_eq_some_iff.mp e
    rw [List.getElem?_zip_eq_some] at e1
    exact ⟨z.1, z.2, e1.1, e1.2, e2.symm⟩
  refine ⟨fun r' st' H' i d f R w e => ?_, fun r' st' H' i d x H'' f R w e y => ?_, fun r' st' H' f R w => ?_⟩
  · obtain ⟨w1, w2⟩ := okW_app w
    obtain ⟨vs, h1, h2⟩ := h r' st' H' f R w1
    obtain ⟨us, g1, g2⟩ := g r' st' H' f R w2
    obtain ⟨z1, z2, e1, e2, _⟩ := zg e
    obtain ⟨v, e3, _⟩ := h2.get e1
    obtain ⟨u, e4, _⟩ := g2.get e2
    exact ⟨vs, us, v, u, h1, g1, e3, e4⟩
  · obtain ⟨w1, w2⟩ := okW_app w
    obtain ⟨vs, h1, h2⟩ := h r' st' H' f R w1
    obtain ⟨us, g1, g2⟩ := g r' st' H' f R w2
    obtain ⟨z1, z2, e1, e2, rfl⟩ := zg e
    obtain ⟨v, e3, pv⟩ := h2.get e1
    obtain ⟨u, e4, pu⟩ := g2.get e2
    obtain ⟨T, v', u', rfl, hT, rfl, y1, y2⟩ := y
    rw [y1 vs h1] at e3; cases e3
    rw [y2 us g1] at e4; cases e4
    exact two_new R hT pv pu
  · obtain ⟨w1, w2⟩ := okW_app w
    obtain ⟨vs, h1, h2⟩ := h r' st' H' f R w1
    obtain ⟨us, g1, g2⟩ := g r' st' H' f R w2
    refine ⟨vs, us, h1, g1, ?_⟩
    rw [h2.len, g2.len]
    simp [zipD]
theorem it_rg (lo : Int) (n : Nat) : ItOk k (Itr lo n) (rngD lo n, []) r H := by
  have rg : ∀ {i : Nat} {d : D}, (rngD lo n)[i]? = some d → i < n ∧ d = .int (lo + (i : Nat)) := fun {i d} e => by
    unfold rngD at e
    rw [List.getElem?_map] at e
    obtain ⟨z, e1, e2⟩ := Option.map_eq_some_iff.mp e
    obtain ⟨h1, h2⟩ := List.getElem?_eq_some_iff.mp e1
    rw [List.getElem_range] at h2
    subst h2
    exact ⟨by simpa using h1, e2.symm⟩
  refine ⟨fun r' st' H' i d f R w e => (rg e).1, fun r' st' H' i d x H'' f R w e y => ?_, fun r' st' H' f R w => ?_⟩
  · obtain ⟨rfl, rfl⟩ := y
    obtain ⟨_, rfl⟩ := rg e
    exact ⟨Ext.refl, R, .int _⟩
  · show n ≤ (rngD lo n).length
    simp [rngD]
theorem it_rgS (lo c : Int) (n : Nat) : ItOk k (Itc lo c n) (rngS lo c n, []) r H := by
  have rg : ∀ {i : Nat} {d : D}, (rngS lo c n)[i]? = some d → i < n ∧ d = .int (lo + (i : Nat) * c) := fun {i d} e => by
    unfold rngS at e
    rw [List.getElem?_map] at e
    obtain ⟨z, e1, e2⟩ := Option.map_eq_some_iff.mp e
    obtain ⟨h1, h2⟩ := List.getElem?_eq_some_iff.mp e1
    rw [List.getElem_range] at h2
    subst h2
    exact ⟨by simpa using h1, e2.symm⟩
  refine ⟨fun r' st' H' i d f R w e => (rg e).1, fun r' st' H' i d x H'' f R w e y => ?_, fun r' st' H' f R w => ?_⟩
  · obtain ⟨rfl, rfl⟩ := y
    obtain ⟨_, rfl⟩ := rg e
    exact ⟨Ext.refl, R, .int _⟩
  · show n ≤ (rngS lo c n).length
    simp [rngS]
theorem chars_get {x : Str} {i : Nat} {d : D} (e : (chars x)[i]? = some d) : ∃ c, x.cps[i]? = some c ∧ d = .str ⟨#[c]⟩ := by
  unfold chars at e
  rw [List.getElem?_map] at e
  obtain ⟨z, e1, e2⟩ := Option.map_eq_some_iff.mp e
  exact ⟨z, by simpa using e1, e2.symm⟩
theorem it_str (x : Str) : ItOk k (Its x) (chars x, []) r H := by
  refine ⟨fun r' st' H' i d f R w e => ?_, fun r' st' H' i d y H'' f R w e z => ?_, fun r' st' H' f R w => ?_⟩
  · obtain ⟨c, e1, _⟩ := chars_get e
    exact (Array.getElem?_eq_some_iff.mp e1).1
  · obtain ⟨c, e1, rfl⟩ := chars_get e
    obtain ⟨rfl, c', e2, rfl⟩ := z
    rw [e1] at e2; cases e2
    exact ⟨Ext.refl, R, .str _⟩
  · show x.cps.size ≤ (chars x).length
    simp [chars]

/-! ### the rules -/
theorem PIi {e : Expr} {t t' : TI} (h : PI X tg e t) (w : ∀ σ H R, t' σ H R → t σ H R) : PI X tg e t' := ⟨fun pins s σ H R I q => h.run pins s σ H R I (w _ _ _ q)⟩
/-- not a starred one -/
def nst : Expr → Bool
  | .Starred _ _ => false
  | _ => true
theorem star_cons {e : Expr} {es : List Expr} {env : PySem.Env} (h : nst e = true) : starEach (e :: es) env = (false, eval e env) :: starEach es env := by
  cases e <;> first | rfl | cases h
theorem star_any {es : List Expr} {env : PySem.Env} {pos : Pos} (h : ∀ e ∈ es, nst e = true) : (backTo pos (starEach es env)).any (·.1) = false := by
  induction es with
  | nil => rfl
  | cons e es ih =>
    rw [star_cons (h e List.mem_cons_self)]
    show (false || (backTo pos (starEach es env)).any (·.1)) = false
    rw [ih fun x hx => h x (List.mem_cons_of_mem _ hx)]
    rfl
/-- a value walked -/
theorem pi_seqR {e : Expr} {f : Env → Sto → Out D} (kK : k.K = X.K) (he : IE X k W e f) : PI X tg e (cr (RI k) k W fun env st => (f env st).bind fun x s1 => ofO (srcD x s1) s1) := by
  refine ⟨fun pins s σ H R I h => ?_⟩
  obtain ⟨r, env, st, hR, hE, hc⟩ := h
  refine thn (he.run pins s σ H (fun v H1 => ∃ d s1 r1, RelH k.K r1 s1 H1 ∧ Rep k.K r1 H1 v d ∧ CP (RI k) k W σ r1 H1 (ofO (srcD d s1) s1) R) I (cr_seq (R2 := RI k) hR hE hc fun d s1 r1 H1 v x a b p q => ⟨d, s1, r1, a, p, q⟩)) fun v s1 hv => ?_
  obtain ⟨x, H1, I1, rx, d, st1, r1, hR1, p, hc1⟩ := hv
  obtain ⟨z, e1, hc2⟩ := hc1.ofO
  by_cases hs : ∃ y, d = .str y
  · obtain ⟨y, rfl⟩ := hs
    cases p
    have e1 : some (chars y, ([] : Wt)) = some z := e1
    cases e1
    have hq : R (Its y) H1 := hc2 r1 H1 _ Ext.refl hR1 (it_str y)
    obtain ⟨t, rfl⟩ := rx
    cases ha : y.cps.all (· < 128)
    · exact wpAny_pyIter_wide ha (pi_one (tk := s1.toks) I1 _ (turn_str _ y t "str_iterator" (.inr rfl)) ⟨_, Heap.get?_push_size _ rfl, rfl, rfl⟩ hq)
    · exact wpAny_pyIter_ascii ha (pi_one (tk := s1.toks) I1 _ (turn_str _ y t "str_ascii_iterator" (.inl rfl)) ⟨_, Heap.get?_push_size _ rfl, rfl, rfl⟩ hq)
  · have e2 : srcL d st1 = some z := by
      rw [← e1]
      cases d with
      | str y => exact absurd ⟨y, rfl⟩ hs
      | _ => rfl
    obtain ⟨b, a, rfl, ⟨vs, hq⟩, ok⟩ := sq_src hR1 p e2
    cases rx
    have hi := it_of ok
    have hr := hc2 r1 H1 _ Ext.refl hR1 hi
    rw [kK] at hq hr
    cases b with
    | true =>
      obtain ⟨its, rv, p', hz⟩ := I1.tuple hq
      exact wpAny_pyIter_tuple (show s1.heap.IsTuple a its.toArray from p') (pi_one (tk := s1.toks) I1 _ (turn_tuple a _) ⟨_, Heap.get?_push_size _ rfl, rfl, rfl⟩ hr)
    | false =>
      obtain ⟨its, rv, p', hz⟩ := I1.list hq
      exact wpAny_pyIter_list p'.isList (pi_one (tk := s1.toks) I1 _ (turn_list a _) ⟨_, Heap.get?_push_size _ rfl, rfl, rfl⟩ hr)
theorem rgOk_of {j : Int} (h : rgOk j = true) : -(2 ^ 62) ≤ j ∧ j < 2 ^ 62 := by
  unfold rgOk at h
  exact of_decide_eq_true h
/-- arguments, then what is made of them -/
theorem ia_seq {es : List Expr} {f : Env → Sto → Out (List D)} {g : List D → Sto → Out (List D × Wt)} {R : It → Hp → Prop} {σ : L2.St} {H : Hp} {P : List V → Hp → Prop} (h : cr (RI k) k W (fun env st => (f env st).bind g) σ H R)
    (next : ∀ ds s1 r1 H1 vs, RelH k.K r1 s1 H1 → Reps k.K r1 H1 vs ds → CP (RI k) k W σ r1 H1 (g ds s1) R → P vs H1) : cr (RVs k) k W f σ H P := by
  obtain ⟨r, env, st, hR, hE, hc⟩ := h
  exact cr_seq hR hE hc fun d s1 r1 H1 v x a b q hc1 => next d s1 r1 H1 v a q hc1
theorem pi_rg {es : List Expr} {p pos : Pos} {f : Env → Sto → Out (List D)} (hg : Gl X "range") (hm : X.mg "range" = none) (ha : IA X k W es f) (hs : ∀ e ∈ es, nst e = true) (hl : es.length = 1 ∨ es.length = 2 ∨ es.length = 3) (hf : ∀ env st ds s, f env st = .ok ds s → ds.length = es.length) :
    PI X tg (.Call (.Name "range" p) es [] pos) (cr (RI k) k W fun env st => (f env st).bind rngO) := by
  match es, hl, hs, ha, hf with
  | [e], _, hs, ha, hf =>
    refine PIi (pi_range1 hg hm ha (star_cons (hs e (by simp)))) fun σ H R h => ?_
    obtain ⟨r, env, st, hR, hE, hc⟩ := h
    have hlen : ∀ ds s, f env st = .ok ds s → ds.length = 1 := fun ds s e => hf env st ds s e
    refine ⟨r, env, st, hR, hE, ?_⟩
    dsimp only at hc
    cases ef : f env st with
    | exc x s1 => rw [ef] at hc; exact hc
    | bad => rw [ef] at hc; exact hc
    | ok ds s1 =>
      rw [ef] at hc
      have hl := hlen ds s1 ef
      intro r1 H1 vs x a q
      have hc1 : CP (RI k) k W σ r1 H1 (rngO ds s1) R := CP.mono hc x
      match ds, hl, q, hc1 with
      | [d], _, .cons q .nil, hc1 =>
        cases q with
        | int j =>
          have hc1 : CP (RI k) k W σ r1 H1 (if rgOk j then .ok (rngD 0 j.toNat, []) s1 else .bad) R := hc1
          split at hc1
          · rename_i hj
            obtain ⟨j1, j2⟩ := rgOk_of hj
            exact ⟨j, rfl, j1, j2, hc1 r1 H1 _ Ext.refl a (it_rg 0 j.toNat)⟩
          · exact hc1.elim
        | _ => exact hc1.elim
  | [e, e2], _, hs, ha, hf =>
    refine PIi (pi_range2 hg hm ha (by rw [star_cons (hs e (by simp)), star_cons (hs e2 (by simp))]; rfl) (star_cons (hs e2 (by simp)))) fun σ H R h => ?_
    obtain ⟨r, env, st, hR, hE, hc⟩ := h
    have hlen : ∀ ds s, f env st = .ok ds s → ds.length = 2 := fun ds s e => hf env st ds s e
    refine ⟨r, env, st, hR, hE, ?_⟩
    dsimp only at hc
    cases ef : f env st with
    | exc x s1 => rw [ef] at hc; exact hc
    | bad => rw [ef] at hc; exact hc
    | ok ds s1 =>
      rw [ef] at hc
      have hl := hlen ds s1 ef
      intro r1 H1 vs x a q
      have hc1 : CP (RI k) k W σ r1 H1 (rngO ds s1) R := CP.mono hc x
      match ds, hl, q, hc1 with
      | [d, d2], _, .cons q (.cons q2 .nil), hc1 =>
        cases q with
        | int i =>
          cases q2 with
          | int j =>
            have hc1 : CP (RI k) k W σ r1 H1 (if rgOk i && rgOk j then .ok (rngD i (j - i).toNat, []) s1 else .bad) R := hc1
            split at hc1
            · rename_i hj
              rw [Bool.and_eq_true] at hj
              obtain ⟨j1, j2⟩ := rgOk_of hj.1
              obtain ⟨j3, j4⟩ := rgOk_of hj.2
              exact ⟨i, j, rfl, ⟨j1, j2, j3, j4⟩, hc1 r1 H1 _ Ext.refl a (it_rg i (j - i).toNat)⟩
            · exact hc1.elim
          | _ => exact hc1.elim
        | _ => exact hc1.elim
  | [e, e2, e3], _, hs, ha, hf =>
    refine PIi (pi_range3 hg hm ha (star_cons (hs e (by simp))) (star_any fun y hy => hs y (List.mem_cons_of_mem _ hy))) fun σ H R h => ?_
    obtain ⟨r, env, st, hR, hE, hc⟩ := h
    have hlen : ∀ ds s, f env st = .ok ds s → ds.length = 3 := fun ds s e => hf env st ds s e
    refine ⟨r, env, st, hR, hE, ?_⟩
    dsimp only at hc
    cases ef : f env st with
    | exc x s1 => rw [ef] at hc; exact hc
    | bad => rw [ef] at hc; exact hc
    | ok ds s1 =>
      rw [ef] at hc
      have hl := hlen ds s1 ef
      intro r1 H1 vs x a q
      have hc1 : CP (RI k) k W σ r1 H1 (rngO ds s1) R := CP.mono hc x
      match ds, hl, q, hc1 with
      | [d, d2, d3], _, .cons q (.cons q2 (.cons q3 .nil)), hc1 =>
        cases q with
        | int i =>
          cases q2 with
          | int j =>
            cases q3 with
            | int c =>
              have hc1 : CP (RI k) k W σ r1 H1 (if (rgOk i && rgOk j) && decide (c = -1) then .ok (rngS i (-1) (i - j).toNat, []) s1 else .bad) R := hc1
              split at hc1
              · rename_i hj
                have hc3 := hc1
                simp only [Bool.and_eq_true, decide_eq_true_eq] at hj
                obtain ⟨⟨h1, h2⟩, rfl⟩ := hj
                obtain ⟨j1, j2⟩ := rgOk_of h1
                obtain ⟨j3, j4⟩ := rgOk_of h2
                exact ⟨i, j, -1, (i - j).toNat, rfl, RgC.neg j1 j2 j3 j4, hc3 r1 H1 _ Ext.refl a (it_rgS i (-1) (i - j).toNat)⟩
              · exact hc1.elim
            | _ => exact hc1.elim
          | _ => exact hc1.elim
        | _ => exact hc1.elim
theorem pi_en {es : List Expr} {p pos tpos : Pos} {elts : List Expr} {kk : Nat} {f : Env → Sto → Out (List D)} (hg : Gl X "enumerate") (hm : X.mg "enumerate" = none) (kK : k.K = X.K) (ha : IA X k W es f) (hs : ∀ e ∈ es, nst e = true) (hl : es ≠ []) :
    PI X (.Tuple elts kk tpos) (.Call (.Name "enumerate" p) es [] pos) (cr (RI k) k W fun env st => (f env st).bind (enumO 0)) := by
  match es, hl with
  | e :: es, _ =>
    refine ⟨fun pins s σ H R I h => ?_⟩
    have ha' := ha.run pos pins s σ H (fun vs H1 => ∃ ds s1 r1, RelH k.K r1 s1 H1 ∧ Reps k.K r1 H1 vs ds ∧ CP (RI k) k W σ r1 H1 (enumO 0 ds s1) R) I (ia_seq (es := e :: es) h fun ds s1 r1 H1 vs a q c => ⟨ds, s1, r1, a, q, c⟩)
    refine Call_ (ld_blt I hg hm boot_enumerate (PyProof.Rows.callWith_type1 (thn ha' fun us s1 ⟨vs, H1, I1, rv, ds, st1, r1, hR1, ps, hc1⟩ => ?_) (star_cons (hs e (by simp))) (star_any fun y hy => hs y (List.mem_cons_of_mem _ hy))))
    match ds, ps, hc1 with
    | [d], .cons q .nil, hc1 =>
      obtain ⟨z, e1, hc2⟩ := CP.ofO (o := (srcL d st1).map fun p => (enumD 0 p.1, p.2)) hc1
      obtain ⟨p, e2, rfl⟩ := Option.map_eq_some_iff.mp e1
      obtain ⟨b, a, rfl, ⟨ws, hq⟩, ok⟩ := sq_src hR1 q e2
      obtain ⟨u, rfl, ru⟩ := rv.one
      cases ru
      have hr := hc2 r1 H1 _ Ext.refl hR1 (it_en 0 ok)
      rw [kK] at hq hr
      obtain ⟨its, rv', p', hz⟩ := inv_sq I1 hq
      refine enum_begins1 (begins_b b a its.toArray) p' fun h' he hit hsz hk => wpAny_pyIter_enum he ?_
      have I2 : Inv X pins σ H1 { s1 with heap := h' } := I1.kept (t' := s1.toks) hk
      refine ⟨s1.heap.objs.size + 1, [s1.heap.objs.size + 1, s1.heap.objs.size], _, _, H1, rfl, I2, turn_en b (0 : Nat) a (s1.heap.objs.size + 1) s1.heap.objs.size, ⟨⟨.none, by simpa using he⟩, itAt_0 hit, Nat.succ_ne_self _⟩, fun z hz => ?_, hr⟩
      have e' : z = s1.heap.objs.size + 1 ∨ z = s1.heap.objs.size := by simpa using hz
      have hle : s1.heap.objs.size ≤ z := by
        rcases e' with z | z
        · rw [z]; exact Nat.le_add_right _ _
        · rw [z]; exact Nat.le_refl _
      exact I1.fpOk hle (I1.hok.fresh hle)
    | [], _, hc1 => exact hc1.elim
    | _ :: _ :: _, _, hc1 => exact hc1.elim
theorem pi_zz {es : List Expr} {p pos tpos : Pos} {elts : List Expr} {kk : Nat} {f : Env → Sto → Out (List D)} (hg : Gl X "zip") (hm : X.mg "zip" = none) (kK : k.K = X.K) (ha : IA X k W es f) (hs : ∀ e ∈ es, nst e = true) (hl : es ≠ []) :
    PI X (.Tuple elts kk tpos) (.Call (.Name "zip" p) es [] pos) (cr (RI k) k W fun env st => (f env st).bind zipO) := by
  match es, hl with
  | e :: es, _ =>
    refine ⟨fun pins s σ H R I h => ?_⟩
    have ha' := ha.run pos pins s σ H (fun vs H1 => ∃ ds s1 r1, RelH k.K r1 s1 H1 ∧ Reps k.K r1 H1 vs ds ∧ CP (RI k) k W σ r1 H1 (zipO ds s1) R) I (ia_seq (es := e :: es) h fun ds s1 r1 H1 vs a q c => ⟨ds, s1, r1, a, q, c⟩)
    refine Call_ (ld_blt I hg hm PyProof.Rows.boot_zip (PyProof.Rows.callWith_type1 (thn ha' fun us s1 ⟨vs, H1, I1, rv, ds, st1, r1, hR1, ps, hc1⟩ => ?_) (star_cons (hs e (by simp))) (star_any fun y hy => hs y (List.mem_cons_of_mem _ hy))))
    match ds, ps, hc1 with
    | [d, d2], .cons q (.cons q2 .nil), hc1 =>
      have hc1 : CP (RI k) k W σ r1 H1 (match srcL d st1, srcL d2 st1 with
        | some p, some q => .ok (zipD p.1 q.1, p.2 ++ q.2) st1
        | _, _ => .bad) R := hc1
      cases e1 : srcL d st1 with
      | none => rw [e1] at hc1; exact hc1.elim
      | some p1 =>
        cases e2 : srcL d2 st1 with
        | none => rw [e1, e2] at hc1; exact hc1.elim
        | some p2 =>
          rw [e1, e2] at hc1
          obtain ⟨b, a, rfl, ⟨ws, hq⟩, ok⟩ := sq_src hR1 q e1
          obtain ⟨b2, a2, rfl, ⟨ws2, hq2⟩, ok2⟩ := sq_src hR1 q2 e2
          obtain ⟨u, u2, rfl, ru, ru2⟩ := rv.two
          cases ru
          cases ru2
          have hr := hc1 r1 H1 _ Ext.refl hR1 (it_zz ok ok2)
          rw [kK] at hq hq2 hr
          exact zz_it I1 hq hq2 hr
    | [], _, hc1 => exact hc1.elim
    | [_], _, hc1 => exact hc1.elim
    | _ :: _ :: _ :: _, _, hc1 => exact hc1.elim
end
end Mi
end
section
/-! MiL: the text against the small language: what is compared, and what is known of a context. -/
namespace Mi
open PySem PySem.Spec PyProof.Rows L2
structure Sx extends Tx where
  k : Kx
  lv : Nat
abbrev Sx.cx (S : Sx) : Mi.Cx := ⟨callN S.p S.lv, fun x => S.p.globs.lookup x⟩
/-- what a def promises -/
def spD (k : Kx) (p : Prg) (lv f : Nat) : Sp := fun vs H Q E => ∃ fz r st ds σ, RelH k.K r st H ∧ Reps k.K r H vs ds ∧ CP (RV k) k (fun c dx _ H' => E c dx H') σ r H (callN p lv fz f ds st) Q
/-- the values ws, given by the keywords ks, in the parameters' order -/
def permL {α : Type} (n : Nat) (ks : List Nat) (ws : List α) : List α := (List.range n).filterMap fun i => (ks.zip ws).lookup i
/-- what the written part says of a class with __init__(self, fld) -/
abbrev scI (nms : List (Str × NameKind)) (mr : List (Str × Const)) : Scope := ⟨.function, nms, false, false, mr⟩
structure IniC (K : PySem.W.Frag) (file : Str) (C : Addr) (le : Bool) (fld : Str) where
  fI : Addr
  cc : Addr
  cda : Addr
  cl : Value
  cld : Option Addr
  csl : Array (Option Value)
  ccl : Value
  cdd : Option Addr
  ccs : Array (Option Value)
  vs : Array Value
  tf : Tok
  oc : Value
  od : Option Addr
  osl : Array (Option Value)
  name : Str
  qual : Str
  a0 : Arg
  a1 : Arg
  kwd : List (Option Expr)
  dfl : List Expr
  nms : List (Str × NameKind)
  mr : List (Str × Const)
  dV : Value
  kV : Value
  doc : Value
  pm : Value
  an : Option Addr
  ct : Value
  p0 : Pos
  p1 : Pos
  p2 : Pos
  p3 : Pos
  p4 : Pos
  p5 : Pos
  p6 : Pos
  p7 : Pos
  p8 : Pos
  p9 : Pos
  cd : ClassData
  find : PySem.W.findIn K (.ref C) "__init__" = some (some (.ref fI))
  exi : PySem.W.excInitIn K C (bmX le) (newX le) = true
  isf : PySem.W.isFn K (.ref fI) = true
  lk : K.lookup fI = some ⟨oc, od, .func (PySem.W.ksFn name qual ⟨[], [a0, a1], none, [], kwd, none, dfl⟩ [.Expr (.Call (.Attribute (.Call (.Name "super" p0) [] [] p1) "__init__" p2) [.Name fld p3] [] p4) p5, .Assign [.Attribute (.Name "self" p6) fld p7] (.Name fld p8) p9] (scI nms mr) .none kV doc pm an (.ref cda) ct cc), osl⟩
  h0 : a0.arg = "self"
  h1 : a1.arg = fld
  cod : PySem.W.codeIn K (.ref cda) qual = true
  code : K.lookup cda = some ⟨ccl, cdd, .fields vs, ccs⟩
  hvs : vs[2]? = some (.str file tf)
  cell : K.lookup cc = some ⟨cl, cld, .cell (some (.ref C)), csl⟩
  cls : PySem.W.clsIn K C = some cd
  mro : PySem.W.mroIn K C (.ref C) = some true
  sup : PySem.W.nsIn K mainGlobals "super" = some none
  opq : PySem.W.nsIn K cStatics "thirdparty.any" = some none
  hm : PySem.W.ks_superIn K C C "__init__" = some (some (.builtin (inX le)))
  hB : PySem.W.subIn K (.ref C) (.type (baX le)) = some true
  sa : PySem.W.findIn K (.ref C) "__setattr__" = some (some (.builtin "object.__setattr__"))
  ovr : PySem.W.excOver K C (bmX le) = true
  tak : PySem.W.takerIn K C fld = some none
  hd : PySem.W.hasDictIn K C = true
  kp : PySem.W.keepIn K (.ref C) = true
  s1 : nms.lookup ("super" : Str) = some .globalImplicit
  s2 : nms.lookup ("__class__" : Str) = some .free
  s3 : nms.lookup ("self" : Str) = some .local
  s4 : nms.lookup fld = some .local
  s5 : ∀ x ∈ nms, x.2 ≠ .cell
  q1 : (p2.endLine == p4.line) = true
  f1 : (fld == ("self" : Str)) = false
  f2 : (fld == ("__debug__" : Str)) = false
/-- what is known of the classes of errors -/
structure ClF (k : Kx) (cls : List EC) (mg : Str → Option Value) (i : Nat) (c : EC) : Prop where
  mg : mg c.name = some (.ref (k.ca i))
  kp : PySem.W.keepIn k.K (.ref (k.ca i)) = true
  sb : PySem.W.subIn k.K (.ref (k.ca i)) (.type "BaseException") = some true
  ty : PySem.W.typeIn k.K (.ref (k.ca i)) = some (.type "type")
  ex : c.ini = false → PySem.W.excIn k.K (k.ca i) (bmX c.le) (newX c.le) = true
  mt : ∀ (j : Nat) (c2 : EC), cls[j]? = some c2 → PySem.W.exmOne k.K (.ref (k.ca i)) (.ref (k.ca j)) = some (decide (j = i))
  cf : k.cf i = c.fld
  xc : ExcC k.K (k.ca i)
  i1 : PySem.W.kitOne k.K (.ref (k.ca i)) (.type "ValueError") = some (!c.le)
  i2 : PySem.W.kitOne k.K (.ref (k.ca i)) (.type "LookupError") = some c.le
  ij : ∀ (j : Nat) (c2 : EC), cls[j]? = some c2 → PySem.W.kitOne k.K (.ref (k.ca i)) (.ref (k.ca j)) = some (decide (j = i))
  xf : c.ini = true → XfC k.K (k.ca i) ∧ PySem.W.findIn k.K (.ref (k.ca i)) c.fld = some none
def ClOk (k : Kx) (cls : List EC) (mg : Str → Option Value) : Prop := k.nc = cls.length ∧ ∀ (i : Nat) (c : EC), cls[i]? = some c → ClF k cls mg i c
def IniA (k : Kx) (cls : List EC) (P : Program) : Prop := ∀ (i : Nat) (c : EC), cls[i]? = some c → c.ini = true → ∃ file : Str, ((P.main.file : Str) == file) = true ∧ (P.main.scope.names.lookup ("super" : Str)).isSome = false ∧ Nonempty (IniC k.K file (k.ca i) c.le c.fld)
/-- the module -/
structure Mg (S : Sx) (P : Program) (w : World) (mg : Str → Option Value) (base : Heap) : Prop where
  blt : ∀ x ∈ bltN, mg x = none
  glob : ∀ x d, S.p.globs.lookup x = some d → ∃ u v, mg x = some u ∧ RelV v u ∧ ∀ r H, Rep S.k.K r H v d
  fn : ∀ f df, S.p.defs[f]? = some df → (S.mths.all fun q => decide (q.2.2 ≠ f)) = true → ∃ a fd, mg df.name = some (.ref a) ∧ PySem.W.keepIn S.k.K (.ref a) = true ∧ Binds S.k.K fd (df.names.take df.np) [] ∧
    (∀ ks, (f, ks) ∈ S.kwp → ∀ (s : Shared) (ws : List Value), S.k.K.In s.heap → ws.length = df.np → BindsTo s fd ⟨[], (ks.map fun i => df.names.getD i "").zip ws⟩ ((df.names.take df.np).zip (permL df.np ks ws))) ∧
    FnOk P w S.k.K mg base (L2.CX P w) (2 * S.lv) a fd (df.names.take df.np) (spD S.k S.p S.lv f)
  mth : ∀ q ∈ S.mths, ∃ df a fd, S.p.defs[q.2.2]? = some df ∧ ObK S.k.K (He.ga S.k.K q.1) ∧ Meth S.k.K (He.ga S.k.K q.1) q.2.1 a ∧ Binds S.k.K fd (df.names.take df.np) [] ∧
    (q.2.1 = "__init__" → mg q.1 = some (.ref (He.ga S.k.K q.1)) ∧ Mk S.k.K (He.ga S.k.K q.1) a) ∧
    FnOk P w S.k.K mg base (L2.CX P w) (2 * S.lv) a fd (df.names.take df.np) (spD S.k S.p S.lv q.2.2)
  atr : ∀ q ∈ S.ats, Cls S.k.K (He.ga S.k.K q.1) ∧ NoAttr S.k.K (He.ga S.k.K q.1) q.2
  gcd : S.ug = true → mg "gcd" = some (.builtin "math.gcd")
  dic : ∀ q ∈ S.dics, ∃ a, mg q.1 = some (.ref a) ∧ ∀ z v, q.2.lookup z = some v → KDct S.k.K w a z (.str v)
  cls : ClOk S.k S.cls mg
  ini : IniA S.k S.cls P
/-- a context -/
structure GX (S : Sx) (c : Ck) (X : L2.Cx) (W : WX) : Prop where
  L : LX X c
  kK : S.k.K = X.K
  room : Room (2 * S.lv + 1) X.A
  tk : Takes X W
  pw : PassesOwn (model X.prog X.w) X.A X.env X.xe
  M : Mg S X.prog X.w X.mg X.base
abbrev W0 : WX := fun _ _ _ _ => False
def Ck.blk (c : Ck) (scope : Scope) : Ck := ⟨c.N, relS scope c.sc, (scope.names.filter fun y => decide (y.2 = .cell)).map (·.1)⟩
theorem GX.blk {S : Sx} {c : Ck} {X : L2.Cx} {W : WX} (G : GX S c X W) {scope : Scope} {own : List (Str × Nat)} (h : BlkOk X.N X.env.scope scope own) (s : Shared) (H : Hp) (C : Addr) (cl : List (Str × Addr)) (fp : List Addr) :
    GX S (c.blk scope) (X.blk s H scope (compEnvC scope cl C X.env) fp) W0 where
  L := ⟨G.L.N, G.L.nd, by show relabel scope X.env = relS scope c.sc; rw [← G.L.sc]; rfl, fun x hx => by
    obtain ⟨y, hy, e⟩ := List.mem_map.mp hx
    obtain ⟨h1, h2⟩ := List.mem_filter.mp hy
    have h2 := of_decide_eq_true h2
    show (scope.names.lookup x == some NameKind.cell) = true
    have := h.uniq y h1
    rw [h2] at this
    rw [← e, this]
    rfl, G.L.calm, h.kind⟩
  kK := G.kK
  room := G.room
  tk := takes0
  pw := PassesOwn.never
  M := G.M

/-! ### the checks -/
def cstC : D → Const → Bool
  | .non, .none => true
  | .bl a, .bool b => a == b
  | .int i, .int j => decide (i = j)
  | .str x, .str y => decide (x = y)
  | _, _ => false
/-- not a set display; not a slice; not a call -/
def nset : Expr → Bool
  | .Set _ _ _ => false
  | _ => true
def nsl : Expr → Bool
  | .Slice _ _ _ _ => false
  | _ => true
def ncall : Expr → Bool
  | .Call _ _ _ _ => false
  | _ => true
/-- an expression whose test is its value's -/
def ptest : Expr → Bool
  | .UnaryOp .Not _ _ => false
  | .BoolOp _ _ _ => false
  | .IfExp _ _ _ _ => false
  | .Compare _ _ _ _ => false
  | _ => true
def biS : Bi → Str
  | .len => "len" | .sum => "sum" | .all => "all" | .any => "any" | .abs => "abs" | .int => "int" | .list => "list" | .tuple => "tuple" | .str => "str"
  | .max => "max" | .min => "min" | .sorted => "sorted" | .divmod => "divmod" | .gcd => "gcd"
/-- those with a rule -/
def biHas : Bi → Bool
  | _ => true
def mtS : Mt → Str
  | .append => "append" | .extend => "extend" | .pop => "pop" | .popAt => "pop" | .insert => "insert" | .index => "index" | .split => "split" | .join => "join"
def mtHas : Mt → Nat → Bool
  | .append, n => n == 1
  | .extend, n => n == 1
  | .pop, n => n == 0
  | .popAt, n => n == 1
  | .insert, n => n == 2
  | _, _ => false
def tyC (c : Ck) (t : Ty) : Expr → Bool
  | .Name n _ => decide (n = Str.ofString (tyS t)) && glC c n
  | _ => false
def tysC (c : Ck) : List Ty → List Expr → Bool
  | [], xs => xs.isEmpty
  | t :: ts, x :: xs => tyC c t x && tysC c ts xs
  | _ :: _, [] => false
mutual
def eC (S : Tx) : Ck → E → Expr → Bool
  | _, .no, _ => true
  | c, .var i, x => (match x with
    | .Name n _ => visC c i n
    | _ => false)
  | _, .cst d, x => (match x with
    | .Constant q _ _ => cstC d q
    | _ => false)
  | c, .glob n, x => (match x with
    | .Name m _ => decide (m = n) && glC c m
    | _ => false)
  | c, .tup es, x => (match x with
    | .Tuple xs _ _ => esC S c es xs
    | _ => false)
  | c, .lst _ es, x => (match x with
    | .List xs _ => esC S c es xs
    | _ => false)
  | c, .bin _ o a b, x => (match x with
    | .BinOp l op r _ => decide (op = bop o) && (eC S c a l && eC S c b r)
    | _ => false)
  | c, .neg a, x => (match x with
    | .UnaryOp .USub y _ => eC S c a y
    | _ => false)
  | c, .cmp o a b, x => (match x with
    | .Compare l [op] [r] _ => decide (op = cop o) && (!behindInMarks op r && (eC S c a l && eC S c b r))
    | _ => false)
  | c, .chain o p a b d, x => (match x with
    | .Compare l [op, op2] [m, r] _ => decide (op = cop o) && (decide (op2 = cop p) && (!lastMarks [op, op2] [m, r] && (eC S c a l && (eC S c b m && eC S c d r))))
    | _ => false)
  | c, .isN a, x => (match x with
    | .Compare l [.Is] [.Constant .none _ _] _ => eC S c a l
    | _ => false)
  | c, .notN a, x => (match x with
    | .Compare l [.IsNot] [.Constant .none _ _] _ => eC S c a l
    | _ => false)
  | c, .and_ a b, x => (match x with
    | .BoolOp .And [y, z] _ => eC S c a y && eC S c b z
    | .BoolOp .And (y :: z :: u :: r) p => eC S c a y && eC S c b (.BoolOp .And (z :: u :: r) p)
    | _ => false)
  | c, .or_ a b, x => (match x with
    | .BoolOp .Or [y, z] _ => eC S c a y && eC S c b z
    | .BoolOp .Or (y :: z :: u :: r) p => eC S c a y && eC S c b (.BoolOp .Or (z :: u :: r) p)
    | _ => false)
  | c, .not_ a, x => (match x with
    | .UnaryOp .Not y _ => eC S c a y
    | _ => false)
  | c, .ite t a b, x => (match x with
    | .IfExp u y z _ => eC S c t u && (eC S c a y && eC S c b z)
    | _ => false)
  | c, .ix a b, x => (match x with
    | .Subscript v i _ => nsl i && (eC S c a v && eC S c b i)
    | _ => false)
  | c, .sl a lo hi, x => (match x with
    | .Subscript v (.Slice l h none _) _ => eC S c a v && (oC S c lo l && oC S c hi h)
    | _ => false)
  | c, .call _ f es ks kes, x => (match x with
    | .Call (.Name n _) xs kws _ => (glC c n && (match S.p.defs[f]? with
      | some df => decide (df.name = n) && decide (ks = [] ∨ (kws.map (·.arg) = ks.map (fun i => some (df.names.getD i "")) ∧ ks.length = df.np)) && S.mths.all fun q => decide (q.2.2 ≠ f)
      | none => false)) && (match ks with
      | [] => kws.isEmpty && (esC S c es xs && (match kes with
        | .nil => true
        | _ => false))
      | _ => decide ((f, ks) ∈ S.kwp) && (xs.isEmpty && (esC S c kes (kws.map (·.value)) && (match es with
        | .nil => true
        | _ => false))))
    | _ => false)
  | _, .dnew, x => (match x with
    | .Dict [] [] _ => true
    | _ => false)
  | c, .dnew1 a b, x => (match x with
    | .Dict [some y] [z] _ => eC S c a y && eC S c b z
    | _ => false)
  | c, .dget a b, x => (match x with
    | .Subscript v i _ => nsl i && (eC S c a v && eC S c b i)
    | _ => false)
  | c, .din neg a b, x => (match x with
    | .Compare l [.In] [y] _ => !neg && (!behindInMarks .In y && (eC S c a l && eC S c b y))
    | .Compare l [.NotIn] [y] _ => neg && (!behindInMarks .NotIn y && (eC S c a l && eC S c b y))
    | _ => false)
  | c, .fld cl a f, x => (match x with
    | .Attribute y g _ => decide (g = f) && (ncall y && (decide ((cl, f) ∈ S.ats) && eC S c a y))
    | _ => false)
  | c, .new cl f es, x => (match x with
    | .Call (.Name n _) xs [] _ => decide (n = cl) && (glC c n && (decide ((cl, ("__init__" : Str), f) ∈ S.mths) && (!xs.isEmpty && esC S c es xs)))
    | _ => false)
  | c, .mcall _ cl m f o es, x => (match x with
    | .Call (.Attribute y g ap) xs [] cp => decide (g = m) && (ncall y && (decide ((cl, m, f) ∈ S.mths) && ((ap.endLine == cp.line) && (decide (xs.length < 29) && (eC S c o y && esC S c es xs)))))
    | _ => false)
  | c, .bi _ b es, x => (match x with
    | .Call (.Name n _) xs [] _ => decide (n = biS b) && (glC c n && (esC S c es xs && (!xs.isEmpty && (biHas b && (S.ug || decide (b ≠ .gcd))))))
    | _ => false)
  | c, .rev _ a, x => (match x with
    | .Subscript v (.Slice none none (some (.UnaryOp .USub (.Constant (.int 1) _ _) _)) _) _ => eC S c a v
    | _ => false)
  | c, .tupS a b, x => (match x with
    | .Tuple [y, .Starred z _] _ _ => nst y && (eC S c a y && eC S c b z)
    | _ => false)
  | c, .look a b, x => (match x with
    | .Subscript (.Call (.Name n _) [y] [] _) i _ => decide (n = ("dict" : Str)) && (glC c n && (nst y && (nsl i && (eC S c a y && eC S c b i))))
    | _ => false)
  | c, .glook n ps b, x => (match x with
    | .Subscript (.Name m _) i _ => decide (m = n) && (glC c m && (decide ((n, ps) ∈ S.dics) && (nsl i && eC S c b i)))
    | _ => false)
  | c, .isi a ts, x => (match x with
    | .Call (.Name n _) [y, z] [] _ => decide (n = ("isinstance" : Str)) && (glC c n && (nst y && (eC S c a y && (match ts with
      | [t] => tyC c t z
      | _ => (match z with
        | .Tuple zs _ _ => decide (ts.length ≤ 100) && tysC c ts zs
        | _ => false)))))
    | _ => false)
  | c, .mth _ m o es, x => (match x with
    | .Call (.Attribute y nm ap) xs [] cp => decide (nm = mtS m) && (ncall y && ((ap.endLine == cp.line) && (decide (xs.length < 29) && (mtHas m xs.length && (eC S c o y && esC S c es xs)))))
    | _ => false)
  | c, .rg tu _ lo hi, x => (match x with
    | .Call (.Name n _) [.Call (.Name rn _) [y] [] _] [] _ => decide (n = if tu then ("tuple" : Str) else "list") && (decide (rn = ("range" : Str)) && (glC c n && (glC c rn && (nst y && (eC S c hi y && (match lo with
      | .none => true
      | _ => false))))))
    | .Call (.Name n _) [.Call (.Name rn _) [z, y] [] _] [] _ => decide (n = if tu then ("tuple" : Str) else "list") && (decide (rn = ("range" : Str)) && (glC c n && (glC c rn && (nst y && (nst z && (eC S c hi y && oC S c lo (some z)))))))
    | _ => false)
  | c, .lc _ own g s t e, x => (match x with
    | .ListComp elt [⟨tg, it, ifs, 0⟩] scope _ => blkC c.N c.sc scope (own.map fun i => (c.N.getD i "", i)) && (sC S c s tg it && (gC (c.blk scope) g tg && (decide (∀ i ∈ gix g, i ∈ own) && (otC S (c.blk scope) t ifs && eC S (c.blk scope) e elt))))
    | _ => false)
  | c, .lc2 _ own own2 g s t g2 s2 t2 e, x => (match x with
    | .ListComp elt [⟨tg, it, ifs, 0⟩, ⟨tg2, it2, ifs2, 0⟩] scope _ => blkC c.N c.sc scope (own.map fun i => (c.N.getD i "", i)) && (sC S c s tg it && (gC (c.blk scope) g tg && (decide (∀ i ∈ gix g, i ∈ own) && (otC S (c.blk scope) t ifs &&
        (decide (∀ i ∈ own2, i ∈ own) && (sC S (c.blk scope) s2 tg2 it2 && (gC (c.blk scope) g2 tg2 && (decide (∀ i ∈ gix g2, i ∈ own2) && (otC S (c.blk scope) t2 ifs2 && eC S (c.blk scope) e elt)))))))))
    | _ => false)
def esC (S : Tx) : Ck → Es → List Expr → Bool
  | _, .nil, xs => xs.isEmpty
  | c, .cons e es, xs => (match xs with
    | x :: xs => nst x && (eC S c e x && esC S c es xs)
    | [] => false)
def oC (S : Tx) : Ck → Eo → Option Expr → Bool
  | _, .none, x => x.isNone
  | c, .some e, x => (match x with
    | some y => eC S c e y
    | none => false)
def otC (S : Tx) : Ck → Eo → List Expr → Bool
  | _, .none, xs => xs.isEmpty
  | c, .some e, xs => (match xs with
    | [y] => eC S c e y
    | _ => false)
def sC (S : Tx) : Ck → Sr → Expr → Expr → Bool
  | c, .seq e, _, it => nset it && eC S c e it
  | c, .rng es, _, it => (match it with
    | .Call (.Name n _) xs [] _ => decide (n = ("range" : Str)) && (glC c n && (decide (xs.length = 1 ∨ xs.length = 2 ∨ xs.length = 3) && esC S c es xs))
    | _ => false)
  | c, .enum k es, tg, it => (match it with
    | .Call (.Name n _) xs [] _ => decide (n = ("enumerate" : Str)) && (glC c n && ((match tg with
      | .Tuple _ _ _ => true
      | _ => false) && (decide (k = 0) && (!xs.isEmpty && esC S c es xs))))
    | _ => false)
  | c, .zip es, tg, it => (match it with
    | .Call (.Name n _) xs [] _ => decide (n = ("zip" : Str)) && (glC c n && ((match tg with
      | .Tuple _ _ _ => true
      | _ => false) && (!xs.isEmpty && esC S c es xs)))
    | _ => false)
end
end Mi
end
section
/-! MiM: the readings of expressions, one by one. -/
namespace Mi
open PySem PySem.Spec PyProof.Rows L2
section
variable {X : L2.Cx} {k : Kx} {W : WX} {σ : L2.St} {H : Hp}
theorem bind_ok {α β : Type} {o : Out α} {f : α → Sto → Out β} {b : β} {s : Sto} (h : o.bind f = .ok b s) : ∃ a s1, o = .ok a s1 ∧ f a s1 = .ok b s := by
  cases o with
  | ok a s1 => exact ⟨a, s1, rfl, h⟩
  | exc x s1 => cases h
  | bad => cases h
/-- two values -/
theorem op_read {F : D → D → Sto → Out D} {f g : Env → Sto → Out D} (Q : VK) (h : cr (RV k) k W (fun env st => (f env st).bind fun x s1 => (g env s1).bind fun y s2 => F x y s2) σ H Q) : tOp (rF k F) (cr (RV k) k W f) (cr (RV k) k W g) σ H Q := by
  obtain ⟨r, env, st, hR, hE, hc⟩ := h
  refine cr_seq hR hE hc fun d s1 r1 H1 v x a b p hc1 => ?_
  exact cr_seq a b hc1 fun d2 s2 r2 H2 v2 x2 a2 b2 p2 hc2 => ⟨r2, s2, W, σ, d, d2, a2, p.ext x2 a, p2, hc2⟩
/-- the truth of a value -/
theorem tru_read {f : Env → Sto → Out D} (kK : k.K = X.K) (Q : Bool → Hp → Prop) (h : cr RB k W (fun env st => (f env st).bind fun x s1 => ofO (tru s1 x) s1) σ H Q) : cr (RV k) k W f σ H fun x H' => ∃ b, TruV X.K x H' b ∧ Q b H' := by
  obtain ⟨r, env, st, hR, hE, hc⟩ := h
  refine cr_seq hR hE hc fun d s1 r1 H1 v x a b p hc1 => ?_
  obtain ⟨c, e, hc2⟩ := hc1.ofO
  exact ⟨c, by rw [← kK]; exact tru_run p a e, hc2 r1 H1 c Ext.refl a rfl⟩
theorem it_val {x : Expr} {f : Env → Sto → Out D} (kK : k.K = X.K) (he : IE X k W x f) (hp : ptest x = true) : IT X k W x fun env st => (f env st).bind fun x s1 => ofO (tru s1 x) s1 := by
  refine PTi (pt_truth he ?_) fun σ H Q h => tru_read kK Q h
  intro whole
  cases x with
  | UnaryOp op y p => cases op <;> first | rfl | cases hp
  | BoolOp => cases hp
  | IfExp => cases hp
  | Compare => cases hp
  | _ => rfl
/-- .. of a bool -/
theorem bool_read {f : Env → Sto → Out D} (hb : ∀ env st d s, f env st = .ok d s → ∃ c, d = .bl c) (Q : Bool → Hp → Prop) (h : cr RB k W (fun env st => (f env st).bind fun x s1 => ofO (tru s1 x) s1) σ H Q) : cr (RV k) k W f σ H fun x H' => ∃ b, x = .bl b ∧ Q b H' := by
  obtain ⟨r, env, st, hR, hE, hc⟩ := h
  dsimp only at hc
  refine ⟨r, env, st, hR, hE, ?_⟩
  cases e : f env st with
  | bad => rw [e] at hc; exact hc
  | exc x s1 => rw [e] at hc; exact hc
  | ok d s1 =>
    rw [e] at hc
    obtain ⟨c, rfl⟩ := hb env st d s1 e
    intro r1 H1 v x a p
    cases p
    exact ⟨c, rfl, hc r1 H1 c x a rfl⟩

/-! ### the simplest -/
theorem ie_var {c : Ck} {i : Nat} {x : Str} {pos : Pos} (L : LX X c) (h : visC c i x = true) : IE X k W (.Name x pos) fun env st => match env[i]? with
    | some (some d) => .ok d st
    | _ => .bad := by
  obtain ⟨h1, h2, h3, h4⟩ := vis_of L h
  refine PEi (pe_var h1 h2 h3 h4) fun σ H Q h => ?_
  obtain ⟨r, env, st, hR, hE, hc⟩ := h
  dsimp only at hc
  split at hc
  · rename_i d e
    obtain ⟨v, e1, p⟩ := hE.has i d e
    exact ⟨v, e1, CP.now hc hR p⟩
  · exact hc.elim
theorem ie_cst {d : D} {q : Const} {j : Nat} {pos : Pos} (h : cstC d q = true) : IE X k W (.Constant q j pos) fun env st => .ok d st := by
  cases d with
  | non =>
    cases q <;> first | cases h | skip
    exact PEi pe_non fun σ H Q h => let ⟨r, env, st, hR, hE, hc⟩ := h; CP.now hc hR .non
  | bl b =>
    cases q <;> first | cases h | skip
    rename_i b'
    have e : b = b' := by simpa [cstC] using h
    subst e
    exact PEi pe_bl fun σ H Q h => let ⟨r, env, st, hR, hE, hc⟩ := h; CP.now hc hR (.bl _)
  | int i =>
    cases q <;> first | cases h | skip
    rename_i b'
    have e : i = b' := by simpa [cstC] using h
    subst e
    exact PEi pe_int fun σ H Q h => let ⟨r, env, st, hR, hE, hc⟩ := h; CP.now hc hR (.int _)
  | str x =>
    cases q <;> first | cases h | skip
    rename_i b'
    have e : x = b' := by simpa [cstC] using h
    subst e
    exact PEi pe_str fun σ H Q h => let ⟨r, env, st, hR, hE, hc⟩ := h; CP.now hc hR (.str _)
  | tup => cases q <;> cases h
  | fl => cases q <;> cases h
  | ref => cases q <;> cases h
  | dct => cases q <;> cases h
  | obj => cases q <;> cases h
theorem ie_glob {S : Sx} {c : Ck} {x : Str} {pos : Pos} (G : GX S c X W) (h : glC c x = true) : IE X S.k W (.Name x pos) fun env st => ofO (S.p.globs.lookup x) st := by
  obtain ⟨h1, h2⟩ := gl_of G.L h
  cases e : S.p.globs.lookup x with
  | none => exact ⟨fun pins s σ H Q I h => let ⟨r, env, st, hR, hE, hc⟩ := h; hc.elim⟩
  | some d =>
    obtain ⟨u, v, m, rv, p⟩ := G.M.glob x d e
    exact PEi (pe_glob h1 m rv h2) fun σ H Q h => let ⟨r, env, st, hR, hE, hc⟩ := h; CP.now hc hR (p r H)
theorem ie_tup {xs : List Expr} {n : Nat} {pos : Pos} {f : Env → Sto → Out (List D)} (ha : IA X k W xs f) : IE X k W (.Tuple xs n pos) fun env st => (f env st).bind mkT := by
  refine PEi (pe_tup ha) fun σ H Q h => ?_
  obtain ⟨r, env, st, hR, hE, hc⟩ := h
  exact cr_seq hR hE hc fun d s1 r1 H1 v x a b p hc1 => CP.newT a hc1 p
theorem ie_lst {xs : List Expr} {pos : Pos} {fz : Bool} {f : Env → Sto → Out (List D)} (ha : IA X k W xs f) : IE X k W (.List xs pos) fun env st => (f env st).bind (mkL fz) := by
  refine PEi (pe_lst ha) fun σ H Q h => ?_
  obtain ⟨r, env, st, hR, hE, hc⟩ := h
  exact cr_seq hR hE hc fun d s1 r1 H1 v x a b p hc1 => CP.newL a hc1 p
theorem ie_bin {fz : Bool} {o : Bop} {l y : Expr} {pos : Pos} {f g : Env → Sto → Out D} (kK : k.K = X.K) (ha : IE X k W l f) (hb : IE X k W y g) : IE X k W (.BinOp l (bop o) y pos) fun env st => (f env st).bind fun x s1 => (g env s1).bind fun y s2 => binD fz o x y s2 :=
  PEi (pe_op (opBin kK fz o) ha hb) fun σ H Q h => op_read (F := binD fz o) Q h
theorem ie_neg {y : Expr} {pos : Pos} {f : Env → Sto → Out D} (ha : IE X k W y f) : IE X k W (.UnaryOp .USub y pos) fun env st => (f env st).bind fun x s1 => match x with
    | .int i => .ok (.int (-i)) s1
    | _ => .bad := by
  refine PEi (pe_un un_neg ha) fun σ H Q h => ?_
  obtain ⟨r, env, st, hR, hE, hc⟩ := h
  refine cr_seq hR hE hc fun d s1 r1 H1 v x a b p hc1 => ?_
  cases p with
  | int i => exact ⟨i, rfl, CP.now hc1 a (.int _)⟩
  | _ => exact hc1.elim
/-! ### comparisons -/
theorem cmp_bl {o : Cop} {f g : Env → Sto → Out D} (env : Env) (st : Sto) (d : D) (s : Sto) (h : ((f env st).bind fun x s1 => (g env s1).bind fun y s2 => cmpD o x y s2) = .ok d s) : ∃ c, d = .bl c := by
  obtain ⟨x, s1, e1, e2⟩ := bind_ok h
  obtain ⟨y, s2, e3, e4⟩ := bind_ok e2
  obtain ⟨c, e5, _⟩ := cmpD_bl e4
  exact ⟨c, e5⟩
theorem ie_cmp {o : Cop} {l y : Expr} {pos : Pos} {f g : Env → Sto → Out D} (kK : k.K = X.K) (hu : X.A.units + 65 < cLine) (hm : behindInMarks (cop o) y = false) (ha : IE X k W l f) (hb : IE X k W y g) :
    IE X k W (.Compare l [cop o] [y] pos) (fun env st => (f env st).bind fun x s1 => (g env s1).bind fun y s2 => cmpD o x y s2) ∧
    IT X k W (.Compare l [cop o] [y] pos) fun env st => ((f env st).bind fun x s1 => (g env s1).bind fun y s2 => cmpD o x y s2).bind fun x s1 => ofO (tru s1 x) s1 :=
  ⟨PEi (pe_cmpR (opCmp kK hu o) ha hb hm) fun σ H Q h => op_read (F := cmpD o) Q h,
    PTi (pt_cmpR (opCmp kK hu o) ha hb hm) fun σ H Q h => op_read (F := cmpD o) _ (bool_read cmp_bl Q h)⟩
theorem ie_isN {l : Expr} {j : Nat} {p2 pos : Pos} {f : Env → Sto → Out D} (ha : IE X k W l f) :
    IE X k W (.Compare l [.Is] [.Constant .none j p2] pos) (fun env st => (f env st).bind fun x s1 => .ok (.bl (match x with
      | .non => true
      | _ => false)) s1) ∧
    IT X k W (.Compare l [.Is] [.Constant .none j p2] pos) fun env st => ((f env st).bind fun x s1 => .ok (.bl (match x with
      | .non => true
      | _ => false)) s1).bind fun x s1 => ofO (tru s1 x) s1 := by
  have rd : ∀ σ H (Q : VK), cr (RV k) k W (fun env st => (f env st).bind fun x s1 => .ok (.bl (match x with
      | .non => true
      | _ => false)) s1) σ H Q → tIsN (cr (RV k) k W f) σ H Q := fun σ H Q h => by
    obtain ⟨r, env, st, hR, hE, hc⟩ := h
    refine cr_seq hR hE hc fun d s1 r1 H1 v x a b p hc1 => ?_
    cases p with
    | non => exact CP.now hc1 a (.bl true)
    | bl => exact CP.now hc1 a (.bl false)
    | int => exact CP.now hc1 a (.bl false)
    | str => exact CP.now hc1 a (.bl false)
    | tup => exact CP.now hc1 a (.bl false)
    | fl => exact CP.now hc1 a (.bl false)
    | ref => exact CP.now hc1 a (.bl false)
    | dct => exact CP.now hc1 a (.bl false)
    | obj => exact CP.now hc1 a (.bl false)
  exact ⟨PEi (pe_cmp (pc_isN ha)) rd, PTi (pt_cmp (pc_isN ha)) fun σ H Q h => rd σ H _ (bool_read (fun env st d s e => by
    obtain ⟨x, s1, e1, e2⟩ := bind_ok e
    cases e2
    exact ⟨_, rfl⟩) Q h)⟩
theorem ie_notN {l : Expr} {j : Nat} {p2 pos : Pos} {f : Env → Sto → Out D} (ha : IE X k W l f) :
    IE X k W (.Compare l [.IsNot] [.Constant .none j p2] pos) (fun env st => (f env st).bind fun x s1 => .ok (.bl (match x with
      | .non => false
      | _ => true)) s1) ∧
    IT X k W (.Compare l [.IsNot] [.Constant .none j p2] pos) fun env st => ((f env st).bind fun x s1 => .ok (.bl (match x with
      | .non => false
      | _ => true)) s1).bind fun x s1 => ofO (tru s1 x) s1 := by
  have rd : ∀ σ H (Q : VK), cr (RV k) k W (fun env st => (f env st).bind fun x s1 => .ok (.bl (match x with
      | .non => false
      | _ => true)) s1) σ H Q → tNotN (cr (RV k) k W f) σ H Q := fun σ H Q h => by
    obtain ⟨r, env, st, hR, hE, hc⟩ := h
    refine cr_seq hR hE hc fun d s1 r1 H1 v x a b p hc1 => ?_
    cases p with
    | non => exact CP.now hc1 a (.bl false)
    | bl => exact CP.now hc1 a (.bl true)
    | int => exact CP.now hc1 a (.bl true)
    | str => exact CP.now hc1 a (.bl true)
    | tup => exact CP.now hc1 a (.bl true)
    | fl => exact CP.now hc1 a (.bl true)
    | ref => exact CP.now hc1 a (.bl true)
    | dct => exact CP.now hc1 a (.bl true)
    | obj => exact CP.now hc1 a (.bl true)
  exact ⟨PEi (pe_cmp (pc_notN ha)) rd, PTi (pt_cmp (pc_notN ha)) fun σ H Q h => rd σ H _ (bool_read (fun env st d s e => by
    obtain ⟨x, s1, e1, e2⟩ := bind_ok e
    cases e2
    exact ⟨_, rfl⟩) Q h)⟩
theorem ie_chain {o p : Cop} {l m y : Expr} {pos : Pos} {f g e : Env → Sto → Out D} (kK : k.K = X.K) (hu : X.A.units + 65 < cLine) (hm : lastMarks [cop o, cop p] [m, y] = false) (ha : IE X k W l f) (hb : IE X k W m g) (hd : IE X k W y e) :
    IE X k W (.Compare l [cop o, cop p] [m, y] pos) (fun env st => (f env st).bind fun x s1 => (g env s1).bind fun y s2 => (cmpD o x y s2).bind fun r s3 => match r with
      | .bl true => (e env s3).bind fun z s4 => cmpD p y z s4
      | .bl false => .ok (.bl false) s3
      | _ => .bad) ∧
    IT X k W (.Compare l [cop o, cop p] [m, y] pos) fun env st => ((f env st).bind fun x s1 => (g env s1).bind fun y s2 => (cmpD o x y s2).bind fun r s3 => match r with
      | .bl true => (e env s3).bind fun z s4 => cmpD p y z s4
      | .bl false => .ok (.bl false) s3
      | _ => .bad).bind fun x s1 => ofO (tru s1 x) s1 := by
  have rd : ∀ σ H (Q : VK), cr (RV k) k W (fun env st => (f env st).bind fun x s1 => (g env s1).bind fun y s2 => (cmpD o x y s2).bind fun r s3 => match r with
      | .bl true => (e env s3).bind fun z s4 => cmpD p y z s4
      | .bl false => .ok (.bl false) s3
      | _ => .bad) σ H Q → tChain (rF k (cmpD o)) (rF k (cmpD p)) (cr (RV k) k W f) (cr (RV k) k W g) (cr (RV k) k W e) σ H Q := fun σ H Q h => by
    obtain ⟨r, env, st, hR, hE, hc⟩ := h
    refine cr_seq hR hE hc fun d s1 r1 H1 v x a b q hc1 => ?_
    refine cr_seq a b hc1 fun d2 s2 r2 H2 v2 x2 a2 b2 q2 hc2 => ⟨r2, s2, W, σ, d, d2, a2, q.ext x2 a, q2, ?_⟩
    cases ec : cmpD o d d2 s2 with
    | bad => rw [ec] at hc2; exact hc2.elim
    | exc z s3 => exact absurd ec cmpD_noexc
    | ok z s3 =>
      rw [ec] at hc2
      obtain ⟨c, rfl, rfl⟩ := cmpD_bl ec
      intro r3 H3 v3 x3 a3 q3
      cases q3
      refine ⟨c, rfl, ?_⟩
      cases c with
      | false =>
        rw [if_neg Bool.false_ne_true]
        exact CP.now (CP.mono hc2 x3) a3 (.bl false)
      | true =>
        rw [if_pos rfl]
        have hc3 : CP (RV k) k W σ r3 H3 ((e env s3).bind fun z s4 => cmpD p d2 z s4) Q := CP.mono hc2 x3
        exact cr_seq a3 (b2.ext x3 a2) hc3 fun d4 s4 r4 H4 v4 x4 a4 b4 q4 hc4 => ⟨r4, s4, W, σ, d2, d4, a4, q2.ext (x3.trans x4) a2, q4, hc4⟩
  refine ⟨PEi (pe_chain (opCmp kK hu o) (opCmp kK hu p) ha hb hd hm) rd, PTi (pt_chain (opCmp kK hu o) (opCmp kK hu p) ha hb hd hm) fun σ H Q h => rd σ H _ (bool_read (fun env st d s q => ?_) Q h)⟩
  obtain ⟨x, s1, e1, e2⟩ := bind_ok q
  obtain ⟨y, s2, e3, e4⟩ := bind_ok e2
  obtain ⟨z, s3, e5, e6⟩ := bind_ok e4
  obtain ⟨c, rfl, rfl⟩ := cmpD_bl e5
  cases c with
  | false => cases e6; exact ⟨_, rfl⟩
  | true =>
    obtain ⟨u, s4, e7, e8⟩ := bind_ok (show ((e env s3).bind fun z s4 => cmpD p y z s4) = .ok d s from e6)
    obtain ⟨c, e9, _⟩ := cmpD_bl e8
    exact ⟨c, e9⟩
/-! ### and, or, not, if -/
theorem pw_bool {op : BoolOp} {vs : List Expr} {pos : Pos} {t : TT} (h : PT X (.BoolOp op vs pos) t) : PW X (.BoolOp op vs pos) t := ⟨fun whole pins s σ H Q I q => h.run pins s σ H Q I q⟩
section
variable {a b : Expr} {rest : List Expr} {pos : Pos} {fv gv : Env → Sto → Out D} {ft gt : Env → Sto → Out Bool}
theorem and_v (kK : k.K = X.K) (ha : IE X k W a fv) (hb : IE X k W (.BoolOp .And (b :: rest) pos) gv) : IE X k W (.BoolOp .And (a :: b :: rest) pos) fun env st => (fv env st).bind fun x s1 => match tru s1 x with
    | some true => gv env s1
    | some false => .ok x s1
    | none => .bad := by
  refine PEi (pe_andT ha hb) fun σ H Q h => ?_
  obtain ⟨r, env, st, hR, hE, hc⟩ := h
  refine cr_seq hR hE hc fun d s1 r1 H1 v x a b p hc1 => ?_
  cases e : tru s1 d with
  | none => rw [e] at hc1; exact hc1.elim
  | some c =>
    rw [e] at hc1
    refine ⟨c, by rw [← kK]; exact tru_run p a e, ?_⟩
    cases c with
    | true => rw [if_pos rfl]; exact ⟨r1, env, s1, a, b, hc1⟩
    | false => rw [if_neg Bool.false_ne_true]; exact CP.now hc1 a p
theorem or_v (kK : k.K = X.K) (ha : IE X k W a fv) (hb : IE X k W (.BoolOp .Or (b :: rest) pos) gv) : IE X k W (.BoolOp .Or (a :: b :: rest) pos) fun env st => (fv env st).bind fun x s1 => match tru s1 x with
    | some false => gv env s1
    | some true => .ok x s1
    | none => .bad := by
  refine PEi (pe_orT ha hb) fun σ H Q h => ?_
  obtain ⟨r, env, st, hR, hE, hc⟩ := h
  refine cr_seq hR hE hc fun d s1 r1 H1 v x a b p hc1 => ?_
  cases e : tru s1 d with
  | none => rw [e] at hc1; exact hc1.elim
  | some c =>
    rw [e] at hc1
    refine ⟨c, by rw [← kK]; exact tru_run p a e, ?_⟩
    cases c with
    | true => rw [if_pos rfl]; exact CP.now hc1 a p
    | false => rw [if_neg Bool.false_ne_true]; exact ⟨r1, env, s1, a, b, hc1⟩
theorem and_t (ha : IT X k W a ft) (hb : IT X k W (.BoolOp .And (b :: rest) pos) gt) : IT X k W (.BoolOp .And (a :: b :: rest) pos) fun env st => (ft env st).bind fun k s1 => match k with
    | true => gt env s1
    | false => .ok false s1 := by
  refine PTi (pw_and ha (pw_bool hb)).pt fun σ H Q h => ?_
  obtain ⟨r, env, st, hR, hE, hc⟩ := h
  refine cr_seq (R := RB) hR hE hc fun d s1 r1 H1 v x a b p hc1 => ?_
  subst p
  cases v with
  | true => rw [if_pos rfl]; exact ⟨r1, env, s1, a, b, hc1⟩
  | false => rw [if_neg Bool.false_ne_true]; exact hc1 r1 H1 false Ext.refl a rfl
theorem or_t (ha : IT X k W a ft) (hb : IT X k W (.BoolOp .Or (b :: rest) pos) gt) : IT X k W (.BoolOp .Or (a :: b :: rest) pos) fun env st => (ft env st).bind fun k s1 => match k with
    | true => .ok true s1
    | false => gt env s1 := by
  refine PTi (pw_or ha (pw_bool hb)).pt fun σ H Q h => ?_
  obtain ⟨r, env, st, hR, hE, hc⟩ := h
  refine cr_seq (R := RB) hR hE hc fun d s1 r1 H1 v x a b p hc1 => ?_
  subst p
  cases v with
  | true => rw [if_pos rfl]; exact hc1 r1 H1 true Ext.refl a rfl
  | false => rw [if_neg Bool.false_ne_true]; exact ⟨r1, env, s1, a, b, hc1⟩
theorem one_v {op : BoolOp} (ha : IE X k W a fv) : IE X k W (.BoolOp op [a] pos) fv := pe_one ha
theorem one_t {op : BoolOp} (ha : IT X k W a ft) : IT X k W (.BoolOp op [a] pos) ft := by
  cases op with
  | And => exact (pw_and1 ha).pt
  | Or => exact (pw_or1 ha).pt
theorem not_v (kK : k.K = X.K) (ha : IE X k W a fv) : IE X k W (.UnaryOp .Not a pos) fun env st => (fv env st).bind fun x s1 => ofO ((tru s1 x).map fun c => .bl !c) s1 := by
  refine PEi (pe_notT ha) fun σ H Q h => ?_
  obtain ⟨r, env, st, hR, hE, hc⟩ := h
  refine cr_seq hR hE hc fun d s1 r1 H1 v x a b p hc1 => ?_
  obtain ⟨z, e, hc2⟩ := CP.ofO (o := (tru s1 d).map fun c => D.bl !c) hc1
  obtain ⟨c, e1, rfl⟩ := Option.map_eq_some_iff.mp e
  exact ⟨c, by rw [← kK]; exact tru_run p a e1, CP.now hc2 a (.bl _)⟩
theorem not_t (ha : IT X k W a ft) : IT X k W (.UnaryOp .Not a pos) fun env st => (ft env st).bind fun k s1 => .ok (!k) s1 := by
  refine PTi (pt_not ha) fun σ H Q h => ?_
  obtain ⟨r, env, st, hR, hE, hc⟩ := h
  refine cr_seq (R := RB) hR hE hc fun d s1 r1 H1 v x a b p hc1 => ?_
  subst p
  exact hc1 r1 H1 (!v) Ext.refl a rfl
theorem ite_v {c : Expr} (hc : IT X k W c ft) (ha : IE X k W a fv) (hb : IE X k W b gv) : IE X k W (.IfExp c a b pos) fun env st => (ft env st).bind fun k s1 => match k with
    | true => fv env s1
    | false => gv env s1 := by
  refine PEi (pe_ifExp hc ha hb) fun σ H Q h => ?_
  obtain ⟨r, env, st, hR, hE, hc⟩ := h
  refine cr_seq (R := RB) hR hE hc fun d s1 r1 H1 v x a b p hc1 => ?_
  subst p
  cases v with
  | true => rw [if_pos rfl]; exact ⟨r1, env, s1, a, b, hc1⟩
  | false => rw [if_neg Bool.false_ne_true]; exact ⟨r1, env, s1, a, b, hc1⟩
theorem ite_t {c : Expr} {f2 : Env → Sto → Out Bool} (hc : IT X k W c ft) (ha : IT X k W a gt) (hb : IT X k W b f2) : IT X k W (.IfExp c a b pos) fun env st => (ft env st).bind fun k s1 => match k with
    | true => gt env s1
    | false => f2 env s1 := by
  refine ⟨fun pins s σ H Q I h => ?_⟩
  show wpAny (model X.prog X.w) X.A (isTrue c X.env (eval c X.env) >>= fun b1 => if b1 = true then isTrue a X.env (eval a X.env) else isTrue b X.env (eval b X.env)) _ _ _
  obtain ⟨r, env, st, hR, hE, hc'⟩ := h
  refine wpAny_bind (thn (hc.run pins s σ H (fun b1 H1 => ∃ r1 s1, RelH k.K r1 s1 H1 ∧ RelE k.K r1 H1 env σ ∧ CP RB k W σ r1 H1 (match b1 with
    | true => gt env s1
    | false => f2 env s1) Q) I (cr_seq (R := RB) hR hE hc' fun d s1 r1 H1 v x a b p hc1 => ?_)) fun b1 s1 ⟨H1, I1, r1, st1, hR1, hE1, hc1⟩ => ?_)
  · subst p
    exact ⟨r1, s1, a, b, hc1⟩
  · cases b1 with
    | true =>
      rw [if_pos rfl]
      exact ha.run pins s1 σ H1 Q I1 ⟨r1, env, st1, hR1, hE1, hc1⟩
    | false =>
      rw [if_neg Bool.false_ne_true]
      exact hb.run pins s1 σ H1 Q I1 ⟨r1, env, st1, hR1, hE1, hc1⟩
end
end
end Mi
end
section
/-! MiN: the readings of subscripts, calls, methods, comprehensions. -/
namespace Mi
open PySem PySem.Spec PyProof.Rows L2
section
variable {S : Sx} {c : Ck} {X : L2.Cx} {k : Kx} {W : WX} {σ : L2.St} {H : Hp} {a b : Expr} {pos : Pos} {f g : Env → Sto → Out D}
theorem plain_ix {b : Expr} (h : nsl b = true) : PlainIx b := by
  intro o i
  cases b with
  | Slice => cases h
  | _ => rfl
theorem ie_ix (kK : k.K = X.K) (h : nsl b = true) (ha : IE X k W a f) (hb : IE X k W b g) : IE X k W (.Subscript a b pos) fun env st => (f env st).bind fun x s1 => (g env s1).bind fun y s2 => ixD x y s2 :=
  PEi (pe_ix (ixOp kK) ha hb (plain_ix h)) fun σ H Q h => op_read (F := ixD) Q h
/-- an optional bound -/
abbrev RO : Rg → Hp → Option Int → Option Int → Prop := fun _ _ v d => v = d
abbrev PartOk (X : L2.Cx) (k : Kx) (W : WX) (x : Option Expr) (f : Env → Sto → Out (Option D)) : Prop := PO X x (cr RO k W fun env st => (f env st).bind intB)
theorem POi {x : Option Expr} {t t' : TO} (h : PO X x t) (w : ∀ σ H Q, t' σ H Q → t σ H Q) : PO X x t' := ⟨fun pins s σ H Q I q => h.run pins s σ H Q I (w _ _ _ q)⟩
theorem part_none : PartOk X k W none fun _ st => .ok none st := POi po_none fun σ H Q h => by
  obtain ⟨r, env, st, hR, hE, hc⟩ := h
  exact hc r H none Ext.refl hR rfl
theorem part_some (ha : IE X k W a f) : PartOk X k W (some a) fun env st => (f env st).bind fun x s1 => .ok (some x) s1 := POi (po_some ha) fun σ H Q h => by
  obtain ⟨r, env, st, hR, hE, hc⟩ := h
  dsimp only at hc
  refine ⟨r, env, st, hR, hE, ?_⟩
  cases e : f env st with
  | exc x s1 => rw [e] at hc; exact hc
  | bad => rw [e] at hc; exact hc
  | ok d s1 =>
    rw [e] at hc
    intro r1 H1 v x a p
    cases p with
    | int i => exact ⟨i, rfl, hc r1 H1 (some i) x a rfl⟩
    | _ => exact hc.elim
theorem ie_sl {lo hi : Option Expr} {p2 : Pos} {fl fh : Env → Sto → Out (Option D)} (kK : k.K = X.K) (ha : IE X k W a f) (hl : PartOk X k W lo fl) (hh : PartOk X k W hi fh) :
    IE X k W (.Subscript a (.Slice lo hi none p2) pos) fun env st => (f env st).bind fun x s1 => ((fl env s1).bind intB).bind fun l s2 => ((fh env s2).bind intB).bind fun h s3 => slD x l h s3 := by
  refine PEi (pe_slice (slOp kK) ha hl hh) fun σ H Q h => ?_
  obtain ⟨r, env, st, hR, hE, hc⟩ := h
  refine cr_seq hR hE hc fun d s1 r1 H1 v x a b p hc1 => ?_
  refine cr_seq (R := RO) a b hc1 fun l s2 r2 H2 v2 x2 a2 b2 p2 hc2 => ?_
  refine cr_seq (R := RO) a2 b2 hc2 fun h s3 r3 H3 v3 x3 a3 b3 p3 hc3 => ?_
  subst p2 p3
  exact ⟨r3, s3, W, σ, d, a3, p.ext (x2.trans x3) a, hc3⟩

/-! ### built-in functions -/
def biV : Bi → Value
  | .len => .builtin "len" | .sum => .builtin "sum" | .all => .builtin "all" | .any => .builtin "any" | .abs => .builtin "abs" | .int => .type "int" | .list => .type "list" | .tuple => .type "tuple" | .str => .type "str"
  | .max => .builtin "max" | .min => .builtin "min" | .sorted => .builtin "sorted" | .divmod => .builtin "divmod" | .gcd => .builtin "math.gcd"
theorem bi_rule (kK : k.K = X.K) (hc : X.calm = true) (hu : X.A.units + 65 < cLine) (fz : Bool) (b : Bi) (h : biHas b = true) : CallR X (biV b) (rBi k (biD fz b)) := by
  cases b with
  | len => exact bi_len kK fz
  | sum => exact bi_sum kK hc fz
  | all => exact bi_all hc fz
  | any => exact bi_any hc fz
  | abs => exact bi_abs fz
  | int => exact bi_int fz
  | list => exact bi_list kK fz
  | tuple => exact bi_tuple kK fz
  | str => exact bi_str fz
  | max => exact bi_max kK hc hu fz
  | min => exact bi_min kK hc hu fz
  | sorted => exact bi_sorted kK hu fz
  | divmod => exact bi_divmod fz
  | gcd => exact bi_gcd fz
theorem bi_boot : ∀ b : Bi, b ≠ .gcd → bootBuiltins (biS b) = some (biV b) ∧ biS b ∈ bltN ∧ biS b ≠ "__name__" ∧ (biS b == ("__debug__" : Str)) = false := by
  intro b h
  cases b <;> first | exact absurd rfl h | decide +kernel
theorem cb_read {xs : List Expr} {fs : Env → Sto → Out (List D)} {F : List D → Sto → Out D} (Q : VK) (h : cr (RV k) k W (fun env st => (fs env st).bind fun ds s1 => F ds s1) σ H Q) : tCB (rBi k F) (cr (RVs k) k W fs) σ H Q := by
  obtain ⟨r, env, st, hR, hE, hc⟩ := h
  exact cr_seq hR hE hc fun d s1 r1 H1 v x a b p hc1 => ⟨r1, s1, W, σ, d, a, p, hc1⟩
theorem ie_bi (G : GX S c X W) {bi : Bi} {fz : Bool} {xs : List Expr} {p : Pos} {fs : Env → Sto → Out (List D)} (h1 : glC c (biS bi) = true) (h2 : biHas bi = true) (hs : ∀ e ∈ xs, nst e = true) (hx : xs ≠ []) (hgc : S.ug = true ∨ bi ≠ .gcd) (ha : IA X S.k W xs fs) :
    IE X S.k W (.Call (.Name (biS bi) p) xs [] pos) fun env st => (fs env st).bind fun ds s1 => biD fz bi ds s1 := by
  obtain ⟨g1, g2⟩ := gl_of G.L h1
  have rule := bi_rule G.kK G.L.calm (by have := G.room.un; omega) fz bi h2
  match xs, hx, hs, ha with
  | e :: es, _, hs, ha =>
    have st1 := star_cons (env := X.env) (es := es) (hs e List.mem_cons_self)
    have st2 : (backTo pos (starEach es X.env)).any (·.1) = false := star_any fun y hy => hs y (List.mem_cons_of_mem _ hy)
    by_cases hb : bi = .gcd
    · subst hb
      have ug : S.ug = true := hgc.elim id fun z => absurd rfl z
      exact PEi (pe_callBfun (id := "math.gcd") rule g1 (G.M.gcd ug) ha g2 st1 st2) fun σ H Q h => cb_read (xs := e :: es) Q h
    · obtain ⟨b1, b2, b3, b4⟩ := bi_boot bi hb
      have hm := G.M.blt _ b2
      cases bi with
      | gcd => exact absurd rfl hb
      | int => exact PEi (pe_callTy (T := "int") rule g1 hm b1 ha b3 b4 st1 st2) fun σ H Q h => cb_read (xs := e :: es) Q h
      | list => exact PEi (pe_callTy (T := "list") rule g1 hm b1 ha b3 b4 st1 st2) fun σ H Q h => cb_read (xs := e :: es) Q h
      | tuple => exact PEi (pe_callTy (T := "tuple") rule g1 hm b1 ha b3 b4 st1 st2) fun σ H Q h => cb_read (xs := e :: es) Q h
      | str => exact PEi (pe_callTy (T := "str") rule g1 hm b1 ha b3 b4 st1 st2) fun σ H Q h => cb_read (xs := e :: es) Q h
      | len => exact PEi (pe_callB (id := "len") rule g1 hm b1 ha b3 b4 st1 st2) fun σ H Q h => cb_read (xs := e :: es) Q h
      | sum => exact PEi (pe_callB (id := "sum") rule g1 hm b1 ha b3 b4 st1 st2) fun σ H Q h => cb_read (xs := e :: es) Q h
      | all => exact PEi (pe_callB (id := "all") rule g1 hm b1 ha b3 b4 st1 st2) fun σ H Q h => cb_read (xs := e :: es) Q h
      | any => exact PEi (pe_callB (id := "any") rule g1 hm b1 ha b3 b4 st1 st2) fun σ H Q h => cb_read (xs := e :: es) Q h
      | abs => exact PEi (pe_callB (id := "abs") rule g1 hm b1 ha b3 b4 st1 st2) fun σ H Q h => cb_read (xs := e :: es) Q h
      | max => exact PEi (pe_callB (id := "max") rule g1 hm b1 ha b3 b4 st1 st2) fun σ H Q h => cb_read (xs := e :: es) Q h
      | min => exact PEi (pe_callB (id := "min") rule g1 hm b1 ha b3 b4 st1 st2) fun σ H Q h => cb_read (xs := e :: es) Q h
      | sorted => exact PEi (pe_callB (id := "sorted") rule g1 hm b1 ha b3 b4 st1 st2) fun σ H Q h => cb_read (xs := e :: es) Q h
      | divmod => exact PEi (pe_callB (id := "divmod") rule g1 hm b1 ha b3 b4 st1 st2) fun σ H Q h => cb_read (xs := e :: es) Q h

/-! ### isinstance -/
theorem ty_boot : ∀ t : Ty, bootBuiltins (Str.ofString (tyS t)) = some (.type (tyS t)) ∧ Str.ofString (tyS t) ∈ bltN ∧ Str.ofString (tyS t) ≠ "__name__" := by
  intro t
  cases t <;> decide +kernel
theorem ie_ty (G : GX S c X W) {t : Ty} {z : Expr} (h : tyC c t z = true) : PE X z (tC (.ty (tyS t))) ∧ nst z = true := by
  cases z with
  | Name n p =>
    have h : (decide (n = Str.ofString (tyS t)) && glC c n) = true := h
    simp only [Bool.and_eq_true, decide_eq_true_eq] at h
    obtain ⟨rfl, h2⟩ := h
    obtain ⟨g1, g2⟩ := gl_of G.L h2
    obtain ⟨b1, b2, b3⟩ := ty_boot t
    exact ⟨pe_bltn g1 (G.M.blt _ b2) b1 rfl b3 g2, rfl⟩
  | _ => cases h
def tTys : List Ty → TA
  | [] => tNil
  | t :: ts => tCons (tC (.ty (tyS t))) (tTys ts)
theorem ie_tys (G : GX S c X W) : ∀ (ts : List Ty) (zs : List Expr), tysC c ts zs = true → PA X zs (tTys ts)
  | [], zs, h => by
    cases zs with
    | nil => exact pa_nil
    | cons => cases h
  | t :: ts, [], h => by cases h
  | t :: ts, z :: zs, h => by
    have h : (tyC c t z && tysC c ts zs) = true := h
    rw [Bool.and_eq_true] at h
    obtain ⟨h1, h2⟩ := ie_ty G h.1
    exact pa_cons h1 (ie_tys G ts zs h.2) (star_cons h2)
theorem tTys_run : ∀ (ts : List Ty) (σ : L2.St) (H : Hp) (Q : List V → Hp → Prop), Q (ts.map fun t => V.ty (tyS t)) H → tTys ts σ H Q
  | [], σ, H, Q, h => h
  | t :: ts, σ, H, Q, h => tTys_run ts σ H (fun xs H2 => Q (V.ty (tyS t) :: xs) H2) h
theorem isi_boot : bootBuiltins ("isinstance" : Str) = some (.builtin "isinstance") := by decide +kernel
theorem ie_isi1 (G : GX S c X W) {t : Ty} {y z : Expr} {p : Pos} (h1 : glC c "isinstance" = true) (hy : nst y = true) (hz : tyC c t z = true) (ha : IE X S.k W y f) :
    IE X S.k W (.Call (.Name "isinstance" p) [y, z] [] pos) fun env st => (f env st).bind fun x s1 => .ok (.bl ([t].any (isTy x))) s1 := by
  obtain ⟨g1, g2⟩ := gl_of G.L h1
  obtain ⟨e1, e2⟩ := ie_ty G hz
  refine PEi (pe_callB (call_isi (X := X)) g1 (G.M.blt _ (by decide +kernel)) isi_boot (pa_cons ha (pa_cons e1 pa_nil (star_cons e2)) (star_cons hy)) (by decide +kernel) g2 (star_cons hy) (star_any fun w hw => by simp at hw; rw [hw]; exact e2)) fun σ H Q h => ?_
  obtain ⟨r, env, st, hR, hE, hc⟩ := h
  refine cr_seq hR hE hc fun d s1 r1 H1 v x a b q hc1 => ?_
  refine isi_one G.kK a q ?_
  have := CP.now hc1 a (.bl _)
  simpa using this
theorem ie_isiN (G : GX S c X W) {ts : List Ty} {y : Expr} {zs : List Expr} {n : Nat} {p p2 : Pos} (h1 : glC c "isinstance" = true) (hy : nst y = true) (hz : tysC c ts zs = true) (hl : ts.length ≤ 100) (ha : IE X S.k W y f) :
    IE X S.k W (.Call (.Name "isinstance" p) [y, .Tuple zs n p2] [] pos) fun env st => (f env st).bind fun x s1 => .ok (.bl (ts.any (isTy x))) s1 := by
  obtain ⟨g1, g2⟩ := gl_of G.L h1
  refine PEi (pe_callB (call_isiT (X := X)) g1 (G.M.blt _ (by decide +kernel)) isi_boot (pa_cons ha (pa_cons (pe_tup (ie_tys G ts zs hz)) pa_nil rfl) (star_cons hy)) (by decide +kernel) g2 (star_cons hy) rfl) fun σ H Q h => ?_
  obtain ⟨r, env, st, hR, hE, hc⟩ := h
  refine cr_seq hR hE hc fun d s1 r1 H1 v x a b q hc1 => ?_
  refine tTys_run ts _ _ _ ⟨by simp only [List.length_map]; exact Nat.le_trans hl (by decide), fun tp htp => ?_⟩
  have e : Ext r1 H1 r1 (upd H1 tp (.tup (ts.map fun t => V.ty (tyS t)))) := Ext.new htp
  exact isi_many G.kK (a.ext_new htp) (q.ext e a) upd_same (hc1 r1 _ _ e (a.ext_new htp) (.bl _))

/-! ### methods -/
theorem base_at {o : Expr} {env : PySem.Env} {nm : Str} {w : Sem Value} (h : ncall o = true) : attributeBase o nm env w = w := by
  cases o with
  | Call => cases h
  | _ => rfl
theorem star_all {es : List Expr} {env : PySem.Env} {pos : Pos} (h : ∀ e ∈ es, nst e = true) : (backTo pos (starEach es env)).all (fun x => !x.1) = true := by
  induction es with
  | nil => rfl
  | cons e es ih =>
    rw [star_cons (h e List.mem_cons_self)]
    show (!false && (backTo pos (starEach es env)).all (fun x => !x.1)) = true
    rw [ih fun x hx => h x (List.mem_cons_of_mem _ hx)]
    rfl
def mtI : Mt → String
  | .append => "list.append" | .extend => "list.extend" | .pop => "list.pop" | .popAt => "list.pop" | .insert => "list.insert" | .index => "list.index" | .split => "str.split" | .join => "str.join"
def mtT : Mt → String
  | .split => "str" | .join => "str" | _ => "list"
theorem mt_rule (kK : k.K = X.K) (m : Mt) (n : Nat) (fz : Bool) (h : mtHas m n = true) : MtR X (mtI m) (rMt k (mtD fz m)) := by
  cases m with
  | append => exact mt_app fz
  | extend => exact mt_ext fz kK
  | pop => exact mt_pop0 fz
  | popAt => exact mt_popI fz
  | insert => exact mt_ins fz
  | _ => cases h
theorem mt_slot (m : Mt) : PlainAttrs (mtT m) ∧ Slot (mtT m) (mtS m) (mtI m) ∧ typeOf (.builtin (mtI m)) = pure (.type "method_descriptor") := by
  cases m with
  | append => exact ⟨F.plainAttrs_list, F.slot_list_append, F.type_list_append⟩
  | extend => exact ⟨F.plainAttrs_list, F.slot_list_extend, F.type_list_extend⟩
  | pop => exact ⟨F.plainAttrs_list, F.slot_list_pop, F.type_list_pop⟩
  | popAt => exact ⟨F.plainAttrs_list, F.slot_list_pop, F.type_list_pop⟩
  | insert => exact ⟨F.plainAttrs_list, F.slot_list_insert, F.type_list_insert⟩
  | index => exact ⟨F.plainAttrs_list, F.slot_list_index, F.type_list_index⟩
  | split => exact ⟨F.plainAttrs_str, F.slot_str_split, F.type_str_split⟩
  | join => exact ⟨F.plainAttrs_str, F.slot_str_join, F.type_str_join⟩
theorem mt_ty {K : PySem.W.Frag} {r : Rg} {st : Sto} {v : V} {d : D} {m : Mt} (hR : RelH K r st H) (p : Rep K r H v d) (h : mtOk m d = true) : tyV K (mtT m) v H := by
  have key : isLst d = true → tyV K "list" v H := fun h => tyV_lst hR p h
  cases m with
  | split =>
    cases p with
    | str x => rfl
    | _ => cases h
  | join =>
    cases p with
    | str x => rfl
    | _ => cases h
  | _ => exact key h
theorem ie_mth0 (kK : k.K = X.K) {m : Mt} {fz : Bool} {o : Expr} {ap : Pos} (h1 : ncall o = true) (h2 : (ap.endLine == pos.line) = true) (h4 : mtHas m 0 = true) (ho : IE X k W o f) :
    IE X k W (.Call (.Attribute o (mtS m) ap) [] [] pos) fun env st => (f env st).bind fun x s1 => if mtOk m x then mtD fz m x [] s1 else .bad := by
  obtain ⟨b1, b2, b3⟩ := mt_slot m
  refine PEi (pe_bm0 b1 b2 b3 (mt_rule (k := k) kK m 0 fz h4) ho (base_at h1) h2) fun σ H Q h => ?_
  obtain ⟨r, env, st, hR, hE, hc⟩ := h
  refine cr_seq hR hE hc fun d s1 r1 H1 v x a b p hc1 => ?_
  split at hc1
  · rename_i hm
    exact ⟨by rw [← kK]; exact mt_ty a p hm, r1, s1, W, σ, d, [], a, p, .nil, hc1⟩
  · exact hc1.elim
theorem ie_mth (kK : k.K = X.K) {m : Mt} {fz : Bool} {o e : Expr} {es : List Expr} {ap : Pos} {fs : Env → Sto → Out (List D)} (h1 : ncall o = true) (h2 : (ap.endLine == pos.line) = true) (h3 : (e :: es).length < 29) (h4 : mtHas m (e :: es).length = true) (hs : ∀ x ∈ e :: es, nst x = true) (ho : IE X k W o f) (ha : IA X k W (e :: es) fs) :
    IE X k W (.Call (.Attribute o (mtS m) ap) (e :: es) [] pos) fun env st => (f env st).bind fun x s1 => if mtOk m x then (fs env s1).bind fun ds s2 => mtD fz m x ds s2 else .bad := by
  obtain ⟨b1, b2, b3⟩ := mt_slot m
  refine PEi (pe_bm b1 b2 b3 (mt_rule (k := k) kK m _ fz h4) ho ha (base_at h1) ?_ h2 (star_cons (hs e List.mem_cons_self)) (star_any fun y hy => hs y (List.mem_cons_of_mem _ hy))) fun σ H Q h => ?_
  · rw [star_all hs]
    show (true && decide ((e :: es).length + 0 + 0 < 30)) = true
    rw [Bool.true_and, decide_eq_true_eq]
    omega
  obtain ⟨r, env, st, hR, hE, hc⟩ := h
  refine cr_seq hR hE hc fun d s1 r1 H1 v x a b p hc1 => ?_
  split at hc1
  · rename_i hm
    refine ⟨by rw [← kK]; exact mt_ty a p hm, ?_⟩
    exact cr_seq a b hc1 fun ds s2 r2 H2 vs x2 a2 b2 q2 hc2 => ⟨r2, s2, W, σ, d, ds, a2, p.ext x2 a, q2, hc2⟩
  · exact hc1.elim

/-! ### the program's own defs -/
theorem call_run (G : GX S c X W) {fi : Nat} {df : Def} {fz : Bool} (hd : S.p.defs[fi]? = some df) {a : Addr} {fd : FuncData} (F : FnOk X.prog X.w S.k.K X.mg X.base (L2.CX X.prog X.w) (2 * S.lv) a fd (df.names.take df.np) (spD S.k S.p S.lv fi)) (B : Binds S.k.K fd (df.names.take df.np) []) {pins : List (Addr × Obj)} {s : Shared} {Q : VK} {us : List Value} {vs : List V} {ds : List D} {st : Sto} {r : Rg} (I : Inv X pins σ H s) (rv : Vals vs us)
    (hR : RelH S.k.K r st H) (p : Reps S.k.K r H vs ds) (hc : CP (RV S.k) S.k W σ r H (callN S.p S.lv fz fi ds st) Q) : wpAny (model X.prog X.w) X.A (call (.ref a) us) (EP X pins σ Q) X.xe s := by
  have kK := G.kK
  rw [kK] at F B
  refine run_fnSD (E := fun σ => WE W σ) (dvs := []) F (G.room.mono (Nat.le_succ _)) B .nil (passAt G.tk σ) I rv ?_
  rw [List.append_nil]
  refine ⟨fz, r, st, ds, σ, hR, p, ?_⟩
  revert hc
  cases callN S.p S.lv fz fi ds st with
  | ok d s1 => exact fun hc => hc
  | exc x s1 => exact fun hc => hc
  | bad => exact fun hc => hc
theorem ie_call (G : GX S c X W) {fi : Nat} {df : Def} {fz : Bool} {xs : List Expr} {p : Pos} {fs : Env → Sto → Out (List D)} (hd : S.p.defs[fi]? = some df) (hmt : (S.mths.all fun q => decide (q.2.2 ≠ fi)) = true) (h1 : glC c df.name = true) (hs : ∀ e ∈ xs, nst e = true) (ha : IA X S.k W xs fs) (h0 : xs = [] → ∀ env st, fs env st = .ok [] st) :
    IE X S.k W (.Call (.Name df.name p) xs [] pos) fun env st => (fs env st).bind fun ds s => callN S.p S.lv fz fi ds s := by
  obtain ⟨g1, g2⟩ := gl_of G.L h1
  obtain ⟨a, fd, m, kp, B, _, F⟩ := G.M.fn fi df hd hmt
  refine ⟨fun pins s σ H Q I h => ?_⟩
  obtain ⟨r, env, st, hR, hE, hc⟩ := h
  refine wpAny_Call_Name_kw (ld_glob I g1 m ?_ g2)
  have kp' : PySem.W.keepIn X.K (.ref a) = true := by rw [← G.kK]; exact kp
  match xs, hs, ha, h0 with
  | [], _, ha, h0 =>
    dsimp only at hc
    rw [h0 rfl] at hc
    exact PySem.W.callWith_K0 I.kIn kp' (call_run G hd F B (us := []) I .nil hR .nil hc)
  | e :: es, hs, ha, _ =>
    refine PySem.W.callWith_K (h₀ := X.base) I.ok.mod.kin kp' (thn (ha.run pos pins s σ H (fun vs H1 => ∃ ds s1 r1, RelH S.k.K r1 s1 H1 ∧ Reps S.k.K r1 H1 vs ds ∧ CP (RV S.k) S.k W σ r1 H1 (callN S.p S.lv fz fi ds s1) Q) I (cr_seq hR hE hc fun d s1 r1 H1 v x a b p q => ⟨d, s1, r1, a, p, q⟩)) fun us s1 ⟨vs, H1, I1, rv, ds, s2, r1, hR1, p1, q⟩ => ⟨I1.kIn, ?_⟩) (star_cons (hs e List.mem_cons_self)) (star_any fun y hy => hs y (List.mem_cons_of_mem _ hy))
    exact call_run G hd F B I1 rv hR1 p1 q
theorem kw_names {kws : List Keyword} {env : PySem.Env} : (backToKw pos (keywordEach kws env)).map (·.1) = kws.map (·.arg) := by
  induction kws with
  | nil => rfl
  | cons q qs ih =>
    obtain ⟨n, v, p⟩ := q
    show n :: (backToKw pos (keywordEach qs env)).map (·.1) = n :: qs.map (·.arg)
    rw [ih]
theorem permL_get {α β : Type} {R : α → β → Prop} {n : Nat} {ks : List Nat} {xs : List α} {ys : List β} (h : Paired R xs ys) : Paired R (permL n ks xs) (permL n ks ys) := by
  have key : ∀ (ks : List Nat) (i : Nat) {xs : List α} {ys : List β}, Paired R xs ys → (((ks.zip xs).lookup i = none ∧ (ks.zip ys).lookup i = none) ∨ ∃ x y, (ks.zip xs).lookup i = some x ∧ (ks.zip ys).lookup i = some y ∧ R x y) := by
    intro ks
    induction ks with
    | nil => intro i xs ys h; exact .inl ⟨rfl, rfl⟩
    | cons q ks ih =>
      intro i xs ys h
      cases h with
      | nil => exact .inl ⟨rfl, rfl⟩
      | cons a t =>
        simp only [List.zip_cons_cons, List.lookup_cons]
        cases i == q with
        | true => exact .inr ⟨_, _, rfl, rfl, a⟩
        | false => exact ih i t
  unfold permL
  generalize List.range n = l
  induction l with
  | nil => exact .nil
  | cons i l ih =>
    rw [List.filterMap_cons, List.filterMap_cons]
    rcases key ks i h with ⟨e1, e2⟩ | ⟨x, y, e1, e2, r⟩
    · rw [e1, e2]; exact ih
    · rw [e1, e2]; exact .cons r ih
theorem reps_perm {K : PySem.W.Frag} {r : Rg} {n : Nat} {ks : List Nat} : ∀ {vs : List V} {ds : List D}, Reps K r H vs ds → Reps K r H (permL n ks vs) (permL n ks ds) := by
  intro vs ds h
  have h1 : Paired (Rep K r H) vs ds := by
    induction ds generalizing vs with
    | nil => cases h; exact .nil
    | cons d ds ih =>
      cases h with
      | cons p q => exact .cons p (ih q)
  have h2 := permL_get (n := n) (ks := ks) h1
  generalize permL n ks vs = a at h2
  generalize permL n ks ds = b at h2
  clear h1 h
  induction h2 with
  | nil => exact .nil
  | cons p q ih => exact .cons p ih
theorem mapM_filter {α β : Type} {f : α → Option β} : ∀ {l : List α} {r : List β}, l.mapM f = some r → l.filterMap f = r
  | [], r, h => by simp at h; rw [h]; rfl
  | a :: l, r, h => by
    rw [List.mapM_cons] at h
    obtain ⟨b, e1, h⟩ := Option.bind_eq_some_iff.mp h
    obtain ⟨bs, e2, h⟩ := Option.bind_eq_some_iff.mp h
    cases h
    rw [List.filterMap_cons, e1, mapM_filter e2]
theorem placed_perm {ks : List Nat} {zs ds : List D} (hk : ks ≠ []) (h : placed [] ks zs = some ds) : ks.length = zs.length ∧ ds = permL ks.length ks zs := by
  cases ks with
  | nil => exact absurd rfl hk
  | cons q ks =>
    have h : (if (q :: ks).length = zs.length then (List.range (([] : List D).length + (q :: ks).length)).mapM fun i => if i < ([] : List D).length then ([] : List D)[i]? else ((q :: ks).zip zs).lookup i else none) = some ds := h
    split at h
    · rename_i hl
      refine ⟨hl, ?_⟩
      have e := mapM_filter h
      rw [← e]
      unfold permL
      simp
    · cases h
abbrev PKi (X : L2.Cx) (k : Kx) (W : WX) (kws : List Keyword) (f : Env → Sto → Out (List D)) : Prop := PK X kws (cr (RVs k) k W f)
theorem ie_callK (G : GX S c X W) {fi : Nat} {df : Def} {fz : Bool} {ks : List Nat} {kws : List Keyword} {p : Pos} {fs : Env → Sto → Out (List D)} (hd : S.p.defs[fi]? = some df) (hmt : (S.mths.all fun q => decide (q.2.2 ≠ fi)) = true) (h1 : glC c df.name = true) (hk : ks ≠ []) (hks : kws.map (·.arg) = ks.map fun i => some (df.names.getD i "")) (hl : ks.length = df.np) (hp : (fi, ks) ∈ S.kwp) (ha : PKi X S.k W kws fs) :
    IE X S.k W (.Call (.Name df.name p) [] kws pos) fun env st => (fs env st).bind fun zs s => match placed [] ks zs with
      | some ds => callN S.p S.lv fz fi ds s
      | none => .bad := by
  obtain ⟨g1, g2⟩ := gl_of G.L h1
  obtain ⟨a, fd, m, kp, _, B, F⟩ := G.M.fn fi df hd hmt
  refine ⟨fun pins s σ H Q I h => ?_⟩
  obtain ⟨r, env, st, hR, hE, hc⟩ := h
  refine wpAny_Call_Name_kw (ld_glob I g1 m ?_ g2)
  have kp' : PySem.W.keepIn X.K (.ref a) = true := by rw [← G.kK]; exact kp
  have nm : (backToKw pos (keywordEach kws X.env)).map (·.1) = ks.map fun i => some (df.names.getD i "") := kw_names.trans hks
  have all : (backToKw pos (keywordEach kws X.env)).all (·.1.isSome) = true := by
    rw [show (backToKw pos (keywordEach kws X.env)).all (·.1.isSome) = ((backToKw pos (keywordEach kws X.env)).map (·.1)).all (·.isSome) by rw [List.all_map]; rfl, nm]
    simp
  have anyN : (backToKw pos (keywordEach kws X.env)).any (·.1.isNone) = false := by
    rw [show (backToKw pos (keywordEach kws X.env)).any (·.1.isNone) = ((backToKw pos (keywordEach kws X.env)).map (·.1)).any (·.isNone) by rw [List.any_map]; rfl, nm]
    simp
  have flt : (backToKw pos (keywordEach kws X.env)).filterMap (·.1) = ks.map fun i => df.names.getD i "" := by
    rw [show (backToKw pos (keywordEach kws X.env)).filterMap (·.1) = ((backToKw pos (keywordEach kws X.env)).map (·.1)).filterMap id by rw [List.filterMap_map]; rfl, nm]
    simp [List.filterMap_map]
  refine PySem.W.callWith_KW0 (h₀ := X.base) I.ok.mod.kin kp' all (thn (ha.run pos pins s σ H (fun vs H1 => ∃ ds s1 r1, RelH S.k.K r1 s1 H1 ∧ Reps S.k.K r1 H1 vs ds ∧ CP (RV S.k) S.k W σ r1 H1 (match placed [] ks ds with
      | some ds => callN S.p S.lv fz fi ds s1
      | none => .bad) Q) I (cr_seq hR hE hc fun d s1 r1 H1 v x a b p q => ⟨d, s1, r1, a, p, q⟩)) fun ws s1 ⟨vs, H1, I1, rv, ds, s2, r1, hR1, p1, q⟩ => ⟨I1.kIn, ?_⟩) (by rw [anyN]; rfl)
  rw [flt]
  cases ep : placed [] ks ds with
  | none => rw [ep] at q; exact q.elim
  | some es =>
    rw [ep] at q
    obtain ⟨l1, l2⟩ := placed_perm hk ep
    have lw : ws.length = df.np := by
      have := rv.length
      have := p1.len
      omega
    have rv2 : Vals (permL df.np ks vs) (permL df.np ks ws) := permL_get rv
    have p2 := reps_perm (n := df.np) (ks := ks) p1
    rw [← hl] at p2
    rw [← l2] at p2
    have kK := G.kK
    have hs : spD S.k S.p S.lv fi (permL df.np ks vs) H1 Q (WE W σ) := by
      rw [← hl]
      refine ⟨fz, r1, s2, es, σ, hR1, p2, ?_⟩
      revert q
      dsimp only
      cases callN S.p S.lv fz fi es s2 with
      | ok d s1 => exact fun hc => hc
      | exc x s1 => exact fun hc => hc
      | bad => exact fun hc => hc
    rw [kK] at F
    refine wpAny_call (codeAny_mono (F.run X.A X.stack s1 H1 ⟨[] ++ [], (ks.map fun i => df.names.getD i "").zip ws⟩ (permL df.np ks ws) (permL df.np ks vs) Q (WE W σ) (G.room.mono (Nat.le_succ _)) I1.env0 (B ks hp s1 ws (by rw [kK]; exact I1.kIn) lw) rv2 hs) fun r s' hq => ?_)
    cases r with
    | error e => exact passAt G.tk σ pins H1 s1 e s' I1 hq
    | ok fl =>
      cases fl with
      | ret u => exact I1.after hq
      | next => exact False.elim hq
      | brk => exact False.elim hq
      | cont => exact False.elim hq

/-! ### list(range(..)), tuple(range(..)) -/
theorem rgV_rep {K : PySem.W.Frag} {r : Rg} (i j : Int) : Reps K r H (rgV i j) (rngD i (j - i).toNat) := by
  unfold rgV rngD
  generalize List.range (j - i).toNat = l
  induction l with
  | nil => exact .nil
  | cons a l ih => exact .cons (.int _) ih
theorem rg_end {r : Rg} {st : Sto} {tu fz : Bool} {i : Int} {y : D} {v : V} {Q : VK} (hR : RelH k.K r st H) (p : Rep k.K r H v y) (hc : CP (RV k) k W σ r H (rgD tu fz i y st) Q) : ∃ j, v = .int j ∧ RgOk i j ∧ ∀ q, H q = none → Q (.ref q) (upd H q (if tu then .tup (rgV i j) else .lst (rgV i j))) := by
  cases p with
  | int j =>
    have hc : CP (RV k) k W σ r H (if (rgOk i && rgOk j) && decide ((j - i).toNat ≤ lineN) then (if tu then .ok (.tup (rngD i (j - i).toNat)) st else mkL fz (rngD i (j - i).toNat) st) else .bad) Q := hc
    split at hc
    · rename_i h
      simp only [Bool.and_eq_true, decide_eq_true_eq] at h
      obtain ⟨⟨h1, h2⟩, h3⟩ := h
      obtain ⟨a1, a2⟩ := rgOk_of h1
      obtain ⟨a3, a4⟩ := rgOk_of h2
      refine ⟨j, rfl, ⟨a1, a2, a3, a4, Nat.le_trans h3 (by decide)⟩, fun q hq => ?_⟩
      cases tu with
      | true =>
        have hc : CP (RV k) k W σ r H (mkT (rngD i (j - i).toNat) st) Q := by
          unfold mkT
          rw [if_pos (by unfold rngD; rw [List.length_map, List.length_range]; exact h3)]
          exact hc
        exact (CP.newT hR hc (rgV_rep i j)).2 q hq
      | false => exact (CP.newL hR hc (rgV_rep i j)).2 q hq
    · exact hc.elim
  | _ => exact hc.elim
theorem ie_rg1 (G : GX S c X W) {tu fz : Bool} {y : Expr} {p p2 pos2 : Pos} (h1 : glC c (if tu then ("tuple" : Str) else "list") = true) (h2 : glC c "range" = true) (hs : nst y = true) (ha : IE X S.k W y f) :
    IE X S.k W (.Call (.Name (if tu then ("tuple" : Str) else "list") p) [.Call (.Name "range" p2) [y] [] pos2] [] pos) fun env st => (f env st).bind fun v s => rgD tu fz 0 v s := by
  obtain ⟨g1, g2⟩ := gl_of G.L h1
  obtain ⟨g3, g4⟩ := gl_of G.L h2
  have hr := prg_1 (p := p2) (pos := pos2) g3 (G.M.blt _ (by decide +kernel)) ha (star_cons hs)
  have rd : ∀ σ H (Q : VK), cr (RV S.k) S.k W (fun env st => (f env st).bind fun v s => rgD tu fz 0 v s) σ H Q → tRg1 (cr (RV S.k) S.k W f) σ H fun a b H1 => RgOk a b ∧ ∀ q, H1 q = none → Q (.ref q) (upd H1 q (if tu then .tup (rgV a b) else .lst (rgV a b))) := fun σ H Q h => by
    obtain ⟨r, env, st, hR, hE, hc⟩ := h
    refine cr_seq hR hE hc fun d s1 r1 H1 v x a b q hc1 => ?_
    obtain ⟨j, e, h3, h4⟩ := rg_end a q hc1
    exact ⟨j, e, h3, h4⟩
  cases tu with
  | true => exact PEi (pe_tupRg G.L.calm g1 (G.M.blt _ (by decide +kernel)) hr rfl) rd
  | false => exact PEi (pe_listRg G.L.calm g1 (G.M.blt _ (by decide +kernel)) hr rfl) rd
theorem ie_rg2 (G : GX S c X W) {tu fz : Bool} {z y : Expr} {p p2 pos2 : Pos} (h1 : glC c (if tu then ("tuple" : Str) else "list") = true) (h2 : glC c "range" = true) (hs : nst y = true) (hz : nst z = true) (ha : IE X S.k W z f) (hb : IE X S.k W y g) :
    IE X S.k W (.Call (.Name (if tu then ("tuple" : Str) else "list") p) [.Call (.Name "range" p2) [z, y] [] pos2] [] pos) fun env st => (((f env st).bind fun x s1 => .ok (some x) s1).bind intB).bind fun l s1 => (g env s1).bind fun v s => rgD tu fz (l.getD 0) v s := by
  obtain ⟨g1, g2⟩ := gl_of G.L h1
  obtain ⟨g3, g4⟩ := gl_of G.L h2
  have hr := prg_2 (p := p2) (pos := pos2) g3 (G.M.blt _ (by decide +kernel)) ha hb (by rw [star_cons hz, star_cons hs]) (star_cons hs) (star_any fun w hw => by simp at hw; rw [hw]; exact hs)
  have rd : ∀ σ H (Q : VK), cr (RV S.k) S.k W (fun env st => (((f env st).bind fun x s1 => .ok (some x) s1).bind intB).bind fun l s1 => (g env s1).bind fun v s => rgD tu fz (l.getD 0) v s) σ H Q → tRg2 (cr (RV S.k) S.k W f) (cr (RV S.k) S.k W g) σ H fun a b H1 => RgOk a b ∧ ∀ q, H1 q = none → Q (.ref q) (upd H1 q (if tu then .tup (rgV a b) else .lst (rgV a b))) := fun σ H Q h => by
    obtain ⟨r, env, st, hR, hE, hc⟩ := h
    dsimp only at hc
    refine ⟨r, env, st, hR, hE, ?_⟩
    cases e : f env st with
    | exc x s1 => rw [e] at hc; exact hc
    | bad => rw [e] at hc; exact hc
    | ok d s1 =>
      rw [e] at hc
      intro r1 H1 v x a q
      cases q with
      | int i =>
        have hc1 : CP (RV S.k) S.k W σ r1 H1 ((g env s1).bind fun v s => rgD tu fz i v s) Q := CP.mono hc x
        refine cr_seq a (hE.ext x hR) hc1 fun d2 s2 r2 H2 v2 x2 a2 b2 q2 hc2 => ?_
        obtain ⟨j, e, h3, h4⟩ := rg_end a2 q2 hc2
        exact ⟨i, j, rfl, e, h3, h4⟩
      | _ => exact hc.elim
  cases tu with
  | true => exact PEi (pe_tupRg G.L.calm g1 (G.M.blt _ (by decide +kernel)) hr rfl) rd
  | false => exact PEi (pe_listRg G.L.calm g1 (G.M.blt _ (by decide +kernel)) hr rfl) rd

/-! ### comprehensions -/
theorem fold_it {it : Expr} {env : PySem.Env} {x : Value} (h : nset it = true) : foldedSetIterable it env x = pure x := by
  cases it with
  | Set => cases h
  | _ => rfl
end
end Mi
end
section
/-! MiN2: the readings of xs[::-1], (a, *b), dict([..])[k], D[k]. -/
namespace Mi
open PySem PySem.Spec PyProof.Rows L2 HT
section
variable {prog : Program} {w : World} {A : Around} {E : Value → Shared → Prop} {s : Shared}
theorem revPlaces (n : Nat) : Builtin.Slice.slicePlaces ((n : Int) - 1) (-1) (-1) = n := by
  unfold Builtin.Slice.slicePlaces
  rw [if_neg (by decide)]
  by_cases h : n = 0
  · subst h; rfl
  · rw [if_pos (by omega)]
    have : ((n : Int) - 1 - -1 - 1) / - -1 + 1 = n := by rw [show (- -1 : Int) = 1 from rfl, Int.ediv_one]; omega
    rw [this]; rfl
theorem revApplied {sl : Addr} {vl vu vs : Value} {n : Nat} {Q : Int × Int × Nat → Shared → Prop} (hs : s.heap.IsSliceOf sl vl vu vs) (pl : IsPart vl none) (pu : IsPart vu none) (ps : IsPart vs (some (-1)))
    (h : Q ((n : Int) - 1, -1, n) s) : wpAny (model prog w) A (Builtin.Slice.sliceApplied (.ref sl) (pure (n : Int))) Q E s := by
  obtain ⟨os, hos, hcs, hds⟩ := id hs
  unfold Builtin.Slice.sliceApplied Builtin.Slice.sliceFields
  refine wpAny_bind (wpAny_bind (wpAny_field hos hds (x := vl) rfl (wpAny_bind (wpAny_field hos hds (x := vu) rfl (wpAny_bind (wpAny_field hos hds (x := vs) rfl (wpAny_pure ?_)))))))
  refine wpAny_bind (slicePart_ ps ?_)
  show wpAny _ _ (if ((-1 : Int) == 0) = true then _ else _) _ _ s
  rw [if_neg (by decide)]
  refine wpAny_bind (slicePart_ pl (wpAny_bind (slicePart_ pu (wpAny_bind (wpAny_pure ?_)))))
  show wpAny _ _ (pure (((n : Int) - 1), (-1 : Int), Builtin.Slice.slicePlaces ((n : Int) - 1) (-1) (-1))) _ _ s
  rw [revPlaces]
  exact wpAny_pure h
theorem fm_some {α β : Type} {f : α → Option β} {g : α → β} : ∀ {l : List α}, (∀ x ∈ l, f x = some (g x)) → l.filterMap f = l.map g
  | [], _ => rfl
  | x :: l, h => by
    rw [List.filterMap_cons_some (h x List.mem_cons_self), List.map_cons, fm_some fun y hy => h y (List.mem_cons_of_mem _ hy)]
theorem revPick (xs : Array Value) : ((List.range xs.size).filterMap fun (k : Nat) => xs[((xs.size : Int) - 1 + (k : Int) * -1).toNat]?).toArray = xs.toList.reverse.toArray := by
  congr 1
  rw [fm_some (g := fun k => xs.toList.reverse.getD k .none) fun k hk => ?_]
  · refine List.ext_getElem (by simp) fun i h1 h2 => ?_
    simp only [List.length_map, List.length_range] at h1
    simp only [List.getElem_map, List.getElem_range, List.getD_eq_getElem?_getD, List.getElem?_eq_getElem h2, Option.getD_some]
  · have hk := List.mem_range.mp hk
    have e1 : ((xs.size : Int) - 1 + (k : Int) * -1).toNat = xs.size - 1 - k := by omega
    have h3 : k < xs.toList.reverse.length := by simpa using hk
    rw [e1, List.getD_eq_getElem?_getD, List.getElem?_eq_getElem h3, Option.getD_some, List.getElem_reverse, Array.getElem?_eq_getElem (by omega)]
    simp
theorem getItem_tuple_rev {t sl : Addr} {items : Array Value} {vl vu vs : Value} {Q : Value → Shared → Prop} (ht : IsTup s.heap t items) (hs : s.heap.IsSliceOf sl vl vu vs) (pl : IsPart vl none) (pu : IsPart vu none) (ps : IsPart vs (some (-1)))
    (h : Q (.ref s.heap.objs.size) { s with heap := s.heap.push { cls := .type "tuple", data := .seq items.toList.reverse.toArray } }) (hz : items.size ≤ sizeLine) : wpAny (model prog w) A (getItem (.ref t) (.ref sl)) Q E s := by
  have ok : sizeOk (.seq items.toList.reverse.toArray) := by
    show items.toList.reverse.toArray.size ≤ sizeLine
    rw [List.size_toArray, List.length_reverse, Array.length_toList]; exact hz
  obtain ⟨os, hos, hcs, hds⟩ := id hs
  have hTs : s.TypeIs (.ref sl) "slice" := ⟨os, hos, hcs⟩
  unfold getItem
  try with_reducible refine wpAny_holding ?_
  first | refine wpAny_bind (wpAny_pure ?_) | skip
  refine wpAny_bind (wpAny_sequenceKey ht.typeIs (by decide) ?_)
  refine wpAny_bind (wpAny_callSpecial?_slot (name := Str.ofString "__getitem__") ht.typeIs PyProof.Rows.slot_tuple_getitem
    (wpAny_call_entry PyProof.Rows.slot_tuple_getitem ht.typeIs entry_tuple_getitem ?_ (args_tuple_getitem _ _)))
  show wpAny _ _ (Builtin.Tuple.tupleItemsOf (.ref t) >>= _) _ _ s
  refine wpAny_bind (tupleItemsOf_ ht ?_)
  refine wpAny_bind (wpAny_typeOf hTs ?_)
  rw [if_pos (by decide)]
  refine wpAny_bind (revApplied hs pl pu ps ?_)
  have no : ¬ ((((items.size : Int) - 1) == 0 && (-1 : Int) == 1 && items.size == items.size) = true) := by simp
  show wpAny _ _ (if (((items.size : Int) - 1) == 0 && (-1 : Int) == 1 && items.size == items.size) = true then _ else _) _ _ s
  rw [if_neg no, revPick]
  first
    | exact wpAny_bind (m := Builtin.Tuple.tupleExact _) (wpAny_newObj_type (wpAny_pure ⟨_, rfl, wpAny_pure h⟩) ok)
    | exact wpAny_bind (wpAny_bind (m := Builtin.Tuple.tupleExact _) (wpAny_newObj_type (wpAny_pure ⟨_, rfl, wpAny_pure h⟩) ok))
    | exact wpAny_bind (wpAny_bind (m := Builtin.Tuple.tupleExact _) (wpAny_newObj_type (wpAny_pure (wpAny_pure ⟨_, rfl, wpAny_pure h⟩)) ok))
    | exact wpAny_bind (m := Builtin.Tuple.tupleExact _) (wpAny_newObj_type (wpAny_bind (wpAny_pure (wpAny_pure ⟨_, rfl, wpAny_pure h⟩))) ok)
end
/-- y[::-1] of a list or a tuple -/
def tRevA (K : PySem.W.Frag) (te : TE) : TE := fun σ H Q => te σ H fun x H1 => ∃ a xs, x = .ref a ∧ ((SqL K H1 a xs ∧ ∀ p, H1 p = none → Q (.ref p) (upd H1 p (.lst xs.reverse))) ∨ (SqT K H1 a xs ∧ ∀ p, H1 p = none → Q (.ref p) (upd H1 p (.tup xs.reverse))))
theorem pe_revA {X : L2.Cx} {e : Expr} {te : TE} {j : Nat} {p1 p2 p3 pos : Pos} (he : PE X e te) : PE X (.Subscript e (.Slice none none (some (.UnaryOp .USub (.Constant (.int 1) j p1) p2)) p3) pos) (tRevA X.K te) := by
  refine ⟨fun pins sh σ H Q I h => Subscript_ (thn (he.run pins sh σ H _ I h) fun v sa ⟨x, Ha, Ia, ra, a, xs, ex, alt⟩ => ?_)⟩
  subst ex
  cases ra
  have par : PO X (some (.UnaryOp .USub (.Constant (.int 1) j p1) p2)) (tPart (tUn (rU fun i => .int (-i)) (tC (.int 1)))) := po_some (pe_un un_neg pe_int)
  refine wpAny_Slice (thn (po_none.run pins sa σ Ha (fun o Hb => o = none ∧ Hb = Ha) Ia ⟨rfl, rfl⟩) fun vl sb ⟨l, Hb, Ib, pl, el, eb⟩ => ?_)
  subst el eb
  refine thn (po_none.run pins sb σ Hb (fun o Hc => o = none ∧ Hc = Hb) Ib ⟨rfl, rfl⟩) fun vu sc ⟨u, Hc, Ic, pu, eu, ec⟩ => ?_
  subst eu ec
  refine thn (par.run pins sc σ Hc (fun o Hd => o = some (-1) ∧ Hd = Hc) Ic ⟨1, rfl, -1, rfl, rfl, rfl⟩) fun vs sd ⟨o, Hd, Id, ps, eo, ed⟩ => ?_
  subst eo ed
  have Ie : Inv X pins σ Hd { sd with heap := sd.heap.push { cls := .type "slice", data := .fields #[vl, vu, vs] } } := Id.kept (t' := sd.toks) fun b ob q => Heap.get?_push_of_some _ q
  show wpAny (model X.prog X.w) X.A (subscriptTail e (.Slice none none (some (.UnaryOp .USub (.Constant (.int 1) j p1) p2)) p3) (.ref a) (.ref sd.heap.objs.size)) (EP X pins σ Q) X.xe { sd with heap := sd.heap.push { cls := .type "slice", data := .fields #[vl, vu, vs] } }
  rcases alt with ⟨hx, q⟩ | ⟨hx, q⟩
  · obtain ⟨its, r, ht, hz⟩ := Ie.list hx
    have hlen := r.length
    refine tail_any (ops := [.ref a, .ref sd.heap.objs.size]) ht.isList.typeIs (PySem.slot_list_getitem.lookup) ?_ (by with_unfolding_all rfl)
    refine wpAny_getItem_list_slice ht.isList (Heap.IsSliceOf.new _ vl vu vs) pl pu ps (by decide) ?_ (by rw [List.size_toArray]; omega)
    rw [PySem.W.krv_pick]
    refine ⟨.ref _, _, Ie.laid (t' := sd.toks) (o := .lst xs.reverse) (fun b ob q => Heap.get?_push_of_some _ q) (Nat.le_refl _) ?_, rfl, q _ (Ie.hok.fresh (Nat.le_refl _))⟩
    exact ⟨by rw [List.length_reverse]; exact hz, _, 0, r.reverse, Heap.get?_push_size _ rfl⟩
  · obtain ⟨its, r, ht, hz⟩ := Ie.tuple hx
    have hlen := r.length
    refine tail_any (ops := [.ref a, .ref sd.heap.objs.size]) ht.typeIs (PyProof.Rows.slot_tuple_getitem.lookup) ?_ (by with_unfolding_all rfl)
    refine getItem_tuple_rev ht (Heap.IsSliceOf.new _ vl vu vs) pl pu ps ?_ (by rw [List.size_toArray]; omega)
    refine ⟨.ref _, _, Ie.laid (t' := sd.toks) (o := .tup xs.reverse) (fun b ob q => Heap.get?_push_of_some _ q) (Nat.le_refl _) ?_, rfl, q _ (Ie.hok.fresh (Nat.le_refl _))⟩
    exact ⟨by rw [List.length_reverse]; exact hz, _, r.reverse, _, Heap.get?_push_size _ rfl, rfl, _, rfl⟩
theorem Reps.reverse {K : PySem.W.Frag} {r : Rg} {H : Hp} : ∀ {vs : List V} {ds : List D}, Reps K r H vs ds → Reps K r H vs.reverse ds.reverse
  | _, _, .nil => .nil
  | _, _, .cons p q => by
    rw [List.reverse_cons, List.reverse_cons]
    exact (Reps.reverse q).append (.cons p .nil)
section
variable {S : Sx} {c : Ck} {X : L2.Cx} {k : Kx} {W : WX} {σ : L2.St} {H : Hp} {a b : Expr} {pos : Pos} {f g : Env → Sto → Out D}
theorem ie_rev {fz : Bool} {j : Nat} {p1 p2 p3 : Pos} (kK : k.K = X.K) (ha : IE X k W a f) : IE X k W (.Subscript a (.Slice none none (some (.UnaryOp .USub (.Constant (.int 1) j p1) p2)) p3) pos) fun env st => (f env st).bind fun x s1 => revD fz x s1 := by
  refine PEi (pe_revA ha) fun σ H Q h => ?_
  obtain ⟨r, env, st, hR, hE, hc⟩ := h
  refine cr_seq hR hE hc fun d s1 r1 H1 v x a b p hc1 => ?_
  have go : ∀ (ys : List D), d.lst? s1 = some ys → CP (RV k) k W σ r1 H1 (mkL fz ys.reverse s1) Q → ∃ a xs, v = .ref a ∧ ((SqL X.K H1 a xs ∧ ∀ p, H1 p = none → Q (.ref p) (upd H1 p (.lst xs.reverse))) ∨ (SqT X.K H1 a xs ∧ ∀ p, H1 p = none → Q (.ref p) (upd H1 p (.tup xs.reverse)))) := fun ys e hc2 => by
    obtain ⟨l, ws, rfl, hq, ps⟩ := lst_of a p e
    obtain ⟨_, q⟩ := CP.newL a hc2 ps.reverse
    exact ⟨l, ws, rfl, .inl ⟨.inl hq, q⟩⟩
  cases d with
  | fl ys => exact go ys rfl hc1
  | tup ys =>
    cases p with
    | tup h ps =>
      have hc1 : CP (RV k) k W σ r1 H1 (mkT ys.reverse s1) Q := hc1
      obtain ⟨_, q⟩ := CP.newT a hc1 ps.reverse
      exact ⟨_, _, rfl, .inr ⟨by rw [← kK]; exact h, q⟩⟩
  | ref n =>
    have hc1 : CP (RV k) k W σ r1 H1 (match s1[n]? with
      | some xs => mkL fz xs.reverse s1
      | none => .bad) Q := hc1
    cases e : s1[n]? with
    | none => rw [e] at hc1; exact hc1.elim
    | some xs => rw [e] at hc1; exact go xs e hc1
  | _ => exact hc1.elim
theorem ie_tupS {n : Nat} {p1 : Pos} (kK : k.K = X.K) (hn : nst a = true) (ha : IE X k W a f) (hb : IE X k W b g) : IE X k W (.Tuple [a, .Starred b p1] n pos) fun env st => (f env st).bind fun x s1 => (g env s1).bind fun y s2 => match y.seq? s2 with
    | some ys => mkT (x :: ys) s2
    | none => .bad := by
  refine PEi (pe_tup (pa_cons ha (StX.pa_star hb pa_nil (by rfl)) (star_cons hn))) fun σ H Q h => ?_
  obtain ⟨r, env, st, hR, hE, hc⟩ := h
  refine cr_seq hR hE hc fun d s1 r1 H1 v x a b p hc1 => ?_
  refine cr_seq a b hc1 fun d2 s2 r2 H2 v2 x2 a2 b2 q2 hc2 => ?_
  cases e : d2.seq? s2 with
  | none => rw [e] at hc2; exact hc2.elim
  | some ys =>
    rw [e] at hc2
    obtain ⟨l, ws, rfl, hq, ps⟩ := seq_of a2 q2 e
    refine ⟨l, ws, rfl, ?_, ?_⟩
    · rcases hq with hq | hq
      · exact .inr (.inl hq)
      · rw [← kK]; exact .inl hq
    · obtain ⟨z, q⟩ := CP.newT a2 hc2 (xs := v :: ws) (.cons (p.ext x2 a) ps)
      show (v :: (ws ++ [])).length ≤ sizeLine ∧ ∀ p, H2 p = none → Q (.ref p) (upd H2 p (.tup (v :: (ws ++ []))))
      rw [List.append_nil]
      exact ⟨z, q⟩
/-- what the dict of pairs holds -/
theorem merge_val {K : PySem.W.Frag} {r : Rg} {H : Hp} : ∀ (ps : List (Str × D)) (kvs acc : List (Key × V)) (z : Str), List.length kvs = ps.length → (∀ (i : Nat) (q : Str × D) (kv : Key × V), ps[i]? = some q → kvs[i]? = some kv → kv.1 = .inr q.1 ∧ Rep K r H kv.2 q.2) →
    match ps.reverse.lookup z with
    | some d => ∃ v, valV (mergeK acc kvs) (.inr z) = some v ∧ Rep K r H v d
    | none => valV (mergeK acc kvs) (.inr z) = valV acc (.inr z)
  | [], kvs, acc, z, hl, _ => by
    have : kvs = [] := List.length_eq_zero_iff.mp (by simpa using hl)
    subst this
    rfl
  | (x, d) :: ps, [], acc, z, hl, _ => by simp at hl
  | (x, d) :: ps, kv :: kvs, acc, z, hl, hk => by
    obtain ⟨k1, k2⟩ := hk 0 (x, d) kv rfl rfl
    have ih := merge_val ps kvs (putK acc kv.1 kv.2) z (by simpa using hl) fun i q kv h1 h2 => hk (i + 1) q kv (by simpa using h1) (by simpa using h2)
    rw [k1] at ih
    have e : mergeK acc (kv :: kvs) = mergeK (putK acc (.inr x) kv.2) kvs := by
      show mergeK (putK acc kv.1 kv.2) kvs = _
      rw [k1]
    rw [e, List.reverse_cons, List.lookup_append]
    cases h : ps.reverse.lookup z with
    | some d2 =>
      rw [h] at ih
      exact ih
    | none =>
      rw [h] at ih
      rw [valV_put] at ih
      by_cases hz : z = x
      · subst hz
        rw [if_pos rfl] at ih
        have : List.lookup z [(z, d)] = some d := by simp [List.lookup]
        rw [Option.none_or, this]
        exact ⟨kv.2, ih, k2⟩
      · have h2 : ¬(Sum.inr z : Key) = .inr x := fun q => hz (Sum.inr.inj q)
        rw [if_neg h2] at ih
        have : List.lookup z [(x, d)] = none := by
          rw [List.lookup_cons]
          have : (z == x) = false := by simpa using hz
          rw [this]; rfl
        rw [Option.none_or, this]
        exact ih
/-- pairs in the heap -/
theorem dic_pairs {K : PySem.W.Frag} {r : Rg} {H : Hp} : ∀ {xs : List D} {ps : List (Str × D)} {vs : List V}, dicP xs = some ps → Reps K r H vs xs → ∃ (as : List Addr) (kvs : List (Key × V)), vs = as.map V.ref ∧ Paired (fun p kv => SqT K H p [kV kv.1, kv.2]) as kvs ∧ kvs.length = ps.length ∧ ∀ (i : Nat) (q : Str × D) (kv : Key × V), ps[i]? = some q → kvs[i]? = some kv → kv.1 = .inr q.1 ∧ Rep K r H kv.2 q.2
  | [], ps, vs, e, p => by
    cases e
    cases p
    exact ⟨[], [], rfl, .nil, rfl, fun i q kv h => by simp at h⟩
  | x :: xs, ps, vs, e, p => by
    cases p with
    | @cons v vs' _ _ p q =>
      unfold dicP at e
      split at e
      · rename_i h; cases h
      · rename_i k d rest h
        cases h
        obtain ⟨ps2, e2, rfl⟩ := Option.map_eq_some_iff.mp e
        obtain ⟨as, kvs, rfl, hp, hl, hk⟩ := dic_pairs e2 q
        cases p with
        | tup hs hq =>
          cases hq with
          | cons p1 p2 =>
            cases p2 with
            | cons p3 p4 =>
              cases p4
              cases p1
              rename_i al vd
              refine ⟨_ :: as, (.inr k, vd) :: kvs, rfl, .cons hs hp, by simp [hl], fun i q kv h1 h2 => ?_⟩
              cases i with
              | zero =>
                simp at h1 h2
                subst h1 h2
                exact ⟨rfl, p3⟩
              | succ i => exact hk i q kv (by simpa using h1) (by simpa using h2)
      · cases e
theorem ie_look {p1 p2 : Pos} (G : GX S c X W) (hg : glC c "dict" = true) (hn : nst a = true) (hs : nsl b = true) (ha : IE X S.k W a f) (hb : IE X S.k W b g) : IE X S.k W (.Subscript (.Call (.Name "dict" p1) [a] [] p2) b pos) fun env st => (f env st).bind fun x s1 => match dicO x with
    | some ps => (g env s1).bind fun y s2 => (match y with
      | .str z => ofO (lookP ps z) s2
      | _ => .bad)
    | none => .bad := by
  obtain ⟨g1, g2⟩ := gl_of G.L hg
  have hm := G.M.blt "dict" (by decide)
  have hu : X.A.units + 1 < cLine := by have := G.room.un; omega
  refine PEi (pe_dget hu (pe_callTy (T := "dict") (call_dictP G.L.calm) g1 hm (by kernel_rfl) (pa_cons ha pa_nil (star_cons hn)) (by decide) g2 (star_cons hn) rfl) hb ?_) fun σ H Q h => ?_
  · intro ov iv
    exact plain_ix hs ov iv
  obtain ⟨r, env, st, hR, hE, hc⟩ := h
  refine cr_seq hR hE hc fun d s1 r1 H1 v x a b p hc1 => ?_
  cases e : dicO d with
  | none => rw [e] at hc1; exact hc1.elim
  | some ps =>
    rw [e] at hc1
    cases d with
    | fl xs =>
      have e : (if xs.length ≤ 1000 then dicP xs else none) = some ps := e
      split at e
      · rename_i hl
        obtain ⟨l, ws, rfl, hq, qs⟩ := lst_of a p (show D.lst? s1 (.fl xs) = some xs from rfl)
        obtain ⟨as, kvs, rfl, hp, hkl, hk⟩ := dic_pairs e qs
        refine ⟨l, as, kvs, rfl, .inl hq, by rw [← G.kK]; exact hp, fun dp nl => ?_⟩
        have ex := Ext.new (r := r1) (o := .dK (mergeK [] kvs)) nl
        have a2 := a.ext_new (o := .dK (mergeK [] kvs)) nl
        have hc2 := CP.mono hc1 ex
        refine cr_seq a2 (b.ext ex a) hc2 fun d2 s2 r2 H2 v2 x2 a3 b3 q2 hc3 => ?_
        cases q2 with
        | str z =>
          obtain ⟨w, e2, hc4⟩ := CP.ofO (o := lookP ps z) hc3
          have ndp : dp ∉ r1 := a.fresh nl
          have hH : H2 dp = some (.dK (mergeK [] kvs)) := x2.same dp _ upd_same (Rg.out ndp)
          have mv := merge_val (K := S.k.K) (r := r1) (H := H1) ps kvs [] z hkl hk
          have e2 : ps.reverse.lookup z = some w := e2
          rw [e2] at mv
          obtain ⟨vz, e3, p3⟩ := mv
          refine ⟨dp, vz, rfl, ?_, CP.now hc4 a3 ((p3.ext ex a).ext x2 a2)⟩
          have := DGet.k (k := .inr z) hH
          rw [e3] at this
          exact this
        | _ => exact hc3.elim
      · cases e
    | _ => cases e
theorem ie_glook {x : Str} {ps : List (Str × Str)} {p1 : Pos} (G : GX S c X W) (hg : glC c x = true) (hd : (x, ps) ∈ S.dics) (hs : nsl b = true) (hb : IE X S.k W b g) : IE X S.k W (.Subscript (.Name x p1) b pos) fun env st => (g env st).bind fun y s1 => match y with
    | .str z => ofO ((ps.lookup z).map .str) s1
    | _ => .bad := by
  obtain ⟨g1, g2⟩ := gl_of G.L hg
  obtain ⟨da, m, hk⟩ := G.M.dic _ hd
  refine PEi (pe_ix ix_kdict (pe_glob g1 m (v := .ref da) rfl g2) hb (plain_ix hs)) fun σ H Q h => ?_
  obtain ⟨r, env, st, hR, hE, hc⟩ := h
  refine cr_seq hR hE hc fun d s1 r1 H1 v x a b p hc1 => ?_
  cases p with
  | str z =>
    obtain ⟨w, e2, hc2⟩ := CP.ofO (o := (ps.lookup z).map D.str) hc1
    obtain ⟨u, e3, rfl⟩ := Option.map_eq_some_iff.mp e2
    exact ⟨da, z, .str u, rfl, rfl, by rw [← G.kK]; exact hk z u e3, CP.now hc2 a (.str u)⟩
  | _ => exact hc1.elim
end
end Mi
end
section
/-! MiN3: objects of own classes, dicts. -/
namespace Mi
open PySem PySem.Spec PyProof.Rows L2

/-! ### the store -/
section
variable {K : PySem.W.Frag} {r r' : Rg} {H H' : Hp} {st : Sto}
theorem RelH.hideC (R : RelH K r st H) {a : Addr} {o : HO} (h : H a = none) (m : Mb (upd H a o) a) : RelH K (r.hide a) st (upd H a o) :=
  R.keep (Fut.hide h) rfl (fun b o _ q => by rw [upd_ne (ne_of_none q h)]; exact q) fun b hb => by
    rcases List.mem_cons.mp hb with q | q
    · rw [q]; exact ⟨fun z => R.fresh h (.inl z), m⟩
    · obtain ⟨h1, h2⟩ := R.hid b q
      exact ⟨h1, h2.upd (h2.ne h)⟩
theorem RelH.wrC (R : RelH K r st H) {a : Addr} {o : HO} (h : a ∈ r.p) (m : Mb (upd H a o) a) : RelH K r st (upd H a o) :=
  R.keep (Fut.wr h (R.hid a h).1) rfl (fun b o m q => by rw [upd_ne (fun z => (R.hid a h).1 (by rw [← z]; exact m))]; exact q) fun b hb => by
    obtain ⟨h1, h2⟩ := R.hid b hb
    by_cases z : b = a
    · subst z; exact ⟨h1, m⟩
    · exact ⟨h1, h2.upd z⟩
theorem RelH.adoptC (R : RelH K r st H) {a : Addr} {p : List Addr} {ds : List D} (h : r.p = a :: p) (hn : a ∉ p) (q : Cel K r H a ds) : RelH K (r.show_.add a) (st ++ [ds]) H := by
  have hm : a ∈ r.p := by rw [h]; exact List.mem_cons_self
  have f : Fut r H (r.show_.add a) H := Fut.adopt hm
  have hal := (R.hid a hm).1
  refine ⟨?_, by simp [R.len, Rg.add, Rg.show_], fun b hb => ?_, fun n ys e => ?_⟩
  · show (r.l ++ [a]).Nodup
    rw [List.nodup_append]
    refine ⟨R.nd, by simp, fun b hb c hc z => ?_⟩
    simp at hc
    subst hc z
    exact hal hb
  · have hb : b ∈ r.p.tail := hb
    obtain ⟨h1, h2⟩ := R.hid b (List.mem_of_mem_tail hb)
    refine ⟨fun m => ?_, h2⟩
    have m : b ∈ r.l ++ [a] := m
    rcases List.mem_append.mp m with m | m
    · exact h1 m
    · simp at m
      rw [h] at hb
      exact hn (by rw [← m]; exact hb)
  · by_cases hl : n < st.length
    · rw [List.getElem?_append_left hl] at e
      obtain ⟨b, h1, h2⟩ := R.any n ys e
      exact ⟨b, f.l _ _ h1, h2.keep f R fun o q => q⟩
    · have hle : n < (st ++ [ds]).length := (List.getElem?_eq_some_iff.mp e).1
      have hn' : n = st.length := by rw [List.length_append] at hle; simp at hle; omega
      subst hn'
      rw [List.getElem?_concat_length] at e
      cases e
      exact ⟨a, by show (r.l ++ [a])[st.length]? = _; rw [← R.len, List.getElem?_concat_length], q.keep f R fun o q => q⟩
/-! ### pairs, attributes -/
theorem RepKV.len : ∀ {kvs : List (Key × V)} {xs : List D}, RepKV K r H kvs xs → kvs.length = xs.length
  | _, _, .nil => rfl
  | _, _, .cons _ q => congrArg (· + 1) (RepKV.len q)
theorem RepKV.none (i : Int) : ∀ {kvs : List (Key × V)} {xs : List D}, RepKV K r H kvs xs → dFind xs i = none → valV kvs (.inl i) = none
  | _, _, .nil, _ => rfl
  | _, _, .cons (i := j) p q, h => by
    unfold dFind at h
    split at h
    · cases h
    · rename_i ne
      rw [valV_neg (fun z => ne (Sum.inl.inj z))]
      exact RepKV.none i q h
theorem RepKV.some (i : Int) : ∀ {kvs : List (Key × V)} {xs : List D} {d : D}, RepKV K r H kvs xs → dFind xs i = some d → ∃ v, valV kvs (.inl i) = some v ∧ Rep K r H v d
  | _, _, _, .nil, h => by cases h
  | _, _, d, .cons (i := j) (v := w) p q, h => by
    unfold dFind at h
    split at h
    · rename_i e
      cases h
      exact ⟨w, valV_pos (congrArg Sum.inl e), p⟩
    · rename_i ne
      obtain ⟨v, h1, h2⟩ := RepKV.some i q h
      exact ⟨v, by rw [valV_neg (fun z => ne (Sum.inl.inj z))]; exact h1, h2⟩
theorem RepKV.isSome (i : Int) {kvs : List (Key × V)} {xs : List D} (h : RepKV K r H kvs xs) : (valV kvs (.inl i)).isSome = (dFind xs i).isSome := by
  cases e : dFind xs i with
  | none => rw [h.none i e]; rfl
  | some d =>
    obtain ⟨v, h1, _⟩ := h.some i e
    rw [h1]; rfl
theorem RepKV.rep (i : Int) {v : V} {d : D} (p : Rep K r H v d) : ∀ {kvs : List (Key × V)} {xs : List D}, RepKV K r H kvs xs → RepKV K r H (kvs.map fun kv => if kv.1 = .inl i then (kv.1, v) else kv) (xs.map (dRep i d))
  | _, _, .nil => .nil
  | _, _, .cons (i := j) (v := w) (d := u) a q => by
    rw [List.map_cons, List.map_cons]
    show RepKV K r H ((if (Sum.inl j : Key) = .inl i then (.inl j, v) else (.inl j, w)) :: _) ((if j = i then .tup [.int j, d] else .tup [.int j, u]) :: _)
    by_cases e : j = i
    · rw [if_pos e, if_pos (congrArg Sum.inl e)]
      exact .cons p (RepKV.rep i p q)
    · rw [if_neg e, if_neg (fun z => e (Sum.inl.inj z))]
      exact .cons a (RepKV.rep i p q)
theorem RepKV.snoc {i : Int} {v : V} {d : D} (p : Rep K r H v d) : ∀ {kvs : List (Key × V)} {xs : List D}, RepKV K r H kvs xs → RepKV K r H (kvs ++ [(.inl i, v)]) (xs ++ [.tup [.int i, d]])
  | _, _, .nil => .cons p .nil
  | _, _, .cons a q => .cons a (RepKV.snoc p q)
theorem RepKV.put {i : Int} {v : V} {d : D} (p : Rep K r H v d) {kvs : List (Key × V)} {xs : List D} (h : RepKV K r H kvs xs) : RepKV K r H (putK kvs (.inl i) v) (dPut xs i d) := by
  unfold putK dPut
  rw [valV_any, h.isSome i]
  by_cases e : (dFind xs i).isSome = true
  · rw [if_pos e, if_pos e]; exact h.rep i p
  · rw [if_neg e, if_neg e]; exact h.snoc p
theorem RepF.len : ∀ {kvs : List (Str × V)} {xs : List D}, RepF K r H kvs xs → kvs.length = xs.length
  | _, _, .nil => rfl
  | _, _, .cons _ q => congrArg (· + 1) (RepF.len q)
theorem look_if (f g : Str) (v : V) (fs : List (Str × V)) : ((g, v) :: fs).lookup f = if g = f then some v else fs.lookup f := by
  rw [List.lookup_cons]
  by_cases e : g = f
  · subst e; simp
  · rw [if_neg e]
    have : (f == g) = false := beq_eq_false_iff_ne.mpr fun z => e z.symm
    rw [this]
theorem RepF.none (f : Str) : ∀ {kvs : List (Str × V)} {xs : List D}, RepF K r H kvs xs → oGet xs f = none → kvs.lookup f = none
  | _, _, .nil, _ => rfl
  | _, _, .cons p q, h => by
    unfold oGet at h
    rw [look_if]
    split at h
    · cases h
    · rename_i ne
      rw [if_neg ne]
      exact RepF.none f q h
theorem RepF.some (f : Str) : ∀ {kvs : List (Str × V)} {xs : List D} {d : D}, RepF K r H kvs xs → oGet xs f = some d → ∃ v, kvs.lookup f = some v ∧ Rep K r H v d
  | _, _, _, .nil, h => by cases h
  | _, _, d, .cons (v := w) p q, h => by
    unfold oGet at h
    rw [look_if]
    split at h
    · rename_i e
      cases h
      exact ⟨w, if_pos e, p⟩
    · rename_i ne
      rw [if_neg ne]
      exact RepF.some f q h
theorem RepF.put {f : Str} {v : V} {d : D} (p : Rep K r H v d) : ∀ {kvs : List (Str × V)} {xs : List D}, RepF K r H kvs xs → RepF K r H (putF f v kvs) (oPut f d xs)
  | _, _, .nil => .cons p .nil
  | _, _, .cons (f := g) (v := w) a q => by
    unfold putF oPut
    by_cases e : g = f
    · rw [if_pos e, if_pos e]; exact .cons p q
    · rw [if_neg e, if_neg e]; exact .cons a (RepF.put p q)
theorem ObjAt.same {a C dx : Addr} {fs gs : List (Str × V)} (h : H a = some (.ins C dx fs)) : ∀ u, H a = some u → SameK u (.ins C dx gs) := fun u q => by
  rw [h] at q; cases q
  exact .ins
end
section
variable {S : Sx} {c : Ck} {X : L2.Cx} {k : Kx} {W : WX} {a b : Expr} {pos : Pos} {f g : Env → Sto → Out D} {σ : L2.St} {H : Hp}
theorem Rep.objD {K : PySem.W.Frag} {r : Rg} {v : V} {cl : Str} {n : Nat} (p : Rep K r H v (.obj cl n)) : ∃ a, v = .ref a ∧ r.l[n]? = some a ∧ ObjAt H a (He.ga K cl) ∧ ObK K (He.ga K cl) := by
  cases p with
  | obj h k o => exact ⟨_, rfl, h, k, o⟩
/-! ### attributes -/
theorem ie_fld (G : GX S c X W) {cl fl : Str} (h1 : ncall a = true) (h2 : (cl, fl) ∈ S.ats) (ha : IE X S.k W a f) : IE X S.k W (.Attribute a fl pos) fun env st => (f env st).bind fun x s1 => fldD cl x fl s1 := by
  refine PEi (pe_fld ha (base_at h1)) fun σ H Q h => ?_
  obtain ⟨r, env, st, hR, hE, hc⟩ := h
  refine cr_seq hR hE hc fun d s1 r1 H1 v x a1 b1 p hc1 => ?_
  cases d with
  | obj c' n =>
    have hc2 : CP (RV S.k) S.k W σ r1 H1 (if c' = cl then (match s1[n]? with
      | some xs => ofO (oGet xs fl) s1
      | none => .bad) else .bad) Q := hc1
    clear hc1
    by_cases e : c' = cl
    · subst e
      rw [if_pos rfl] at hc2
      obtain ⟨a, rfl, q1, q2, q3⟩ := p.objD
      cases e1 : s1[n]? with
      | none => rw [e1] at hc2; exact hc2.elim
      | some xs =>
        rw [e1] at hc2
        obtain ⟨d, e2, hc2⟩ := CP.ofO hc2
        obtain ⟨dx, fs, i1, i2⟩ := a1.ins n xs e1 q1 q2
        obtain ⟨u, l1, l2⟩ := i2.some fl e2
        obtain ⟨A1, A2⟩ := G.M.atr _ h2
        rw [G.kK] at A1 A2 i1
        exact ⟨a, _, dx, fs, u, rfl, i1, A1, A2, l1, CP.now hc2 a1 l2⟩
    · rw [if_neg e] at hc2; exact hc2.elim
  | _ => exact hc1.elim
theorem setf_go {r : Rg} {st st' : Sto} {cl fl : Str} {d1 d : D} {v w : V} (hR : RelH k.K r st H) (p1 : Rep k.K r H w d1) (p : Rep k.K r H v d) (e : setfD cl d1 fl d st = some st') :
    ∃ a dx fs, w = .ref a ∧ H a = some (.ins (He.ga k.K cl) dx fs) ∧ fs.length < 1000 ∧ Ext r H r (upd H a (.ins (He.ga k.K cl) dx (putF fl v fs))) ∧ RelH k.K r st' (upd H a (.ins (He.ga k.K cl) dx (putF fl v fs))) := by
  cases d1 with
  | obj c' n =>
    have ez : (if c' = cl then (st[n]?).bind fun xs => if xs.length < 1000 then some (st.set n (oPut fl d xs)) else none else none) = some st' := e
    clear e
    by_cases ec : c' = cl
    · subst ec
      rw [if_pos rfl] at ez
      obtain ⟨a, rfl, q1, q2, q3⟩ := p1.objD
      obtain ⟨xs, e1, e2⟩ := Option.bind_eq_some_iff.mp ez
      split at e2
      · rename_i hl
        cases e2
        obtain ⟨dx, fs, i1, i2⟩ := hR.ins n xs e1 q1 q2
        have sk : ∀ u, H a = some u → SameK u (.ins (He.ga k.K c') dx (putF fl v fs)) := ObjAt.same i1
        have ex : Ext r H r (upd H a (.ins (He.ga k.K c') dx (putF fl v fs))) := Ext.write q1 sk
        exact ⟨a, dx, fs, rfl, i1, by rw [i2.len]; exact hl, ex, hR.writeC q1 sk (.inr (.inr ⟨_, dx, _, upd_same, (i2.put p).ext ex hR⟩))⟩
      · cases e2
    · rw [if_neg ec] at ez; cases ez
  | _ => cases e
abbrev RU0 : Rg → Hp → Unit → Unit → Prop := fun _ _ _ _ => True
/-- o.f = v -/
def gFld (K : PySem.W.Frag) (to : TE) (fl : Str) : TG := fun v σ H Q => to σ H fun x H2 => ∃ a C dx fs, x = .ref a ∧ H2 a = some (.ins C dx fs) ∧ Cls K C ∧ NoAttr K C fl ∧ fs.length < 1000 ∧ Q σ (upd H2 a (.ins C dx (putF fl v fs)))
theorem pg_fld {o : Expr} {fl : Str} {to : TE} (ho : PE X o to) : PG X (.Attribute o fl pos) (gFld X.K to fl) := by
  refine ⟨fun pins s σ H v u Q I r h => ?_⟩
  rw [assign_Attribute]
  refine wpAny_bind (wpAny_holding (thn (ho.run pins s σ H _ I h) fun ov s1 ⟨x, H1, I1, r1, q1⟩ => ?_))
  obtain ⟨a, C, dx, fs, ex, ea, c, n, l, q⟩ := q1
  subst ex
  obtain rfl : ov = Value.ref a := r1
  refine wpAny_bind (wpAny_standAt (wpAny_bind (wpAny_holding (setattr_ok I1 ea c n l r fun s3 I3 => ?_))))
  exact wpAny_release ⟨σ, _, I3, q⟩
/-- .. as the small language has it -/
def rFld (k : Kx) (W : WX) (cl fl : Str) (fo : Env → Sto → Out D) : TG := fun v σ H Q => ∃ r env st d, RelH k.K r st H ∧ RelE k.K r H env σ ∧ Rep k.K r H v d ∧ CP RU0 k W σ r H (stF cl fl fo d env st) fun _ H' => Q σ H'
theorem pg_fldM (G : GX S c X W) {o : Expr} {cl fl : Str} {tp : Pos} {fo : Env → Sto → Out D} (h2 : (cl, fl) ∈ S.ats) (h1 : IE X S.k W o fo) : PG X (.Attribute o fl tp) (rFld S.k W cl fl fo) := by
  refine PGi (pg_fld h1) fun v σ H Q h => ?_
  obtain ⟨r, env, st, d, hR, hE, p, hc⟩ := h
  refine cr_seq hR hE hc fun x s1 r1 H1 v1 e1 a1 b1 q1 hc1 => ?_
  cases es : setfD cl x fl d s1 with
  | none => rw [es] at hc1; exact hc1.elim
  | some s2 =>
    rw [es] at hc1
    obtain ⟨a, dx, fs, rfl, i1, i2, i3, i4⟩ := setf_go a1 q1 (p.ext e1 hR) es
    obtain ⟨A1, A2⟩ := G.M.atr _ h2
    have hq := hc1 r1 _ () i3 i4 trivial
    rw [G.kK] at A1 A2 i1 hq
    exact ⟨a, _, dx, fs, rfl, i1, A1, A2, i2, hq⟩
theorem fld_seq {r : Rg} {env : Env} {st : Sto} {v : V} {d : D} {D : Ends} {cl fl : Str} {fo : Env → Sto → Out Mi.D} {g : Sto → SOut} {P : L2.St → Hp → Prop} (hR : RelH k.K r st H) (hE : RelE k.K r H env σ) (p : Rep k.K r H v d) (hc : CS k W r H ((stF cl fl fo d env st).thn env fun _ s => g s) D)
    (next : ∀ s1 r1 H1, Ext r H r1 H1 → RelH k.K r1 s1 H1 → RelE k.K r1 H1 env σ → CS k W r1 H1 (g s1) D → P σ H1) : rFld k W cl fl fo v σ H P := by
  refine ⟨r, env, st, d, hR, hE, p, ?_⟩
  cases e : stF cl fl fo d env st with
  | ok u s1 =>
    rw [e] at hc
    exact fun r1 H1 _ x a _ => next s1 r1 H1 x a (hE.ext x hR) (CS.mono hc x)
  | exc x s1 =>
    rw [e] at hc
    exact fun r1 H1 c dx y a b => hc r1 H1 σ c dx y a (hE.ext y hR) b
  | bad => rw [e] at hc; exact hc
theorem is_setf (G : GX S c X W) {o e : Expr} {cl fl : Str} {tp : Pos} {fo fe : Env → Sto → Out D} (h2 : (cl, fl) ∈ S.ats) (h1 : IE X S.k W o fo) (h3 : IE X S.k W e fe) (he : swapsWith e (some (.Attribute o fl tp)) pos.line X.env = pure false) : IS X S.k W (.Assign [.Attribute o fl tp] e pos) fun env st =>
    (fe env st).thn env fun d s1 => (stF cl fl fo d env s1).thn env fun _ s2 => .nxt env s2 := by
  refine PSi (ps_asg h3 (pg_fldM G h2 h1) he (by cases e <;> rfl) rfl) fun D σ H h => ?_
  obtain ⟨r, env, st, hR, hE, hc⟩ := h
  exact cs_seq hR hE hc fun x s1 r1 H1 v1 e1 a1 b1 q1 hc1 => fld_seq (g := fun s2 => .nxt env s2) a1 b1 q1 hc1 fun s2 r2 H2 e2 a2 b2 hc2 => CS.nx hc2 a2 b2
/-! ### making, methods -/
theorem run_makeS {E : L2.St → XK} {CX : CXT} {kk : Nat} {fI C : Addr} {fd : FuncData} {ps : List Str} {sp : Sp} {pins : List (Addr × Obj)} {s : Shared} {Q : VK} {us : List Value} {vs : List V} (M : Mk X.K C fI) (F : FnOk X.prog X.w X.K X.mg X.base CX kk fI fd ps sp) (hr : Room (kk + 1) X.A)
    (hb : Binds X.K fd ps []) (hx : PassesAt CX X σ (E σ)) (I : Inv X pins σ H s) (r : Vals vs us)
    (h : ∀ x dx, H x = Option.none → H dx = Option.none → dx ≠ x → sp (V.ref x :: vs) (upd (upd H dx (.own x)) x (.ins C dx [])) (fun v H2 => v = .non ∧ Q (.ref x) H2) (E σ)) :
    wpAny (model X.prog X.w) X.A (call (.ref C) us) (EP X pins σ Q) X.xe s := by
  have hq := h (s.heap.objs.size + 1) s.heap.objs.size (I.hok.fresh (Nat.le_succ _)) (I.hok.fresh (Nat.le_refl _)) (Nat.ne_of_lt (Nat.lt_succ_self _))
  have I2 := Inv.made (C := C) I
  have r2 : Vals (V.ref (s.heap.objs.size + 1) :: vs) (Value.ref (s.heap.objs.size + 1) :: us) := .cons rfl r
  have hl : (Value.ref (s.heap.objs.size + 1) :: us).length = ps.length := by
    have e := r2.length
    rw [F.len _ _ _ _ hq] at e
    exact e.symm
  have b := hb { s with heap := (s.heap.push PySem.W.emptyDict).push (PySem.W.instObj C s.heap.objs.size) } (Value.ref (s.heap.objs.size + 1) :: us) I2.kIn (by rw [List.append_nil]; exact hl)
  rw [List.append_nil] at b
  refine wpAny_call (make_map (f := fI) I.kIn M.makes M.init (beq_iff_eq.mp M.fn) (codeAny_mono (F.run _ X.stack _ _ ⟨Value.ref (s.heap.objs.size + 1) :: us, []⟩ (Value.ref (s.heap.objs.size + 1) :: us) _ _ (E σ) (hr.make C us [])
    (I2.env0.make C us []) b r2 hq) fun r s' hq' => ?_))
  cases r with
  | error e => exact hx pins _ _ e s' I2 hq'
  | ok fl =>
    cases fl with
    | ret u =>
      obtain ⟨v, H', I3, rv, ev, q3⟩ := I2.after hq'
      subst ev
      exact ⟨rv, ⟨V.ref (s.heap.objs.size + 1), H', I3, rfl, q3⟩⟩
    | next => exact False.elim hq'
    | brk => exact False.elim hq'
    | cont => exact False.elim hq'
theorem ie_new (G : GX S c X W) {cl : Str} {fi : Nat} {xs : List Expr} {p : Pos} {fs : Env → Sto → Out (List D)} (h1 : glC c cl = true) (h2 : (cl, ("__init__" : Str), fi) ∈ S.mths) (hs : ∀ e ∈ xs, nst e = true) (h0 : xs ≠ []) (ha : IA X S.k W xs fs) :
    IE X S.k W (.Call (.Name cl p) xs [] pos) fun env st => (fs env st).bind fun ds s1 => (callN S.p S.lv false fi (.obj cl s1.length :: ds) (s1 ++ [[]])).bind fun x s2 => match x with
      | .non => .ok (.obj cl s1.length) s2
      | _ => .bad := by
  obtain ⟨g1, g2⟩ := gl_of G.L h1
  obtain ⟨df, a, fd, hd, ok, m, B, mk, F⟩ := G.M.mth _ h2
  obtain ⟨m1, m2⟩ := mk rfl
  have kK := G.kK
  rw [kK] at m2 F B
  refine ⟨fun pins s σ H Q I h => ?_⟩
  obtain ⟨r, env, st, hR, hE, hc⟩ := h
  refine wpAny_Call_Name_kw (ld_glob I g1 m1 ?_ g2)
  have kp' : PySem.W.keepIn X.K (.ref (He.ga S.k.K cl)) = true := by rw [kK]; exact m2.kp
  rw [← kK] at m2
  match xs, hs, h0, ha with
  | e :: es, hs, _, ha =>
    refine PySem.W.callWith_K (h₀ := X.base) I.ok.mod.kin kp' (thn (ha.run pos pins s σ H (fun vs H1 => ∃ ds s1 r1, RelH S.k.K r1 s1 H1 ∧ Reps S.k.K r1 H1 vs ds ∧ CP (RV S.k) S.k W σ r1 H1 ((callN S.p S.lv false fi (.obj cl s1.length :: ds) (s1 ++ [[]])).bind fun x s2 => match x with
      | .non => .ok (.obj cl s1.length) s2
      | _ => .bad) Q) I (cr_seq hR hE hc fun d s1 r1 H1 v x a b p q => ⟨d, s1, r1, a, p, q⟩)) fun us s1 ⟨vs, H1, I1, rv, ds, s2, r1, hR1, p1, q⟩ => ⟨I1.kIn, ?_⟩) (star_cons (hs e List.mem_cons_self)) (star_any fun y hy => hs y (List.mem_cons_of_mem _ hy))
    refine run_makeS (E := fun σ => WE W σ) (kk := 2 * S.lv) (by rw [← kK]; exact m2) F G.room B (passAt G.tk σ) I1 rv fun x dx hx hdx hne => ?_
    -- the new object
    have hx' : upd H1 dx (.own x) x = none := by rw [upd_ne (fun z => hne z.symm)]; exact hx
    have e1 : Ext r1 H1 r1 (upd H1 dx (.own x)) := Ext.new hdx
    have e2 : Ext r1 (upd H1 dx (.own x)) (r1.add x) (upd (upd H1 dx (.own x)) x (.ins (He.ga S.k.K cl) dx [])) := Ext.newL hx'
    have R1 := hR1.ext_new (o := .own x) hdx
    have R2 : RelH S.k.K (r1.add x) (s2 ++ [[]]) (upd (upd H1 dx (.own x)) x (.ins (He.ga S.k.K cl) dx [])) := R1.newC hx' (.inr (.inr ⟨_, dx, [], upd_same, .nil⟩))
    have e12 := e1.trans e2
    have po : Rep S.k.K (r1.add x) (upd (upd H1 dx (.own x)) x (.ins (He.ga S.k.K cl) dx [])) (.ref x) (.obj cl s2.length) := .obj (Rg.last hR1) ⟨dx, [], upd_same⟩ ok
    refine ⟨false, r1.add x, s2 ++ [[]], .obj cl s2.length :: ds, σ, R2, .cons po (Reps.ext e12 hR1 p1), ?_⟩
    revert q
    cases callN S.p S.lv false fi (.obj cl s2.length :: ds) (s2 ++ [[]]) with
    | ok d s3 =>
      intro q r' H' v x1 R' pv
      cases d with
      | non =>
        cases pv
        exact ⟨rfl, q r' H' (.ref x) (e12.trans x1) R' (po.ext x1 R2)⟩
      | _ => exact q.elim
    | exc z s3 => exact fun q r' H' c dx1 x1 R' px => q r' H' c dx1 (e12.trans x1) R' px
    | bad => exact fun q => q.elim
/-- o.m(..) as the text has it -/
theorem meth_form {o : Expr} {m : Str} {xs : List Expr} {ap : Pos} {env : PySem.Env} (h1 : ncall o = true) (h2 : (ap.endLine == pos.line) = true) (h3 : xs.length < 29) (hs : ∀ x ∈ xs, nst x = true) : eval (.Call (.Attribute o m ap) xs [] pos) env = (do
      let ov ← eval o env
      standAt ap.atName
      let (f, first) ← holding [ov] (getMethod ov m (do return (← importBound o env).getD true))
      callWith pos f first (backTo pos (starEach xs env)) (backToKw pos (keywordEach [] env))) := by
  have hform : methodCallForm (xs.length + ([] : List Keyword).length) (backTo pos (starEach xs env)) (backToKw pos (keywordEach [] env)) = true := by
    show ((backTo pos (starEach xs env)).all (!·.1) && true && decide (xs.length + 0 + 0 < 30)) = true
    rw [star_all hs]
    simp; omega
  have hpos : methodCallPos true o env ap pos = pure pos := by
    unfold methodCallPos
    rw [h2]
    rfl
  rw [arm_eval_Call, base_at h1]
  congr 1
  funext ov
  congr 1
  funext _
  unfold methodCall
  rw [hform, hpos]
  rfl
theorem ie_mcall (G : GX S c X W) {cl m : Str} {fi : Nat} {fz : Bool} {o : Expr} {xs : List Expr} {ap : Pos} {fo : Env → Sto → Out D} {fs : Env → Sto → Out (List D)} (h1 : ncall o = true) (h2 : (cl, m, fi) ∈ S.mths) (h3 : (ap.endLine == pos.line) = true) (h4 : xs.length < 29) (hs : ∀ e ∈ xs, nst e = true) (ho : IE X S.k W o fo) (ha : IA X S.k W xs fs)
    (h0 : xs = [] → ∀ env st, fs env st = .ok [] st) :
    IE X S.k W (.Call (.Attribute o m ap) xs [] pos) fun env st => (fo env st).bind fun x s1 => if mOk cl m x s1 then (fs env s1).bind fun ds s2 => callN S.p S.lv fz fi (x :: ds) s2 else .bad := by
  obtain ⟨df, a, fd, hd, ok, mt, B, _, F⟩ := G.M.mth _ h2
  have kK := G.kK
  refine ⟨fun pins s σ H Q I h => ?_⟩
  obtain ⟨r, env, st, hR, hE, hc⟩ := h
  refine PySem.W.methodCall_KW (thn (ho.run pins s σ H (fun v H1 => ∃ d s1 r1, RelH S.k.K r1 s1 H1 ∧ RelE S.k.K r1 H1 env σ ∧ Rep S.k.K r1 H1 v d ∧ CP (RV S.k) S.k W σ r1 H1 (if mOk cl m d s1 then (fs env s1).bind fun ds s2 => callN S.p S.lv fz fi (d :: ds) s2 else .bad) Q) I
    (cr_seq hR hE hc fun d s1 r1 H1 v x a b p q => ⟨d, s1, r1, a, b, p, q⟩)) fun u s1 ⟨v, H1, I1, rv, d, t1, r1, R1, E1, p, q⟩ => ?_) (meth_form h1 h3 h4 hs)
  split at q
  · rename_i hm
    cases d with
    | obj c' n =>
      have hm2 : (decide (c' = cl) && (match t1[n]? with
        | some xs => (oGet xs m).isNone
        | none => false)) = true := hm
      rw [Bool.and_eq_true, decide_eq_true_eq] at hm2
      obtain ⟨rfl, hm3⟩ := hm2
      cases e1 : t1[n]? with
      | none => rw [e1] at hm3; cases hm3
      | some ys =>
        rw [e1] at hm3
        obtain ⟨a2, ea, q1, q2, q3⟩ := p.objD
        subst ea
        obtain rfl : u = Value.ref a2 := rv
        obtain ⟨dx, gs, i1, i2⟩ := R1.ins n ys e1 q1 q2
        have hl := i2.none m (Option.isNone_iff_eq_none.mp hm3)
        have mt' := mt
        have okc := ok.cl
        rw [kK] at mt' okc i1
        refine getmeth_ok I1 i1 okc mt' hl ?_
        match xs, hs, ha, h0 with
        | [], _, ha, h0 =>
          rw [h0 rfl] at q
          exact PySem.W.callWith_K0 (first := [.ref a2]) I1.kIn mt'.kp (call_run G hd F B (us := [.ref a2]) (vs := [.ref a2]) I1 (.cons rfl .nil) R1 (.cons p .nil) q)
        | e :: es, hs, ha, _ =>
          refine PySem.W.callWith_K (first := [.ref a2]) (h₀ := X.base) I1.ok.mod.kin mt'.kp (thn (ha.run pos pins s1 σ H1 (fun vs H2 => ∃ ds s2 r2, RelH S.k.K r2 s2 H2 ∧ Rep S.k.K r2 H2 (.ref a2) (.obj c' n) ∧ Reps S.k.K r2 H2 vs ds ∧ CP (RV S.k) S.k W σ r2 H2 (callN S.p S.lv fz fi (.obj c' n :: ds) s2) Q) I1
            (cr_seq R1 E1 q fun ds s2 r2 H2 vs x2 a2 b2 p2 hc2 => ⟨ds, s2, r2, a2, p.ext x2 R1, p2, hc2⟩)) fun us s2 ⟨vs, H2, I2, rv2, ds, t2, r2, R2, po, p2, q5⟩ => ⟨I2.kIn, ?_⟩) (star_cons (hs e List.mem_cons_self)) (star_any fun y hy => hs y (List.mem_cons_of_mem _ hy))
          exact call_run G hd F B (us := .ref a2 :: us) (vs := .ref a2 :: vs) I2 (.cons rfl rv2) R2 (.cons po p2) q5
    | _ => cases hm
  · exact q.elim
/-! ### dicts -/
theorem Rep.dctD {K : PySem.W.Frag} {r : Rg} {v : V} {n : Nat} (p : Rep K r H v (.dct n)) : ∃ a, v = .ref a ∧ r.l[n]? = some a ∧ DctAt H a := by
  cases p with
  | dct h k => exact ⟨_, rfl, h, k⟩
theorem noSl {i : Expr} (h : nsl i = true) : NoSl i := by
  cases i with
  | Slice => cases h
  | _ => exact fun _ _ => rfl
theorem ie_dnew : IE X k W (.Dict [] [] pos) fun _ st => .ok (.dct st.length) (st ++ [[]]) := by
  refine PEi pe_dnewK fun σ H Q h => ?_
  obtain ⟨r, env, st, hR, hE, hc⟩ := h
  intro p hp
  exact hc (r.add p) _ _ (Ext.newL hp) (hR.newC hp (.inr (.inl ⟨[], upd_same, .nil⟩))) (.dct (Rg.last hR) ⟨[], upd_same⟩)
theorem ie_dnew1 (ha : IE X k W a f) (hb : IE X k W b g) : IE X k W (.Dict [some a] [b] pos) fun env st => (f env st).bind fun x s1 => (g env s1).bind fun y s2 => dnewD x y s2 := by
  refine PEi (pe_disp (pps_cons ha hb pps_nil) rfl rfl (by simp) (by simp)) fun σ H Q h => ?_
  obtain ⟨r, env, st, hR, hE, hc⟩ := h
  intro p hp
  have m0 : Mb (upd H p (.dK [])) p := .inr (.inl ⟨[], upd_same⟩)
  have R0 := hR.hideC (o := .dK []) hp m0
  have E0 : RelE k.K (r.hide p) (upd H p (.dK [])) env σ := hE.keep (Fut.hide hp) hR
  have x0 : Ext r H r (upd H p (.dK [])) := Ext.new hp
  refine ⟨r.hide p, env, st, R0, E0, ?_⟩
  dsimp only at hc
  cases ef : f env st with
  | exc z s =>
    rw [ef] at hc
    intro r1 H1 cc dx x1 R1 px
    have x2 : Ext r H r1.show_ H1 := x0.trans x1.show_
    have hpp : r1.p = p :: r.p := x1.p
    refine hc r1.show_ H1 cc dx x2 R1.show_ ?_
    obtain ⟨g0, g1, g2⟩ := px
    refine ⟨g0, g1, ?_⟩
    revert g2
    cases z.v with
    | none => exact id
    | some d => exact fun ⟨a, v, h1, h2, h3⟩ => ⟨a, v, h1, h2, h3.keep Fut.show_ R1⟩
  | bad => rw [ef] at hc; exact hc
  | ok x s1 =>
    rw [ef] at hc
    intro r1 H1 v1 x1 R1 p1
    refine ⟨r1, env, s1, R1, E0.ext x1 R0, ?_⟩
    have hc : CP (RV k) k W σ r H ((g env s1).bind fun y s2 => dnewD x y s2) Q := hc
    cases eg : g env s1 with
    | exc z s =>
      rw [eg] at hc
      intro r2 H2 cc dx x2 R2 px
      refine hc r2.show_ H2 cc dx (x0.trans (x1.trans x2).show_) R2.show_ ?_
      obtain ⟨g0, g1, g2⟩ := px
      refine ⟨g0, g1, ?_⟩
      revert g2
      cases z.v with
      | none => exact id
      | some d => exact fun ⟨a, v, h1, h2, h3⟩ => ⟨a, v, h1, h2, h3.keep Fut.show_ R2⟩
    | bad => rw [eg] at hc; exact hc
    | ok y s2 =>
      rw [eg] at hc
      intro r2 H2 v2 x2 R2 p2
      have x12 := x1.trans x2
      have hp2 : H2 p = some (.dK []) := x12.same p _ upd_same (fun z => hR.fresh hp (.inl z))
      have hpp : r2.p = p :: r.p := x12.p
      have hm : p ∈ r2.p := by rw [hpp]; exact List.mem_cons_self
      cases x with
      | int i =>
        cases p1.ext x2 R1
        refine ⟨hp2, [(.inl i, v2)], rfl, by show 1 ≤ 15; decide, ?_⟩
        have ne : mergeK [] [((Sum.inl i : Key), v2)] = [(.inl i, v2)] := rfl
        rw [ne]
        have R3 := R2.wrC (o := .dK [(.inl i, v2)]) hm (.inr (.inl ⟨_, upd_same⟩))
        have f3 : Fut r2 H2 r2 (upd H2 p (.dK [(.inl i, v2)])) := Fut.wr hm (R2.hid p hm).1
        have hn : p ∉ r.p := fun z => hR.fresh hp (.inr z)
        have R4 := R3.adoptC (ds := [.tup [.int i, y]]) hpp hn (.inr (.inl ⟨_, upd_same, .cons (p2.keep f3 R2) .nil⟩))
        have x4 : Ext r H (r2.show_.add p) (upd H2 p (.dK [(.inl i, v2)])) := ((x0.trans x12.show_).wrH hp).adopt hp
        exact hc _ _ _ x4 R4 (.dct (Rg.last R2.show_) ⟨_, upd_same⟩)
      | _ => exact hc.elim
theorem ie_dget (hu : X.A.units + 1 < cLine) (h : nsl b = true) (ha : IE X k W a f) (hb : IE X k W b g) : IE X k W (.Subscript a b pos) fun env st => (f env st).bind fun x s1 => (g env s1).bind fun y s2 => dgetD x y s2 := by
  refine PEi (pe_dget hu ha hb (noSl h)) fun σ H Q h => ?_
  obtain ⟨r, env, st, hR, hE, hc⟩ := h
  refine cr_seq hR hE hc fun x s1 r1 H1 v1 e1 a1 b1 p1 hc1 => ?_
  refine cr_seq a1 b1 hc1 fun y s2 r2 H2 v2 e2 a2 b2 p2 hc2 => ?_
  cases x with
  | dct n =>
    cases y with
    | int i =>
      have hc3 : CP (RV k) k W σ r2 H2 (match s2[n]? with
        | some xs => ofO (dFind xs i) s2
        | none => .bad) Q := hc2
      obtain ⟨a, ea, q1, q2⟩ := (p1.ext e2 a1).dctD
      subst ea
      cases p2
      cases es : s2[n]? with
      | none => rw [es] at hc3; exact hc3.elim
      | some xs =>
        rw [es] at hc3
        obtain ⟨d, e3, hc4⟩ := CP.ofO hc3
        obtain ⟨kvs, i1, i2⟩ := a2.dic n xs es q1 q2
        obtain ⟨v, l1, l2⟩ := i2.some i e3
        exact ⟨a, v, rfl, by have := DGet.k (k := .inl i) i1; rw [l1] at this; exact this, CP.now hc4 a2 l2⟩
    | _ => exact hc2.elim
  | _ => exact hc2.elim
theorem din_get {r : Rg} {st : Sto} {Q : VK} {neg : Bool} {x y : D} {v w : V} (hR : RelH k.K r st H) (p : Rep k.K r H v x) (q : Rep k.K r H w y) (hc : CP (RV k) k W σ r H (dinD neg x y st) Q) : ∃ a o, w = .ref a ∧ DGet H a v o ∧ Q (.bl (o.isSome != neg)) H := by
  cases x with
  | int i =>
    cases y with
    | dct n =>
      have hc3 : CP (RV k) k W σ r H (match st[n]? with
        | some xs => .ok (.bl ((dFind xs i).isSome != neg)) st
        | none => .bad) Q := hc
      obtain ⟨a, ea, q1, q2⟩ := q.dctD
      subst ea
      cases p
      cases es : st[n]? with
      | none => rw [es] at hc3; exact hc3.elim
      | some xs =>
        rw [es] at hc3
        obtain ⟨kvs, i1, i2⟩ := hR.dic n xs es q1 q2
        refine ⟨a, _, rfl, DGet.k (k := .inl i) i1, ?_⟩
        rw [i2.isSome i]
        exact CP.now hc3 hR (.bl _)
    | _ => exact hc.elim
  | _ => cases y <;> exact hc.elim
theorem din_bl {neg : Bool} {f g : Env → Sto → Out D} (env : Env) (st : Sto) (d : D) (s : Sto) (h : ((f env st).bind fun x s1 => (g env s1).bind fun y s2 => dinD neg x y s2) = .ok d s) : ∃ c, d = .bl c := by
  obtain ⟨x, s1, e1, e2⟩ := bind_ok h
  obtain ⟨y, s2, e3, e4⟩ := bind_ok e2
  cases x with
  | int i =>
    cases y with
    | dct n =>
      have e5 : (match s2[n]? with
        | some xs => .ok (.bl ((dFind xs i).isSome != neg)) s2
        | none => .bad : Out D) = .ok d s := e4
      cases es : s2[n]? with
      | none => rw [es] at e5; cases e5
      | some xs => rw [es] at e5; cases e5; exact ⟨_, rfl⟩
    | _ => cases e4
  | _ => cases y <;> cases e4
theorem ie_din (hu : X.A.units + 1 < cLine) (hm : behindInMarks .In b = false) (ha : IE X k W a f) (hb : IE X k W b g) :
    IE X k W (.Compare a [.In] [b] pos) (fun env st => (f env st).bind fun x s1 => (g env s1).bind fun y s2 => dinD false x y s2) ∧
    IT X k W (.Compare a [.In] [b] pos) fun env st => ((f env st).bind fun x s1 => (g env s1).bind fun y s2 => dinD false x y s2).bind fun x s1 => ofO (tru s1 x) s1 := by
  have rd : ∀ σ H (Q : VK), cr (RV k) k W (fun env st => (f env st).bind fun x s1 => (g env s1).bind fun y s2 => dinD false x y s2) σ H Q → tDIn (cr (RV k) k W f) (cr (RV k) k W g) σ H Q := fun σ H Q h => by
    obtain ⟨r, env, st, hR, hE, hc⟩ := h
    refine cr_seq hR hE hc fun x s1 r1 H1 v1 e1 a1 b1 p1 hc1 => ?_
    refine cr_seq a1 b1 hc1 fun y s2 r2 H2 v2 e2 a2 b2 p2 hc2 => ?_
    obtain ⟨a, o, h1, h2, h3⟩ := din_get a2 (p1.ext e2 a1) p2 hc2
    exact ⟨a, o, h1, h2, by have e : (o.isSome != false) = o.isSome := by cases o.isSome <;> rfl
                            rw [e] at h3; exact h3⟩
  exact ⟨PEi (pe_cmp (pc_din hu ha hb) hm) rd, PTi (pt_cmp (pc_din hu ha hb) hm) fun σ H Q h => rd σ H _ (bool_read din_bl Q h)⟩
theorem ie_dnin (hu : X.A.units + 1 < cLine) (hm : behindInMarks .NotIn b = false) (ha : IE X k W a f) (hb : IE X k W b g) :
    IE X k W (.Compare a [.NotIn] [b] pos) (fun env st => (f env st).bind fun x s1 => (g env s1).bind fun y s2 => dinD true x y s2) ∧
    IT X k W (.Compare a [.NotIn] [b] pos) fun env st => ((f env st).bind fun x s1 => (g env s1).bind fun y s2 => dinD true x y s2).bind fun x s1 => ofO (tru s1 x) s1 := by
  have rd : ∀ σ H (Q : VK), cr (RV k) k W (fun env st => (f env st).bind fun x s1 => (g env s1).bind fun y s2 => dinD true x y s2) σ H Q → tDNotIn (cr (RV k) k W f) (cr (RV k) k W g) σ H Q := fun σ H Q h => by
    obtain ⟨r, env, st, hR, hE, hc⟩ := h
    refine cr_seq hR hE hc fun x s1 r1 H1 v1 e1 a1 b1 p1 hc1 => ?_
    refine cr_seq a1 b1 hc1 fun y s2 r2 H2 v2 e2 a2 b2 p2 hc2 => ?_
    obtain ⟨a, o, h1, h2, h3⟩ := din_get a2 (p1.ext e2 a1) p2 hc2
    exact ⟨a, o, h1, h2, by have e : (o.isSome != true) = !o.isSome := by cases o.isSome <;> rfl
                            rw [e] at h3; exact h3⟩
  exact ⟨PEi (pe_cmp (pc_dnotin hu ha hb) hm) rd, PTi (pt_cmp (pc_dnotin hu ha hb) hm) fun σ H Q h => rd σ H _ (bool_read din_bl Q h)⟩
theorem is_dput (hu : X.A.units + 1 < cLine) {o i e : Expr} {tp : Pos} {fo fi fe : Env → Sto → Out D} (h1 : IE X k W o fo) (h2 : IE X k W i fi) (h3 : IE X k W e fe) (he : swapsWith e (some (.Subscript o i tp)) pos.line X.env = pure false) : IS X k W (.Assign [.Subscript o i tp] e pos) fun env st =>
    (fe env st).thn env fun d s1 => (fo env s1).thn env fun x s2 => (fi env s2).thn env fun y s3 => match dputD x y d s3 with
    | some s4 => .nxt env s4
    | none => .bad := by
  refine PSi (ps_dput hu h1 h2 h3 he) fun D σ H h => ?_
  obtain ⟨r, env, st, hR, hE, hc⟩ := h
  refine cs_seq hR hE hc fun d s1 r1 H1 v1 e1 a1 b1 p1 hc1 => ?_
  refine cs_seq a1 b1 hc1 fun x s2 r2 H2 v2 e2 a2 b2 p2 hc2 => ?_
  refine cs_seq a2 b2 hc2 fun y s3 r3 H3 v3 e3 a3 b3 p3 hc3 => ?_
  cases x with
  | dct n =>
    cases y with
    | int i =>
      cases ep : dputD (.dct n) (.int i) d s3 with
      | none => rw [ep] at hc3; exact hc3.elim
      | some s4 =>
        rw [ep] at hc3
        have ep : ((s3[n]?).bind fun xs => if xs.length < lineN then some (s3.set n (dPut xs i d)) else none) = some s4 := ep
        obtain ⟨xs, es, e5⟩ := Option.bind_eq_some_iff.mp ep
        split at e5
        · rename_i hl
          cases e5
          obtain ⟨a, ea, q1, q2⟩ := (p2.ext e3 a2).dctD
          subst ea
          cases p3
          obtain ⟨kvs, i1, i2⟩ := a3.dic n xs es q1 q2
          have sk : ∀ u, H3 a = some u → SameK u (.dK (putK kvs (.inl i) v1)) := DctAt.same ⟨_, i1⟩
          have ex : Ext r3 H3 r3 (upd H3 a (.dK (putK kvs (.inl i) v1))) := Ext.write q1 sk
          have pv := (p1.ext e2 a1).ext e3 a2
          refine ⟨a, _, rfl, DPut.k (k := .inl i) i1 (by rw [i2.len, ← lineN_eq]; exact hl), ?_⟩
          exact CS.nx (CS.mono hc3 ex) (a3.writeC q1 sk (.inr (.inl ⟨_, upd_same, (i2.put pv).ext ex a3⟩))) (b3.ext ex a3)
        · cases e5
    | _ => exact hc3.elim
  | _ => exact hc3.elim
end
end Mi
end
section
/-! MiO: expressions are as their small ones say. -/
namespace Mi
open PySem PySem.Spec PyProof.Rows L2
theorem esC_nst {S : Sx} {c : Ck} : ∀ {es : Es} {xs : List Expr}, esC S.toTx c es xs = true → (∀ x ∈ xs, nst x = true)
  | .nil, xs, h => by
    cases xs with
    | nil => intro x hx; cases hx
    | cons => cases h
  | .cons e es, [], h => by cases h
  | .cons e es, x :: xs, h => by
    have h : (nst x && (eC S.toTx c e x && esC S.toTx c es xs)) = true := h
    simp only [Bool.and_eq_true] at h
    intro y hy
    rcases List.mem_cons.mp hy with q | q
    · rw [q]; exact h.1
    · exact esC_nst h.2.2 y q
theorem esC_len {S : Sx} {c : Ck} : ∀ {es : Es} {xs : List Expr}, esC S.toTx c es xs = true → ∀ {cx : Mi.Cx} {env : Env} {st : Sto} {ds : List D} {s : Sto}, evEs cx es env st = .ok ds s → ds.length = xs.length
  | .nil, xs, h, cx, env, st, ds, s, e => by
    cases xs with
    | nil => cases e; rfl
    | cons => cases h
  | .cons e es, [], h, cx, env, st, ds, s, _ => by cases h
  | .cons e es, x :: xs, h, cx, env, st, ds, s, q => by
    have h : (nst x && (eC S.toTx c e x && esC S.toTx c es xs)) = true := h
    simp only [Bool.and_eq_true] at h
    obtain ⟨d, s1, e1, e2⟩ := bind_ok (show ((evE cx e env st).bind fun x s1 => (evEs cx es env s1).bind fun xs s2 => .ok (x :: xs) s2) = .ok ds s from q)
    obtain ⟨ds2, s2, e3, e4⟩ := bind_ok e2
    cases e4
    rw [List.length_cons, List.length_cons, esC_len h.2.2 e3]
theorem sC_set {S : Sx} {c : Ck} {s : Sr} {tg it : Expr} (h : sC S.toTx c s tg it = true) : nset it = true := by
  cases s with
  | seq e =>
    unfold sC at h
    rw [Bool.and_eq_true] at h
    exact h.1
  | rng es => unfold sC at h; split at h <;> first | rfl | cases h
  | enum k es => unfold sC at h; split at h <;> first | rfl | cases h
  | zip es => unfold sC at h; split at h <;> first | rfl | cases h
theorem own_map (N : List Str) (own : List Nat) : (own.map fun i => (N.getD i "", i)).map (·.2) = own := by
  rw [List.map_map]
  exact List.map_id' own
theorem units65 {k : Nat} {A : Around} (r : Room k A) : A.units + 65 < cLine := by have := r.un; omega
theorem units1 {k : Nat} {A : Around} (r : Room k A) : A.units + 1 < cLine := by have := r.un; omega
theorem both {X : L2.Cx} {k : Kx} {W : WX} {x : Expr} {f : Env → Sto → Out D} (kK : k.K = X.K) (a : IE X k W x f) (hp : ptest x = true) : IE X k W x f ∧ IT X k W x (fun env st => (f env st).bind fun x s1 => ofO (tru s1 x) s1) := ⟨a, it_val kK a hp⟩
mutual
theorem sndE (S : Sx) : ∀ (e : E) {c : Ck} {X : L2.Cx} {W : WX} (G : GX S c X W) (x : Expr), eC S.toTx c e x = true → IE X S.k W x (evE S.cx e) ∧ IT X S.k W x (evT S.cx e)
  | .no, c, X, W, G, x, h => ⟨⟨fun pins s σ H Q I q => by
      obtain ⟨r, env, st, hR, hE, hc⟩ := q
      exact hc.elim⟩, ⟨fun pins s σ H Q I q => by
      obtain ⟨r, env, st, hR, hE, hc⟩ := q
      exact hc.elim⟩⟩
  | .var i, c, X, W, G, x, h => by
    unfold eC at h
    split at h
    · rename_i n p
      exact both G.kK (ie_var G.L h) rfl
    · cases h
  | .cst d, c, X, W, G, x, h => by
    unfold eC at h
    split at h
    · exact both G.kK (ie_cst h) rfl
    · cases h
  | .glob n, c, X, W, G, x, h => by
    unfold eC at h
    split at h
    · simp only [Bool.and_eq_true, decide_eq_true_eq] at h
      obtain ⟨rfl, h⟩ := h
      rename_i m p
      exact both G.kK (ie_glob G h) rfl
    · cases h
  | .tup es, c, X, W, G, x, h => by
    unfold eC at h
    split at h
    · exact both G.kK (ie_tup (sndEs S es G _ h)) rfl
    · cases h
  | .lst fz es, c, X, W, G, x, h => by
    unfold eC at h
    split at h
    · exact both G.kK (ie_lst (sndEs S es G _ h)) rfl
    · cases h
  | .bin fz o a b, c, X, W, G, x, h => by
    unfold eC at h
    split at h
    · simp only [Bool.and_eq_true, decide_eq_true_eq] at h
      obtain ⟨rfl, h1, h2⟩ := h
      exact both G.kK (ie_bin G.kK (sndE S a G _ h1).1 (sndE S b G _ h2).1) rfl
    · cases h
  | .neg a, c, X, W, G, x, h => by
    unfold eC at h
    split at h
    · exact both G.kK (ie_neg (sndE S a G _ h).1) rfl
    · cases h
  | .cmp o a b, c, X, W, G, x, h => by
    unfold eC at h
    split at h
    · simp only [Bool.and_eq_true, decide_eq_true_eq, Bool.not_eq_true'] at h
      obtain ⟨rfl, h0, h1, h2⟩ := h
      exact ie_cmp G.kK (units65 G.room) h0 (sndE S a G _ h1).1 (sndE S b G _ h2).1
    · cases h
  | .chain o p a b d, c, X, W, G, x, h => by
    unfold eC at h
    split at h
    · simp only [Bool.and_eq_true, decide_eq_true_eq, Bool.not_eq_true'] at h
      obtain ⟨rfl, rfl, h0, h1, h2, h3⟩ := h
      exact ie_chain G.kK (units65 G.room) h0 (sndE S a G _ h1).1 (sndE S b G _ h2).1 (sndE S d G _ h3).1
    · cases h
  | .isN a, c, X, W, G, x, h => by
    unfold eC at h
    split at h
    · exact ie_isN (sndE S a G _ h).1
    · cases h
  | .notN a, c, X, W, G, x, h => by
    unfold eC at h
    split at h
    · exact ie_notN (sndE S a G _ h).1
    · cases h
  | .and_ a b, c, X, W, G, x, h => by
    unfold eC at h
    split at h
    · simp only [Bool.and_eq_true] at h
      obtain ⟨a1, a2⟩ := sndE S a G _ h.1
      obtain ⟨b1, b2⟩ := sndE S b G _ h.2
      exact ⟨and_v G.kK a1 (one_v b1), and_t a2 (one_t b2)⟩
    · simp only [Bool.and_eq_true] at h
      obtain ⟨a1, a2⟩ := sndE S a G _ h.1
      obtain ⟨b1, b2⟩ := sndE S b G _ h.2
      exact ⟨and_v G.kK a1 b1, and_t a2 b2⟩
    · cases h
  | .or_ a b, c, X, W, G, x, h => by
    unfold eC at h
    split at h
    · simp only [Bool.and_eq_true] at h
      obtain ⟨a1, a2⟩ := sndE S a G _ h.1
      obtain ⟨b1, b2⟩ := sndE S b G _ h.2
      exact ⟨or_v G.kK a1 (one_v b1), or_t a2 (one_t b2)⟩
    · simp only [Bool.and_eq_true] at h
      obtain ⟨a1, a2⟩ := sndE S a G _ h.1
      obtain ⟨b1, b2⟩ := sndE S b G _ h.2
      exact ⟨or_v G.kK a1 b1, or_t a2 b2⟩
    · cases h
  | .not_ a, c, X, W, G, x, h => by
    unfold eC at h
    split at h
    · obtain ⟨a1, a2⟩ := sndE S a G _ h
      exact ⟨not_v G.kK a1, not_t a2⟩
    · cases h
  | .ite t a b, c, X, W, G, x, h => by
    unfold eC at h
    split at h
    · simp only [Bool.and_eq_true] at h
      obtain ⟨_, t2⟩ := sndE S t G _ h.1
      obtain ⟨a1, a2⟩ := sndE S a G _ h.2.1
      obtain ⟨b1, b2⟩ := sndE S b G _ h.2.2
      exact ⟨ite_v t2 a1 b1, ite_t t2 a2 b2⟩
    · cases h
  | .ix a b, c, X, W, G, x, h => by
    unfold eC at h
    split at h
    · simp only [Bool.and_eq_true] at h
      exact both G.kK (ie_ix G.kK h.1 (sndE S a G _ h.2.1).1 (sndE S b G _ h.2.2).1) rfl
    · cases h
  | .sl a lo hi, c, X, W, G, x, h => by
    unfold eC at h
    split at h
    · simp only [Bool.and_eq_true] at h
      exact both G.kK (ie_sl G.kK (sndE S a G _ h.1).1 (sndO S lo G _ h.2.1) (sndO S hi G _ h.2.2)) rfl
    · cases h
  | .call fz f es ks kes, c, X, W, G, x, h => by
    unfold eC at h
    split at h
    · simp only [Bool.and_eq_true] at h
      obtain ⟨⟨h1, h2⟩, h3⟩ := h
      split at h2
      · rename_i df hd
        rw [Bool.and_eq_true, Bool.and_eq_true, decide_eq_true_eq, decide_eq_true_eq] at h2
        obtain ⟨⟨rfl, h2⟩, hmt⟩ := h2
        cases ks with
        | nil =>
          simp only [Bool.and_eq_true] at h3
          obtain ⟨h4, h5, h6⟩ := h3
          cases kes with
          | cons => cases h6
          | nil =>
            have h4 := List.isEmpty_iff.mp h4
            subst h4
            exact both (x := .Call _ _ _ _) G.kK (ie_call (fz := fz) G hd hmt h1 (esC_nst h5) (sndEs S es G _ h5) (fun hx env st => by
                subst hx
                cases es with
                | nil => rfl
                | cons => cases h5)) rfl
        | cons q ks =>
          simp only [Bool.and_eq_true, decide_eq_true_eq] at h3
          obtain ⟨h4, h5, h6, h7⟩ := h3
          cases es with
          | cons => cases h7
          | nil =>
            have h5 := List.isEmpty_iff.mp h5
            subst h5
            have h2 := h2.resolve_left (fun z => nomatch z)
            exact both (x := .Call _ _ _ _) G.kK (ie_callK (fz := fz) G hd hmt h1 (fun z => nomatch z) h2.1 h2.2 h4 (sndK S kes G _ h6)) rfl
      · cases h2
    · cases h
  | .dnew, c, X, W, G, x, h => by
    unfold eC at h
    split at h
    · exact both (x := .Dict [] [] _) G.kK ie_dnew rfl
    · cases h
  | .dnew1 a b, c, X, W, G, x, h => by
    unfold eC at h
    split at h
    · rw [Bool.and_eq_true] at h
      exact both (x := .Dict _ _ _) G.kK (ie_dnew1 (sndE S a G _ h.1).1 (sndE S b G _ h.2).1) rfl
    · cases h
  | .dget a b, c, X, W, G, x, h => by
    unfold eC at h
    split at h
    · simp only [Bool.and_eq_true] at h
      exact both (x := .Subscript _ _ _) G.kK (ie_dget (units1 G.room) h.1 (sndE S a G _ h.2.1).1 (sndE S b G _ h.2.2).1) rfl
    · cases h
  | .din neg a b, c, X, W, G, x, h => by
    unfold eC at h
    split at h
    · simp only [Bool.and_eq_true, Bool.not_eq_true'] at h
      obtain ⟨rfl, h0, h1, h2⟩ := h
      exact ie_din (units1 G.room) h0 (sndE S a G _ h1).1 (sndE S b G _ h2).1
    · simp only [Bool.and_eq_true, Bool.not_eq_true'] at h
      obtain ⟨rfl, h0, h1, h2⟩ := h
      exact ie_dnin (units1 G.room) h0 (sndE S a G _ h1).1 (sndE S b G _ h2).1
    · cases h
  | .fld cl a fl, c, X, W, G, x, h => by
    unfold eC at h
    split at h
    · simp only [Bool.and_eq_true, decide_eq_true_eq] at h
      obtain ⟨rfl, h1, h2, h3⟩ := h
      exact both (x := .Attribute _ _ _) G.kK (ie_fld G h1 h2 (sndE S a G _ h3).1) rfl
    · cases h
  | .new cl f es, c, X, W, G, x, h => by
    unfold eC at h
    split at h
    · simp only [Bool.and_eq_true, decide_eq_true_eq, Bool.not_eq_true'] at h
      obtain ⟨rfl, h1, h2, h3, h4⟩ := h
      exact both (x := .Call _ _ _ _) G.kK (ie_new G h1 h2 (esC_nst h4) (fun z => by rw [z] at h3; cases h3) (sndEs S es G _ h4)) rfl
    · cases h
  | .mcall fz cl m f o es, c, X, W, G, x, h => by
    unfold eC at h
    split at h
    · simp only [Bool.and_eq_true, decide_eq_true_eq] at h
      obtain ⟨rfl, h1, h2, h3, h4, h5, h6⟩ := h
      exact both (x := .Call _ _ _ _) G.kK (ie_mcall (fz := fz) G h1 h2 h3 h4 (esC_nst h6) (sndE S o G _ h5).1 (sndEs S es G _ h6) (fun hx env st => by
        subst hx
        cases es with
        | nil => rfl
        | cons => cases h6)) rfl
    · cases h
  | .bi fz b es, c, X, W, G, x, h => by
    unfold eC at h
    split at h
    · simp only [Bool.and_eq_true, decide_eq_true_eq, Bool.or_eq_true, Bool.not_eq_true'] at h
      obtain ⟨rfl, h1, h2, h3, h4, h5⟩ := h
      exact both G.kK (ie_bi G h1 h4 (esC_nst h2) (fun z => by rw [z] at h3; cases h3) h5 (sndEs S es G _ h2)) rfl
    · cases h
  | .rev fz a, c, X, W, G, x, h => by
    unfold eC at h
    split at h
    · exact both G.kK (ie_rev G.kK (sndE S a G _ h).1) rfl
    · cases h
  | .tupS a b, c, X, W, G, x, h => by
    unfold eC at h
    split at h
    · simp only [Bool.and_eq_true] at h
      exact both G.kK (ie_tupS G.kK h.1 (sndE S a G _ h.2.1).1 (sndE S b G _ h.2.2).1) rfl
    · cases h
  | .look a b, c, X, W, G, x, h => by
    unfold eC at h
    split at h
    · simp only [Bool.and_eq_true, decide_eq_true_eq] at h
      obtain ⟨rfl, h1, h2, h3, h4, h5⟩ := h
      exact both G.kK (ie_look G h1 h2 h3 (sndE S a G _ h4).1 (sndE S b G _ h5).1) rfl
    · cases h
  | .glook n ps b, c, X, W, G, x, h => by
    unfold eC at h
    split at h
    · simp only [Bool.and_eq_true, decide_eq_true_eq] at h
      obtain ⟨rfl, h1, h2, h3, h4⟩ := h
      exact both G.kK (ie_glook G h1 h2 h3 (sndE S b G _ h4).1) rfl
    · cases h
  | .isi a ts, c, X, W, G, x, h => by
    unfold eC at h
    split at h
    · simp only [Bool.and_eq_true, decide_eq_true_eq] at h
      obtain ⟨rfl, h1, h2, h3, h4⟩ := h
      have key : ∀ {y : Expr}, IE X S.k W y (evE S.cx (.isi a ts)) → ptest y = true → IE X S.k W y (evE S.cx (.isi a ts)) ∧ IT X S.k W y (evT S.cx (.isi a ts)) := fun q e => ⟨q, it_val G.kK q e⟩
      split at h4
      · exact key (ie_isi1 G h1 h2 h4 (sndE S a G _ h3).1) rfl
      · split at h4
        · simp only [Bool.and_eq_true, decide_eq_true_eq] at h4
          exact key (ie_isiN G h1 h2 h4.2 h4.1 (sndE S a G _ h3).1) rfl
        · cases h4
    · cases h
  | .mth fz m o es, c, X, W, G, x, h => by
    unfold eC at h
    split at h
    · rename_i y nm ap xs cp
      simp only [Bool.and_eq_true, decide_eq_true_eq] at h
      obtain ⟨rfl, h1, h2, h3, h4, h5, h6⟩ := h
      have a : IE X S.k W (.Call (.Attribute y (mtS m) ap) xs [] cp) (evE S.cx (.mth fz m o es)) := by
        cases xs with
        | nil =>
          cases es with
          | nil => exact ie_mth0 (fz := fz) G.kK h1 h2 h4 (sndE S o G _ h5).1
          | cons => cases h6
        | cons z zs => exact ie_mth (fz := fz) G.kK h1 h2 h3 h4 (esC_nst h6) (sndE S o G _ h5).1 (sndEs S es G _ h6)
      exact ⟨a, it_val G.kK a rfl⟩
    · cases h
  | .rg tu fz lo hi, c, X, W, G, x, h => by
    unfold eC at h
    split at h
    · simp only [Bool.and_eq_true, decide_eq_true_eq] at h
      obtain ⟨rfl, rfl, h1, h2, h3, h4, h5⟩ := h
      cases lo with
      | some => cases h5
      | none =>
        exact both G.kK (ie_rg1 (tu := tu) (fz := fz) G h1 h2 h3 (sndE S hi G _ h4).1) rfl
    · simp only [Bool.and_eq_true, decide_eq_true_eq] at h
      obtain ⟨rfl, rfl, h1, h2, h3, h4, h5, h6⟩ := h
      cases lo with
      | none => cases h6
      | some lo =>
        exact both G.kK (ie_rg2 (tu := tu) (fz := fz) G h1 h2 h3 h4 (sndE S lo G _ h6).1 (sndE S hi G _ h5).1) rfl
    · cases h
  | .lc fz own g s t e, c, X, W, G, x, h => by
    unfold eC at h
    split at h
    · simp only [Bool.and_eq_true, decide_eq_true_eq] at h
      obtain ⟨h1, h2, h3, h4, h5, h6⟩ := h
      have ok := blkOk_by h1
      rw [← G.L.N, ← G.L.sc] at ok
      obtain ⟨i1, i2⟩ := sndS S s G _ _ h2
      refine both (x := .ListComp _ _ _ _) G.kK (?_ : IE X S.k W (.ListComp _ _ _ _) (evE S.cx (.lc fz own g s t e))) rfl
      · refine PEi (pe_lc G.L.calm (by rw [G.L.N]; exact G.L.nd) i1 ok (fun s' H' C cl fp => pg_of (G.blk ok s' H' C cl fp).L (G.blk ok s' H' C cl fp).kK g _ h3) (fun s' H' C cl fp => sndOT S t (G.blk ok s' H' C cl fp) _ h5) (fun s' H' C cl fp => (sndE S e (G.blk ok s' H' C cl fp) _ h6).1) (fun x => fold_it i2)) fun σ H Q q => ?_
        rw [G.L.N, own_map]
        exact lc_read h4 σ H Q q
    · cases h
  | .lc2 fz own own2 g s t g2 s2 t2 e, c, X, W, G, x, h => by
    unfold eC at h
    split at h
    · simp only [Bool.and_eq_true, decide_eq_true_eq] at h
      obtain ⟨h1, h2, h3, h4, h5, h6, h7, h8, h9, h10, h11⟩ := h
      have ok := blkOk_by h1
      rw [← G.L.N, ← G.L.sc] at ok
      obtain ⟨i1, i2⟩ := sndS S s G _ _ h2
      refine both (x := .ListComp _ _ _ _) G.kK (?_ : IE X S.k W (.ListComp _ _ _ _) (evE S.cx (.lc2 fz own own2 g s t g2 s2 t2 e))) rfl
      · refine PEi (pe_lc2 (vs1 := own2) G.L.calm (by rw [G.L.N]; exact G.L.nd) i1 ok (by rw [G.L.N, own_map]; exact h6) (fun s' H' C cl fp => pg_of (G.blk ok s' H' C cl fp).L (G.blk ok s' H' C cl fp).kK g _ h3) (fun s' H' C cl fp => sndOT S t (G.blk ok s' H' C cl fp) _ h5)
          (fun s' H' C cl fp => (sndS S s2 (G.blk ok s' H' C cl fp) _ _ h7).1) (fun s' H' C cl fp => pg_of (G.blk ok s' H' C cl fp).L (G.blk ok s' H' C cl fp).kK g2 _ h8) (fun s' H' C cl fp => sndOT S t2 (G.blk ok s' H' C cl fp) _ h10)
          (fun s' H' C cl fp => (sndE S e (G.blk ok s' H' C cl fp) _ h11).1) (fun x => fold_it i2) (fun env x => fold_it (sC_set h7))) fun σ H Q q => ?_
        rw [G.L.N, own_map]
        exact lc2_read h4 h9 σ H Q q
    · cases h
theorem sndEs (S : Sx) : ∀ (es : Es) {c : Ck} {X : L2.Cx} {W : WX} (G : GX S c X W) (xs : List Expr), esC S.toTx c es xs = true → IA X S.k W xs (evEs S.cx es)
  | .nil, c, X, W, G, xs, h => by
    cases xs with
    | nil => exact PAi pa_nil fun σ H Q q => let ⟨r, env, st, hR, hE, hc⟩ := q; hc r H [] Ext.refl hR .nil
    | cons => cases h
  | .cons e es, c, X, W, G, [], h => by cases h
  | .cons e es, c, X, W, G, x :: xs, h => by
    have h : (nst x && (eC S.toTx c e x && esC S.toTx c es xs)) = true := h
    simp only [Bool.and_eq_true] at h
    refine PAi (pa_cons (sndE S e G x h.2.1).1 (sndEs S es G xs h.2.2) (star_cons h.1)) fun σ H Q q => ?_
    obtain ⟨r, env, st, hR, hE, hc⟩ := q
    have hc : CP (RVs S.k) S.k W σ r H ((evE S.cx e env st).bind fun x s1 => (evEs S.cx es env s1).bind fun xs s2 => .ok (x :: xs) s2) Q := hc
    refine cr_seq hR hE hc fun d s1 r1 H1 v x a b p hc1 => ?_
    exact cr_seq a b hc1 fun ds s2 r2 H2 vs x2 a2 b2 p2 hc2 => hc2 r2 H2 (v :: vs) Ext.refl a2 (.cons (p.ext x2 a) p2)
theorem sndK (S : Sx) : ∀ (es : Es) {c : Ck} {X : L2.Cx} {W : WX} (G : GX S c X W) (kws : List Keyword), esC S.toTx c es (kws.map (·.value)) = true → PKi X S.k W kws (evEs S.cx es)
  | .nil, c, X, W, G, kws, h => by
    cases kws with
    | nil =>
      refine ⟨fun pos pins s σ H Q I q => ?_⟩
      obtain ⟨r, env, st, hR, hE, hc⟩ := q
      exact (pk_nil (X := X)).run pos pins s σ H Q I (hc r H [] Ext.refl hR .nil)
    | cons => cases h
  | .cons e es, c, X, W, G, [], h => by cases h
  | .cons e es, c, X, W, G, ⟨nm, x, p⟩ :: xs, h => by
    have h : (nst x && (eC S.toTx c e x && esC S.toTx c es (xs.map (·.value)))) = true := h
    simp only [Bool.and_eq_true] at h
    refine ⟨fun pos pins s σ H Q I q => ?_⟩
    refine (pk_cons (sndE S e G x h.2.1).1 (sndK S es G xs h.2.2)).run pos pins s σ H Q I ?_
    obtain ⟨r, env, st, hR, hE, hc⟩ := q
    have hc : CP (RVs S.k) S.k W σ r H ((evE S.cx e env st).bind fun x s1 => (evEs S.cx es env s1).bind fun xs s2 => .ok (x :: xs) s2) Q := hc
    refine cr_seq hR hE hc fun d s1 r1 H1 v x a b p hc1 => ?_
    exact cr_seq a b hc1 fun ds s2 r2 H2 vs x2 a2 b2 p2 hc2 => hc2 r2 H2 (v :: vs) Ext.refl a2 (.cons (p.ext x2 a) p2)
theorem sndO (S : Sx) : ∀ (o : Eo) {c : Ck} {X : L2.Cx} {W : WX} (G : GX S c X W) (x : Option Expr), oC S.toTx c o x = true → PartOk X S.k W x (evO S.cx o)
  | .none, c, X, W, G, x, h => by
    cases x with
    | none => exact part_none
    | some => cases h
  | .some e, c, X, W, G, x, h => by
    cases x with
    | none => cases h
    | some y => exact part_some (sndE S e G y h).1
theorem sndOT (S : Sx) : ∀ (o : Eo) {c : Ck} {X : L2.Cx} {W : WX} (G : GX S c X W) (xs : List Expr), otC S.toTx c o xs = true → PTs X xs (cr RB S.k W (evOT S.cx o))
  | .none, c, X, W, G, xs, h => by
    cases xs with
    | nil =>
      refine ⟨fun pins s σ H Q I q => ?_⟩
      obtain ⟨r, env, st, hR, hE, hc⟩ := q
      exact (pts_nil (X := X)).run pins s σ H Q I (hc r H true Ext.refl hR rfl)
    | cons => cases h
  | .some e, c, X, W, G, xs, h => by
    unfold otC at h
    split at h
    · exact pts_one (sndE S e G _ h).2
    · cases h
theorem sndS (S : Sx) : ∀ (s : Sr) {c : Ck} {X : L2.Cx} {W : WX} (G : GX S c X W) (tg it : Expr), sC S.toTx c s tg it = true → PI X tg it (cr (RI S.k) S.k W (evS S.cx s)) ∧ nset it = true
  | .seq e, c, X, W, G, tg, it, h => by
    unfold sC at h
    rw [Bool.and_eq_true] at h
    exact ⟨pi_seqR G.kK (sndE S e G _ h.2).1, h.1⟩
  | .rng es, c, X, W, G, tg, it, h => by
    unfold sC at h
    split at h
    · simp only [Bool.and_eq_true, decide_eq_true_eq] at h
      obtain ⟨rfl, h1, h2, h3⟩ := h
      obtain ⟨g1, g2⟩ := gl_of G.L h1
      exact ⟨pi_rg g1 (G.M.blt _ (by decide +kernel)) (sndEs S es G _ h3) (esC_nst h3) h2 fun env st ds s e => esC_len h3 e, rfl⟩
    · cases h
  | .enum k es, c, X, W, G, tg, it, h => by
    unfold sC at h
    split at h
    · simp only [Bool.and_eq_true, decide_eq_true_eq, Bool.not_eq_true'] at h
      obtain ⟨rfl, h1, h2, rfl, h3, h4⟩ := h
      obtain ⟨g1, g2⟩ := gl_of G.L h1
      split at h2
      · exact ⟨pi_en g1 (G.M.blt _ (by decide +kernel)) G.kK (sndEs S es G _ h4) (esC_nst h4) (fun z => by rw [z] at h3; cases h3), rfl⟩
      · cases h2
    · cases h
  | .zip es, c, X, W, G, tg, it, h => by
    unfold sC at h
    split at h
    · simp only [Bool.and_eq_true, decide_eq_true_eq, Bool.not_eq_true'] at h
      obtain ⟨rfl, h1, h2, h3, h4⟩ := h
      obtain ⟨g1, g2⟩ := gl_of G.L h1
      split at h2
      · exact ⟨pi_zz g1 (G.M.blt _ (by decide +kernel)) G.kK (sndEs S es G _ h4) (esC_nst h4) (fun z => by rw [z] at h3; cases h3), rfl⟩
      · cases h2
    · cases h
end
end Mi
end
section
/-! MiP: the readings of statements. -/
namespace Mi
open PySem PySem.Spec PyProof.Rows L2

/-! ### stores that are swapped -/
def swS (nk : Str → Option NameKind) (ts vs : List Expr) : Option (Option (List Str)) :=
  if (!(ts.length == 2 || ts.length == 3) || vs.length != ts.length) = true then some none else
  if (vs.any fun | .Starred .. => true | _ => false) = true then some none else
  let line := (ts.head?.map (·.pos.line)).getD 0
  let names := ts.filterMap fun
    | .Name id pos => if nk id == some .local && pos.line == line then some id else none
    | _ => none
  if (names.length != ts.length || names.eraseDups.length != names.length) = true then some none else
  if vs.all (foldedForSure 8) = true then some none else
  if vs.all (constantsAlone 8) = true then none else some (some names)
theorem swS_ok {ts vs : List Expr} {k k2 : Nat} {p p2 : Pos} {env : PySem.Env} {o : Option (List Str)} (hb : env.blockKind = .function) (h : swS env.kindOf ts vs = some o) : swappedStores [.Tuple ts k p] (.Tuple vs k2 p2) env = pure o := by
  unfold swS at h
  unfold swappedStores
  dsimp only at h ⊢
  simp only [hb, bne_self_eq_false, Bool.or_false]
  split at h
  · rename_i q; cases h; exact if_pos q
  · rename_i q
    refine (if_neg q).trans ?_
    split at h
    · rename_i q; cases h; exact if_pos q
    · rename_i q
      refine (if_neg q).trans ?_
      split at h
      · rename_i q; cases h; exact if_pos q
      · rename_i q
        refine (if_neg q).trans ?_
        split at h
        · rename_i q; cases h; exact if_pos q
        · rename_i q
          refine (if_neg q).trans ?_
          split at h
          · cases h
          · rename_i q
            cases h
            exact if_neg q

theorem LX.block {X : L2.Cx} {c : Ck} (L : LX X c) : X.env.blockKind = .function := by
  unfold PySem.Env.blockKind
  rw [L.sc, L.kind]
  rfl
/-- no comprehension -/
def nlc : Expr → Bool
  | .ListComp _ _ _ _ => false
  | .SetComp _ _ _ _ => false
  | .DictComp _ _ _ _ _ => false
  | _ => true
theorem nlc_no {e : Expr} {t : Option Expr} {l : Nat} {env : PySem.Env} (h : nlc e = true) : swapsWith e t l env = pure false := by
  cases e <;> first | rfl | cases h
def swL (nk : Str → Option NameKind) (scope : Scope) (lp : Pos) (t : Str) (tp : Pos) : Bool := nk t == some .local && tp.line == lp.line && !(scope.names.any fun (n, k) => n == t && (k == .local || k == .cell))
theorem swL_ok {elt : Expr} {gs : List Comprehension} {scope : Scope} {lp tp : Pos} {t : Str} {l : Nat} {env : PySem.Env} (hb : env.blockKind = .function) : swapsWith (.ListComp elt gs scope lp) (some (.Name t tp)) l env = pure (swL env.kindOf scope lp t tp) := by
  unfold swapsWith swL
  simp only [hb]
  rfl
section
variable {S : Sx} {c : Ck} {X : L2.Cx} {k : Kx} {W : WX} {a b : Expr} {pos : Pos} {f g : Env → Sto → Out D} {σ : L2.St} {H : Hp}
theorem asg_read {gt : G} (D : Ends) (h : crS k W (fun env st => (f env st).thn env fun d s1 => match gset gt d env with
    | some env1 => .nxt env1 s1
    | none => .bad) D σ H) : tAsg (cr (RV k) k W f) (rG k gt) D σ H := by
  obtain ⟨r, env, st, hR, hE, hc⟩ := h
  refine cs_seq hR hE hc fun d s1 r1 H1 v x a b p hc1 => ?_
  cases e : gset gt d env with
  | none => rw [e] at hc1; exact hc1.elim
  | some env1 =>
    rw [e] at hc1
    exact ⟨r1, s1, env, d, env1, a, b, p, e, fun σ' hE' _ => CS.nx hc1 a hE'⟩
theorem set_read {i : Nat} (D : Ends) (h : crS k W (fun env st => (f env st).thn env fun d s1 => match gset (.nm i) d env with
    | some env1 => .nxt env1 s1
    | none => .bad) D σ H) : cr (RV k) k W f σ H fun x H1 => gName i x σ H1 D.nx := by
  obtain ⟨r, env, st, hR, hE, hc⟩ := h
  refine cs_seq hR hE hc fun d s1 r1 H1 v x a b p hc1 => ?_
  have hc1 : CS k W r1 H1 (match (if i < env.length then some (env.set i (some d)) else none) with
    | some env1 => .nxt env1 s1
    | none => .bad) D := hc1
  split at hc1
  · rename_i env1 e
    split at e
    · cases e
      exact CS.nx hc1 a (b.set p i)
    · cases e
  · exact hc1.elim
abbrev asgS (gt : G) (f : Env → Sto → Out D) : Env → Sto → SOut := fun env st => (f env st).thn env fun d s1 => match gset gt d env with
  | some env1 => .nxt env1 s1
  | none => .bad
theorem is_asg {gt : G} {tg : Expr} (G' : GX S c X W) (hg : gC c gt tg = true) (he : IE X S.k W a f) (h1 : swapsWith a (some tg) pos.line X.env = pure false) (h2 : swappedStores [tg] a X.env = pure none) : IS X S.k W (.Assign [tg] a pos) (asgS gt f) := by
  refine PSi (ps_asg he (pg_of G'.L G'.kK gt tg hg) h1 h2 ?_) fun D σ H h => asg_read D h
  cases gt with
  | nm i => unfold gC at hg; split at hg <;> first | rfl | cases hg
  | tup gs => unfold gC at hg; split at hg <;> first | rfl | cases hg
/-! ### several names -/
theorem setsR_get {r : Rg} {K : PySem.W.Frag} : ∀ {is : List Nat} {vs : List V} {ds : List D} {env : Env} {σ : L2.St}, RelE K r H env σ → Reps K r H vs ds → is.length = ds.length → RelE K r H (setsR env is ds) (is.zip vs |>.foldr (fun p s => s.set p.1 (some p.2)) σ)
  | [], vs, ds, env, σ, hE, _, _ => hE
  | i :: is, vs, [], env, σ, hE, _, h => by cases h
  | i :: is, _, d :: ds, env, σ, hE, .cons p ps, h => RelE.set (setsR_get (is := is) hE ps (by simpa using h)) p i
theorem setsR_comm {i : Nat} {d : Option D} : ∀ {is : List Nat} {ds : List D} {env : Env}, i ∉ is → setsR (env.set i d) is ds = (setsR env is ds).set i d
  | [], ds, env, h => rfl
  | j :: is, [], env, h => rfl
  | j :: is, e :: ds, env, h => by
    show (setsR (env.set i d) is ds).set j (some e) = ((setsR env is ds).set j (some e)).set i d
    rw [setsR_comm fun z => h (List.mem_cons_of_mem _ z), List.set_comm _ _ (fun z => h (by rw [z]; exact List.mem_cons_self))]
theorem setsR_gsets : ∀ {is : List Nat} {ds : List D} {env : Env}, is.Nodup → is.length = ds.length → (∀ i ∈ is, i < env.length) → gsets (is.map .nm) ds env = some (setsR env is ds)
  | [], [], env, _, _, _ => rfl
  | [], _ :: _, env, _, h, _ => by cases h
  | i :: is, [], env, _, h, _ => by cases h
  | i :: is, d :: ds, env, hn, h, hl => by
    obtain ⟨h1, h2⟩ := List.nodup_cons.mp hn
    show (if i < env.length then some (env.set i (some d)) else none).bind (gsets (is.map .nm) ds) = some ((setsR env is ds).set i (some d))
    rw [if_pos (hl i List.mem_cons_self)]
    show gsets (is.map .nm) ds (env.set i (some d)) = _
    rw [setsR_gsets h2 (by simpa using h) (fun j hj => by rw [List.length_set]; exact hl j (List.mem_cons_of_mem _ hj)), setsR_comm h1]
def Ck.kd (c : Ck) (x : Str) : Option NameKind := c.sc.names.lookup x
def parC (c : Ck) : List Nat → List Expr → Bool
  | [], ts => ts.isEmpty
  | i :: is, ts => (match ts with
    | .Name x _ :: ts => locC c i x && (match c.sc.names.lookup x with
      | some .local => true
      | _ => false) && parC c is ts
    | _ => false)
def parN : List Expr → List Str
  | .Name x _ :: ts => x :: parN ts
  | _ => []
theorem parN_len : ∀ (is : List Nat) (ts : List Expr), parC c is ts = true → (parN ts).length = is.length
  | [], ts, h => by
    cases ts with
    | nil => rfl
    | cons => cases h
  | i :: is, ts, h => by
    unfold parC at h
    split at h
    · simp only [Bool.and_eq_true] at h
      exact congrArg (· + 1) (parN_len is _ h.2)
    · cases h
theorem parN_run {pins : List (Addr × Obj)} (L : LX X c) : ∀ (is : List Nat) (ts : List Expr) (vs : List V) (us : List Value) (s : Shared) (σ : L2.St) (Q : Unit → Shared → Prop), parC c is ts = true → Inv X pins σ H s → Vals vs us → vs.length = is.length →
    (∀ s', Inv X pins ((is.zip vs).foldr (fun p s => s.set p.1 (some p.2)) σ) H s' → Q () s') →
    wpAny (model X.prog X.w) X.A (assignInOrder ((parN ts).reverse.map fun n => bindName X.env n) us.reverse) Q X.xe s := by
  have gen : ∀ (is : List Nat) (ts : List Expr) (vs : List V) (us : List Value) (tl : List (Value → Sem Unit)) (ut : List Value) (s : Shared) (σ : L2.St) (Q : Unit → Shared → Prop), parC c is ts = true → Inv X pins σ H s → Vals vs us → vs.length = is.length →
      (∀ s', Inv X pins ((is.zip vs).foldr (fun p s => s.set p.1 (some p.2)) σ) H s' → wpAny (model X.prog X.w) X.A (assignInOrder tl ut) Q X.xe s') →
      wpAny (model X.prog X.w) X.A (assignInOrder (((parN ts).reverse.map fun n => bindName X.env n) ++ tl) (us.reverse ++ ut)) Q X.xe s := by
    intro is
    induction is with
    | nil =>
      intro ts vs us tl ut s σ Q h I rv hl q
      cases ts with
      | cons => cases h
      | nil =>
        cases vs with
        | cons => cases hl
        | nil =>
          cases rv
          exact q s I
    | cons i is ih =>
      intro ts vs us tl ut s σ Q h I rv hl q
      unfold parC at h
      split at h
      · rename_i x p ts
        simp only [Bool.and_eq_true] at h
        obtain ⟨⟨h1, h2⟩, h3⟩ := h
        cases vs with
        | nil => cases hl
        | cons v vs =>
          cases rv with
          | cons r rv =>
            rename_i u us
            obtain ⟨n1, n2, n3⟩ := loc_of L h1
            have loc : X.env.scope.names.lookup x = some .local := by
              rw [L.sc]
              split at h2 <;> first | assumption | cases h2
            show wpAny _ _ (assignInOrder (((x :: parN ts).reverse.map fun n => bindName X.env n) ++ tl) ((u :: us).reverse ++ ut)) _ _ _
            rw [List.reverse_cons, List.map_append, List.append_assoc, List.reverse_cons, List.append_assoc]
            refine ih ts vs us _ _ s σ Q h3 I rv (by simpa using hl) fun s1 I1 => ?_
            show wpAny _ _ (assignInOrder ((fun v => bindName X.env x v) :: tl) (u :: ut)) _ _ _
            exact assignInOrder_cons (wpAny_bindName (store_ok I1 (by rw [L.N]; exact L.nd) n1 (.inl loc) r (fun s2 I2 => q s2 I2) (.inr loc)))
      · cases h
  intro is ts vs us s σ Q h I rv hl q
  have := gen is ts vs us [] [] s σ Q h I rv hl fun s' I' => assignInOrder_nil (q s' I')
  simpa using this
theorem is_par (G' : GX S c X W) {is : List Nat} {ts vs : List Expr} {kt k2 : Nat} {pt pt2 : Pos} {fs : Env → Sto → Out (List D)} (hN : is.Nodup) (ha : IA X S.k W vs fs)
    (hl : is.length = vs.length) (hsz : vs.length ≤ 100) (hlen : ∀ env st ds s, fs env st = .ok ds s → ds.length = vs.length) (h2 : (gsC c (is.map .nm) ts = true ∧ swS c.kd ts vs = some none) ∨ (parC c is ts = true ∧ swS c.kd ts vs = some (some (parN ts)))) :
    IS X S.k W (.Assign [.Tuple ts kt pt] (.Tuple vs k2 pt2) pos) fun env st => (fs env st).thn env fun ds s1 => match sets env is ds with
      | some env1 => .nxt env1 s1
      | none => .bad := by
  have kn : X.env.kindOf = c.kd := by
    funext x
    show X.env.scope.names.lookup x = _
    rw [G'.L.sc]
    rfl
  rw [← kn] at h2
  rcases h2 with ⟨h1, h2⟩ | ⟨h1, h2⟩
  · -- from the left
    have hgs : gC c (.tup (is.map .nm)) (.Tuple ts kt pt) = true := h1
    refine PSi (is_asg G' (gt := .tup (is.map .nm)) hgs (ie_tup ha) rfl (swS_ok G'.L.block h2)) fun D σ H h => ?_
    obtain ⟨r, env, st, hR, hE, hc⟩ := h
    refine ⟨r, env, st, hR, hE, ?_⟩
    dsimp only at hc
    show CS S.k W r H (((fs env st).bind mkT).thn env fun d s1 => match gset (.tup (is.map .nm)) d env with
      | some env1 => .nxt env1 s1
      | none => .bad) D
    cases e : fs env st with
    | exc x s1 => rw [e] at hc; exact hc
    | bad => rw [e] at hc; exact hc
    | ok ds s1 =>
      rw [e] at hc
      have hd := hlen env st ds s1 e
      have hc : CS S.k W r H (match sets env is ds with
        | some env1 => .nxt env1 s1
        | none => .bad) D := hc
      have small : ds.length ≤ lineN := by
        rw [hd]
        exact Nat.le_trans hsz (by decide)
      show CS S.k W r H ((if ds.length ≤ lineN then Out.ok (Mi.D.tup ds) s1 else .bad).thn env fun d s1 => match gset (.tup (is.map .nm)) d env with
        | some env1 => .nxt env1 s1
        | none => .bad) D
      rw [if_pos small]
      show CS S.k W r H (match gsets (is.map .nm) ds env with
        | some env1 => .nxt env1 s1
        | none => .bad) D
      unfold sets at hc
      split at hc
      · rename_i env1 e1
        split at e1
        · rename_i q
          cases e1
          rw [setsR_gsets hN q.1 q.2]
          exact hc
        · cases e1
      · exact hc.elim
  · -- swapped
    refine ⟨fun pins s σ H D I h => ?_⟩
    obtain ⟨r, env, st, hR, hE, hc⟩ := h
    rw [exec_Assign_arm]
    refine wpAny_bind (wpAny_standAt ?_)
    show wpAny _ _ ((pure false : Sem Bool) >>= _) _ _ _
    refine wpAny_bind (wpAny_pure ?_)
    rw [if_neg (by decide)]
    refine wpAny_bind (Tuple_ (thn (ha.run _ pins s σ H (fun vs H1 => ∃ ds s1 r1, RelH S.k.K r1 s1 H1 ∧ RelE S.k.K r1 H1 env σ ∧ Reps S.k.K r1 H1 vs ds ∧ CS S.k W r1 H1 (match sets env is ds with
      | some env1 => .nxt env1 s1
      | none => .bad) D) I (cs_seq hR hE hc fun d s1 r1 H1 v x a b p q => ⟨d, s1, r1, a, b, p, q⟩)) fun us s1 ⟨ws, H1, I1, rv, ds, s2, r1, hR1, hE1, p1, hc1⟩ => ?_))
    unfold sets at hc1
    split at hc1
    · rename_i env1 e1
      split at e1
      · rename_i q
        cases e1
        have lw := p1.len
        have lu := rv.length
        have lp : (parN ts).length = us.length := by rw [parN_len is ts h1]; omega
        have ld := q.1
        refine wpAny_newObj_type ?_ (by
          show us.toArray.size ≤ sizeLine
          rw [List.size_toArray, line_eq]
          have : us.length ≤ 100 := by omega
          exact Nat.le_trans this (by decide))
        have I2 : Inv X pins σ H1 { s1 with heap := s1.heap.push { cls := .type "tuple", data := .seq us.toArray } } := I1.kept (t' := s1.toks) fun b o e => Heap.get?_push_of_some _ e
        rw [swS_ok G'.L.block h2]
        refine wpAny_bind (wpAny_pure ?_)
        show wpAny (model X.prog X.w) X.A (do rule "assign.swapped-stores"; let items ← unpackItems (.ref s1.heap.objs.size) (parN ts).length none; assignInOrder ((parN ts).reverse.map fun n => bindName X.env n) items.reverse; pure Flow.next) _ _ _
        rw [lp]
        refine wpAny_bind (wpAny_rule (wpAny_bind (unpackItems_tuple (items := us.toArray) (I1.ok.hd G'.L.calm) (IsTup.new s1.heap _) fun h' hx' => ?_)))
        have I3 := I2.kept (h' := h') (t' := s1.toks) fun b o e => hx' b o (Nat.ne_of_lt (Heap.lt_size e)) e
        refine wpAny_bind (parN_run G'.L is ts ws us _ σ _ h1 I3 rv (by omega) fun s' I' => wpAny_pure ⟨_, H1, I', ?_⟩)
        exact CS.nx hc1 hR1 (setsR_get hE1 p1 q.1)
      · cases e1
    · exact hc1.elim
end
end Mi
end
section
/-! MiQ: the other statements; suites are as their small ones say. -/
namespace Mi
open PySem PySem.Spec PyProof.Rows L2
section
variable {S : Sx} {c : Ck} {X : L2.Cx} {k : Kx} {W : WX} {a b : Expr} {pos : Pos} {f g : Env → Sto → Out D} {σ : L2.St} {H : Hp}
/-! ### op= -/
def rAu (k : Kx) (o : Bop) : TIp := fun x y H Q => ∃ r st W σ d1 d2, RelH k.K r st H ∧ Rep k.K r H x d1 ∧ Rep k.K r H y d2 ∧ CP (RV k) k W σ r H (augD o d1 d2 st) Q
theorem ip_aug (o : Bop) : PIp X (bop o) (rAu k o) := by
  intro pins s σ H x y v u Q I rx ry h
  obtain ⟨r, st, W, σ0, d1, d2, hR, p, q, hc⟩ := h
  have key : ∀ {i j : Int}, RelV (.int i) v → RelV (.int j) u → CP (RV k) k W σ0 r H (augD o (.int i) (.int j) st) Q → wpAny (model X.prog X.w) X.A (inplaceOp (bop o) v u) (EP X pins σ Q) X.xe s := by
    intro i j rx ry hc
    obtain ⟨t, rfl⟩ := rx
    obtain ⟨t', rfl⟩ := ry
    cases o with
    | add => exact iadd_int ⟨.int _, H, I.tok _, ⟨_, rfl⟩, CP.now hc hR (.int _)⟩
    | sub => exact isub_int ⟨.int _, H, I.tok _, ⟨_, rfl⟩, CP.now hc hR (.int _)⟩
    | mul =>
      have hc : CP (RV k) k W σ0 r H (if mulOk i j then .ok (.int (i * j)) st else .bad) Q := hc
      split at hc
      · rename_i h
        exact imul_int ⟨.int _, H, I.tok _, ⟨_, rfl⟩, CP.now hc hR (.int _)⟩ (mulOk_ok h)
      · exact hc.elim
    | fdiv =>
      have hc : CP (RV k) k W σ0 r H (if divOk j then .ok (.int (i / j)) st else .bad) Q := hc
      split at hc
      · rename_i h
        have h := of_decide_eq_true h
        exact iop_fdivW pins s σ H (.int i) (.int j) _ _ Q I (show RelV (.int i) _ from ⟨t, rfl⟩) (show RelV (.int j) _ from ⟨t', rfl⟩) ⟨i, j, rfl, rfl, h, CP.now hc hR (.int _)⟩
      · exact hc.elim
    | mod => exact hc.elim
    | pow => exact hc.elim
    | fdv => exact hc.elim
    | mdv => exact hc.elim
  cases p with
  | int i =>
    cases q with
    | int j => exact key rx ry hc
    | _ => cases o <;> exact hc.elim
  | _ => cases o <;> exact hc.elim
theorem is_aug (G : GX S c X W) {i : Nat} {x : Str} {o : Bop} {p : Pos} (h : locC c i x = true) (he : IE X S.k W a f) : IS X S.k W (.AugAssign (.Name x p) (bop o) a pos) fun env st => match env[i]? with
    | some (some x) => (f env st).thn env fun y s1 => (augD o x y s1).thn env fun z s2 => .nxt (env.set i (some z)) s2
    | _ => .bad := by
  obtain ⟨n1, n2, n3⟩ := loc_of G.L h
  refine PSi (ps_aug (by rw [G.L.N]; exact G.L.nd) n1 n2 he (ip_aug (k := S.k) o) n3) fun D σ H h => ?_
  obtain ⟨r, env, st, hR, hE, hc⟩ := h
  dsimp only at hc
  split at hc
  · rename_i d e
    obtain ⟨v, e1, p1⟩ := hE.has i d e
    refine ⟨v, e1, ?_⟩
    refine cs_seq hR hE hc fun y s1 r1 H1 v2 x2 a b q hc1 => ?_
    refine ⟨r1, s1, W, σ, d, y, a, p1.ext x2 hR, q, ?_⟩
    cases ea : augD o d y s1 with
    | exc z s2 => rw [ea] at hc1; exact fun r' H' c dx x' R' p' => hc1 r' H' σ c dx x' R' (b.ext x' a) p'
    | bad => rw [ea] at hc1; exact hc1.elim
    | ok z s2 =>
      rw [ea] at hc1
      intro r3 H3 v3 x3 a3 q3
      exact CS.nx (CS.mono hc1 x3) a3 ((b.ext x3 a).set q3 i)
  · exact hc.elim
theorem get_now (kK : k.K = X.K) : PGet X (rF k ixL) := by
  intro pins s σ H o i ov iv Q I ro ri h
  obtain ⟨r, st, W, σ0, d1, d2, hR, p, q, hc⟩ := h
  have key : ∀ {a : Addr} {vs : List V} {xs : List D}, RelV (.ref a) ov → Rd H a (.lst vs) → Reps k.K r H vs xs → ∀ {n : Int} {d : D}, RelV (.int n) iv → atI xs n = some d → CP (RV k) k W σ0 r H (.ok d st) Q → wpAny (model X.prog X.w) X.A (getItem ov iv) (EP X pins σ Q) X.xe s := by
    intro a vs xs ro hl ps n d ri e hc
    cases ro
    obtain ⟨t, rfl⟩ := ri
    obtain ⟨z, e2, pz⟩ := ps.atI e
    obtain ⟨its, rr, pl, hz⟩ := I.list (.inl hl)
    obtain ⟨j, h1, h2, h3, h4, h5⟩ := atI_get e2
    obtain ⟨w, ew, rw'⟩ := rr.get h2
    have hl := rr.length
    have hn := line63
    have fin : EP X pins σ Q w s := ⟨z, H, I, rw', CP.now hc hR pz⟩
    by_cases h0 : 0 ≤ n
    · have hj : n.toNat = j := by
        rw [seqIndex_of h0 h5] at h1
        exact Option.some.inj h1
      exact wpAny_getItem_list pl.isList h0 (by omega) (by rw [hj]; simpa using ew) fin
    · have hj : (n + (its.toArray.size : Int)).toNat = j := by
        rw [seqIndex_neg (by omega) h4] at h1
        rw [List.size_toArray, ← hl]
        exact Option.some.inj h1
      exact wpAny_getItem_list_neg pl.isList (by omega) (by rw [List.size_toArray] <;> omega) (by omega) (by rw [hj]; simpa using ew) fin
  cases p with
  | fl hl hn ps =>
    cases q with
    | int n =>
      have hc : CP (RV k) k W σ0 r H (ofO (atI _ n) st) Q := hc
      obtain ⟨d, e, hc2⟩ := hc.ofO
      exact key ro hl ps ri e hc2
    | _ => exact hc.elim
  | @ref b m hb hbk =>
    cases q with
    | int n =>
      have hc : CP (RV k) k W σ0 r H (match st[m]? with
        | some xs => ofO (atI xs n) st
        | none => .bad) Q := hc
      cases e1 : st[m]? with
      | none => rw [e1] at hc; exact hc.elim
      | some xs =>
        rw [e1] at hc
        obtain ⟨b2, vs, f1, f2, f3⟩ := hR.has m xs e1 hb hbk
        rw [hb] at f1; cases f1
        obtain ⟨d, e, hc2⟩ := CP.ofO hc
        exact key ro (.inl f2) f3 ri e hc2
    | _ => exact hc.elim
  | _ => exact hc.elim
theorem set_go {r : Rg} {st : Sto} {d1 d2 d : D} {o i v : V} {Q : Hp → Prop} (hR : RelH k.K r st H) (p1 : Rep k.K r H o d1) (p2 : Rep k.K r H i d2) (p : Rep k.K r H v d) {st' : Sto} (e : setD d1 d2 d st = some st') (q : ∀ r' H', Ext r H r' H' → RelH k.K r' st' H' → Q H') :
    ∃ r st d1 d2 d, RelH k.K r st H ∧ Rep k.K r H o d1 ∧ Rep k.K r H i d2 ∧ Rep k.K r H v d ∧ ∃ st', setD d1 d2 d st = some st' ∧ ∀ r' H', Ext r H r' H' → RelH k.K r' st' H' → Q H' := ⟨r, st, d1, d2, d, hR, p1, p2, p, st', e, q⟩
theorem is_augS (G : GX S c X W) {o i e : Expr} {op : Bop} {tp : Pos} {fo fi fe : Env → Sto → Out D} (hi : nsl i = true) (h1 : IE X S.k W o fo) (h2 : IE X S.k W i fi) (h3 : IE X S.k W e fe) : IS X S.k W (.AugAssign (.Subscript o i tp) (bop op) e pos) fun env st =>
    (fo env st).thn env fun x s1 => (fi env s1).thn env fun y s2 => (ixL x y s2).thn env fun u s3 => (fe env s3).thn env fun v s4 => (augD op u v s4).thn env fun z s5 => match setD x y z s5 with
    | some s6 => .nxt env s6
    | none => .bad := by
  refine PSi (ps_augS h1 h2 (get_now G.kK) h3 (ip_aug (k := S.k) op) (set_now G.kK) (fun ov iv new => by cases i <;> first | rfl | cases hi)) fun D σ H h => ?_
  obtain ⟨r, env, st, hR, hE, hc⟩ := h
  refine cs_seq hR hE hc fun x s1 r1 H1 v1 e1 a1 b1 q1 hc1 => ?_
  refine cs_seq a1 b1 hc1 fun y s2 r2 H2 v2 e2 a2 b2 q2 hc2 => ?_
  refine ⟨r2, s2, W, σ, x, y, a2, q1.ext e2 a1, q2, ?_⟩
  cases eg : ixL x y s2 with
  | exc z s3 => rw [eg] at hc2; exact fun r' H' c dx x' R' p' => hc2 r' H' σ c dx x' R' (b2.ext x' a2) p'
  | bad => rw [eg] at hc2; exact hc2.elim
  | ok u s3 =>
    rw [eg] at hc2
    intro r3 H3 v3 e3 a3 q3
    have b3 := b2.ext e3 a2
    have hc3 : CS S.k W r3 H3 ((fe env s3).thn env fun v s4 => (augD op u v s4).thn env fun z s5 => match setD x y z s5 with
      | some s6 => .nxt env s6
      | none => .bad) D := CS.mono hc2 e3
    refine cs_seq a3 b3 hc3 fun w s4 r4 H4 v4 e4 a4 b4 q4 hc4 => ?_
    refine ⟨r4, s4, W, σ, u, w, a4, q3.ext e4 a3, q4, ?_⟩
    cases ea : augD op u w s4 with
    | exc z s5 => rw [ea] at hc4; exact fun r' H' c dx x' R' p' => hc4 r' H' σ c dx x' R' (b4.ext x' a4) p'
    | bad => rw [ea] at hc4; exact hc4.elim
    | ok z s5 =>
      rw [ea] at hc4
      intro r5 H5 v5 e5 a5 q5
      have hc5 : CS S.k W r5 H5 (match setD x y z s5 with
        | some s6 => .nxt env s6
        | none => .bad) D := CS.mono hc4 e5
      cases es : setD x y z s5 with
      | none => rw [es] at hc5; exact hc5.elim
      | some s6 =>
        rw [es] at hc5
        have x15 := (e2.trans e3).trans (e4.trans e5)
        refine set_go a5 (q1.ext x15 a1) (q2.ext (e3.trans (e4.trans e5)) a2) q5 es fun r6 H6 e6 a6 => ?_
        exact CS.nx (CS.mono hc5 e6) a6 (b4.ext (e5.trans e6) a4)
/-! ### items stored -/
theorem aS_plain {o i : Expr} {env : PySem.Env} {tp : Pos} (h : nsl i = true) : ∀ v, assign (.Subscript o i tp) env v = (do
      let ov ← holding [v] (eval o env)
      let iv ← holding [v, ov] (eval i env)
      standAt tp
      holding [v, ov, iv] (setItem ov iv v)
      release [v, ov, iv] []) := by
  intro v
  cases i with
  | Slice => cases h
  | _ => rfl
abbrev RU : Rg → Hp → Unit → Unit → Prop := fun _ _ _ _ => True
/-- o[i] = v -/
def rSub (k : Kx) (W : WX) (fo fi : Env → Sto → Out D) : TG := fun v σ H Q => ∃ r env st d, RelH k.K r st H ∧ RelE k.K r H env σ ∧ Rep k.K r H v d ∧ CP RU k W σ r H (stO fo fi d env st) fun _ H' => Q σ H'
theorem pg_subM (kK : k.K = X.K) {o i : Expr} {tp : Pos} {fo fi : Env → Sto → Out D} (hi : nsl i = true) (h1 : IE X k W o fo) (h2 : IE X k W i fi) : PG X (.Subscript o i tp) (rSub k W fo fi) := by
  refine PGi (pg_sub h1 h2 (set_now kK) (aS_plain hi)) fun v σ H Q h => ?_
  obtain ⟨r, env, st, d, hR, hE, p, hc⟩ := h
  refine cr_seq hR hE hc fun x s1 r1 H1 v1 e1 a1 b1 q1 hc1 => ?_
  refine cr_seq a1 b1 hc1 fun y s2 r2 H2 v2 e2 a2 b2 q2 hc2 => ?_
  cases es : setD x y d s2 with
  | none => rw [es] at hc2; exact hc2.elim
  | some s3 =>
    rw [es] at hc2
    exact set_go a2 (q1.ext e2 a1) q2 (p.ext (e1.trans e2) hR) es fun r6 H6 e6 a6 => hc2 r6 H6 () e6 a6 trivial
/-- a store, then the rest -/
theorem sub_seq {r : Rg} {env : Env} {st : Sto} {v : V} {d : D} {D : Ends} {fo fi : Env → Sto → Out Mi.D} {g : Sto → SOut} {P : L2.St → Hp → Prop} (hR : RelH k.K r st H) (hE : RelE k.K r H env σ) (p : Rep k.K r H v d) (hc : CS k W r H ((stO fo fi d env st).thn env fun _ s => g s) D)
    (next : ∀ s1 r1 H1, Ext r H r1 H1 → RelH k.K r1 s1 H1 → RelE k.K r1 H1 env σ → CS k W r1 H1 (g s1) D → P σ H1) : rSub k W fo fi v σ H P := by
  refine ⟨r, env, st, d, hR, hE, p, ?_⟩
  cases e : stO fo fi d env st with
  | ok u s1 =>
    rw [e] at hc
    exact fun r1 H1 _ x a _ => next s1 r1 H1 x a (hE.ext x hR) (CS.mono hc x)
  | exc x s1 =>
    rw [e] at hc
    exact fun r1 H1 c dx y a b => hc r1 H1 σ c dx y a (hE.ext y hR) b
  | bad => rw [e] at hc; exact hc
theorem is_sub (kK : k.K = X.K) {o i e : Expr} {tp : Pos} {fo fi fe : Env → Sto → Out D} (hi : nsl i = true) (h1 : IE X k W o fo) (h2 : IE X k W i fi) (h3 : IE X k W e fe) (he : swapsWith e (some (.Subscript o i tp)) pos.line X.env = pure false) : IS X k W (.Assign [.Subscript o i tp] e pos) fun env st =>
    (fe env st).thn env fun d s1 => (stO fo fi d env s1).thn env fun _ s2 => .nxt env s2 := by
  refine PSi (ps_asg h3 (pg_subM kK hi h1 h2) he (by cases e <;> rfl) rfl) fun D σ H h => ?_
  obtain ⟨r, env, st, hR, hE, hc⟩ := h
  exact cs_seq hR hE hc fun x s1 r1 H1 v1 e1 a1 b1 q1 hc1 => sub_seq (g := fun s2 => .nxt env s2) a1 b1 q1 hc1 fun s2 r2 H2 e2 a2 b2 hc2 => CS.nx hc2 a2 b2
theorem sub_sw {e o i : Expr} {tp : Pos} {l : Nat} {env : PySem.Env} (h : (match e with
    | .SetComp _ _ _ _ => false
    | .DictComp _ _ _ _ _ => false
    | _ => true) = true) : swapsWith e (some (.Subscript o i tp)) l env = pure false := by
  cases e <;> first | rfl | cases h
/-- x[i], y[j] = a, b -/
theorem is_swp (G : GX S c X W) {o i o2 i2 : Expr} {vs : List Expr} {kt k2 : Nat} {tp tp2 pt pt2 : Pos} {fo fi fo2 fi2 : Env → Sto → Out D} {fs : Env → Sto → Out (List D)} (hi : nsl i = true) (hi2 : nsl i2 = true) (h1 : IE X S.k W o fo) (h2 : IE X S.k W i fi) (h3 : IE X S.k W o2 fo2) (h4 : IE X S.k W i2 fi2) (ha : IA X S.k W vs fs) (hsw : swS c.kd [.Subscript o i tp, .Subscript o2 i2 tp2] vs = some none) :
    IS X S.k W (.Assign [.Tuple [.Subscript o i tp, .Subscript o2 i2 tp2] kt pt] (.Tuple vs k2 pt2) pos) fun env st => (fs env st).thn env fun ds s1 => match ds with
    | [x, y] => (stO fo fi x env s1).thn env fun _ s2 => (stO fo2 fi2 y env s2).thn env fun _ s3 => .nxt env s3
    | _ => .bad := by
  have kn : X.env.kindOf = c.kd := by
    funext x
    show X.env.scope.names.lookup x = _
    rw [G.L.sc]
    rfl
  rw [← kn] at hsw
  refine PSi (ps_asg (pe_tup ha) (pg_tup (n := 2) G.L.calm (pgs_cons (pg_subM (W := W) G.kK hi h1 h2) (pgs_cons (pg_subM (W := W) G.kK hi2 h3 h4) pgs_nil rfl) rfl) rfl rfl) rfl (swS_ok G.L.block hsw) rfl) fun D σ H h => ?_
  obtain ⟨r, env, st, hR, hE, hc⟩ := h
  refine cs_seq hR hE hc fun ds s1 r1 H1 vs' e1 a1 b1 q1 hc1 => ?_
  match ds, q1, hc1 with
  | [x, y], .cons (v := v1) qx (.cons (v := v2) qy .nil), hc1 =>
    refine ⟨by show 2 ≤ sizeLine; decide, fun p hp => ?_⟩
    have en : Ext r1 H1 r1 (upd H1 p (.tup [v1, v2])) := Ext.new hp
    refine ⟨p, [v1, v2], rfl, .inl (.inl upd_same), rfl, v1, [v2], rfl, ?_⟩
    refine sub_seq (g := fun s2 => (stO fo2 fi2 y env s2).thn env fun _ s3 => .nxt env s3) (a1.ext_new hp) (b1.ext en a1) (qx.ext en a1) (CS.mono hc1 en) fun s2 r2 H2 e2 a2 b2 hc2 => ?_
    refine ⟨v2, [], rfl, ?_⟩
    exact sub_seq (g := fun s3 => .nxt env s3) a2 b2 (qy.ext (en.trans e2) a1) hc2 fun s3 r3 H3 e3 a3 b3 hc3 => ⟨rfl, CS.nx hc3 a3 b3⟩
  | [], _, hc1 => exact hc1.elim
  | [_], _, hc1 => exact hc1.elim
  | _ :: _ :: _ :: _, _, hc1 => exact hc1.elim
/-! ### the simplest, if, for, while -/
theorem is_ex (ha : IE X k W a f) (hs : nlc a = true) : IS X k W (.Expr a pos) fun env st => (f env st).thn env fun _ s1 => .nxt env s1 :=
  PSi (ps_expr ha (nlc_no hs)) fun D σ H ⟨r, env, st, hR, hE, hc⟩ => cs_seq hR hE hc fun d s1 r1 H1 v x a b p hc1 => CS.nx hc1 a b
theorem is_ret (ha : IE X k W a f) : IS X k W (.Return (some a) pos) fun env st => (f env st).thn env fun d s1 => .ret d s1 :=
  PSi (ps_ret ha) fun D σ H ⟨r, env, st, hR, hE, hc⟩ => cs_seq hR hE hc fun d s1 r1 H1 v x a b p hc1 => hc1 r1 H1 v Ext.refl a p
theorem is_ret0 : IS X k W (.Return none pos) fun _ st => .ret .non st :=
  PSi ps_retN fun D σ H ⟨r, env, st, hR, hE, hc⟩ => hc r H .non Ext.refl hR .non
theorem is_if {t : Expr} {p q : List Stmt} {ft : Env → Sto → Out Bool} {fp fq : Env → Sto → SOut} (ht : IT X k W t ft) (hp : ISs X k W p fp) (hq : ISs X k W q fq) : IS X k W (.If t p q pos) fun env st => (ft env st).thn env fun b s1 => match b with
    | true => fp env s1
    | false => fq env s1 := by
  refine PSi (ps_if ht hp hq) fun D σ H h => ?_
  obtain ⟨r, env, st, hR, hE, hc⟩ := h
  refine cs_seq (R := RB) hR hE hc fun d s1 r1 H1 v x a b p hc1 => ?_
  subst p
  cases v with
  | true => rw [if_pos rfl]; exact ⟨r1, env, s1, a, b, hc1⟩
  | false => rw [if_neg Bool.false_ne_true]; exact ⟨r1, env, s1, a, b, hc1⟩
theorem iss_nil : ISs X k W [] fun env st => .nxt env st :=
  PSsi pss_nil fun D σ H ⟨r, env, st, hR, hE, hc⟩ => CS.nx hc hR hE
theorem iss_cons {s : Stmt} {ss : List Stmt} {fp fq : Env → Sto → SOut} (h1 : IS X k W s fp) (h2 : ISs X k W ss fq) : ISs X k W (s :: ss) fun env st => match fp env st with
    | .nxt e s1 => fq e s1
    | r => r := by
  refine PSsi (pss_cons h1 h2) fun D σ H h => ?_
  obtain ⟨r, env, st, hR, hE, hc⟩ := h
  refine ⟨r, env, st, hR, hE, ?_⟩
  dsimp only at hc
  cases e : fp env st with
  | nxt e1 s1 => rw [e] at hc; exact fun r1 H1 σ1 x a b => ⟨r1, e1, s1, a, b, CS.mono hc x⟩
  | ret d s1 => rw [e] at hc; exact hc
  | brk e1 s1 => rw [e] at hc; exact hc
  | cnt e1 s1 => rw [e] at hc; exact hc
  | exc x e1 s1 => rw [e] at hc; exact hc
  | bad => rw [e] at hc; exact hc
end
end Mi
end
section
/-! MiQe: raise, try. -/
namespace Mi
open PySem PySem.Spec PyProof.Rows L2
theorem own_new (le : Bool) {K : PySem.W.Frag} {C : Addr} {h : Heap} (X : K.In h) (q : PySem.W.excIn K C (bmX le) (newX le) = true) {prog : Program} {w : World} {A : Around} {E : Value → Shared → Prop} {s : Shared} {Q : Value → Shared → Prop} (hs : s.heap = h)
    (k : ∀ h' e, Heap.MadeExcOf s.heap h' e (.ref C) [] → Q (.ref e) { s with heap := h' }) : wpAny (model prog w) A (call (.ref C) []) Q E s := by
  subst hs
  obtain ⟨bm, N, nm, qn, bs, hdct, sn, sub, ab, col, dd, k0, k1, k2, k3, k5, mN, hC, hN, hni, T⟩ := exc_obj X q
  cases le with
  | true => exact wpAny_call_exc_subT PySem.F.excBase_LookupError T hC hN hni k (by show 0 ≤ sizeLine; exact Nat.zero_le _)
  | false => exact wpAny_call_exc_subT PySem.F.excBase_ValueError T hC hN hni k (by show 0 ≤ sizeLine; exact Nat.zero_le _)
section
variable {S : Sx} {c : Ck} {X : L2.Cx} {W : WX} {pos : Pos}
theorem pmk_cl (G : GX S c X W) {i : Nat} {cl : EC} {p pos : Pos} (hi : S.cls[i]? = some cl) (h0 : cl.ini = false) (hg : glC c cl.name = true) : PMk X (.Call (.Name cl.name p) [] [] pos) (fun _ H Q => Q (.ref (S.k.ca i)) none H) := by
  have F := G.M.cls.2 i cl hi
  obtain ⟨g1, g2⟩ := gl_of G.L hg
  intro pins s σ H Q I h
  have kK := G.kK
  refine wpAny_Call_Name_kw (ld_glob I g1 F.mg ?_ g2)
  refine PySem.W.callWith_K0 I.kIn (by rw [← kK]; exact F.kp) ?_
  have q := F.ex h0
  rw [kK] at q
  refine own_new cl.le I.kIn q rfl fun h' e hm => ?_
  refine mk_of I hm (raises_own (by rw [← kK]; exact F.sb) (by rw [← kK]; exact F.ty)) h (I.hok.gone hm.new)
theorem is_raise (G : GX S c X W) {i : Nat} {cl : EC} {p p2 : Pos} (hi : S.cls[i]? = some cl) (h0 : cl.ini = false) (hg : glC c cl.name = true) : IS X S.k W (.Raise (some (.Call (.Name cl.name p) [] [] p2)) none pos) fun env st => .exc ⟨i, none⟩ env st := by
  refine PSi (ps_raise G.L.calm G.tk (pmk_cl G hi h0 hg)) fun D σ H h => ?_
  obtain ⟨r, env, st, hR, hE, hc⟩ := h
  exact hc r H σ _ none Ext.refl hR hE ⟨by rw [G.M.cls.1]; exact (List.getElem?_eq_some_iff.mp hi).1, rfl, rfl⟩
/-! ### except suites -/
def cxC : Xe → Expr → Bool
  | .cst d, x => (match x with
    | .Constant q _ _ => cstC d q
    | .Tuple [] _ _ => (match d with
      | .tup [] => true
      | _ => false)
    | _ => false)
  | _, _ => false
def xsC : Xs → List Expr → Bool
  | .nil, xs => xs.isEmpty
  | .cons e es, xs => (match xs with
    | x :: xs => nst x && (cxC e x && xsC es xs)
    | [] => false)
def suC (c : Ck) : Su → List Stmt → Bool
  | .asgL i es, x => (match x with
    | [.Assign [.Name n _] (.List xs _) _] => locC c i n && xsC es xs
    | _ => false)
  | .asgC i d, x => (match x with
    | [.Assign [.Name n _] (.Constant q _ _) _] => locC c i n && cstC d q
    | _ => false)
  | .app i d, x => (match x with
    | [.Expr (.Call (.Attribute (.Name n _) nm ap) [.Constant q _ _] [] cp) _] => decide (nm = ("append" : Str)) && ((ap.endLine == cp.line) && (visC c i n && cstC d q))
    | _ => false)
theorem cx_ok {X' : L2.Cx} {k : Kx} {W : WX} {x : Xn} {e : Xe} {y : Expr} (h : cxC e y = true) : ∃ d, suiD x e = some d ∧ IE X' k W y fun _ st => .ok d st := by
  cases e with
  | cst d =>
    refine ⟨d, rfl, ?_⟩
    cases y with
    | Constant q j p => exact ie_cst h
    | Tuple xs n p =>
      cases xs with
      | cons => cases h
      | nil =>
        cases d with
        | tup ds =>
          cases ds with
          | cons => cases h
          | nil =>
            have : IE X' k W (.Tuple [] n p) fun env st => (Out.ok [] st).bind mkT := ie_tup (f := fun _ st => .ok [] st) (PAi pa_nil fun σ H Q h => let ⟨r, env, st, hR, hE, hc⟩ := h; CP.now hc hR .nil)
            exact this
        | _ => cases h
    | _ => cases h
  | fld => cases h
  | isi => cases h
  | andNot => cases h
theorem cxs_ok {X' : L2.Cx} {k : Kx} {W : WX} {x : Xn} : ∀ {es : Xs} {ys : List Expr}, xsC es ys = true → ∃ ds, suiL x es = some ds ∧ IA X' k W ys fun _ st => .ok ds st
  | .nil, ys, h => by
    cases ys with
    | nil => exact ⟨[], rfl, PAi pa_nil fun σ H Q h => let ⟨r, env, st, hR, hE, hc⟩ := h; CP.now hc hR .nil⟩
    | cons => cases h
  | .cons e es, [], h => by cases h
  | .cons e es, y :: ys, h => by
    have h : (nst y && (cxC e y && xsC es ys)) = true := h
    simp only [Bool.and_eq_true] at h
    obtain ⟨d, d1, d2⟩ := cx_ok (X' := X') (k := k) (W := W) (x := x) h.2.1
    obtain ⟨ds, e1, e2⟩ := cxs_ok (X' := X') (k := k) (W := W) (x := x) h.2.2
    refine ⟨d :: ds, by show (suiD x e).bind _ = _; rw [d1]; show (suiL x es).map _ = _; rw [e1]; rfl, ?_⟩
    refine PAi (pa_cons d2 e2 (star_cons h.1)) fun σ H Q h => ?_
    obtain ⟨r, env, st, hR, hE, hc⟩ := h
    refine ⟨r, env, st, hR, hE, fun r1 H1 v x1 a p => ?_⟩
    refine ⟨r1, env, st, a, hE.ext x1 hR, fun r2 H2 vs x2 a2 ps => ?_⟩
    exact hc r2 H2 (v :: vs) (x1.trans x2) a2 (.cons (p.ext x2 a) ps)
/-- a suite's reading -/
theorem su_ok (G : GX S c X W) {k : Kx} (kK : k.K = X.K) {su : Su} {ss : List Stmt} (h : suC c su ss = true) (a : Addr) (pn : List (Addr × Obj)) (x : Xn) : PSs (X.suite a pn) ss (crS k W0 fun env st => suite x su none env st) := by
  cases su with
  | asgL i es =>
    dsimp only [suC] at h
    split at h
    · rename_i n np ys lp ap
      rw [Bool.and_eq_true] at h
      obtain ⟨h1, h2⟩ := h
      obtain ⟨n1, n2, n3⟩ := loc_of G.L h1
      obtain ⟨ds, e1, e2⟩ := cxs_ok (X' := X.suite a pn) (k := k) (W := W0) (x := x) h2
      have pg : PG (X.suite a pn) (.Name n np) (gName i) := pg_name (by show X.N.Nodup; rw [G.L.N]; exact G.L.nd) n1 n2 n3
      refine PSsi (pss_one (ps_asg (ie_lst (fz := true) e2) pg)) fun D σ H h => ?_
      obtain ⟨r, env, st, hR, hE, hc⟩ := h
      have hc : CS k W0 r H (match suiL x es with
        | some ds => (match mkL true ds st with
          | .ok d s1 => if i < env.length then .nxt (env.set i (some d)) s1 else .bad
          | _ => .bad)
        | none => .bad) D := hc
      rw [e1] at hc
      refine ⟨r, env, st, hR, hE, ?_⟩
      dsimp only at hc ⊢
      show CP (RV k) k W0 σ r H (mkL true ds st) _
      cases em : mkL true ds st with
      | bad => rw [em] at hc; exact hc.elim
      | exc y s1 => rw [em] at hc; exact hc.elim
      | ok d s1 =>
        rw [em] at hc
        intro r1 H1 v x1 a1 p1
        have hc : CS k W0 r H (if i < env.length then .nxt (env.set i (some d)) s1 else .bad) D := hc
        split at hc
        · exact hc r1 H1 _ x1 a1 ((hE.ext x1 hR).set p1 i)
        · exact hc.elim
    · cases h
  | asgC i d =>
    dsimp only [suC] at h
    split at h
    · rename_i n np q j cp ap
      rw [Bool.and_eq_true] at h
      obtain ⟨h1, h2⟩ := h
      obtain ⟨n1, n2, n3⟩ := loc_of G.L h1
      have pg : PG (X.suite a pn) (.Name n np) (gName i) := pg_name (by show X.N.Nodup; rw [G.L.N]; exact G.L.nd) n1 n2 n3
      refine PSsi (pss_one (ps_asg (ie_cst (k := k) (W := W0) h2) pg)) fun D σ H h => ?_
      obtain ⟨r, env, st, hR, hE, hc⟩ := h
      have hc : CS k W0 r H (if i < env.length then .nxt (env.set i (some d)) st else .bad) D := hc
      refine ⟨r, env, st, hR, hE, fun r1 H1 v x1 a1 p1 => ?_⟩
      split at hc
      · exact hc r1 H1 _ x1 a1 ((hE.ext x1 hR).set p1 i)
      · exact hc.elim
    · cases h
  | app i d =>
    dsimp only [suC] at h
    split at h
    · rename_i n np nm ap q j cp kp ep
      simp only [Bool.and_eq_true, decide_eq_true_eq] at h
      obtain ⟨rfl, h2, h3, h4⟩ := h
      obtain ⟨v1, v2, v3, v4⟩ := vis_of G.L h3
      have pv : IE (X.suite a pn) k W0 (.Name n np) fun env st => match env[i]? with
          | some (some d) => .ok d st
          | _ => .bad := by
        refine PEi (pe_var v1 v2 v3 v4) fun σ H Q h => ?_
        obtain ⟨r, env, st, hR, hE, hc⟩ := h
        dsimp only at hc
        split at hc
        · rename_i d' e
          obtain ⟨v, e1, p⟩ := hE.has i d' e
          exact ⟨v, e1, CP.now hc hR p⟩
        · exact hc.elim
      have pa : IA (X.suite a pn) k W0 [.Constant q j cp] fun _ st => .ok [d] st := by
        refine PAi (pa_cons (ie_cst (k := k) (W := W0) h4) pa_nil) fun σ H Q h => ?_
        obtain ⟨r, env, st, hR, hE, hc⟩ := h
        exact ⟨r, env, st, hR, hE, fun r1 H1 v x1 a1 p1 => hc r1 H1 [v] x1 a1 (.cons p1 .nil)⟩
      have pm := ie_mth (X := X.suite a pn) (k := k) (W := W0) (pos := kp) (m := .append) (fz := true) kK rfl h2 (by show 1 < 29; decide) rfl (fun y hy => by
        have : y = .Constant q j cp := by simpa using hy
        subst this; rfl) pv pa
      refine PSsi (pss_one (ps_expr pm (nlc_no rfl))) fun D σ H h => ?_
      obtain ⟨r, env, st, hR, hE, hc⟩ := h
      have hc : CS k W0 r H (match env[i]? with
        | some (some o) => (match mtD true .append o [d] st with
          | .ok _ s1 => .nxt env s1
          | _ => .bad)
        | _ => .bad) D := hc
      refine ⟨r, env, st, hR, hE, ?_⟩
      dsimp only
      split at hc
      · rename_i o eo
        show CP (RV k) k W0 σ r H (if mtOk .append o then mtD true .append o [d] st else .bad) _
        cases em : mtD true .append o [d] st with
        | bad => rw [em] at hc; exact hc.elim
        | exc y s1 => rw [em] at hc; exact hc.elim
        | ok d2 s1 =>
          rw [em] at hc
          have ok : mtOk .append o = true := by cases o <;> first | rfl | cases em
          rw [if_pos ok]
          intro r1 H1 v x1 a1 p1
          exact hc r1 H1 _ x1 a1 (hE.ext x1 hR)
      · exact hc.elim
    · cases h
theorem sui_cst {x y : Xn} : ∀ {es : Xs} {ys : List Expr}, xsC es ys = true → suiL x es = suiL y es
  | .nil, ys, h => rfl
  | .cons e es, [], h => by cases h
  | .cons e es, z :: ys, h => by
    have h : (nst z && (cxC e z && xsC es ys)) = true := h
    simp only [Bool.and_eq_true] at h
    have h1 : suiD x e = suiD y e := by
      cases e with
      | cst => rfl
      | _ => cases h.2.1
    show (suiD x e).bind (fun d => (suiL x es).map (d :: ·)) = (suiD y e).bind fun d => (suiL y es).map (d :: ·)
    rw [h1, sui_cst h.2.2]
theorem su_same {x y : Xn} {su : Su} {ss : List Stmt} (h : suC c su ss = true) (env : Env) (st : Sto) : suite x su none env st = suite y su none env st := by
  cases su with
  | asgL i es =>
    dsimp only [suC] at h
    split at h
    · rw [Bool.and_eq_true] at h
      show (match suiL x es with
        | some ds => (match mkL true ds st with
          | .ok d s1 => if i < env.length then SOut.nxt (env.set i (some d)) s1 else .bad
          | _ => .bad)
        | none => .bad) = _
      rw [sui_cst (x := x) (y := y) h.2]
      rfl
    · cases h
  | asgC i d => rfl
  | app i d => rfl
end
end Mi
end
section
/-! MiQf: classes of errors with an __init__. -/
namespace Mi
open PySem PySem.Spec PyProof.Rows L2
open PySem.W (InstAt kxs_mw KxsFacts ks_superObj ks_superIn ksEnv ksFn UpdF excObj excTup dictOf)
theorem bind_ini {name qual fld : Str} {a0 a1 : Arg} {kwd : List (Option Expr)} {dfl : List Expr} {body : List Stmt} {scope : Scope} {kV doc pm cdv ct : Value} {an : Option Addr} {cc : Addr} (h0 : a0.arg = "self") (h1 : a1.arg = fld) (hf : (fld == ("self" : Str)) = false) (a b : Value) :
    bindArgs (ksFn name qual ⟨[], [a0, a1], none, [], kwd, none, dfl⟩ body scope .none kV doc pm an cdv ct cc) ⟨[a, b], []⟩ = pure [(("self" : Str), a), (fld, b)] := by
  obtain ⟨n0, x0, q0⟩ := a0
  obtain ⟨n1, x1, q1⟩ := a1
  dsimp only at h0 h1
  subst h0 h1
  have e : List.lookup n1 [(("self" : Str), a), (n1, b)] = some b := by
    rw [List.lookup_cons, hf, List.lookup_cons]
    simp
  have e0 : List.lookup ("self" : Str) [(("self" : Str), a), (n1, b)] = some a := by
    rw [List.lookup_cons]
    simp
  unfold bindArgs
  simp [e, e0, seqItems?, notAStandIn]
theorem eval_sup {p0 p1 p2 p3 p4 : Pos} {fld nm : Str} {env : PySem.Env} (q : (p2.endLine == p4.line) = true) : eval (.Call (.Attribute (.Call (.Name "super" p0) [] [] p1) nm p2) [.Name fld p3] [] p4) env = (do
      let ov ← attributeBase (.Call (.Name "super" p0) [] [] p1) nm env (eval (.Call (.Name "super" p0) [] [] p1) env)
      standAt p2.atName
      let (f, first) ← holding [ov] (getMethod ov nm (do return (← importBound (.Call (.Name "super" p0) [] [] p1) env).getD true))
      callWith p4 f first (backTo p4 (starEach [.Name fld p3] env)) []) := by
  rw [arm_eval_Call]
  unfold methodCall
  have e : ∀ b, methodCallPos b (.Call (.Name "super" p0) [] [] p1) env p2 p4 = pure p4 := fun b => by
    unfold methodCallPos
    rw [q, Bool.or_true, if_pos rfl]
  simp only [e, pure_bind]
  rfl
theorem superX_ValueError : PySem.bootBuiltins "super" = some (.type "super") := by
  first | rfl | kernel_rfl
theorem kxsX (le : Bool) : KxsFacts (baX le) (inX le) := by
  cases le
  · exact PySem.W.kxs_ValueError
  · exact PySem.W.kxs_LookupError
theorem exbX (le : Bool) : PySem.ExcBaseFacts (baX le) (newX le) (inX le) (bmX le) := by
  cases le
  · exact PySem.F.excBase_ValueError
  · exact PySem.F.excBase_LookupError
theorem stoX (le : Bool) : PySem.StoreFacts (baX le) (bmX le) "object.__setattr__" "object" := by
  cases le
  · exact PySem.F.store_ValueError
  · exact PySem.F.store_LookupError
section
variable {prog : Program} {w : World} {A : Around} {hp : Heap} {g : Array GenState} {d : Drawn} {t : Nat} {os : OsState} {K : PySem.W.Frag} {file : Str} {C : Addr} {le : Bool} {fld : Str}
/-- the body of __init__ -/
theorem ini_run (F : IniC K file C le fld) (X : K.In hp) (hfile : ((prog.main.file : Str) == file) = true) (htop : (prog.main.scope.names.lookup ("super" : Str)).isSome = false) {mg mb : Str → Option Value} (G : hp.Ns mainGlobals mg) (B : hp.Ns builtinsNs mb) (hb : mb "super" = some (.type "super")) (lim : hp.NoLimit)
    (hroom : A.depth < recursionLimit) {u : Value} {R : Result → Shared → Prop}
    (hR : ∀ h' t0 dx es n tk, (∀ b o, hp.get? b = some o → h'.get? b = some o) → hp.get? (hp.objs.size + 1) = none → h'.get? (hp.objs.size + 1) = some (excObj C t0 (some dx) .none) → hp.objs.size ≤ dx → dx ≠ hp.objs.size + 1 → h'.get? dx = some (dictOf es n) → es = [⟨PyData.keyHash w.params fld, .str fld tk, u⟩] → ∀ tk', R (.ok (.ret .none)) ⟨h', g, d, tk', os⟩) :
    codeAny (model prog w) A (.call (.ref F.fI) ⟨[.ref (hp.objs.size + 1), u], []⟩) R ⟨(hp.push (PySem.W.kdv_tup [u])).push (PySem.PX.excO C hp.objs.size), g, d, t, os⟩ := by
  have up : ∀ b o, hp.get? b = some o → ((hp.push (PySem.W.kdv_tup [u])).push (PySem.PX.excO C hp.objs.size)).get? b = some o := fun b o e => Heap.get?_push_of_some _ (Heap.get?_push_of_some _ e)
  have X2 := PySem.W.Frag.In.keeps X up
  refine ks_codeAny_call_defAt (binds := [(("self" : Str), .ref (hp.objs.size + 1)), (fld, u)]) hroom (X2 _ _ F.lk) rfl (lim.keeps up) (PySem.W.codeRec_of X2 F.cod) rfl (.of_eq (bind_ini F.h0 F.h1 F.f1 _ _)) F.s5 (fun x hx => ?_) (fun h1 hns hk => ?_) rfl rfl rfl
  · rcases List.mem_cons.mp hx with rfl | hx
    · exact F.s3
    · rcases List.mem_cons.mp hx with rfl | hx
      · exact F.s4
      · cases hx
  have sz : ((hp.push (PySem.W.kdv_tup [u])).push (PySem.PX.excO C hp.objs.size)).objs.size = hp.objs.size + 2 := by simp [Heap.size_push]
  rw [sz] at hns ⊢
  have X1 : K.In h1 := PySem.W.Frag.In.keeps X2 hk
  have FG : Fr hp (hp.objs.size + 2) h1 (fun x => [(("self" : Str), Value.ref (hp.objs.size + 1)), (fld, u)].reverse.lookup x) := ⟨hns, fun b o e => hk b o (up b o e), by omega⟩
  have he : h1.get? (hp.objs.size + 1) = some (excObj C hp.objs.size none .none) := hk _ _ (by heap_get)
  have nu : ∀ b, hp.objs.size ≤ b → hp.get? b = none := fun b hb => Heap.get?_none_of_le hb
  have NG : News hp (hp.objs.size + 2) h1 [(hp.objs.size + 1, excObj C hp.objs.size none .none)] := fun p hp' => by
    have : p = (hp.objs.size + 1, excObj C hp.objs.size none .none) := by simpa using hp'
    subst this
    exact ⟨he, by show hp.objs.size + 1 ≠ hp.objs.size + 2; omega, nu _ (by show hp.objs.size ≤ hp.objs.size + 1; omega)⟩
  have vself : (fun x => [(("self" : Str), Value.ref (hp.objs.size + 1)), (fld, u)].reverse.lookup x) ("self" : Str) = some (.ref (hp.objs.size + 1)) := by
    show List.lookup ("self" : Str) [(fld, u), (("self" : Str), Value.ref (hp.objs.size + 1))] = _
    have : (("self" : Str) == fld) = false := by rw [BEq.comm]; exact F.f1
    rw [List.lookup_cons, this, List.lookup_cons]
    simp
  have vfld : (fun x => [(("self" : Str), Value.ref (hp.objs.size + 1)), (fld, u)].reverse.lookup x) fld = some u := by
    show List.lookup fld [(fld, u), (("self" : Str), Value.ref (hp.objs.size + 1))] = _
    rw [List.lookup_cons]
    simp
  generalize (fun x => [(("self" : Str), Value.ref (hp.objs.size + 1)), (fld, u)].reverse.lookup x) = m at FG hns vself vfld
  show _root_.PySem.wpAt (model prog w) (A.deeper (ksEnv F.qual (scI F.nms F.mr) (hp.objs.size + 2) F.fI (.ref F.cda) F.cc)) (.func _ (ksEnv F.qual (scI F.nms F.mr) (hp.objs.size + 2) F.fI (.ref F.cda) F.cc)) (execs _ (ksEnv F.qual (scI F.nms F.mr) (hp.objs.size + 2) F.fI (.ref F.cda) F.cc)) _ _ _
  refine ks_wpAt_execs_cons (ks_wpAt_Expr_any (ks_wpAt_MethodCall ?_ (eval_sup F.q1)))
  refine ks_wpAt_super_base (f := F.fI) (cc := F.cda) (env := ksEnv F.qual (scI F.nms F.mr) (hp.objs.size + 2) F.fI (.ref F.cda) F.cc) F.s1 F.s2 rfl rfl (X1 _ _ F.lk) rfl (ar := F.a0) rfl rfl (X1 _ _ F.code) rfl F.hvs hfile htop ?_
  refine PySem.W.ks_loadName_global rfl F.s1 (PySem.Calls.loadGlobal_builtin (G.keeps FG.keep) (PySem.W.mg_none_of X G F.sup) (B.keeps FG.keep) hb ⟨rfl, ?_⟩)
  refine wpAny_loadName_free rfl F.s2 rfl ⟨_, X1 _ _ F.cell, rfl⟩ ?_
  rw [F.h0]
  refine wpAny_loadName_local rfl F.s3 FG.ns vself ?_
  obtain ⟨oD, hD1, hD2⟩ : ∃ oD, h1.get? C = some oD ∧ oD.data = .cls F.cd := by
    have q := F.cls
    unfold PySem.W.clsIn at q
    split at q
    · rename_i c d cd' sl ho
      have q := Option.some.inj q
      subst q
      exact ⟨_, X1 _ _ ho, rfl⟩
    · cases q
  refine ks_wpAny_isType_cls hD1 hD2 ⟨rfl, ?_⟩
  refine ks_wpAny_call_super hD1 hD2 he rfl (fun c e => by cases e) (PySem.W.looks_mroIn X1 F.mro) (fun h2 e2 k2 => ?_)
  obtain ⟨F2, N2, l2⟩ := PySem.W.ks_newsPush (s := ⟨h1, g, d, t + 2, os⟩) FG NG rfl e2 k2
  have I2 : InstAt h2 (hp.objs.size + 1) (excObj C hp.objs.size none .none) C none := ⟨k2 _ _ he, rfl, rfl, trivial⟩
  refine PySem.W.kxs_method (kxsX le) F2 X N2 (.head _) I2 F.opq F.hm F.hB rfl fun q h3 F3 N3 l3 => ?_
  refine PySem.W.kxs_callWith1 N3 (.head _) (PySem.Calls.spliced_cons (wpAny_Name (wpAny_loadName_local rfl F.s4 F3.ns vfld (PySem.Calls.spliced_nil ⟨PySem.W.kxs_at N3 (.head _), ?_⟩)) F.f2)) rfl rfl
  have a2 : hp.objs.size + 1 < q := l3 (hp.objs.size + 1, _) (.tail _ (.head _))
  have a3 : hp.objs.size + 1 < h1.objs.size := l2 (hp.objs.size + 1, _) (.head _)
  refine PySem.W.kxs_call F3 X N3 (exbX le) F.exi (.head _) (.tail (Nat.ne_of_gt a2) (.tail (Nat.ne_of_gt a3) (.head (fun _ z => nomatch z)))) (by show 1 ≤ sizeLine; rw [sizeLine_eq]; omega) fun t4 h4 F4 N4 l4 => ?_
  have a4 : hp.objs.size + 1 < t4 := l4 (hp.objs.size + 1, _) (.tail _ (.tail _ (.head _)))
  refine ks_wpAt_execs_cons (ks_wpAt_Assign_Attr (wpAt_of_wpAny (wpAny_Name (wpAny_loadName_local rfl F.s4 F4.ns vfld (wpAny_Name (wpAny_loadName_local rfl F.s3 F4.ns vself ?_) rfl)) F.f2)) rfl)
  refine PySem.W.set_exc0 (stoX le) F4 X N4 (.tail _ (.tail _ (.tail _ (.head _)))) F.sa F.ovr F.tak F.hd rfl (.tail (Nat.ne_of_gt a4) (.tail (Nat.ne_of_gt a2) (.tail (Nat.ne_of_gt a3) (.head (fun _ z => nomatch z))))) (by show 1 ≤ 1000; omega) fun dx h5 F5 N5 l5 => ?_
  refine wpAt_of_wpAny (wpAny_execs_nil ?_)
  have ge : ∀ b, hp.get? b = none → b ≠ hp.objs.size + 1 → True := fun _ _ _ => trivial
  refine hR h5 t4 dx _ _ _ F5.keep (nu _ (by omega)) (N5 _ (.tail _ (.tail _ (.tail _ (.tail _ (.head _)))))).1 ?_ ?_ (N5 _ (.head _)).1 rfl _
  · have h6 : hp.objs.size + 1 < dx := l5 (hp.objs.size + 1, excObj C t4 none .none) (by simp)
    exact Nat.le_of_lt (Nat.lt_of_succ_lt h6)
  · have h6 : hp.objs.size + 1 < dx := l5 (hp.objs.size + 1, excObj C t4 none .none) (by simp)
    exact Nat.ne_of_gt h6
end
section
variable {X : L2.Cx} {file : Str} {C : Addr} {le : Bool} {fld : Str} {e : Expr} {te : TE} {p pos : Pos} {x : Str} {lv : Nat}
theorem dict_xd {h : Heap} {dx : Addr} {w : World} {fld : Str} {tk : Tok} {u : Value} {n : Nat} (e : h.get? dx = some (dictOf [⟨PyData.keyHash w.params fld, .str fld tk, u⟩] n)) : h.Ns1 dx fun y => if y = fld then some u else none := by
  refine ⟨_, _, _, e, rfl, ?_, ?_, ?_⟩
  · intro a ha
    have : a = ⟨PyData.keyHash w.params fld, .str fld tk, u⟩ := by simpa using ha
    subst this
    exact ⟨_, _, rfl⟩
  · exact List.pairwise_singleton _ _
  · intro nm
    show _ = if nm = fld then some u else none
    by_cases hz : nm = fld
    · subst hz
      rw [if_pos rfl]
      simp [nsFind, findBy, Value.isStr]
    · rw [if_neg hz]
      have hz' : ¬ fld = nm := fun q => hz q.symm
      simp [nsFind, findBy, Value.isStr, hz']
theorem pmk_ini (F : IniC X.K file C le fld) (hr : Room lv X.A) (hfile : ((X.prog.main.file : Str) == file) = true) (htop : (X.prog.main.scope.names.lookup ("super" : Str)).isSome = false) (r : Raises X (.ref C)) (hg : Gl X x) (hm : X.mg x = some (.ref C)) (hdb : (x == ("__debug__" : Str)) = false)
    (he : PE X e te) (hs : starEach [e] X.env = (false, eval e X.env) :: starEach [] X.env) : PMk X (.Call (.Name x p) [e] [] pos) fun σ H Q => tCons te tNil σ H fun vs H1 => ∃ y, vs = [y] ∧ ∀ dx, H1 dx = none → Q (.ref C) (some dx) (upd H1 dx (.xd [(fld, y)])) := by
  intro pins s σ H Q I h
  refine wpAny_Call_Name_kw (ld_glob I hg hm ?_ hdb)
  have ha : PA X [e] (tCons te tNil) := pa_cons he pa_nil hs
  refine PySem.W.callWith_K (h₀ := X.base) I.ok.mod.kin F.kp (thn (ha.run pos pins s σ H (fun vs H1 => ∃ y, vs = [y] ∧ ∀ dx, H1 dx = none → Q (.ref C) (some dx) (upd H1 dx (.xd [(fld, y)]))) I h) fun us s1 hh => ?_) hs rfl
  obtain ⟨vs, H1, I1, r1, y, ev, q⟩ := hh
  subst ev
  refine ⟨I1.kIn, ?_⟩
  cases r1 with
  | cons ry rn =>
    rename_i u us'
    cases rn
    show wpAny _ _ (call (.ref C) [u]) _ _ _
    obtain ⟨nm, N', qn, bs, bm, hdct, sn, sub, ab, col, dd, k0, k1, k2, k3, k5, hC, hT⟩ := PySem.W.excInit_of I1.kIn F.exi
    obtain ⟨mb, hB, hmb⟩ := I1.ok.mod.blt
    obtain ⟨hp, g, d, tk, os⟩ := s1
    obtain ⟨oI, hoI, hcI⟩ : ∃ oI, hp.get? F.fI = some oI ∧ oI.cls = .type "function" := by
      obtain ⟨o, ho, hc⟩ := Option.map_eq_some_iff.mp (show (X.K.lookup F.fI).map (·.cls) = some (.type "function") from beq_iff_eq.mp F.isf)
      exact ⟨o, I1.kIn _ _ ho, hc⟩
    refine wpAny_call (PySem.PX.call_own (exbX le) hT hC (PySem.W.looks_findIn I1.kIn F.find) (fun self => PySem.W.exc_bind hoI hcI self) (by show 1 ≤ sizeLine; rw [sizeLine_eq]; omega)
      (ini_run F I1.kIn hfile htop (I1.ok.mod.glob.keeps I1.bk) (hB.keeps I1.bk) ((hmb _ (by decide)).trans superX_ValueError) I1.nolimit (by have := hr.dp; rw [make_depth]; omega) fun h' t0 dx es n tk1 kp ne ho hdx hne hd hes tk' => ⟨rfl, ?_⟩))
    subst hes
    have hN := dict_xd hd
    have hn1 : H1 (hp.objs.size + 1) = none := I1.hok.fresh (Nat.le_succ _)
    obtain ⟨G, g1, g2⟩ := L2.restrict h' fun b => decide (b ≠ hp.objs.size + 1)
    have gk : ∀ b, b ≠ hp.objs.size + 1 → G.get? b = h'.get? b := fun b hb => g1 b (decide_eq_true hb)
    have ge : G.get? (hp.objs.size + 1) = none := g2 _ (by simp)
    have kk : ∀ b o, hp.get? b = some o → G.get? b = some o := fun b o z => by
      rw [gk b (fun w => by rw [w, ne] at z; cases z)]
      exact kp b o z
    have J := I1.laid (t' := tk') (a := dx) (o := .xd [(fld, y)]) (h' := G) kk hdx ⟨_, hN.at fun o z => (gk dx hne).trans z, fun f => by
      have := relO_put (f := fld) (fs := []) (mA := fun _ => none) ry (fun _ => True.intro) f
      exact this⟩
    refine ⟨hp.objs.size + 1, _, _, _, _, .ref C, some dx, rfl, J, fun b o z => ?_, ge, ho, ⟨rfl, rfl⟩, rfl, rfl, ?_, rfl, I1.bare, r, q dx (I1.hok.fresh hdx)⟩
    · by_cases hb : b = hp.objs.size + 1
      · rw [hb] at z
        have z : G.get? (hp.objs.size + 1) = some o := z
        rw [ge] at z
        cases z
      · exact (gk b hb).symm.trans z
    · rw [upd_ne (Ne.symm hne)]
      exact hn1
end
end Mi
end
section
/-! MiQg: try with clauses with and without a name. -/
namespace Mi
open PySem PySem.Spec PyProof.Rows L2
/-- behind a clause with a name: the slot is emptied -/
def Ends.gone (D : Ends) (i : Nat) : Ends := { nx := fun σ' H' => D.nx (σ'.set i none) H', rt := D.rt, bk := fun σ' H' => D.bk (σ'.set i none) H', ct := fun σ' H' => D.ct (σ'.set i none) H' }
abbrev Cl := Value × (Addr → Value → Option Addr → TS)
/-- a clause's suite, read with the name's slot holding the error -/
def nmd (i : Nat) (ts : Addr → Value → Option Addr → TS) : Addr → Value → Option Addr → TS := fun a cls d D σ H => ts a cls d (Ends.gone D i) (σ.set i (some (.ref a))) H
inductive HdsN (X : L2.Cx) : List ExceptHandler → List Cl → Prop
  | nil : HdsN X [] []
  | plain {x : Str} {c : Value} {ts : Addr → Value → Option Addr → TS} {b : Stmt} {bs : List Stmt} {np p : Pos} {hds : List ExceptHandler} {l : List Cl} (hc : Names X x c)
      (hs : ∀ (a : Addr) (oe : Obj) (cls : Value) (d : Option Addr) (pn : List (Addr × Obj)), Zc cls d oe → (∃ vs, oe.data = .fields vs) → PSs (X.suite a ((a, oe) :: pn)) (b :: bs) (ts a cls d)) (r : HdsN X hds l) :
      HdsN X (.ExceptHandler (some (.Name x np)) none (b :: bs) p :: hds) ((c, ts) :: l)
  | named {x n : Str} {i : Nat} {c : Value} {ts : Addr → Value → Option Addr → TS} {b : Stmt} {bs : List Stmt} {np p : Pos} {hds : List ExceptHandler} {l : List Cl} (hc : Names X x c) (hi : X.N[i]? = some n) (hk : X.env.kindOf n = some .local)
      (hs : ∀ (a : Addr) (oe : Obj) (cls : Value) (d : Option Addr) (pn : List (Addr × Obj)), Zc cls d oe → (∃ vs, oe.data = .fields vs) → PSs (X.suite a ((a, oe) :: pn)) (b :: bs) (ts a cls d)) (r : HdsN X hds l) :
      HdsN X (.ExceptHandler (some (.Name x np)) (some n) (b :: bs) p :: hds) ((c, nmd i ts) :: l)
section
variable {X : L2.Cx} {body : List Stmt} {h₀ : ExceptHandler} {hds : List ExceptHandler} {l : List Cl} {pos : Pos} {tb : WX → TS} {Wo : WX}
/-- a suite without a name, run -/
theorem suite_plain {pins : List (Addr × Obj)} {σ : L2.St} {H : Hp} {s : Shared} {D : Ends} {ts : TS} {a : Addr} {oe : Obj} {bs : List Stmt} (ok : X.Ok) (I : Inv (X.suite a ((a, oe) :: (X.pn ++ pins))) [] σ H s) (hs : PSs (X.suite a ((a, oe) :: (X.pn ++ pins))) bs ts) (w : ts D σ H) :
    wpAny (model X.prog X.w) (X.suite a ((a, oe) :: (X.pn ++ pins))).A (execs bs X.env) (SP X pins D) (fun _ _ => False) s := by
  refine wpAny_mono (hs.run [] _ _ H _ I w) (fun fl s2 q => ?_) fun _ _ z => z.elim
  cases fl with
  | ret u =>
    obtain ⟨v, σ2, H2, I2, r2, q2⟩ := q
    exact ⟨v, σ2, H2, I2.unsuite ok, r2, q2⟩
  | next =>
    obtain ⟨σ2, H2, I2, q2⟩ := q
    exact ⟨σ2, H2, I2.unsuite ok, q2⟩
  | brk =>
    obtain ⟨σ2, H2, I2, q2⟩ := q
    exact ⟨σ2, H2, I2.unsuite ok, q2⟩
  | cont =>
    obtain ⟨σ2, H2, I2, q2⟩ := q
    exact ⟨σ2, H2, I2.unsuite ok, q2⟩
theorem ps_try_n (hst : X.stack = X.env :: X.outer) (hfm : X.env.frame = some X.env.locals) (hN : X.N.Nodup) (tk : Takes X Wo)
    (hb : ∀ (W : WX) (pn : List (Addr × Obj)) (xe : Value → Shared → Prop), Takes (X.tr pn xe) W → PassesOwn (model X.prog X.w) X.A X.env xe → PSs (X.tr pn xe) body (tb W))
    (hh : HdsN X (h₀ :: hds) l) : PS X (.Try body (h₀ :: hds) [] [] pos) (fun D σ H => tb (wMany X.K Wo D l) D σ H) := by
  refine ⟨fun pins s σ H D I hw => ?_⟩
  have ok := I.ok
  have frm : X.A.frames = some (X.env :: X.outer) := by rw [← hst]; exact ok.frames
  refine wpAny_Try_except ?_
  let xe1 : Value → Shared → Prop := fun e z1 => wpAny (model X.prog X.w) X.A (noteFrame e X.env) (fun _ z2 => wpAny (model X.prog X.w) X.A (setFlight e none) (fun _ z3 =>
    wpAny (model X.prog X.w) X.A (handleBy e X.env (h₀ :: hds)) (SP X pins D) X.xe z3) X.xe z2) X.xe z1
  have catch_ : ∀ u z, XE (X.tr (X.pn ++ pins) xe1) (wMany X.K Wo D l) u z → xe1 u z := fun u z q => by
    obtain ⟨a, B, sI, pins', σ1, H1, cls, d, rfl, I1, nb, up, sk, na, os, ag, w⟩ := q
    have Iv : Inv X pins σ1 H1 sI := I1.ofTry ok
    have sk1 : Sky B (X.env :: X.outer) a (Zc cls d) X.env.locals z.heap := by
      have := sk
      rw [← hst]
      exact this
    show wpAny (model X.prog X.w) X.A (noteFrame (.ref a) X.env) _ _ _
    refine Sky.land Zc.steady frm hfm sk1 fun hb1 fz upb => ?_
    have Ib : Inv X pins σ1 H1 { z with heap := hb1 } := Iv.landed nb fz.1 (up.trans upb) os ag
    obtain ⟨ob, vb, eb, zb, db⟩ := fz.there
    have off : a ∉ frs (X.env :: X.outer) := fun hm => by
      obtain ⟨_, o2, e2, hnf⟩ := fz.2.2.1.mem hm
      rw [eb] at e2
      cases e2
      exact hnf _ db
    have offL : a ≠ X.env.locals := fun q => off (List.mem_filterMap.mpr ⟨X.env, List.mem_cons_self, hfm.trans (by rw [q])⟩)
    have offF : a ∉ X.fs := fun hm => by
      obtain ⟨e2, m2, q2⟩ := List.mem_filterMap.mp hm
      exact off (List.mem_filterMap.mpr ⟨e2, .tail _ m2, q2⟩)
    have Is := Ib.suite eb db na offL offF
    have go : ∀ {hs2 : List ExceptHandler} {l2 : List Cl}, HdsN X hs2 l2 → wMany X.K Wo D l2 cls d σ1 H1 → wpAny (model X.prog X.w) X.A (handleBy (.ref a) X.env hs2) (SP X pins D) X.xe { z with heap := hb1 } := by
      intro hs2 l2 hk
      -- the test of a clause
      have tst : ∀ {c : Value} {x : Str} {np : Pos} {Q : Value → Shared → Prop} {E : Value → Shared → Prop}, Names X x c → Q c { z with heap := hb1 } → wpAny (model X.prog X.w) (X.A.mark (some (.ref a))) (eval (.Name x np) X.env) Q E { z with heap := hb1 } := fun {c x np Q E} hc q => by
        obtain ⟨g1, g2, m1 | ⟨m1, m2, m3⟩⟩ := hc
        · exact ld_glob (X := X.suite a ((a, ob) :: (X.pn ++ pins))) Is g1 m1 q g2
        · exact ld_blt (X := X.suite a ((a, ob) :: (X.pn ++ pins))) Is g1 m1 m2 q m3 g2
      have ty : PySem.W.Looks (model X.prog X.w) hb1 (typeOf (.ref a)) cls := fun A Q E s k q => wpAny_typeOf_ref (k _ _ eb) (by rw [zb.1]; exact q)
      induction hk with
      | nil =>
        intro w
        refine wpAny_handleBy_nil ?_
        have fz0 := fz
        obtain ⟨_, _, _, oe, vs, T, oT, ts', q1, q2, q3, q4, q5⟩ := fz0
        have last : wpAny (model X.prog X.w) X.A (setFlight (.ref a) X.env.frame) (fun _ s4 => wpAny (model X.prog X.w) X.A (throw (.ref a) : Sem Flow) (SP X pins D) X.xe s4) X.xe { z with heap := hb1 } := by
          rw [hfm]
          refine HandSPX.setFlight_upZ fz fun h4 hh4 up4 => wpAny_throw (tk _ _ ⟨a, B, sI, pins, σ1, H1, cls, d, rfl, Iv, nb, (up.trans upb).trans up4, .inr (.inr ?_), na, os, ag, w⟩)
          have := hh4
          rw [hst]
          exact this
        unfold PySem.passOn
        refine wpAny_bind (wpAny_field q1 q3 q4 ?_)
        have hT : ¬ ((Value.ref T == Value.none) = true) := by simp
        rw [if_neg hT]
        first
          | exact wpAny_bind last
          | exact wpAny_bind (wpAny_pure (wpAny_bind last))
      | @plain x c ts b bs np p hd2 l2 hc hs r ih =>
        intro w
        obtain ⟨t, t1, t2, t3⟩ := w
        refine wpAny_handleBy_cons (codeAny_handlers_test (tst hc ((PySem.W.exm_one (M := model X.prog X.w) Ib.kIn ty t1).here ?_))) (by intro q; cases q)
        cases t with
        | false => exact ih (t3 rfl)
        | true =>
          refine codeAny_handlers_suite (HandSPX.lands_againZ fz fun h4 fz4 up4 => ?_)
          obtain ⟨o4, v4, e4, z4, d4⟩ := fz4.there
          have I4 := (Iv.landed (s' := { z with heap := h4 }) nb fz4.1 ((up.trans upb).trans up4) os ag).suite e4 d4 na offL offF
          exact wpAny_mono (suite_plain ok I4 (hs a o4 cls d (X.pn ++ pins) z4 ⟨_, d4⟩) (t2 rfl a na)) (fun _ _ q => q) fun _ _ q => q.elim
      | @named x n i c ts b bs np p hd2 l2 hc hi hk hs r ih =>
        intro w
        obtain ⟨t, t1, t2, t3⟩ := w
        refine wpAny_handleBy_cons (codeAny_handlers_test (tst hc ((PySem.W.exm_one (M := model X.prog X.w) Ib.kIn ty t1).here ?_))) (by intro q; cases q)
        cases t with
        | false => exact ih (t3 rfl)
        | true =>
          refine codeAny_handlers_suite_as (HandSPX.lands_againZ fz fun h4 fz4 up4 => ?_)
          obtain ⟨o4, v4, e4, z4, d4⟩ := fz4.there
          have I4 := (Iv.landed (s' := { z with heap := h4 }) nb fz4.1 ((up.trans upb).trans up4) os ag).suite e4 d4 na offL offF
          have hl : Loc X.env.scope n := .inl hk
          refine store_ok (X := X.suite a ((a, o4) :: (X.pn ++ pins))) (v := .ref a) I4 hN hi hl rfl (fun s5 I5 => ?_) (.inr hk)
          refine wpAny_mono (suite_plain ok I5 (hs a o4 cls d (X.pn ++ pins) z4 ⟨_, d4⟩) (t2 rfl a na)) (fun fl s6 q => ?_) fun _ _ q => q.elim
          cases fl with
          | ret u =>
            obtain ⟨v, σ2, H2, I2, r2, q2⟩ := q
            exact gone_ok I2 hN hi hk fun s7 I7 => ⟨v, _, H2, I7, r2, q2⟩
          | next =>
            obtain ⟨σ2, H2, I2, q2⟩ := q
            exact gone_ok I2 hN hi hk fun s7 I7 => ⟨_, H2, I7, q2⟩
          | brk =>
            obtain ⟨σ2, H2, I2, q2⟩ := q
            exact gone_ok I2 hN hi hk fun s7 I7 => ⟨_, H2, I7, q2⟩
          | cont =>
            obtain ⟨σ2, H2, I2, q2⟩ := q
            exact gone_ok I2 hN hi hk fun s7 I7 => ⟨_, H2, I7, q2⟩
    exact go hh w
  refine wpAny_mono ((hb (wMany X.K Wo D l) (X.pn ++ pins) xe1 catch_ PassesOwn.looking).run [] s σ H D (I.toTry _) hw) (fun fl s1 q => ?_) fun _ _ q => q
  cases fl with
  | ret u =>
    obtain ⟨v, σ2, H2, I2, r2, q2⟩ := q
    exact ⟨v, σ2, H2, I2.ofTry ok, r2, q2⟩
  | next =>
    obtain ⟨σ2, H2, I2, q2⟩ := q
    exact wpAny_execs_nil ⟨σ2, H2, I2.ofTry ok, q2⟩
  | brk =>
    obtain ⟨σ2, H2, I2, q2⟩ := q
    exact ⟨σ2, H2, I2.ofTry ok, q2⟩
  | cont =>
    obtain ⟨σ2, H2, I2, q2⟩ := q
    exact ⟨σ2, H2, I2.ofTry ok, q2⟩
end
end Mi
end
section
/-! MiQh: what stands in a named clause's suite. -/
namespace Mi
open PySem PySem.Spec PyProof.Rows L2
open PySem.W (InstAt)
/-- the class of a name in isinstance: an own class, ValueError, LookupError: is the error of the class c0 one? -/
def ansC (T : Tx) (c0 : Nat) (cl : EC) (s : Str) : Option Bool := if s = "ValueError" then some (!cl.le) else if s = "LookupError" then some cl.le else match T.cls.findIdx? fun e => decide (e.name = s) with
  | some j => some (decide (j = c0))
  | none => none
def nmC (T : Tx) (c : Ck) (c0 : Nat) (cl : EC) (b : Bool) : Expr → Bool
  | .Name s _ => glC c s && decide (ansC T c0 cl s = some b)
  | _ => false
/-- one class of several -/
def nmsC (T : Tx) (c : Ck) (c0 : Nat) (cl : EC) : Bool → List Expr → Bool
  | b, [] => !b
  | b, e :: es => (b && nmC T c c0 cl true e && (nmsC T c c0 cl true es || nmsC T c c0 cl false es)) || (nmC T c c0 cl false e && nmsC T c c0 cl b es)
def isxC (T : Tx) (c : Ck) (c0 : Nat) (cl : EC) (i : Nat) (b : Bool) : Expr → Bool
  | .Call (.Name f _) [.Name n _, t] [] _ => decide (f = ("isinstance" : Str)) && (glC c f && (visC c i n && (match t with
    | .Name s _ => glC c s && decide (ansC T c0 cl s = some b)
    | .Tuple es _ _ => decide (es.length < 50) && nmsC T c c0 cl b es
    | _ => false)))
  | _ => false
def xnC (T : Tx) (c : Ck) (c0 : Nat) (cl : EC) (i : Nat) : Xe → Expr → Bool
  | .cst d, x => (match x with
    | .Constant q _ _ => cstC d q
    | _ => false)
  | .fld, x => (match x with
    | .Attribute (.Name n _) f _ => cl.ini && (decide (f = cl.fld) && visC c i n)
    | _ => false)
  | .isi cs, x => isxC T c c0 cl i (cs.contains c0) x
  | .andNot cs ds, x => (match x with
    | .BoolOp .And [y, .UnaryOp .Not z _] _ => isxC T c c0 cl i (cs.contains c0) y && isxC T c c0 cl i (ds.contains c0) z
    | _ => false)
def xnsC (T : Tx) (c : Ck) (c0 : Nat) (cl : EC) (i : Nat) : Xs → List Expr → Bool
  | .nil, xs => xs.isEmpty
  | .cons e es, xs => (match xs with
    | x :: xs => nst x && (xnC T c c0 cl i e x && xnsC T c c0 cl i es xs)
    | [] => false)
/-- in a suite: x the error, a where it lies -/
def xR {α β : Type} (R : Rg → Hp → β → α → Prop) (k : Kx) (i c0 : Nat) (a : Addr) (cls : Value) (d : Option Addr) (f : Xn → Sto → Out α) : L2.St → Hp → (β → Hp → Prop) → Prop := fun σ H Q =>
  ∃ x r env st, x.c = c0 ∧ σ[i]? = some (some (.ref a)) ∧ RelH k.K r st H ∧ RelE k.K r H env σ ∧ RepX k r H x cls d ∧ CP R k W0 σ r H (f x st) Q
theorem RepX.ext {k : Kx} {r r' : Rg} {H H' : Hp} {x : Xn} {cls : Value} {d : Option Addr} {st : Sto} (p : RepX k r H x cls d) (e : Ext r H r' H') (R : RelH k.K r st H) : RepX k r' H' x cls d := by
  obtain ⟨h1, h2, h3⟩ := p
  refine ⟨h1, h2, ?_⟩
  cases ev : x.v with
  | none => rw [ev] at h3; exact h3
  | some w =>
    rw [ev] at h3
    obtain ⟨b, v, g1, g2, g3⟩ := h3
    refine ⟨b, v, g1, e.same b _ g2 fun q => ?_, g3.ext e R⟩
    rcases R.memL q with ⟨xs, z⟩ | ⟨xs, z⟩ | ⟨_, _, xs, z⟩ <;> (rw [g2] at z; cases z)
section
variable {S : Sx} {c : Ck} {X : L2.Cx} {W : WX} {i c0 : Nat} {cl : EC} {a : Addr} {oe : Obj} {cls : Value} {d : Option Addr} {pn : List (Addr × Obj)}
/-- the error as isinstance sees it -/
theorem kit_exc {pins : List (Addr × Obj)} {σ : L2.St} {H : Hp} {s : Shared} {C : Addr} (I : Inv (X.suite a ((a, oe) :: pn)) pins σ H s) (xc : ExcC X.K C) (hz : Zc cls d oe) (hf : ∃ vs, oe.data = .fields vs) (hc : cls = .ref C) (hd : ∀ dd, d = some dd → ∃ fs, H dd = some (.xd fs)) :
    ∃ P, PySem.W.KitX X.K (.ref a) (.ref C) P ∧ P s.heap := by
  obtain ⟨hget, _⟩ := I.pin (a, oe) (List.mem_append_left _ List.mem_cons_self)
  obtain ⟨vs, hv⟩ := hf
  have hno : PySem.W.notCls oe = true := by unfold PySem.W.notCls; rw [hv]
  obtain ⟨cd, e1, e2⟩ := PySem.W.any_some xc.hd
  have hcl : (PySem.W.clsIn X.K C).isSome = true := by rw [e1]; rfl
  cases hdd : d with
  | none =>
    have J : InstAt s.heap a oe C none := ⟨hget, hz.1.trans hc, hno, by rw [hz.2, hdd]; trivial⟩
    exact ⟨_, PySem.W.kitx_exc (od := none) hcl xc.hg xc.hk xc.hs xc.ha xc.hn xc.ht xc.hm, J⟩
  | some dd =>
    obtain ⟨fs, q⟩ := hd dd hdd
    obtain ⟨mA, hns, _⟩ := (show ObjOk X.prog X.w H s.heap dd (.xd fs) from I.hok dd _ q)
    obtain ⟨od, ho, _⟩ := lookIn_ns hns
    have J : InstAt s.heap a oe C (some od) := ⟨hget, hz.1.trans hc, hno, by rw [hz.2, hdd]; exact ho⟩
    exact ⟨_, PySem.W.kitx_exc (od := some od) hcl xc.hg xc.hk xc.hs xc.ha xc.hn xc.ht xc.hm, J⟩
def rX1 (K : PySem.W.Frag) (a : Addr) (cls : Value) (d : Option Addr) : List V → Hp → VK → Prop := fun xs H Q => ∃ C c cv b, cls = .ref C ∧ ExcC K C ∧ (∀ dd, d = some dd → ∃ fs, H dd = some (.xd fs)) ∧ xs = [.ref a, c] ∧ ClsV c cv ∧ PySem.W.kitOne K (.ref C) cv = some b ∧ Q (.bl b) H
def rXT (K : PySem.W.Frag) (a : Addr) (cls : Value) (d : Option Addr) : List V → Hp → VK → Prop := fun xs H Q => ∃ C tp cs us b, cls = .ref C ∧ ExcC K C ∧ (∀ dd, d = some dd → ∃ fs, H dd = some (.xd fs)) ∧ xs = [.ref a, .ref tp] ∧ H tp = some (.tup cs) ∧ Paired ClsV cs us ∧ PySem.W.kitAny K (.ref C) us = some b ∧ Q (.bl b) H
theorem call_x1 (hz : Zc cls d oe) (hf : ∃ vs, oe.data = .fields vs) : CallR (X.suite a ((a, oe) :: pn)) (.builtin "isinstance") (rX1 X.K a cls d) := by
  intro pins s σ H xs us Q I r h
  obtain ⟨C, c, cv, b, hc, xc, hd, rfl, k, e, q⟩ := h
  obtain ⟨u1, u2, rfl, r1, r2⟩ := vals2 r
  cases (show u1 = Value.ref a from r1)
  have e2 := k.eq r2
  subst e2
  obtain ⟨P, Z, p⟩ := kit_exc I xc hz hf hc hd
  exact PySem.W.kia_one Z I.kIn p e (fun z => nomatch z) fun tk => ⟨.bl b, H, I.tok tk, rfl, q⟩
theorem call_xT (hz : Zc cls d oe) (hf : ∃ vs, oe.data = .fields vs) : CallR (X.suite a ((a, oe) :: pn)) (.builtin "isinstance") (rXT X.K a cls d) := by
  intro pins s σ H xs us Q I r h
  obtain ⟨C, tp, cs, ws, b, hc, xc, hd, rfl, hT, k, e, q⟩ := h
  obtain ⟨u1, u2, rfl, r1, r2⟩ := vals2 r
  cases (show u1 = Value.ref a from r1)
  cases (show u2 = Value.ref tp from r2)
  obtain ⟨P, Z, p⟩ := kit_exc I xc hz hf hc hd
  obtain ⟨_, its, rv, o, h1, h2, n, h3⟩ := (show ObjOk X.prog X.w H s.heap tp (.tup cs) from I.hok tp _ hT)
  have e3 := ClsV.all k rv
  subst e3
  obtain ⟨oc, od, dt, sl⟩ := o
  simp only at h2 h3
  subst h2 h3
  exact PySem.W.kia_tup Z I.kIn p h1 e (fun z => nomatch z) fun tk => ⟨.bl b, H, I.tok tk, rfl, q⟩
/-- a class by its name -/
theorem cls_name (G : GX S c X W) (h0 : S.cls[c0]? = some cl) {s : Str} {p : Pos} {b : Bool} (hg : glC c s = true) (ha : ansC S.toTx c0 cl s = some b) : ∃ v cv, PE (X.suite a ((a, oe) :: pn)) (.Name s p) (tC v) ∧ ClsV v cv ∧ PySem.W.kitOne X.K (.ref (S.k.ca c0)) cv = some b := by
  obtain ⟨g1, g2⟩ := gl_of G.L hg
  have F := G.M.cls.2 c0 cl h0
  have kK := G.kK
  unfold ansC at ha
  split at ha
  · rename_i e
    subst e
    cases ha
    exact ⟨.ty "ValueError", .type "ValueError", pe_bltn g1 (G.M.blt _ (by decide +kernel)) (by decide +kernel) rfl (by decide +kernel) g2, .ty _, by rw [← kK]; exact F.i1⟩
  · split at ha
    · rename_i e
      subst e
      cases ha
      exact ⟨.ty "LookupError", .type "LookupError", pe_bltn g1 (G.M.blt _ (by decide +kernel)) (by decide +kernel) rfl (by decide +kernel) g2, .ty _, by rw [← kK]; exact F.i2⟩
    · split at ha
      · rename_i j hj
        cases ha
        obtain ⟨hl, hp, _⟩ := List.findIdx?_eq_some_iff_getElem.mp hj
        have e : S.cls[j]? = some S.cls[j] := List.getElem?_eq_getElem hl
        have Fj := G.M.cls.2 j _ e
        have hn : S.cls[j].name = s := of_decide_eq_true hp
        have hm := Fj.mg
        rw [hn] at hm
        exact ⟨.ref (S.k.ca j), .ref (S.k.ca j), pe_glob g1 hm rfl g2, .own _, by rw [← kK]; exact F.ij j _ e⟩
      · cases ha
theorem cls_names (G : GX S c X W) (h0 : S.cls[c0]? = some cl) : ∀ (es : List Expr) (b : Bool), nmsC S.toTx c c0 cl b es = true → ∃ vs us, PA (X.suite a ((a, oe) :: pn)) es (fun _ H Q => Q vs H) ∧ vs.length = es.length ∧ Paired ClsV vs us ∧ PySem.W.kitAny X.K (.ref (S.k.ca c0)) us = some b
  | [], b, h => by
    have h : (!b) = true := h
    cases b with
    | true => cases h
    | false => exact ⟨[], [], PAi pa_nil fun σ H Q q => q, rfl, .nil, rfl⟩
  | e :: es, b, h => by
    have h : ((b && nmC S.toTx c c0 cl true e && (nmsC S.toTx c c0 cl true es || nmsC S.toTx c c0 cl false es)) || (nmC S.toTx c c0 cl false e && nmsC S.toTx c c0 cl b es)) = true := h
    have one : ∀ {b1 : Bool}, nmC S.toTx c c0 cl b1 e = true → ∃ v cv, PE (X.suite a ((a, oe) :: pn)) e (tC v) ∧ ClsV v cv ∧ PySem.W.kitOne X.K (.ref (S.k.ca c0)) cv = some b1 ∧ nst e = true := fun {b1} q => by
      cases e with
      | Name s p =>
        have q : (glC c s && decide (ansC S.toTx c0 cl s = some b1)) = true := q
        rw [Bool.and_eq_true, decide_eq_true_eq] at q
        obtain ⟨v, cv, z1, z2, z3⟩ := cls_name (a := a) (oe := oe) (pn := pn) (p := p) G h0 q.1 q.2
        exact ⟨v, cv, z1, z2, z3, rfl⟩
      | _ => cases q
    rw [Bool.or_eq_true] at h
    rcases h with h | h
    · simp only [Bool.and_eq_true] at h
      obtain ⟨⟨hb, h1⟩, h2⟩ := h
      subst hb
      obtain ⟨v, cv, z1, z2, z3, z4⟩ := one h1
      have : ∃ b2, nmsC S.toTx c c0 cl b2 es = true := by
        rw [Bool.or_eq_true] at h2
        rcases h2 with h2 | h2
        · exact ⟨_, h2⟩
        · exact ⟨_, h2⟩
      obtain ⟨b2, h2⟩ := this
      obtain ⟨vs, us, y1, y0, y2, y3⟩ := cls_names G h0 es b2 h2
      refine ⟨v :: vs, cv :: us, PAi (pa_cons z1 y1 (star_cons z4)) fun σ H Q q => q, by simp [y0], .cons z2 y2, ?_⟩
      exact kitAny_cons z3 (fun z => by cases z) fun _ => rfl
    · rw [Bool.and_eq_true] at h
      obtain ⟨v, cv, z1, z2, z3, z4⟩ := one h.1
      obtain ⟨vs, us, y1, y0, y2, y3⟩ := cls_names G h0 es b h.2
      refine ⟨v :: vs, cv :: us, PAi (pa_cons z1 y1 (star_cons z4)) fun σ H Q q => q, by simp [y0], .cons z2 y2, ?_⟩
      exact kitAny_cons z3 (fun _ => y3) fun z => by cases z
theorem xv_dict {k : Kx} {r : Rg} {H : Hp} {x : Xn} (p : RepX k r H x cls d) : ∀ dd, d = some dd → ∃ fs, H dd = some (.xd fs) := fun dd e => by
  obtain ⟨_, _, h⟩ := p
  cases ev : x.v with
  | none =>
    rw [ev] at h
    rw [e] at h
    cases h
  | some w =>
    rw [ev] at h
    obtain ⟨b, v, g1, g2, g3⟩ := h
    rw [e] at g1
    cases g1
    exact ⟨_, g2⟩
theorem isx_ok (G : GX S c X W) (h0 : S.cls[c0]? = some cl) (hz : Zc cls d oe) (hf : ∃ vs, oe.data = .fields vs) {b : Bool} {y : Expr} (h : isxC S.toTx c c0 cl i b y = true) :
    PE (X.suite a ((a, oe) :: pn)) y (xR (RV S.k) S.k i c0 a cls d fun _ st => .ok (.bl b) st) := by
  have kK := G.kK
  have F := G.M.cls.2 c0 cl h0
  unfold isxC at h
  split at h
  · rename_i f fp n np t pos
    simp only [Bool.and_eq_true, decide_eq_true_eq] at h
    obtain ⟨rfl, h1, h2, h3⟩ := h
    obtain ⟨g1, g2⟩ := gl_of G.L h1
    obtain ⟨v1, v2, v3, v4⟩ := vis_of G.L h2
    have pv : PE (X.suite a ((a, oe) :: pn)) (.Name n np) (tVar i) := pe_var v1 v2 v3 v4
    split at h3
    · rename_i s p
      simp only [Bool.and_eq_true, decide_eq_true_eq] at h3
      obtain ⟨v, cv, z1, z2, z3⟩ := cls_name (a := a) (oe := oe) (pn := pn) (p := p) G h0 h3.1 h3.2
      refine PEi (pe_callB (call_x1 (X := X) (pn := pn) hz hf) g1 (G.M.blt _ (by decide +kernel)) isi_boot (pa_cons pv (pa_cons z1 pa_nil rfl) rfl) (by decide +kernel) g2 rfl rfl) fun σ H Q q => ?_
      obtain ⟨x, r, env, st, e1, e2, hR, hE, hX, hc⟩ := q
      refine ⟨_, e2, ?_⟩
      refine ⟨S.k.ca c0, v, cv, b, by rw [hX.2.1, e1], by rw [← kK]; exact F.xc, xv_dict hX, rfl, z2, z3, CP.now hc hR (.bl _)⟩
    · rename_i es tn tp
      simp only [Bool.and_eq_true, decide_eq_true_eq] at h3
      obtain ⟨vs, us, z1, z0, z2, z3⟩ := cls_names (a := a) (oe := oe) (pn := pn) G h0 es b h3.2
      refine PEi (pe_callB (call_xT (X := X) (pn := pn) hz hf) g1 (G.M.blt _ (by decide +kernel)) isi_boot (pa_cons pv (pa_cons (pe_tup z1) pa_nil rfl) rfl) (by decide +kernel) g2 rfl rfl) fun σ H Q q => ?_
      obtain ⟨x, r, env, st, e1, e2, hR, hE, hX, hc⟩ := q
      refine ⟨_, e2, ?_⟩
      refine ⟨by rw [z0]; exact Nat.le_trans (Nat.le_of_lt h3.1) (by decide), fun q hq => ?_⟩
      have ex := Ext.new (r := r) (o := .tup vs) hq
      have hX2 := hX.ext ex hR
      refine ⟨S.k.ca c0, q, vs, us, b, by rw [hX.2.1, e1], by rw [← kK]; exact F.xc, xv_dict hX2, rfl, upd_same, z2, z3, ?_⟩
      exact hc r _ _ ex (hR.ext_new hq) (.bl _)
    · cases h3
  · cases h
end
end Mi
end
section
/-! MiQi: try, with names. -/
namespace Mi
open PySem PySem.Spec PyProof.Rows L2
def ofS (o : Option α) (st : Sto) : Out α := match o with
  | some v => .ok v st
  | none => .bad
theorem cp_ofS {α β : Type} {R : Rg → Hp → β → α → Prop} {k : Kx} {W : WX} {σ : L2.St} {r : Rg} {H : Hp} {o : Option α} {st : Sto} {Q : β → Hp → Prop} (h : CP R k W σ r H (ofS o st) Q) : ∃ v, o = some v ∧ CP R k W σ r H (.ok v st) Q := by
  cases o with
  | none => exact h.elim
  | some v => exact ⟨v, rfl, h⟩
section
variable {S : Sx} {c : Ck} {X : L2.Cx} {W : WX} {i c0 : Nat} {cl : EC} {a : Addr} {oe : Obj} {cls : Value} {d : Option Addr} {pn : List (Addr × Obj)}
theorem xn_ok (G : GX S c X W) (h0 : S.cls[c0]? = some cl) (hz : Zc cls d oe) (hf : ∃ vs, oe.data = .fields vs) {e : Xe} {y : Expr} (h : xnC S.toTx c c0 cl i e y = true) :
    PE (X.suite a ((a, oe) :: pn)) y (xR (RV S.k) S.k i c0 a cls d fun x st => ofS (suiD x e) st) := by
  have kK := G.kK
  have F := G.M.cls.2 c0 cl h0
  cases e with
  | cst v =>
    dsimp only [xnC] at h
    split at h
    · refine PEi (ie_cst (k := S.k) (W := W0) h) fun σ H Q q => ?_
      obtain ⟨x, r, env, st, e1, e2, hR, hE, hX, hc⟩ := q
      exact ⟨r, env, st, hR, hE, hc⟩
    · cases h
  | fld =>
    dsimp only [xnC] at h
    split at h
    · rename_i n np f pos
      simp only [Bool.and_eq_true, decide_eq_true_eq] at h
      obtain ⟨h1, rfl, h2⟩ := h
      obtain ⟨v1, v2, v3, v4⟩ := vis_of G.L h2
      have pv : PE (X.suite a ((a, oe) :: pn)) (.Name n np) (tVar i) := pe_var v1 v2 v3 v4
      obtain ⟨xf, xn⟩ := F.xf h1
      rw [kK] at xf xn
      refine PEi (pe_xf xf xn hz hf pv rfl) fun σ H Q q => ?_
      obtain ⟨x, r, env, st, e1, e2, hR, hE, hX, hc⟩ := q
      obtain ⟨w, ew, hc⟩ := cp_ofS hc
      have ew : x.v = some w := ew
      obtain ⟨x1, x2, x3⟩ := hX
      rw [ew] at x3
      obtain ⟨b, v, g1, g2, g3⟩ := x3
      refine ⟨_, e2, rfl, by rw [x2, e1], b, _, v, g1, g2, ?_, CP.now hc hR g3⟩
      rw [e1, F.cf]
      simp [List.lookup]
    · cases h
  | isi cs =>
    refine PEi (isx_ok G h0 hz hf h) fun σ H Q q => ?_
    obtain ⟨x, r, env, st, e1, e2, hR, hE, hX, hc⟩ := q
    refine ⟨x, r, env, st, e1, e2, hR, hE, hX, ?_⟩
    have hc : CP (RV S.k) S.k W0 σ r H (.ok (.bl (cs.contains x.c)) st) Q := hc
    rw [e1] at hc
    exact hc
  | andNot cs ds =>
    dsimp only [xnC] at h
    split at h
    · rename_i y z np pos
      rw [Bool.and_eq_true] at h
      refine PEi (pe_andT (isx_ok G h0 hz hf h.1) (pe_one (pe_notT (isx_ok G h0 hz hf h.2)))) fun σ H Q q => ?_
      obtain ⟨x, r, env, st, e1, e2, hR, hE, hX, hc⟩ := q
      have hc : CP (RV S.k) S.k W0 σ r H (.ok (.bl (cs.contains x.c && !ds.contains x.c)) st) Q := hc
      rw [e1] at hc
      refine ⟨x, r, env, st, e1, e2, hR, hE, hX, fun r1 H1 v x1 a1 p1 => ?_⟩
      cases p1
      refine ⟨cs.contains c0, by rw [← kK]; exact tru_run (st := st) (.bl _) a1 rfl, ?_⟩
      cases hb : cs.contains c0 with
      | false =>
        rw [if_neg Bool.false_ne_true]
        rw [hb] at hc
        exact hc r1 H1 _ x1 a1 (.bl _)
      | true =>
        rw [if_pos rfl]
        rw [hb] at hc
        refine ⟨x, r1, env, st, e1, e2, a1, hE.ext x1 hR, hX.ext x1 hR, fun r2 H2 v2 x2 a2 p2 => ?_⟩
        cases p2
        exact ⟨ds.contains c0, by rw [← kK]; exact tru_run (st := st) (.bl _) a2 rfl, hc r2 H2 _ (x1.trans x2) a2 (.bl _)⟩
    · cases h
theorem xns_ok (G : GX S c X W) (h0 : S.cls[c0]? = some cl) (hz : Zc cls d oe) (hf : ∃ vs, oe.data = .fields vs) : ∀ {es : Xs} {ys : List Expr}, xnsC S.toTx c c0 cl i es ys = true →
    PA (X.suite a ((a, oe) :: pn)) ys (xR (RVs S.k) S.k i c0 a cls d fun x st => ofS (suiL x es) st)
  | .nil, ys, h => by
    cases ys with
    | nil =>
      refine PAi pa_nil fun σ H Q q => ?_
      obtain ⟨x, r, env, st, e1, e2, hR, hE, hX, hc⟩ := q
      exact CP.now hc hR .nil
    | cons => cases h
  | .cons e es, [], h => by cases h
  | .cons e es, y :: ys, h => by
    have h : (nst y && (xnC S.toTx c c0 cl i e y && xnsC S.toTx c c0 cl i es ys)) = true := h
    simp only [Bool.and_eq_true] at h
    refine PAi (pa_cons (xn_ok G h0 hz hf h.2.1) (xns_ok G h0 hz hf h.2.2) (star_cons h.1)) fun σ H Q q => ?_
    obtain ⟨x, r, env, st, e1, e2, hR, hE, hX, hc⟩ := q
    obtain ⟨ws, ew, hc⟩ := cp_ofS hc
    have ew : ((suiD x e).bind fun d => (suiL x es).map (d :: ·)) = some ws := ew
    obtain ⟨w, g1, g2⟩ := Option.bind_eq_some_iff.mp ew
    obtain ⟨us, g3, rfl⟩ := Option.map_eq_some_iff.mp g2
    refine ⟨x, r, env, st, e1, e2, hR, hE, hX, ?_⟩
    show CP (RV S.k) S.k W0 σ r H (ofS (suiD x e) st) _
    rw [g1]
    intro r1 H1 v x1 a1 p1
    refine ⟨x, r1, env, st, e1, e2, a1, hE.ext x1 hR, hX.ext x1 hR, ?_⟩
    show CP (RVs S.k) S.k W0 σ r1 H1 (ofS (suiL x es) st) _
    rw [g3]
    intro r2 H2 vs x2 a2 p2
    exact hc r2 H2 (v :: vs) (x1.trans x2) a2 (.cons (p1.ext x2 a1) p2)
def nsuC (T : Tx) (c : Ck) (c0 : Nat) (cl : EC) (i : Nat) : Su → List Stmt → Bool
  | .asgL j es, x => (match x with
    | [.Assign [.Name n _] (.List xs _) _] => locC c j n && (decide (j ≠ i) && xnsC T c c0 cl i es xs)
    | _ => false)
  | _, _ => false
/-- what a named suite does -/
def tsN (k : Kx) (i c0 : Nat) (su : Su) : Addr → Value → Option Addr → TS := fun a cls d D σ H =>
  ∃ x r env st, x.c = c0 ∧ σ[i]? = some (some (.ref a)) ∧ RelH k.K r st H ∧ RelE k.K r H env σ ∧ RepX k r H x cls d ∧ CS k W0 r H (suite x su none env st) D
theorem su_named (G : GX S c X W) (h0 : S.cls[c0]? = some cl) (hz : Zc cls d oe) (hf : ∃ vs, oe.data = .fields vs) {su : Su} {ss : List Stmt} (h : nsuC S.toTx c c0 cl i su ss = true) : PSs (X.suite a ((a, oe) :: pn)) ss (tsN S.k i c0 su a cls d) := by
  cases su with
  | asgL j es =>
    dsimp only [nsuC] at h
    split at h
    · rename_i n np ys lp ap
      rw [Bool.and_eq_true, Bool.and_eq_true] at h
      obtain ⟨h1, h2, h3⟩ := h
      obtain ⟨n1, n2, n3⟩ := loc_of G.L h1
      have pg : PG (X.suite a ((a, oe) :: pn)) (.Name n np) (gName j) := pg_name (by show X.N.Nodup; rw [G.L.N]; exact G.L.nd) n1 n2 n3
      refine PSsi (pss_one (ps_asg (pe_lst (xns_ok G h0 hz hf h3)) pg)) fun D σ H q => ?_
      obtain ⟨x, r, env, st, e1, e2, hR, hE, hX, hc⟩ := q
      have hc : CS S.k W0 r H (match suiL x es with
        | some ds => (match mkL true ds st with
          | .ok d s1 => if j < env.length then .nxt (env.set j (some d)) s1 else .bad
          | _ => .bad)
        | none => .bad) D := hc
      refine ⟨x, r, env, st, e1, e2, hR, hE, hX, ?_⟩
      cases es' : suiL x es with
      | none => rw [es'] at hc; exact hc.elim
      | some ds =>
        rw [es'] at hc
        dsimp only at hc
        show CP (RVs S.k) S.k W0 σ r H (ofS (suiL x es) st) _
        rw [es']
        intro r1 H1 vs x1 a1 p1
        have : CP (RV S.k) S.k W0 σ r1 H1 (mkL true ds st) fun v H' => D.nx (σ.set j (some v)) H' := by
          cases em : mkL true ds st with
          | bad => rw [em] at hc; exact hc.elim
          | exc y s1 => rw [em] at hc; exact hc.elim
          | ok v s1 =>
            rw [em] at hc
            intro r2 H2 w x2 a2 p2
            have hc : CS S.k W0 r H (if j < env.length then .nxt (env.set j (some v)) s1 else .bad) D := hc
            split at hc
            · exact hc r2 H2 _ (x1.trans x2) a2 ((hE.ext (x1.trans x2) hR).set p2 j)
            · exact hc.elim
        exact CP.newL a1 this p1
    · cases h
  | asgC => cases h
  | app => cases h
/-! ### the clauses -/
def hsN (T : Tx) (c : Ck) : Hs → List ExceptHandler → Bool
  | .nil, hs => hs.isEmpty
  | .cons k nm su hs, xs => (match xs with
    | .ExceptHandler (some (.Name n _)) n2 (b₀ :: body) _ :: xs => (match T.cls[k]? with
      | some cl => decide (cl.name = n) && (glC c n && ((match nm, n2 with
        | none, none => suC c su (b₀ :: body)
        | some i, some x => locC c i x && (decide (c.sc.names.lookup x = some .local) && nsuC T c k cl i su (b₀ :: body))
        | _, _ => false) && hsN T c hs xs))
      | none => false)
    | _ => false)
def clsN (k : Kx) : Hs → List Cl
  | .nil => []
  | .cons c none su hs => (.ref (k.ca c), fun _ _ _ => crS k W0 fun env st => suite ⟨0, none⟩ su none env st) :: clsN k hs
  | .cons c (some i) su hs => (.ref (k.ca c), nmd i (tsN k i c su)) :: clsN k hs
theorem hds_n (G : GX S c X W) : ∀ {hs : Hs} {xs : List ExceptHandler}, hsN S.toTx c hs xs = true → HdsN X xs (clsN S.k hs)
  | .nil, xs, h => by
    cases xs with
    | nil => exact .nil
    | cons => cases h
  | .cons k nm su hs, xs, h => by
    dsimp only [hsN] at h
    split at h
    · rename_i n np n2 b₀ body pos' xs
      split at h
      · rename_i cl ecl
        rw [Bool.and_eq_true, Bool.and_eq_true, Bool.and_eq_true, decide_eq_true_eq] at h
        obtain ⟨rfl, h1, h2, h3⟩ := h
        obtain ⟨g1, g2⟩ := gl_of G.L h1
        have F := G.M.cls.2 k cl ecl
        split at h2
        · exact .plain ⟨g1, g2, .inl F.mg⟩ (fun a oe cls d pn _ _ => su_ok G G.kK h2 a _ ⟨0, none⟩) (hds_n G h3)
        · rename_i i x
          rw [Bool.and_eq_true, Bool.and_eq_true, decide_eq_true_eq] at h2
          obtain ⟨q1, q2, q3⟩ := h2
          obtain ⟨n1, n2, n3⟩ := loc_of G.L q1
          exact .named ⟨g1, g2, .inl F.mg⟩ n1 (by have := q2; rw [← G.L.sc] at this; exact this) (fun a oe cls d pn hz hf => su_named G ecl hz hf q3) (hds_n G h3)
        · cases h2
      · cases h
    · cases h
theorem RelE.unset {K : PySem.W.Frag} {r : Rg} {H : Hp} {env : Env} {σ : L2.St} (h : RelE K r H env σ) (i : Nat) {o : Option V} : RelE K r H (env.set i none) (σ.set i o) := by
  refine ⟨by simp [h.len], fun j d e => ?_⟩
  by_cases hj : j = i
  · subst hj
    rw [List.getElem?_set] at e
    split at e
    · split at e <;> cases e
    · rename_i q; exact absurd rfl q
  · rw [List.getElem?_set_ne (fun q => hj q.symm)] at e ⊢
    exact h.has j d e
theorem unset_same {env : Env} {i j : Nat} {d : D} (h : j ≠ i) : ((env.set i none).set j (some d)).set i none = (env.set j (some d)).set i none := by
  apply List.ext_getElem?
  intro n
  simp only [List.getElem?_set, List.length_set]
  by_cases h1 : i = n <;> by_cases h2 : j = n <;> simp [h1, h2]
theorem suite_no {x z : Xn} {su : Su} {nm : Option Nat} {e e2 : Env} {s s2 : Sto} : suite x su nm e s ≠ .exc z e2 s2 := fun q => by
  unfold suite at q
  cases su with
  | asgL i es =>
    dsimp only at q
    split at q
    · split at q
      · split at q <;> cases q
      · cases q
    · cases q
  | asgC i d =>
    dsimp only at q
    split at q <;> cases q
  | app i d =>
    dsimp only at q
    split at q
    · split at q <;> cases q
    · cases q
theorem cs_noW {k : Kx} {r : Rg} {H : Hp} {D : Ends} {W : WX} {o : SOut} (h : CS k W r H o D) (hn : ∀ z e2 s2, o ≠ .exc z e2 s2) : CS k W0 r H o D := by
  cases o with
  | exc z e2 s2 => exact absurd rfl (hn z e2 s2)
  | _ => exact h
/-- what the clauses wish -/
theorem hands_n (G : GX S c X W) {D : Ends} {x : Xn} {e : Env} {s : Sto} {r : Rg} {H : Hp} {σ : L2.St} {cv : Value} {dx : Option Addr} (hR : RelH S.k.K r s H) (hE : RelE S.k.K r H e σ) (hX : RepX S.k r H x cv dx) : ∀ {hs : Hs} {xs : List ExceptHandler}, hsN S.toTx c hs xs = true →
    CS S.k W r H (hands x hs e s) D → wMany X.K W D (clsN S.k hs) cv dx σ H
  | .nil, xs, h, hc => hc r H σ cv dx Ext.refl hR hE hX
  | .cons k nm su hs, xs, h, hc => by
    dsimp only [hsN] at h
    split at h
    · rename_i n np n2 b₀ body pos' xs
      split at h
      · rename_i cl ecl
        rw [Bool.and_eq_true, Bool.and_eq_true, Bool.and_eq_true, decide_eq_true_eq] at h
        obtain ⟨rfl, h1, h2, h3⟩ := h
        have x1' : x.c < S.cls.length := by rw [← G.M.cls.1]; exact hX.1
        have F := (G.M.cls.2 x.c _ (List.getElem?_eq_getElem x1')).mt k cl ecl
        have ex : PySem.W.exmOne X.K cv (.ref (S.k.ca k)) = some (decide (k = x.c)) := by rw [← G.kK, hX.2.1]; exact F
        have hno : decide (k = x.c) = false → wMany X.K W D (clsN S.k hs) cv dx σ H := fun hb => by
          have hb := of_decide_eq_false hb
          have hc : CS S.k W r H (if k = x.c then (if (nm.all fun j => decide (j < e.length)) = true then suite x su nm e s else .bad) else hands x hs e s) D := hc
          rw [if_neg hb] at hc
          exact hands_n G hR hE hX h3 hc
        have hyes : decide (k = x.c) = true → k = x.c ∧ (nm.all fun j => decide (j < e.length)) = true ∧ CS S.k W0 r H (suite x su nm e s) D := fun hb => by
          have hb := of_decide_eq_true hb
          have hc : CS S.k W r H (if k = x.c then (if (nm.all fun j => decide (j < e.length)) = true then suite x su nm e s else .bad) else hands x hs e s) D := hc
          rw [if_pos hb] at hc
          split at hc
          · rename_i hj
            exact ⟨hb, hj, cs_noW hc fun z e2 s2 => suite_no⟩
          · exact hc.elim
        split at h2
        · refine ⟨_, ex, fun hb a ha => ?_, hno⟩
          refine ⟨r, e, s, hR, hE, ?_⟩
          show CS S.k W0 r H (suite ⟨0, none⟩ su none e s) D
          rw [su_same (y := x) h2]
          exact (hyes hb).2.2
        · rename_i i y
          rw [Bool.and_eq_true, Bool.and_eq_true, decide_eq_true_eq] at h2
          obtain ⟨q1, q2, q3⟩ := h2
          obtain ⟨n1, n2, n3⟩ := loc_of G.L q1
          refine ⟨_, ex, fun hb a ha => ?_, hno⟩
          obtain ⟨hk, hj, hc⟩ := hyes hb
          have hlen : i < σ.length := by
            rw [← hE.len]
            simpa using hj
          refine ⟨x, r, e.set i none, s, hk.symm, by rw [List.getElem?_set_self hlen], hR, hE.unset i, hX, ?_⟩
          cases su with
          | asgL j es =>
            dsimp only [nsuC] at q3
            split at q3
            · rw [Bool.and_eq_true, Bool.and_eq_true, decide_eq_true_eq] at q3
              have hc : CS S.k W0 r H (match suiL x es with
                | some ds => (match mkL true ds s with
                  | .ok d s1 => if j < e.length then .nxt ((e.set j (some d)).set i none) s1 else .bad
                  | _ => .bad)
                | none => .bad) D := hc
              show CS S.k W0 r H (match suiL x es with
                | some ds => (match mkL true ds s with
                  | .ok d s1 => if j < (e.set i none).length then .nxt ((e.set i none).set j (some d)) s1 else .bad
                  | _ => .bad)
                | none => .bad) (Ends.gone D i)
              cases es' : suiL x es with
              | none => rw [es'] at hc; exact hc.elim
              | some ds =>
                rw [es'] at hc
                dsimp only at hc ⊢
                cases em : mkL true ds s with
                | bad => rw [em] at hc; exact hc.elim
                | exc y s1 => rw [em] at hc; exact hc.elim
                | ok v s1 =>
                  rw [em] at hc
                  dsimp only at hc ⊢
                  rw [List.length_set]
                  split at hc
                  · rename_i hj
                    rw [if_pos hj]
                    intro r1 H1 σ1 x1 a1 b1
                    refine hc r1 H1 _ x1 a1 ?_
                    have := b1.unset i (o := none)
                    rw [unset_same q3.2.1] at this
                    exact this
                  · exact hc.elim
            · cases q3
          | asgC => cases q3
          | app => cases q3
        · cases h2
      · cases h
    · cases h
theorem is_try (G : GX S c X W) (hs1 : X.stack = X.env :: X.outer) (hf : X.env.frame = some X.env.locals) {pos : Pos} {fb : Env → Sto → SOut} {body : List Stmt} {hs : Hs} {h₀ : ExceptHandler} {xs : List ExceptHandler}
    (hb : ∀ (W' : WX) (pn : List (Addr × Obj)) (xe : Value → Shared → Prop), GX S c (X.tr pn xe) W' → ISs (X.tr pn xe) S.k W' body fb) (hh : hsN S.toTx c hs (h₀ :: xs) = true) :
    IS X S.k W (.Try body (h₀ :: xs) [] [] pos) fun env st => match fb env st with
      | .exc x e s => hands x hs e s
      | r => r := by
  refine PSi (ps_try_n (tb := fun W' => crS S.k W' fb) hs1 hf (by rw [G.L.N]; exact G.L.nd) G.tk (fun W' pn xe tk pw => hb W' pn xe ⟨⟨G.L.N, G.L.nd, G.L.sc, G.L.fn, G.L.calm, G.L.kind⟩, G.kK, G.room, tk, pw, G.M⟩) (hds_n G hh)) fun D σ H h => ?_
  obtain ⟨r, env, st, hR, hE, hc⟩ := h
  refine ⟨r, env, st, hR, hE, ?_⟩
  dsimp only at hc
  cases e : fb env st with
  | nxt => rw [e] at hc; exact hc
  | ret => rw [e] at hc; exact hc
  | brk => rw [e] at hc; exact hc
  | cnt => rw [e] at hc; exact hc
  | bad => rw [e] at hc; exact hc
  | exc x e2 s2 =>
    rw [e] at hc
    intro r' H' σ' cv dx x1 a1 b1 p1
    have hc : CS S.k W r H (hands x hs e2 s2) D := hc
    exact hands_n G a1 b1 p1 hh (CS.mono hc x1)
/-- raise C(e) -/
theorem is_raise1 (G : GX S c X W) {j : Nat} {cl : EC} {p p2 pos : Pos} {e : Expr} {f : Env → Sto → Out D} (hi : S.cls[j]? = some cl) (h0 : cl.ini = true) (hg : glC c cl.name = true) (hn : nst e = true) (he : IE X S.k W e f) : IS X S.k W (.Raise (some (.Call (.Name cl.name p) [e] [] p2)) none pos) fun env st => (f env st).thn env fun v s1 => .exc ⟨j, some v⟩ env s1 := by
  have F := G.M.cls.2 j cl hi
  have kK := G.kK
  obtain ⟨file, q1, q2, ⟨q3⟩⟩ := G.M.ini j cl hi h0
  obtain ⟨g1, g2⟩ := gl_of G.L hg
  rw [kK] at q3
  have rs : Raises X (.ref (S.k.ca j)) := raises_own (by rw [← kK]; exact F.sb) (by rw [← kK]; exact F.ty)
  refine PSi (ps_raise G.L.calm G.tk (pmk_ini q3 G.room q1 q2 rs g1 F.mg g2 he (star_cons hn))) fun D σ H h => ?_
  obtain ⟨r, env, st, hR, hE, hc⟩ := h
  refine ⟨r, env, st, hR, hE, ?_⟩
  have hc : CS S.k W r H ((f env st).thn env fun v s1 => .exc ⟨j, some v⟩ env s1) D := hc
  cases ef : f env st with
  | bad => rw [ef] at hc; exact hc.elim
  | exc x s1 =>
    rw [ef] at hc
    intro r1 H1 cv dx x1 a1 p1
    exact hc r1 H1 σ cv dx x1 a1 (hE.ext x1 hR) p1
  | ok v s1 =>
    rw [ef] at hc
    intro r1 H1 y x1 a1 p1
    refine ⟨y, rfl, fun dx hdx => ?_⟩
    have ex := Ext.new (r := r1) (o := .xd [(cl.fld, y)]) hdx
    refine hc r1 _ σ _ _ (x1.trans ex) (a1.ext_new hdx) ((hE.ext x1 hR).ext ex a1) ⟨by rw [G.M.cls.1]; exact (List.getElem?_eq_some_iff.mp hi).1, rfl, dx, y, rfl, ?_, p1.ext ex a1⟩
    rw [F.cf]
    exact upd_same
end
end Mi
end
section
/-! MiR: suites are as their small ones say. -/
namespace Mi
open PySem PySem.Spec PyProof.Rows L2
section
variable {S : Sx} {c : Ck} {X : L2.Cx} {W : WX} {pos : Pos}
/-- x.f, y.g = a, b -/
theorem is_setf2 (G : GX S c X W) {o o2 : Expr} {cl fl fl2 : Str} {vs : List Expr} {kt k2 : Nat} {tp tp2 pt pt2 : Pos} {fo fo2 : Env → Sto → Out D} {fs : Env → Sto → Out (List D)} (h2 : (cl, fl) ∈ S.ats) (h4 : (cl, fl2) ∈ S.ats) (h1 : IE X S.k W o fo) (h3 : IE X S.k W o2 fo2) (ha : IA X S.k W vs fs)
    (hsw : swS c.kd [.Attribute o fl tp, .Attribute o2 fl2 tp2] vs = some none) :
    IS X S.k W (.Assign [.Tuple [.Attribute o fl tp, .Attribute o2 fl2 tp2] kt pt] (.Tuple vs k2 pt2) pos) fun env st => (fs env st).thn env fun ds s1 => match ds with
    | [x, y] => (stF cl fl fo x env s1).thn env fun _ s2 => (stF cl fl2 fo2 y env s2).thn env fun _ s3 => .nxt env s3
    | _ => .bad := by
  have kn : X.env.kindOf = c.kd := by
    funext x
    show X.env.scope.names.lookup x = _
    rw [G.L.sc]
    rfl
  rw [← kn] at hsw
  refine PSi (ps_asg (pe_tup ha) (pg_tup (n := 2) G.L.calm (pgs_cons (pg_fldM (W := W) G h2 h1) (pgs_cons (pg_fldM (W := W) G h4 h3) pgs_nil rfl) rfl) rfl rfl) rfl (swS_ok G.L.block hsw) rfl) fun D σ H h => ?_
  obtain ⟨r, env, st, hR, hE, hc⟩ := h
  refine cs_seq hR hE hc fun ds s1 r1 H1 vs' e1 a1 b1 q1 hc1 => ?_
  match ds, q1, hc1 with
  | [x, y], .cons (v := v1) qx (.cons (v := v2) qy .nil), hc1 =>
    refine ⟨by show 2 ≤ sizeLine; decide, fun p hp => ?_⟩
    have en : Ext r1 H1 r1 (upd H1 p (.tup [v1, v2])) := Ext.new hp
    refine ⟨p, [v1, v2], rfl, .inl (.inl upd_same), rfl, v1, [v2], rfl, ?_⟩
    refine fld_seq (g := fun s2 => (stF cl fl2 fo2 y env s2).thn env fun _ s3 => .nxt env s3) (a1.ext_new hp) (b1.ext en a1) (qx.ext en a1) (CS.mono hc1 en) fun s2 r2 H2 e2 a2 b2 hc2 => ?_
    refine ⟨v2, [], rfl, ?_⟩
    exact fld_seq (g := fun s3 => .nxt env s3) a2 b2 (qy.ext (en.trans e2) a1) hc2 fun s3 r3 H3 e3 a3 b3 hc3 => ⟨rfl, CS.nx hc3 a3 b3⟩
  | [], _, hc1 => exact hc1.elim
  | [_], _, hc1 => exact hc1.elim
  | _ :: _ :: _ :: _, _, hc1 => exact hc1.elim
end
theorem fld_sw {e o : Expr} {fl : Str} {tp : Pos} {l : Nat} {env : PySem.Env} (h : (match e with
    | .SetComp _ _ _ _ => false
    | .DictComp _ _ _ _ _ => false
    | _ => true) = true) : swapsWith e (some (.Attribute o fl tp)) l env = pure false := by
  cases e <;> first | rfl | cases h
def nsd : Expr → Bool
  | .SetComp _ _ _ _ => false
  | .DictComp _ _ _ _ _ => false
  | _ => true
/-- where a comprehension goes into a name at once -/
def swN (c : Ck) (tg v : Expr) : Bool := match v, tg with
  | .ListComp _ _ scope lp, .Name t tp => swL c.kd scope lp t tp
  | _, _ => false
def tupOk (c : Ck) (tg v : Expr) : Bool := match tg, v with
  | .Tuple ts _ _, .Tuple vs _ _ => decide (swS c.kd ts vs = some none)
  | _, _ => true
mutual
def stC (S : Tx) : Ck → Mi.S → Stmt → Bool
  | _, .no, _ => true
  | c, .asg g e, x => (match x with
    | .Assign [tg] v _ => gC c g tg && (eC S c e v && (nsd v && tupOk c tg v))
    | _ => false)
  | c, .par is es, x => (match x with
    | .Assign [.Tuple ts _ _] (.Tuple vs _ _) _ => (decide is.Nodup && (esC S c es vs && (decide (is.length = vs.length) && (decide (vs.length ≤ 100) && ((gsC c (is.map .nm) ts && decide (swS c.kd ts vs = some none)) || (parC c is ts && decide (swS c.kd ts vs = some (some (parN ts)))))))))
    | _ => false)
  | c, .sub o i e, x => (match x with
    | .Assign [.Subscript a b _] v _ => nsl b && (nsd v && (eC S c o a && (eC S c i b && eC S c e v)))
    | _ => false)
  | c, .dput o i e, x => (match x with
    | .Assign [.Subscript a b _] v _ => nsl b && (nsd v && (eC S c o a && (eC S c i b && eC S c e v)))
    | _ => false)
  | c, .setf cl o f e, x => (match x with
    | .Assign [.Attribute a g _] v _ => decide (g = f) && (decide ((cl, f) ∈ S.ats) && (nsd v && (eC S c o a && eC S c e v)))
    | _ => false)
  | c, .setf2 cl o f o2 f2 es, x => (match x with
    | .Assign [.Tuple [.Attribute a g tp, .Attribute a2 g2 tp2] _ _] (.Tuple vs _ _) _ => decide (g = f) && (decide (g2 = f2) && (decide ((cl, f) ∈ S.ats) && (decide ((cl, f2) ∈ S.ats) && (eC S c o a && (eC S c o2 a2 && (esC S c es vs && decide (swS c.kd [.Attribute a g tp, .Attribute a2 g2 tp2] vs = some none)))))))
    | _ => false)
  | c, .swp o i o2 i2 es, x => (match x with
    | .Assign [.Tuple [.Subscript a b tp, .Subscript a2 b2 tp2] _ _] (.Tuple vs _ _) _ => nsl b && (nsl b2 && (eC S c o a && (eC S c i b && (eC S c o2 a2 && (eC S c i2 b2 && (esC S c es vs && decide (swS c.kd [.Subscript a b tp, .Subscript a2 b2 tp2] vs = some none)))))))
    | _ => false)
  | c, .aug i o e, x => (match x with
    | .AugAssign (.Name n _) op v _ => decide (op = bop o) && (locC c i n && eC S c e v)
    | _ => false)
  | c, .augS o i op e, x => (match x with
    | .AugAssign (.Subscript a b _) op2 v _ => decide (op2 = bop op) && (nsl b && (eC S c o a && (eC S c i b && eC S c e v)))
    | _ => false)
  | c, .ex e, x => (match x with
    | .Expr v _ => nlc v && eC S c e v
    | _ => false)
  | c, .ret e, x => (match x with
    | .Return (some v) _ => eC S c e v
    | _ => false)
  | _, .ret0, x => (match x with
    | .Return none _ => true
    | _ => false)
  | c, .if_ t a b, x => (match x with
    | .If u p q _ => eC S c t u && (ssC S c a p && ssC S c b q)
    | _ => false)
  | c, .for_ g s b, x => (match x with
    | .For tg it p [] _ => gC c g tg && (sC S c s tg it && ssC S c b p)
    | _ => false)
  | c, .whil t b, x => (match x with
    | .While u p [] _ => eC S c t u && ssC S c b p
    | _ => false)
  | _, .brk, x => (match x with
    | .Break _ => true
    | _ => false)
  | _, .cnt, x => (match x with
    | .Continue _ => true
    | _ => false)
  | _, .pass, x => (match x with
    | .Pass _ => true
    | _ => false)
  | c, .raise n es, x => (match x with
    | .Raise (some (.Call (.Name nm _) [] [] _)) none _ => (match es with
      | .nil => true
      | _ => false) && ((match S.cls[n]? with
      | some cl => decide (cl.name = nm) && !cl.ini
      | none => false) && glC c nm)
    | .Raise (some (.Call (.Name nm _) [y] [] _)) none _ => (match es with
      | .cons e .nil => nst y && eC S c e y
      | _ => false) && ((match S.cls[n]? with
      | some cl => decide (cl.name = nm) && cl.ini
      | none => false) && glC c nm)
    | _ => false)
  | c, .try_ b hs, x => (match x with
    | .Try body (h :: xs) [] [] _ => ssC S c b body && hsN S c hs (h :: xs)
    | _ => false)
def ssC (S : Tx) : Ck → Ss → List Stmt → Bool
  | _, .nil, xs => xs.isEmpty
  | c, .cons s ss, xs => (match xs with
    | x :: xs => stC S c s x && ssC S c ss xs
    | [] => false)
end
theorem kd_eq {X : L2.Cx} {c : Ck} (L : LX X c) : X.env.kindOf = c.kd := by
  funext x
  show X.env.scope.names.lookup x = _
  rw [L.sc]
  rfl
section
variable {S : Sx} {c : Ck} {X : L2.Cx} {W : WX}
theorem st_asg (G : GX S c X W) {g : Mi.G} {e : E} {tg v : Expr} {pos : Pos} (h1 : gC c g tg = true) (h2 : eC S.toTx c e v = true) (h3 : nsd v = true) (h4 : tupOk c tg v = true) : IS X S.k W (.Assign [tg] v pos) (asgS g (evE S.cx e)) := by
  have he := (sndE S e G v h2).1
  have st : swappedStores [tg] v X.env = pure none := by
    cases tg with
    | Tuple ts k p =>
      cases v with
      | Tuple vs k2 p2 =>
        have h4 := of_decide_eq_true (show decide (swS c.kd ts vs = some none) = true from h4)
        rw [← kd_eq G.L] at h4
        exact swS_ok G.L.block h4
      | _ => rfl
    | Name => cases v <;> rfl
    | _ => cases g <;> (unfold gC at h1; cases h1)
  by_cases hs : swN c tg v = true
  · -- at once
    cases v with
    | ListComp elt gs scope lp =>
      cases tg with
      | Name t tp =>
        have hs : swL c.kd scope lp t tp = true := hs
        have sw : swapsWith (.ListComp elt gs scope lp) (some (.Name t tp)) pos.line X.env = pure true := by
          rw [swL_ok G.L.block, kd_eq G.L, hs]
        cases g with
        | tup => unfold gC at h1; cases h1
        | nm i =>
          have h1 : locC c i t = true := by unfold gC at h1; exact h1
          obtain ⟨n1, n2, n3⟩ := loc_of G.L h1
          have loc : X.env.scope.names.lookup t = some .local := by
            rw [G.L.sc]
            unfold swL at hs
            simp only [Bool.and_eq_true] at hs
            exact of_decide_eq_true (by simpa [Ck.kd] using hs.1.1)
          cases e with
          | no => exact ⟨fun pins s σ H D I q => by
              obtain ⟨r, env, st, hR, hE, hc⟩ := q
              exact hc.elim⟩
          | lc fz own g2 s t2 e2 =>
            unfold eC at h2
            split at h2
            · rename_i heq
              cases heq
              simp only [Bool.and_eq_true, decide_eq_true_eq] at h2
              obtain ⟨k1, k2, k3, k4, k5, k6⟩ := h2
              have ok := blkOk_by k1
              rw [← G.L.N, ← G.L.sc] at ok
              obtain ⟨i1, i2⟩ := sndS S s G _ _ k2
              refine PSi (ps_setLc G.L.calm (by rw [G.L.N]; exact G.L.nd) n1 loc sw i1 ok (fun s' H' C cl fp => pg_of (G.blk ok s' H' C cl fp).L (G.blk ok s' H' C cl fp).kK g2 _ k3) (fun s' H' C cl fp => sndOT S t2 (G.blk ok s' H' C cl fp) _ k5) (fun s' H' C cl fp => (sndE S e2 (G.blk ok s' H' C cl fp) _ k6).1) (fun x => fold_it i2)) fun D σ H q => ?_
              have q2 := set_read D q
              rw [G.L.N, own_map]
              exact lc_read k4 σ H _ q2
            · cases h2
          | lc2 fz own own2 g2 s t2 g3 s2 t3 e2 =>
            unfold eC at h2
            split at h2
            · rename_i heq
              cases heq
              simp only [Bool.and_eq_true, decide_eq_true_eq] at h2
              obtain ⟨k1, k2, k3, k4, k5, k6, k7, k8, k9, k10, k11⟩ := h2
              have ok := blkOk_by k1
              rw [← G.L.N, ← G.L.sc] at ok
              obtain ⟨i1, i2⟩ := sndS S s G _ _ k2
              refine PSi (ps_setLc2 (vs1 := own2) G.L.calm (by rw [G.L.N]; exact G.L.nd) n1 loc sw i1 ok (by rw [G.L.N, own_map]; exact k6) (fun s' H' C cl fp => pg_of (G.blk ok s' H' C cl fp).L (G.blk ok s' H' C cl fp).kK g2 _ k3) (fun s' H' C cl fp => sndOT S t2 (G.blk ok s' H' C cl fp) _ k5)
                (fun s' H' C cl fp => (sndS S s2 (G.blk ok s' H' C cl fp) _ _ k7).1) (fun s' H' C cl fp => pg_of (G.blk ok s' H' C cl fp).L (G.blk ok s' H' C cl fp).kK g3 _ k8) (fun s' H' C cl fp => sndOT S t3 (G.blk ok s' H' C cl fp) _ k10)
                (fun s' H' C cl fp => (sndE S e2 (G.blk ok s' H' C cl fp) _ k11).1) (fun x => fold_it i2) (fun env x => fold_it (sC_set k7))) fun D σ H q => ?_
              have q2 := set_read D q
              rw [G.L.N, own_map]
              exact lc2_read k4 k9 σ H _ q2
            · cases h2
          | _ => cases h2
      | _ => cases hs
    | _ => cases tg <;> cases hs
  · have sw : swapsWith v (some tg) pos.line X.env = pure false := by
      cases v with
      | ListComp elt gs scope lp =>
        cases tg with
        | Name t tp =>
          rw [swL_ok G.L.block, kd_eq G.L]
          have : swL c.kd scope lp t tp = false := by simpa using (show ¬ swL c.kd scope lp t tp = true from hs)
          rw [this]
        | _ => rfl
      | SetComp => cases h3
      | DictComp => cases h3
      | _ => rfl
    exact is_asg G h1 he sw st
/-- a def's frame -/
structure FX (X : L2.Cx) : Prop where
  st : X.stack = X.env :: X.outer
  fr : X.env.frame = some X.env.locals
mutual
theorem sndSt (S : Sx) : ∀ (s : Mi.S) {c : Ck} {X : L2.Cx} {W : WX} (G : GX S c X W) (Z : FX X) (x : Stmt), stC S.toTx c s x = true → IS X S.k W x (exS S.cx s)
  | .no, c, X, W, G, Z, x, h => ⟨fun pins s σ H D I q => by
      obtain ⟨r, env, st, hR, hE, hc⟩ := q
      exact hc.elim⟩
  | .asg g e, c, X, W, G, Z, x, h => by
    unfold stC at h
    split at h
    · simp only [Bool.and_eq_true] at h
      exact st_asg G h.1 h.2.1 h.2.2.1 h.2.2.2
    · cases h
  | .par is es, c, X, W, G, Z, x, h => by
    unfold stC at h
    split at h
    · simp only [Bool.and_eq_true, decide_eq_true_eq, Bool.or_eq_true] at h
      obtain ⟨h2, h3, h4, h5, h6⟩ := h
      exact is_par G h2 (sndEs S es G _ h3) h4 h5 (fun env st ds s e => esC_len h3 e) h6
    · cases h
  | .sub o i e, c, X, W, G, Z, x, h => by
    unfold stC at h
    split at h
    · simp only [Bool.and_eq_true] at h
      obtain ⟨h1, h2, h3, h4, h5⟩ := h
      refine is_sub G.kK h1 (sndE S o G _ h3).1 (sndE S i G _ h4).1 (sndE S e G _ h5).1 (sub_sw ?_)
      rename_i v _
      cases v <;> first | rfl | cases h2
    · cases h
  | .dput o i e, c, X, W, G, Z, x, h => by
    unfold stC at h
    split at h
    · simp only [Bool.and_eq_true] at h
      obtain ⟨h1, h2, h3, h4, h5⟩ := h
      refine is_dput (units1 G.room) (sndE S o G _ h3).1 (sndE S i G _ h4).1 (sndE S e G _ h5).1 (sub_sw ?_)
      rename_i v _
      cases v <;> first | rfl | cases h2
    · cases h
  | .setf cl o f e, c, X, W, G, Z, x, h => by
    unfold stC at h
    split at h
    · simp only [Bool.and_eq_true, decide_eq_true_eq] at h
      obtain ⟨rfl, h1, h2, h3, h4⟩ := h
      refine is_setf G h1 (sndE S o G _ h3).1 (sndE S e G _ h4).1 (fld_sw ?_)
      rename_i v _
      cases v <;> first | rfl | cases h2
    · cases h
  | .setf2 cl o f o2 f2 es, c, X, W, G, Z, x, h => by
    unfold stC at h
    split at h
    · simp only [Bool.and_eq_true, decide_eq_true_eq] at h
      obtain ⟨rfl, rfl, h1, h2, h3, h4, h5, h6⟩ := h
      exact is_setf2 G h1 h2 (sndE S o G _ h3).1 (sndE S o2 G _ h4).1 (sndEs S es G _ h5) h6
    · cases h
  | .swp o i o2 i2 es, c, X, W, G, Z, x, h => by
    unfold stC at h
    split at h
    · simp only [Bool.and_eq_true, decide_eq_true_eq] at h
      obtain ⟨h1, h2, h3, h4, h5, h6, h7, h8⟩ := h
      exact is_swp G h1 h2 (sndE S o G _ h3).1 (sndE S i G _ h4).1 (sndE S o2 G _ h5).1 (sndE S i2 G _ h6).1 (sndEs S es G _ h7) h8
    · cases h
  | .aug i o e, c, X, W, G, Z, x, h => by
    unfold stC at h
    split at h
    · simp only [Bool.and_eq_true, decide_eq_true_eq] at h
      obtain ⟨rfl, h1, h2⟩ := h
      exact is_aug G h1 (sndE S e G _ h2).1
    · cases h
  | .augS o i op e, c, X, W, G, Z, x, h => by
    unfold stC at h
    split at h
    · simp only [Bool.and_eq_true, decide_eq_true_eq] at h
      obtain ⟨rfl, h1, h2, h3, h4⟩ := h
      exact is_augS G h1 (sndE S o G _ h2).1 (sndE S i G _ h3).1 (sndE S e G _ h4).1
    · cases h
  | .ex e, c, X, W, G, Z, x, h => by
    unfold stC at h
    split at h
    · simp only [Bool.and_eq_true] at h
      exact is_ex (sndE S e G _ h.2).1 h.1
    · cases h
  | .ret e, c, X, W, G, Z, x, h => by
    unfold stC at h
    split at h
    · exact is_ret (sndE S e G _ h).1
    · cases h
  | .ret0, c, X, W, G, Z, x, h => by
    unfold stC at h
    split at h
    · exact is_ret0
    · cases h
  | .if_ t a b, c, X, W, G, Z, x, h => by
    unfold stC at h
    split at h
    · simp only [Bool.and_eq_true] at h
      exact is_if (sndE S t G _ h.1).2 (sndSs S a G Z _ h.2.1) (sndSs S b G Z _ h.2.2)
    · cases h
  | .for_ g s b, c, X, W, G, Z, x, h => by
    unfold stC at h
    split at h
    · simp only [Bool.and_eq_true] at h
      obtain ⟨i1, i2⟩ := sndS S s G _ _ h.2.1
      exact PSi (ps_for G.pw G.L.calm i1 (pg_of G.L G.kK g _ h.1) (sndSs S b G Z _ h.2.2) fun x => fold_it i2) fun D σ H q => for_read D σ H q
    · cases h
  | .whil t b, c, X, W, G, Z, x, h => by
    unfold stC at h
    split at h
    · simp only [Bool.and_eq_true] at h
      exact PSi (ps_while G.pw (sndE S t G _ h.1).2 (sndSs S b G Z _ h.2)) fun D σ H q => while_read D σ H q
    · cases h
  | .brk, c, X, W, G, Z, x, h => by
    unfold stC at h
    split at h
    · exact PSi ps_break fun D σ H ⟨r, env, st, hR, hE, hc⟩ => hc r H σ Ext.refl hR hE
    · cases h
  | .cnt, c, X, W, G, Z, x, h => by
    unfold stC at h
    split at h
    · exact PSi ps_continue fun D σ H ⟨r, env, st, hR, hE, hc⟩ => hc r H σ Ext.refl hR hE
    · cases h
  | .pass, c, X, W, G, Z, x, h => by
    unfold stC at h
    split at h
    · exact PSi ps_pass fun D σ H ⟨r, env, st, hR, hE, hc⟩ => hc r H σ Ext.refl hR hE
    · cases h
  | .raise n es, c, X, W, G, Z, x, h => by
    unfold stC at h
    split at h
    · rename_i nm p p2 pos
      simp only [Bool.and_eq_true] at h
      obtain ⟨h1, h2, h3⟩ := h
      cases es with
      | cons => cases h1
      | nil =>
        split at h2
        · rename_i cl ecl
          simp only [Bool.and_eq_true, decide_eq_true_eq, Bool.not_eq_true'] at h2
          obtain ⟨rfl, h2⟩ := h2
          exact is_raise G ecl h2 h3
        · cases h2
    · rename_i nm p y p2 pos
      simp only [Bool.and_eq_true] at h
      obtain ⟨h1, h2, h3⟩ := h
      cases es with
      | nil => cases h1
      | cons e es =>
        cases es with
        | cons => cases h1
        | nil =>
          have h1 : (nst y && eC S.toTx c e y) = true := h1
          rw [Bool.and_eq_true] at h1
          split at h2
          · rename_i cl ecl
            simp only [Bool.and_eq_true, decide_eq_true_eq] at h2
            obtain ⟨rfl, h2⟩ := h2
            have q := is_raise1 (p := p) (p2 := p2) (pos := pos) G ecl h2 h3 h1.1 (sndE S e G y h1.2).1
            refine PSi q fun D σ H h => ?_
            obtain ⟨r, env, st, hR, hE, hc⟩ := h
            refine ⟨r, env, st, hR, hE, ?_⟩
            have hc : CS S.k W r H (((evE S.cx e env st).bind fun d s1 => (Out.ok [] s1 : Out (List Mi.D)).bind fun ds s2 => .ok (d :: ds) s2).thn env fun ds s1 => match ds with
              | [] => .exc ⟨n, none⟩ env s1
              | [d] => .exc ⟨n, some d⟩ env s1
              | _ => .bad) D := hc
            show CS S.k W r H ((evE S.cx e env st).thn env fun v s1 => .exc ⟨n, some v⟩ env s1) D
            cases ee : evE S.cx e env st with
            | ok v s1 => rw [ee] at hc; exact hc
            | exc x s1 => rw [ee] at hc; exact hc
            | bad => rw [ee] at hc; exact hc
          · cases h2
    · cases h
  | .try_ b hs, c, X, W, G, Z, x, h => by
    unfold stC at h
    split at h
    · rw [Bool.and_eq_true] at h
      exact is_try G Z.st Z.fr (fun W' pn xe G' => sndSs S b G' ⟨Z.st, Z.fr⟩ _ h.1) h.2
    · cases h
theorem sndSs (S : Sx) : ∀ (ss : Ss) {c : Ck} {X : L2.Cx} {W : WX} (G : GX S c X W) (Z : FX X) (xs : List Stmt), ssC S.toTx c ss xs = true → ISs X S.k W xs (exSs S.cx ss)
  | .nil, c, X, W, G, Z, xs, h => by
    cases xs with
    | nil => exact iss_nil
    | cons => cases h
  | .cons s ss, c, X, W, G, Z, [], h => by cases h
  | .cons s ss, c, X, W, G, Z, x :: xs, h => by
    have h : (stC S.toTx c s x && ssC S.toTx c ss xs) = true := h
    simp only [Bool.and_eq_true] at h
    exact iss_cons (sndSt S s G Z x h.1) (sndSs S ss G Z xs h.2)
end
end
end Mi
end
section
/-! MiS: defs, call by call. -/
namespace Mi
open PySem PySem.Spec PyProof.Rows L2

/-! ### what comes back from a def that ran over a store of its own -/
section
variable {K : PySem.W.Frag} {r r' : Rg} {H H' : Hp} {st st' : Sto}
theorem frz_0 (n : Nat) (s : Sto) (d : D) : D.frz n s 0 d = d := by cases d <;> rfl
theorem frz_tup (n k : Nat) (s : Sto) (xs : List D) : D.frz n s (k + 1) (.tup xs) = .tup (xs.map (D.frz n s k)) := rfl
theorem frz_fl (n k : Nat) (s : Sto) (xs : List D) : D.frz n s (k + 1) (.fl xs) = .fl (xs.map (D.frz n s k)) := rfl
theorem frz_ref (n k m : Nat) (s : Sto) : D.frz n s (k + 1) (.ref m) = if m < n then .ref m else match s[m]? with
    | some xs => .fl (xs.map (D.frz n s k))
    | none => .ref m := rfl
theorem purs_map {α : Type} {f : α → D} : ∀ {xs : List α}, D.purs (xs.map f) = true → ∀ x ∈ xs, (f x).pur = true
  | [], _, x, h => nomatch h
  | a :: xs, h, x, hx => by
    have h : ((f a).pur && D.purs (xs.map f)) = true := h
    rw [Bool.and_eq_true] at h
    rcases List.mem_cons.mp hx with e | hx
    · rw [e]; exact h.1
    · exact purs_map h.2 x hx
theorem lows_map {α : Type} {f : α → D} {n : Nat} : ∀ {xs : List α}, D.lows n (xs.map f) = true → ∀ x ∈ xs, (f x).low n = true
  | [], _, x, h => nomatch h
  | a :: xs, h, x, hx => by
    have h : ((f a).low n && D.lows n (xs.map f)) = true := h
    rw [Bool.and_eq_true] at h
    rcases List.mem_cons.mp hx with e | hx
    · rw [e]; exact h.1
    · exact lows_map h.2 x hx
/-- in another surrounding, some references read out -/
theorem reps_with {f : D → D} {p : D → Prop} : ∀ {vs : List V} {ds : List D}, (∀ v d, d ∈ ds → Rep K r H v d → p (f d) → Rep K r' H v (f d)) → Reps K r H vs ds → (∀ d ∈ ds, p (f d)) → Reps K r' H vs (ds.map f)
  | _, _, _, .nil, _ => .nil
  | _, _, g, .cons a t, h => .cons (g _ _ List.mem_cons_self a (h _ List.mem_cons_self)) (reps_with (fun v d hd => g v d (List.mem_cons_of_mem _ hd)) t fun d hd => h d (List.mem_cons_of_mem _ hd))
/-- a list of the store that cannot be read out: what reaches it is not plain -/
theorem frz_no {n m : Nat} {s : Sto} (hm : n ≤ m) (hs : s[m]? = some [.ref m]) : ∀ k, (D.frz n s k (.ref m)).pur = false
  | 0 => rfl
  | k + 1 => by
    rw [frz_ref, if_neg (by omega), hs]
    show (D.purs [D.frz n s k (.ref m)]) = false
    show ((D.frz n s k (.ref m)).pur && true) = false
    rw [frz_no hm hs k]
    rfl
theorem rep_pur (hx : ∀ a, a ∉ r' → a ∉ r) : ∀ (d : D) {v : V}, Rep K r' H v d → d.pur = true → Rep K r H v d
  | .non, _, .non, _ => .non
  | .bl _, _, .bl b, _ => .bl b
  | .int _, _, .int i, _ => .int i
  | .str _, _, .str x, _ => .str x
  | .tup ds, _, .tup h q, hp => .tup h (reps_pur hx ds q hp)
  | .fl ds, _, .fl h n q, hp => .fl h (hx _ n) (reps_pur hx ds q hp)
  | .ref n, _, _, hp => by cases hp
where
  reps_pur (hx : ∀ a, a ∉ r' → a ∉ r) : ∀ (ds : List D) {vs : List V}, Reps K r' H vs ds → D.purs ds = true → Reps K r H vs ds
  | [], _, .nil, _ => .nil
  | d :: ds, _, .cons p q, h => by
    have h : (d.pur && D.purs ds) = true := h
    rw [Bool.and_eq_true] at h
    exact .cons (rep_pur hx d p h.1) (reps_pur hx ds q h.2)
/-- read out: b is the reference left out (its list stands in r) -/
theorem rep_frz {s s2 : Sto} (hx : ∀ a, a ∉ r' → a ∉ r) (R : RelH K r' s H) (hs : ∀ (m : Nat) (a : Addr), r'.l[m]? = some a → a ∈ r → s2[m]? = some [D.ref m]) (he : ∀ m : Nat, s2[m]? = s[m]? ∨ s2[m]? = some [D.ref m]) :
    ∀ (k : Nat) {v : V} {d : D}, Rep K r' H v d → (D.frz 0 s2 k d).pur = true → Rep K r H v (D.frz 0 s2 k d)
  | 0, v, d, p, h => by
    rw [frz_0] at h ⊢
    exact rep_pur hx d p h
  | k + 1, v, d, p, h => by
    cases p with
    | non => exact .non
    | bl b => exact .bl b
    | int i => exact .int i
    | str x => exact .str x
    | tup ha q =>
      rw [frz_tup] at h ⊢
      exact .tup ha (reps_with (p := fun d => d.pur = true) (fun v d _ p hp => rep_frz hx R hs he k p hp) q (purs_map h))
    | fl ha n q =>
      rw [frz_fl] at h ⊢
      exact .fl ha (hx _ n) (reps_with (p := fun d => d.pur = true) (fun v d _ p hp => rep_frz hx R hs he k p hp) q (purs_map h))
    | dct ha hak => simp [D.frz, D.pur] at h
    | obj ha hak hao => simp [D.frz, D.pur] at h
    | @ref a m ha hak =>
      rcases he m with e | e
      · rw [frz_ref, if_neg (by omega)] at h ⊢
        cases e1 : s2[m]? with
        | none => rw [e1] at h; cases h
        | some xs =>
          rw [e1] at h
          rw [e] at e1
          obtain ⟨b, vs, f1, f2, f3⟩ := R.has m xs e1 ha hak
          rw [ha] at f1; cases f1
          by_cases hb : a ∈ r
          · have e2 := hs m a ha hb
            have z := frz_no (n := 0) (Nat.zero_le m) e2 (k + 1)
            rw [frz_ref, if_neg (by omega), e2] at z
            rw [e, e1] at e2
            cases e2
            rw [z] at h; cases h
          · exact .fl (.inl f2) hb (reps_with (p := fun d => d.pur = true) (fun v d _ p hp => rep_frz hx R hs he k p hp) f3 (purs_map h))
      · rw [frz_no (Nat.zero_le m) e] at h; cases h
/-- .. those from n on, the others stay -/
theorem rep_frzN {s : Sto} (n : Nat) (hx : ∀ a, a ∉ r' → a ∉ r) (R : RelH K r' s H) (hl : ∀ m : Nat, m < n → ∀ a : Addr, r'.l[m]? = some a → r.l[m]? = some a) (hn : ∀ m : Nat, n ≤ m → ∀ a : Addr, r'.l[m]? = some a → a ∉ r) :
    ∀ (k : Nat) {v : V} {d : D}, Rep K r' H v d → (D.frz n s k d).low n = true → Rep K r H v (D.frz n s k d)
  | 0, v, d, p, h => by
    rw [frz_0] at h ⊢
    exact low d p h
  | k + 1, v, d, p, h => by
    cases p with
    | non => exact .non
    | bl b => exact .bl b
    | int i => exact .int i
    | str x => exact .str x
    | tup ha q =>
      rw [frz_tup] at h ⊢
      exact .tup ha (reps_with (p := fun d => d.low n = true) (fun v d _ p hp => rep_frzN n hx R hl hn k p hp) q (lows_map h))
    | fl ha hq q =>
      rw [frz_fl] at h ⊢
      exact .fl ha (hx _ hq) (reps_with (p := fun d => d.low n = true) (fun v d _ p hp => rep_frzN n hx R hl hn k p hp) q (lows_map h))
    | @dct a m ha hak => exact .dct (hl m (of_decide_eq_true (show decide (m < n) = true from h)) _ ha) hak
    | @obj a m c ha hak hao => exact .obj (hl m (of_decide_eq_true (show decide (m < n) = true from h)) _ ha) hak hao
    | @ref a m ha hak =>
      rw [frz_ref] at h ⊢
      by_cases hm : m < n
      · rw [if_pos hm]
        exact .ref (hl m hm a ha) hak
      · rw [if_neg hm] at h ⊢
        cases e1 : s[m]? with
        | none =>
          rw [e1] at h
          have := of_decide_eq_true (show decide (m < n) = true from h)
          exact absurd this hm
        | some xs =>
          rw [e1] at h
          obtain ⟨b, vs, f1, f2, f3⟩ := R.has m xs e1 ha hak
          rw [ha] at f1; cases f1
          exact .fl (.inl f2) (hn m (by omega) a ha) (reps_with (p := fun d => d.low n = true) (fun v d _ p hp => rep_frzN n hx R hl hn k p hp) f3 (lows_map h))
where
  low : ∀ (d : D) {v : V}, Rep K r' H v d → d.low n = true → Rep K r H v d
  | .non, _, .non, _ => .non
  | .bl _, _, .bl b, _ => .bl b
  | .int _, _, .int i, _ => .int i
  | .str _, _, .str x, _ => .str x
  | .tup ds, _, .tup h q, hp => .tup h (lows ds q hp)
  | .fl ds, _, .fl h n q, hp => .fl h (hx _ n) (lows ds q hp)
  | .ref m, _, .ref h k, hp => .ref (hl m (of_decide_eq_true (show decide (m < n) = true from hp)) _ h) k
  | .dct m, _, .dct h k, hp => .dct (hl m (of_decide_eq_true (show decide (m < n) = true from hp)) _ h) k
  | .obj c m, _, .obj h k o, hp => .obj (hl m (of_decide_eq_true (show decide (m < n) = true from hp)) _ h) k o
  lows : ∀ (ds : List D) {vs : List V}, Reps K r' H vs ds → D.lows n ds = true → Reps K r H vs ds
  | [], _, .nil, _ => .nil
  | d :: ds, _, .cons p q, h => by
    have h : (d.low n && D.lows n ds) = true := h
    rw [Bool.and_eq_true] at h
    exact .cons (low d p h.1) (lows ds q h.2)
theorem kv_low {n : Nat} (hx : ∀ a, a ∉ r' → a ∉ r) (hl : ∀ m : Nat, m < n → ∀ a : Addr, r'.l[m]? = some a → r.l[m]? = some a) : ∀ {kvs : List (Key × V)} {xs : List D}, RepKV K r' H kvs xs → D.lows n xs = true → RepKV K r H kvs xs
  | _, _, .nil, _ => .nil
  | _, _, .cons (i := i) (d := d) (ds := ds) p q, h => by
    have h : ((true && (d.low n && true)) && D.lows n ds) = true := h
    simp only [Bool.and_eq_true] at h
    exact .cons (rep_frzN.low n hx hl d p h.1.2.1) (kv_low hx hl q h.2)
theorem fs_low {n : Nat} (hx : ∀ a, a ∉ r' → a ∉ r) (hl : ∀ m : Nat, m < n → ∀ a : Addr, r'.l[m]? = some a → r.l[m]? = some a) : ∀ {kvs : List (Str × V)} {xs : List D}, RepF K r' H kvs xs → D.lows n xs = true → RepF K r H kvs xs
  | _, _, .nil, _ => .nil
  | _, _, .cons (d := d) (ds := ds) p q, h => by
    have h : ((true && (d.low n && true)) && D.lows n ds) = true := h
    simp only [Bool.and_eq_true] at h
    exact .cons (rep_frzN.low n hx hl d p h.1.2.1) (fs_low hx hl q h.2)
theorem cel_low {n : Nat} (hx : ∀ a, a ∉ r' → a ∉ r) (hl : ∀ m : Nat, m < n → ∀ a : Addr, r'.l[m]? = some a → r.l[m]? = some a) {a : Addr} {xs : List D} (h : Cel K r' H a xs) (hp : D.lows n xs = true) : Cel K r H a xs := by
  rcases h with ⟨vs, h1, h2⟩ | ⟨vs, h1, h2⟩ | ⟨C, dx, vs, h1, h2⟩
  · exact .inl ⟨vs, h1, rep_frzN.lows n hx hl xs h2 hp⟩
  · exact .inr (.inl ⟨vs, h1, kv_low hx hl h2 hp⟩)
  · exact .inr (.inr ⟨C, dx, vs, h1, fs_low hx hl h2 hp⟩)
end

/-! ### a call's end -/
section
variable {k : Kx} {r r' r0 : Rg} {H H' : Hp} {st s : Sto} {E : XK}
/-- nothing that was there has changed -/
theorem RelH.same {K : PySem.W.Frag} (R : RelH K r st H) (h : ∀ a o, H a = some o → H' a = some o) : RelH K r st H' :=
  R.keep ⟨fun _ _ q => q, fun _ _ _ n => n, fun a o q _ => h a o q, fun a o _ q => ⟨o, h a o q, .refl o⟩⟩ rfl (fun a o _ q => h a o q) fun a ha => ⟨(R.hid a ha).1, (R.hid a ha).2.same (h a)⟩
/-- the caller's lists, hidden -/
def Rg.own (r : Rg) : Rg := ⟨[], r.l ++ r.p⟩
theorem Rg.own_in {r : Rg} {a : Addr} : a ∈ r.own ↔ a ∈ r := by
  constructor
  · intro h
    rcases h with h | h
    · cases h
    · exact List.mem_append.mp h
  · intro h
    exact .inr (List.mem_append.mpr h)
theorem RelH.own {K : PySem.W.Frag} (R : RelH K r st H) : RelH K r.own [] H :=
  ⟨List.nodup_nil, rfl, fun a ha => ⟨(fun h => nomatch h), R.mem (Rg.own_in.mp (.inr ha))⟩, fun n xs h => by simp at h⟩
theorem reps_own {K : PySem.W.Frag} {vs : List V} {ds : List D} (p : Reps K r H vs ds) (h : D.purs ds = true) : Reps K r.own H vs ds :=
  rep_pur.reps_pur (r := r.own) (r' := r) (fun a n z => n (Rg.own_in.mp z)) ds p h
/-- behind it -/
structure OwnE (r : Rg) (H : Hp) (r' : Rg) (H' : Hp) : Prop where
  keep : ∀ a o, H a = some o → H' a = some o
  out : ∀ a, a ∉ r' → a ∉ r
  new : ∀ (m : Nat) (a : Addr), r'.l[m]? = some a → H a = none
theorem own_of (e : Ext r.own H r' H') : OwnE r H r' H' := by
  obtain ⟨⟨m, e1, n1⟩, e2, e3⟩ := e
  subst e1
  refine ⟨fun a o h => e2 a o h (fun z => nomatch z), fun a n z => n ?_, fun i a h => n1 a ?_⟩
  · exact .inr (List.mem_append.mpr z)
  · exact List.mem_of_getElem? (show m[i]? = some a by simpa [Rg.own] using h)
theorem OwnE.ext (e : OwnE r H r' H') : Ext r H r H' := ⟨⟨[], by simp, fun _ h => nomatch h⟩, fun a o h _ => e.keep a o h, fun a o h => ⟨o, e.keep a o h, .refl o⟩⟩
theorem OwnE.fresh {K : PySem.W.Frag} (e : OwnE r H r' H') (R : RelH K r st H) {m : Nat} {a : Addr} (h : r'.l[m]? = some a) : a ∉ r := R.fresh (e.new m a h)
theorem set_or {s : Sto} {n m : Nat} : (s.set n [D.ref n])[m]? = s[m]? ∨ (s.set n [D.ref n])[m]? = some [D.ref m] := by
  by_cases h : n = m
  · subst h
    by_cases hl : n < s.length
    · exact .inr (List.getElem?_set_self hl)
    · exact .inl (by rw [List.getElem?_eq_none (by simpa using hl), List.getElem?_eq_none (by simpa using hl)])
  · exact .inl (List.getElem?_set_ne h)
/-- a list within a list comes back -/
theorem out_nest {n m : Nat} {a : Addr} {vs : List V} {zs : List D} {Q : VK} {W : WX} {σ : L2.St} (R : RelH k.K r st H) (e : OwnE r H r' H') (R' : RelH k.K r' s H') (Rh : RelH k.K r st H') (ha : r'.l[n]? = some a) (f2 : H' a = some (.lst vs)) (f3 : Reps k.K r' H' vs [.bl true, .ref m])
    (e4 : s[m]? = some zs) (hne : n ≠ m) (hp : D.purs (zs.map (D.frz 0 ((s.set n [.ref n]).set m [.ref m]) 40)) = true) (hl : n < s.length)
    (hc : CP (RV k) k W σ r H (.ok (.ref (st.length + 1)) (st ++ [zs.map (D.frz 0 ((s.set n [.ref n]).set m [.ref m]) 40), [.bl true, .ref st.length]])) Q) : Q (.ref a) H' := by
  obtain ⟨c, hcA, hcL, hvs⟩ : ∃ c : Addr, r'.l[m]? = some c ∧ LstH H' c ∧ vs = [.bl true, .ref c] := by
    cases f3 with
    | cons p1 q1 =>
      cases p1
      cases q1 with
      | cons p2 q2 =>
        cases q2
        cases p2 with
        | ref h hk => exact ⟨_, h, hk, rfl⟩
  subst hvs
  obtain ⟨b, ws, g1, g2, g3⟩ := R'.has m zs e4 hcA hcL
  rw [hcA] at g1; cases g1
  have hn := e.new n a ha
  have hm := e.new m c hcA
  have inj : ∀ {i j : Nat} {x : Addr}, r'.l[i]? = some x → r'.l[j]? = some x → i = j := fun h h2 => by
    obtain ⟨a1, b1⟩ := List.getElem?_eq_some_iff.mp h
    obtain ⟨a2, b2⟩ := List.getElem?_eq_some_iff.mp h2
    exact (List.getElem_inj R'.nd).mp (b1.trans b2.symm)
  have hac : c ≠ a := fun z => hne (inj ha (by rw [← z]; exact hcA))
  have hlm : m < s.length := (List.getElem?_eq_some_iff.mp e4).1
  have mem2 : ∀ x, x ∈ ((r.add c).add a) → x ∈ r ∨ x = c ∨ x = a := fun x z => by
    rcases z with z | z
    · have z : x ∈ (r.l ++ [c]) ++ [a] := z
      rcases List.mem_append.mp z with z | z
      · rcases List.mem_append.mp z with z | z
        · exact .inl (.inl z)
        · simp at z; exact .inr (.inl z)
      · simp at z; exact .inr (.inr z)
    · exact .inl (.inr z)
  have out2 : ∀ x, x ∉ r' → x ∉ (r.add c).add a := fun x hx z => by
    rcases mem2 x z with z | z | z
    · exact e.out x hx z
    · rw [z] at hx; exact hx (.inl (List.mem_of_getElem? hcA))
    · rw [z] at hx; exact hx (.inl (List.mem_of_getElem? ha))
  have items : Reps k.K ((r.add c).add a) H' ws (zs.map (D.frz 0 ((s.set n [.ref n]).set m [.ref m]) 40)) := by
    refine reps_with (p := fun d => d.pur = true) (fun v d _ q hq => rep_frz (s2 := (s.set n [D.ref n]).set m [D.ref m]) out2 R' (fun i x h z => ?_) (fun i => ?_) 40 q hq) g3 (purs_map hp)
    · rcases mem2 x z with z | z | z
      · exact absurd z (e.fresh R h)
      · rw [z] at h
        have := inj h hcA
        subst this
        exact List.getElem?_set_self (by rw [List.length_set]; exact hlm)
      · rw [z] at h
        have := inj h ha
        subst this
        rw [List.getElem?_set_ne (fun z => hne z.symm)]
        exact List.getElem?_set_self hl
    · rcases set_or (s := s.set n [D.ref n]) (n := m) (m := i) with q | q
      · rw [q]; exact set_or
      · exact .inr q
  have ex : Ext r H ((r.add c).add a) H' := (e.ext.adopt hm).adopt hn
  have na : a ∉ r := R.fresh hn
  have nc : c ∉ r := R.fresh hm
  have len : r.l.length = st.length := R.len
  have ca : ((r.add c).add a).l[st.length]? = some c := by
    show ((r.l ++ [c]) ++ [a])[st.length]? = some c
    rw [List.getElem?_append_left (by simp [len]), ← len, List.getElem?_concat_length]
  have aa : ((r.add c).add a).l[st.length + 1]? = some a := by
    show ((r.l ++ [c]) ++ [a])[st.length + 1]? = some a
    have : st.length + 1 = (r.l ++ [c]).length := by simp [len]
    rw [this, List.getElem?_concat_length]
  refine hc ((r.add c).add a) H' _ ex ⟨?_, ?_, fun b hb => ?_, fun i ys em => ?_⟩ (.ref aa ⟨_, f2⟩)
  · show ((r.l ++ [c]) ++ [a]).Nodup
    rw [List.nodup_append]
    refine ⟨?_, by simp, fun b hb d hd z => ?_⟩
    · rw [List.nodup_append]
      refine ⟨R.nd, by simp, fun b hb d hd z => ?_⟩
      simp at hd
      subst hd z
      exact nc (.inl hb)
    · simp at hd
      subst hd z
      rcases List.mem_append.mp hb with hb | hb
      · exact na (.inl hb)
      · simp at hb
        exact hac hb.symm
  · show ((r.l ++ [c]) ++ [a]).length = _
    simp [len]
  · obtain ⟨h1, h2⟩ := Rh.hid b hb
    refine ⟨fun z => ?_, h2⟩
    have z : b ∈ (r.l ++ [c]) ++ [a] := z
    rcases List.mem_append.mp z with z | z
    · rcases List.mem_append.mp z with z | z
      · exact h1 z
      · simp at z
        exact nc (by rw [← z]; exact .inr hb)
    · simp at z
      exact na (by rw [← z]; exact .inr hb)
  · by_cases hi : i < st.length
    · rw [List.getElem?_append_left hi] at em
      obtain ⟨x, k1, k2⟩ := R.any i ys em
      exact ⟨x, ex.get k1, k2.ext ex R (e.keep x)⟩
    · have hle := (List.getElem?_eq_some_iff.mp em).1
      rw [List.length_append] at hle
      simp at hle
      rw [List.getElem?_append_right (by omega)] at em
      have hi2 : i = st.length ∨ i = st.length + 1 := by omega
      rcases hi2 with hi2 | hi2
      · subst hi2
        rw [Nat.sub_self] at em
        cases em
        exact ⟨c, ca, .inl ⟨ws, g2, items⟩⟩
      · subst hi2
        rw [show st.length + 1 - st.length = 1 by omega] at em
        cases em
        exact ⟨a, aa, .inl ⟨_, f2, .cons (.bl true) (.cons (.ref ca hcL) .nil)⟩⟩
theorem out_pure {fz : Bool} {d : D} {v : V} {Q : VK} {W : WX} {σ : L2.St} (R : RelH k.K r st H) (hc : CP (RV k) k W σ r H (outP fz st d s) Q) (e : OwnE r H r' H') (R' : RelH k.K r' s H') (p : Rep k.K r' H' v d) : Q v H' := by
  have Rh := R.same (H' := H') e.keep
  unfold outP at hc
  split at hc
  · rename_i hp
    exact hc r H' v e.ext Rh (rep_pur e.out d p hp)
  · split at hc
    · dsimp only at hc
      split at hc
      · rename_i hp
        exact hc r H' v e.ext Rh (rep_frz (s2 := s) e.out R' (fun m a h z => absurd z (e.fresh R h)) (fun m => .inl rfl) 40 p hp)
      · exact hc.elim
    · cases p with
      | @ref a n ha hak =>
        have hc : CP (RV k) k W σ r H (match s[n]? with
          | some xs => (match nestD xs with
            | some m => (match s[m]? with
              | some zs => if n ≠ m ∧ D.purs (zs.map (D.frz 0 ((s.set n [.ref n]).set m [.ref m]) 40)) = true then .ok (.ref (st.length + 1)) (st ++ [zs.map (D.frz 0 ((s.set n [.ref n]).set m [.ref m]) 40), [.bl true, .ref st.length]]) else .bad
              | none => .bad)
            | none => if D.purs (xs.map (D.frz 0 (s.set n [.ref n]) 40)) then .ok (.ref st.length) (st ++ [xs.map (D.frz 0 (s.set n [.ref n]) 40)]) else .bad)
          | none => .bad) Q := hc
        cases e1 : s[n]? with
        | none => rw [e1] at hc; exact hc.elim
        | some xs =>
          rw [e1] at hc
          cases e3 : nestD xs with
          | some m =>
            have hc : CP (RV k) k W σ r H (match nestD xs with
              | some m => (match s[m]? with
                | some zs => if n ≠ m ∧ D.purs (zs.map (D.frz 0 ((s.set n [.ref n]).set m [.ref m]) 40)) = true then .ok (.ref (st.length + 1)) (st ++ [zs.map (D.frz 0 ((s.set n [.ref n]).set m [.ref m]) 40), [.bl true, .ref st.length]]) else .bad
                | none => .bad)
              | none => if D.purs (xs.map (D.frz 0 (s.set n [.ref n]) 40)) then .ok (.ref st.length) (st ++ [xs.map (D.frz 0 (s.set n [.ref n]) 40)]) else .bad) Q := hc
            rw [e3] at hc
            have hc : CP (RV k) k W σ r H (match s[m]? with
                | some zs => if n ≠ m ∧ D.purs (zs.map (D.frz 0 ((s.set n [.ref n]).set m [.ref m]) 40)) = true then .ok (.ref (st.length + 1)) (st ++ [zs.map (D.frz 0 ((s.set n [.ref n]).set m [.ref m]) 40), [.bl true, .ref st.length]]) else .bad
                | none => .bad) Q := hc
            cases e4 : s[m]? with
            | none => rw [e4] at hc; exact hc.elim
            | some zs =>
              rw [e4] at hc
              have hc : CP (RV k) k W σ r H (if n ≠ m ∧ D.purs (zs.map (D.frz 0 ((s.set n [.ref n]).set m [.ref m]) 40)) = true then .ok (.ref (st.length + 1)) (st ++ [zs.map (D.frz 0 ((s.set n [.ref n]).set m [.ref m]) 40), [.bl true, .ref st.length]]) else .bad) Q := hc
              split at hc
              · rename_i hp
                obtain ⟨hne, hp⟩ := hp
                obtain ⟨b, vs, f1, f2, f3⟩ := R'.has n xs e1 ha hak
                rw [ha] at f1; cases f1
                rw [nestD_some e3] at f3
                exact out_nest R e R' Rh ha f2 f3 e4 hne hp (List.getElem?_eq_some_iff.mp e1).1 hc
              · exact hc.elim
          | none =>
            have hc : CP (RV k) k W σ r H (match nestD xs with
              | some m => (match s[m]? with
                | some zs => if n ≠ m ∧ D.purs (zs.map (D.frz 0 ((s.set n [.ref n]).set m [.ref m]) 40)) = true then .ok (.ref (st.length + 1)) (st ++ [zs.map (D.frz 0 ((s.set n [.ref n]).set m [.ref m]) 40), [.bl true, .ref st.length]]) else .bad
                | none => .bad)
              | none => if D.purs (xs.map (D.frz 0 (s.set n [.ref n]) 40)) then .ok (.ref st.length) (st ++ [xs.map (D.frz 0 (s.set n [.ref n]) 40)]) else .bad) Q := hc
            rw [e3] at hc
            have hc : CP (RV k) k W σ r H (if D.purs (xs.map (D.frz 0 (s.set n [.ref n]) 40)) then .ok (.ref st.length) (st ++ [xs.map (D.frz 0 (s.set n [.ref n]) 40)]) else .bad) Q := hc
            split at hc
            · rename_i hp
              obtain ⟨b, vs, f1, f2, f3⟩ := R'.has n xs e1 ha hak
              rw [ha] at f1; cases f1
              have hn := e.new n a ha
              have hl : n < s.length := (List.getElem?_eq_some_iff.mp e1).1
              -- its items, in the caller's surrounding and that list
              have out2 : ∀ c, c ∉ r' → c ∉ r.add a := fun c hc z => by
                rcases z with z | z
                · have z : c ∈ r.l ++ [a] := z
                  rcases List.mem_append.mp z with z | z
                  · exact e.out c hc (.inl z)
                  · simp at z
                    rw [z] at hc
                    exact hc (.inl (List.mem_of_getElem? ha))
                · exact e.out c hc (.inr z)
              have items : Reps k.K (r.add a) H' vs (xs.map (D.frz 0 (s.set n [.ref n]) 40)) := by
                refine reps_with (p := fun d => d.pur = true) (fun v d _ q hq => rep_frz (s2 := s.set n [D.ref n]) out2 R' (fun m c h z => ?_) (fun m => set_or) 40 q hq) f3 (purs_map hp)
                rcases z with z | z
                · have z : c ∈ r.l ++ [a] := z
                  rcases List.mem_append.mp z with z | z
                  · exact absurd (.inl z) (e.fresh R h)
                  · simp at z
                    subst z
                    have : m = n := by
                      obtain ⟨a1, b1⟩ := List.getElem?_eq_some_iff.mp h
                      obtain ⟨a2, b2⟩ := List.getElem?_eq_some_iff.mp ha
                      exact (List.getElem_inj R'.nd).mp (b1.trans b2.symm)
                    subst this
                    exact List.getElem?_set_self hl
                · exact absurd (.inr z) (e.fresh R h)
              have ex : Ext r H (r.add a) H' := e.ext.adopt hn
              have na : a ∉ r := R.fresh hn
              have RR : RelH k.K (r.add a) (st ++ [xs.map (D.frz 0 (s.set n [.ref n]) 40)]) H' := by
                refine ⟨?_, by simp [Rh.len, Rg.add], fun b hb => ?_, fun m ys em => ?_⟩
                · show (r.l ++ [a]).Nodup
                  rw [List.nodup_append]
                  refine ⟨R.nd, by simp, fun b hb c hc z => ?_⟩
                  simp at hc
                  subst hc z
                  exact na (.inl hb)
                · obtain ⟨h1, h2⟩ := Rh.hid b hb
                  refine ⟨fun m => ?_, h2⟩
                  have m : b ∈ r.l ++ [a] := m
                  rcases List.mem_append.mp m with m | m
                  · exact h1 m
                  · simp at m
                    exact na (by rw [← m]; exact .inr hb)
                · by_cases hm : m < st.length
                  · rw [List.getElem?_append_left hm] at em
                    obtain ⟨c, g1, g2⟩ := R.any m ys em
                    exact ⟨c, ex.get g1, g2.ext ex R (e.keep c)⟩
                  · have hle : m < (st ++ [xs.map (D.frz 0 (s.set n [.ref n]) 40)]).length := (List.getElem?_eq_some_iff.mp em).1
                    have hm' : m = st.length := by rw [List.length_append] at hle; simp at hle; omega
                    subst hm'
                    rw [List.getElem?_concat_length] at em
                    cases em
                    exact ⟨a, Rg.last R, .inl ⟨vs, f2, items⟩⟩
              exact hc (r.add a) H' _ ex RR (.ref (Rg.last R) ⟨_, f2⟩)
            · exact hc.elim
      | _ => exact hc.elim
theorem out_run {fz : Bool} {d : D} {v : V} {Q : VK} {W : WX} {σ : L2.St} (R : RelH k.K r st H) (hc : CP (RV k) k W σ r H (outR fz st d s) Q) (e : Ext r H r' H') (R' : RelH k.K r' s H') (p : Rep k.K r' H' v d) : Q v H' := by
  unfold outR at hc
  split at hc
  · dsimp only at hc
    split at hc
    · rename_i hp
      simp only [Bool.and_eq_true, decide_eq_true_eq, List.all_eq_true] at hp
      obtain ⟨⟨h1, h2⟩, h3⟩ := hp
      have pre : ∀ m : Nat, m < st.length → ∀ a : Addr, r'.l[m]? = some a → r.l[m]? = some a := fun m hm a ha => by
        obtain ⟨⟨q, e1, n1⟩, _, _⟩ := e
        subst e1
        have ha : (r.l ++ q)[m]? = some a := ha
        rw [List.getElem?_append_left (by rw [R.len]; exact hm)] at ha
        exact ha
      have new : ∀ m : Nat, st.length ≤ m → ∀ a : Addr, r'.l[m]? = some a → a ∉ r := fun m hm a ha => by
        obtain ⟨⟨q, e1, n1⟩, _, _⟩ := e
        subst e1
        have ha : (r.l ++ q)[m]? = some a := ha
        rw [List.getElem?_append_right (by rw [R.len]; exact hm)] at ha
        exact R.fresh (n1 a (List.mem_of_getElem? ha))
      have out : ∀ a, a ∉ r' → a ∉ r := fun a n z => by
        obtain ⟨⟨q, e1, n1⟩, _, _⟩ := e
        subst e1
        rcases z with z | z
        · exact n (.inl (List.mem_append_left _ z))
        · exact n (.inr z)
      have ex : Ext r H r H' := ⟨⟨[], by simp, fun _ h => nomatch h⟩, e.same, e.there⟩
      have RR : RelH k.K r (s.take st.length) H' := by
        refine ⟨R.nd, ?_, fun a ha => ?_, fun m xs em => ?_⟩
        · rw [List.length_take, R.len]; omega
        · obtain ⟨g1, g2⟩ := R.hid a ha
          exact ⟨g1, g2.same fun o q => e.same a _ q g1⟩
        · have hm : m < st.length := by
            have := (List.getElem?_eq_some_iff.mp em).1
            rw [List.length_take] at this
            omega
          rw [List.getElem?_take_of_lt hm] at em
          obtain ⟨a, g1, g2⟩ := R'.any m xs em
          refine ⟨a, pre m hm a g1, cel_low out pre g2 (h3 xs ?_)⟩
          exact List.mem_of_getElem? (show (s.take st.length)[m]? = some xs by rw [List.getElem?_take_of_lt hm, em])
      exact hc r H' v ex RR (rep_frzN (s := s) st.length out R' pre new 40 p h2)
    · exact hc.elim
  · exact hc r' H' v e R' p
end

/-! ### the module, level by level -/
/-- a def of the text -/
structure FnT (T : Tx) (k : Kx) (mg : Str → Option Value) (f : Nat) (df : Def) : Prop where
  ex : ∃ (a : Addr) (fd : FuncData) (params : Arguments) (body : List Stmt) (scope : Scope) (kws : List (Str × V)), mg df.name = some (.ref a) ∧ FunD k.K df.name df.name params body scope [] kws a fd ∧ Binds k.K fd (df.names.take df.np) [] ∧ (∀ (s : Shared) (us : List Value), us.length = (df.names.take df.np).length → BindsTo s fd ⟨us, []⟩ ((df.names.take df.np).zip us)) ∧
    (∀ ks, (f, ks) ∈ T.kwp → ∀ (s : Shared) (ws : List Value), k.K.In s.heap → ws.length = df.np → BindsTo s fd ⟨[], (ks.map fun i => df.names.getD i "").zip ws⟩ ((df.names.take df.np).zip (permL df.np ks ws))) ∧
    FnScope df.names (df.names.take df.np) scope ∧ ssC T ⟨df.names, scope, df.names⟩ df.body body = true
/-- a method of the text -/
structure MtT (T : Tx) (k : Kx) (mg : Str → Option Value) (q : Str × Str × Nat) : Prop where
  ex : ∃ (df : Def) (a : Addr) (fd : FuncData) (nm qual : Str) (params : Arguments) (body : List Stmt) (scope : Scope) (kws : List (Str × V)), T.p.defs[q.2.2]? = some df ∧ ObK k.K (He.ga k.K q.1) ∧ Meth k.K (He.ga k.K q.1) q.2.1 a ∧ (q.2.1 = "__init__" → mg q.1 = some (.ref (He.ga k.K q.1)) ∧ Mk k.K (He.ga k.K q.1) a) ∧
    FunD k.K nm qual params body scope [] kws a fd ∧ Binds k.K fd (df.names.take df.np) [] ∧ FnScope df.names (df.names.take df.np) scope ∧ ssC T ⟨df.names, scope, df.names⟩ df.body body = true
structure ModT (T : Tx) (k : Kx) (w : World) (mg : Str → Option Value) : Prop where
  cls : ClOk k T.cls mg
  blt : ∀ x ∈ bltN, mg x = none
  glob : ∀ x d, T.p.globs.lookup x = some d → ∃ u v, mg x = some u ∧ RelV v u ∧ ∀ r H, Rep k.K r H v d
  fn : ∀ f df, T.p.defs[f]? = some df → (T.mths.all fun q => decide (q.2.2 ≠ f)) = true → FnT T k mg f df
  mth : ∀ q ∈ T.mths, MtT T k mg q
  atr : ∀ q ∈ T.ats, Cls k.K (He.ga k.K q.1) ∧ NoAttr k.K (He.ga k.K q.1) q.2
  gcd : T.ug = true → mg "gcd" = some (.builtin "math.gcd")
  dic : ∀ q ∈ T.dics, ∃ a, mg q.1 = some (.ref a) ∧ ∀ z v, q.2.lookup z = some v → KDct k.K w a z (.str v)
theorem callN_eq {p : Prg} {n : Nat} {fz : Bool} {f : Nat} {ds : List D} {st : Sto} {df : Def} (h : p.defs[f]? = some df) : callN p (n + 1) fz f ds st = if ds.length = df.np ∧ df.np ≤ df.names.length then
        (if D.purs ds then runD fz (exSs ⟨callN p n, fun x => p.globs.lookup x⟩ df.body (envOf df ds) []) true st else runD fz (exSs ⟨callN p n, fun x => p.globs.lookup x⟩ df.body (envOf df ds) st) false st)
      else .bad := by
  rw [callN_succ]
  rw [h]
theorem start_relE {K : PySem.W.Frag} {r : Rg} {H : Hp} {df : Def} {vs : List V} {ds : List D} (p : Reps K r H vs ds) : RelE K r H (envOf df ds) (L2.start df.names vs) := by
  have l := p.len
  refine ⟨by simp [envOf, L2.start, l], fun i d h => ?_⟩
  unfold envOf at h
  by_cases hi : i < ds.length
  · rw [List.getElem?_append_left (by simpa using hi), List.getElem?_map] at h
    cases e : ds[i]? with
    | none => rw [e] at h; cases h
    | some d' =>
      rw [e] at h
      cases h
      obtain ⟨v, e1, pv⟩ := p.get e
      exact ⟨v, by unfold L2.start; rw [List.getElem?_append_left (by simp; omega), List.getElem?_map, e1]; rfl, pv⟩
  · rw [List.getElem?_append_right (by simpa using hi), List.getElem?_replicate] at h
    split at h <;> cases h
theorem exc_own {k : Kx} {r r' : Rg} {H' : Hp} {x : Xn} {c : Value} {dx : Option Addr} (out : ∀ a, a ∉ r' → a ∉ r) (hp : ∀ d, x.v = some d → d.pur = true) (h : RepX k r' H' x c dx) : RepX k r H' x c dx := by
  obtain ⟨h0, h1, h2⟩ := h
  refine ⟨h0, h1, ?_⟩
  cases e : x.v with
  | none => rw [e] at h2; exact h2
  | some d =>
    rw [e] at h2
    obtain ⟨a, v, g1, g2, g3⟩ := h2
    exact ⟨a, v, g1, g2, rep_pur out d g3 (hp d e)⟩
/-- a def at the next level -/
theorem fn_lv {T : Tx} {k : Kx} {P : Program} {w : World} {mg : Str → Option Value} {base : Heap} {lv : Nat} (ih : Mg ⟨T, k, lv⟩ P w mg base) {f : Nat} {df : Def} (hd : T.p.defs[f]? = some df) {a : Addr} {fd : FuncData} {nm qual : Str} {params : Arguments} {body : List Stmt} {scope : Scope} {kws : List (Str × V)}
    (h2 : FunD k.K nm qual params body scope [] kws a fd) (h5 : FnScope df.names (df.names.take df.np) scope) (h6 : ssC T ⟨df.names, scope, df.names⟩ df.body body = true) : FnOk P w k.K mg base (L2.CX P w) (2 * (lv + 1)) a fd (df.names.take df.np) (spD k T.p (lv + 1) f) := by
  refine FunD.ok (k := 2 * lv + 1) h2 h5 (fun vs H Q E sp => ?_) fun cdv A outer s H vs Q E room sp => ?_
  · obtain ⟨fz, r, st, ds, σ, _, p, hc⟩ := sp
    have hd' : T.p.defs[f]? = some df := hd
    rw [callN_eq hd'] at hc
    split at hc
    · rename_i q
      rw [p.len, List.length_take]
      omega
    · exact hc.elim
  · obtain ⟨fz, r, st, ds, σ, hR, p, hc⟩ := sp
    have hd' : T.p.defs[f]? = some df := hd
    rw [callN_eq hd'] at hc
    have G : GX ⟨T, k, lv⟩ ⟨df.names, scope, df.names⟩ (cxOf (L2.CX P w) P w k.K mg base df.names qual scope a cdv A outer s H E) (fun cls d _ H' => E cls d H') :=
      ⟨⟨rfl, h5.nd, rfl, fun _ _ => rfl, rfl, h5.kind⟩, rfl, room, takes_of rfl rfl rfl rfl, passes_of rfl, ih⟩
    refine ⟨_, sndSs ⟨T, k, lv⟩ df.body G ⟨rfl, rfl⟩ body h6, ?_⟩
    split at hc
    · rename_i q
      split at hc
      · -- a store of its own
        rename_i hp
        refine ⟨r.own, envOf df ds, [], hR.own, start_relE (reps_own p hp), ?_⟩
        show CS k _ r.own H (exSs (⟨T, k, lv⟩ : Sx).cx df.body (envOf df ds) []) _
        have hc : CP (RV k) k (fun c dx _ H' => E c dx H') σ r H (runD fz (exSs (⟨T, k, lv⟩ : Sx).cx df.body (envOf df ds) []) true st) Q := hc
        revert hc
        cases exSs (⟨T, k, lv⟩ : Sx).cx df.body (envOf df ds) [] with
        | nxt env s1 =>
          intro hc r' H' σ' x R' _
          have e := own_of x
          exact hc r H' .non e.ext (hR.same e.keep) .non
        | ret d s1 =>
          intro hc r' H' v x R' pv
          exact out_pure hR hc (own_of x) R' pv
        | exc z env s1 =>
          intro hc r' H' σ' c dx x R' _ px
          have e := own_of x
          have hc : CP (RV k) k (fun c dx _ H' => E c dx H') σ r H (match z.v with
            | none => .exc z st
            | some d => if d.pur then .exc z st else .bad) Q := hc
          cases ez : z.v with
          | none =>
            rw [ez] at hc
            exact hc r H' c dx e.ext (hR.same e.keep) (exc_own e.out (fun d hd => by rw [ez] at hd; cases hd) px)
          | some d =>
            rw [ez] at hc
            have hc : CP (RV k) k (fun c dx _ H' => E c dx H') σ r H (if d.pur then .exc z st else .bad) Q := hc
            split at hc
            · rename_i hd
              exact hc r H' c dx e.ext (hR.same e.keep) (exc_own e.out (fun d' hd' => by rw [ez] at hd'; cases hd'; exact hd) px)
            · exact hc.elim
        | brk => intro hc; exact hc.elim
        | cnt => intro hc; exact hc.elim
        | bad => intro hc; exact hc.elim
      · refine ⟨r, envOf df ds, st, hR, start_relE p, ?_⟩
        show CS k _ r H (exSs (⟨T, k, lv⟩ : Sx).cx df.body (envOf df ds) st) _
        have hc : CP (RV k) k (fun c dx _ H' => E c dx H') σ r H (runD fz (exSs (⟨T, k, lv⟩ : Sx).cx df.body (envOf df ds) st) false st) Q := hc
        revert hc
        cases exSs (⟨T, k, lv⟩ : Sx).cx df.body (envOf df ds) st with
        | nxt env s1 =>
          intro hc r' H' σ' x R' _
          exact out_run hR hc x R' .non
        | ret d s1 =>
          intro hc r' H' v x R' pv
          exact out_run hR hc x R' pv
        | exc z env s1 =>
          intro hc r' H' σ' c dx x R' _ px
          exact hc r' H' c dx x R' px
        | brk => intro hc; exact hc.elim
        | cnt => intro hc; exact hc.elim
        | bad => intro hc; exact hc.elim
    · exact hc.elim
theorem mg_all {T : Tx} {k : Kx} {P : Program} {w : World} {mg : Str → Option Value} {base : Heap} (M : ModT T k w mg) (hi : IniA k T.cls P) : ∀ lv, Mg ⟨T, k, lv⟩ P w mg base := by
  intro lv
  induction lv with
  | zero =>
    refine ⟨M.blt, M.glob, fun f df hd hm => ?_, fun q hq => ?_, M.atr, M.gcd, M.dic, M.cls, hi⟩
    · obtain ⟨a, fd, params, body, scope, kws, h1, h2, h3, _, h4, h5, h6⟩ := (M.fn f df hd hm).ex
      refine ⟨a, fd, h1, h2.kp, h3, h4, ⟨fun vs H Q E sp => ?_, fun A outer s H args us vs Q E _ _ _ _ sp => ?_⟩⟩
      · obtain ⟨fz, r, st, ds, σ, _, _, hc⟩ := sp
        exact absurd hc (by simp only [CP, callN_zero]; exact fun z => z)
      · obtain ⟨fz, r, st, ds, σ, _, _, hc⟩ := sp
        exact absurd hc (by simp only [CP, callN_zero]; exact fun z => z)
    · obtain ⟨df, a, fd, nm, qual, params, body, scope, kws, h1, h2, h3, h4, h5, h6, h7, h8⟩ := (M.mth q hq).ex
      refine ⟨df, a, fd, h1, h2, h3, h6, h4, ⟨fun vs H Q E sp => ?_, fun A outer s H args us vs Q E _ _ _ _ sp => ?_⟩⟩
      · obtain ⟨fz, r, st, ds, σ, _, _, hc⟩ := sp
        exact absurd hc (by simp only [CP, callN_zero]; exact fun z => z)
      · obtain ⟨fz, r, st, ds, σ, _, _, hc⟩ := sp
        exact absurd hc (by simp only [CP, callN_zero]; exact fun z => z)
  | succ lv ih =>
    refine ⟨M.blt, M.glob, fun f df hd hm => ?_, fun q hq => ?_, M.atr, M.gcd, M.dic, M.cls, hi⟩
    · obtain ⟨a, fd, params, body, scope, kws, h1, h2, h3, _, h4, h5, h6⟩ := (M.fn f df hd hm).ex
      exact ⟨a, fd, h1, h2.kp, h3, h4, fn_lv ih hd h2 h5 h6⟩
    · obtain ⟨df, a, fd, nm, qual, params, body, scope, kws, h1, h2, h3, h4, h5, h6, h7, h8⟩ := (M.mth q hq).ex
      exact ⟨df, a, fd, h1, h2, h3, h6, h4, fn_lv ih h1 h5 h7 h8⟩
end Mi
end
section
/-! MiT: a law's row over the small language. -/
namespace Mi
open PySem PySem.Spec PyProof.Rows L2
/-! ### what the head has to tell -/
theorem clD_mem {x : Str} : ∀ {l : List Str}, x ∈ l → x ∈ clD l
  | y :: r, h => by
    unfold clD
    split
    · rename_i hy
      rcases List.mem_cons.mp h with e | h
      · rw [e]; exact clD_mem hy
      · exact clD_mem h
    · rcases List.mem_cons.mp h with e | h
      · rw [e]; exact List.mem_cons_self
      · exact List.mem_cons_of_mem _ (clD_mem h)
theorem obB_ok {K : PySem.W.Frag} {C : Addr} (cl : Cls K C) (h : obB K C = true) : ObK K C := by
  unfold obB at h
  rw [Bool.and_eq_true, Bool.and_eq_true, Bool.and_eq_true, Bool.and_eq_true, decide_eq_true_eq, decide_eq_true_eq, decide_eq_true_eq, decide_eq_true_eq, List.all_eq_true] at h
  obtain ⟨h1, h2, h3, h4, h5⟩ := h
  exact ⟨cl, h1, h2, h3, h4, fun t ht => of_decide_eq_true (h5 t ht)⟩
/-! ### an __init__, looked at -/
theorem prm_of {fld : Str} {p : Arguments} (h : prmB fld p = true) : ∃ a0 a1 kwd dfl, p = ⟨[], [a0, a1], none, [], kwd, none, dfl⟩ ∧ a0.arg = "self" ∧ a1.arg = fld := by
  unfold prmB at h
  split at h
  · rw [Bool.and_eq_true, decide_eq_true_eq, decide_eq_true_eq] at h
    exact ⟨_, _, _, _, rfl, h.1, h.2⟩
  · cases h
theorem s0_of {fld : Str} {s : Stmt} (h : s0B fld s = true) : ∃ p0 p1 p2 p3 p4 p5, s = .Expr (.Call (.Attribute (.Call (.Name "super" p0) [] [] p1) "__init__" p2) [.Name fld p3] [] p4) p5 ∧ (p2.endLine == p4.line) = true := by
  unfold s0B at h
  split at h
  · rw [Bool.and_eq_true, Bool.and_eq_true, Bool.and_eq_true, decide_eq_true_eq, decide_eq_true_eq, decide_eq_true_eq] at h
    obtain ⟨rfl, rfl, rfl, h⟩ := h
    exact ⟨_, _, _, _, _, _, rfl, h⟩
  · cases h
theorem s1_of {fld : Str} {s : Stmt} (h : s1B fld s = true) : ∃ p6 p7 p8 p9, s = .Assign [.Attribute (.Name "self" p6) fld p7] (.Name fld p8) p9 := by
  unfold s1B at h
  split at h
  · rw [Bool.and_eq_true, Bool.and_eq_true, decide_eq_true_eq, decide_eq_true_eq, decide_eq_true_eq] at h
    obtain ⟨rfl, rfl, rfl⟩ := h
    exact ⟨_, _, _, _, rfl⟩
  · cases h
theorem bod_of {fld : Str} {b : FuncBody} (h : bodB fld b = true) : ∃ s0 s1, b = .stmts [s0, s1] ∧ s0B fld s0 = true ∧ s1B fld s1 = true := by
  unfold bodB at h
  split at h
  · rw [Bool.and_eq_true] at h
    exact ⟨_, _, rfl, h.1, h.2⟩
  · cases h
theorem scp_of {fld : Str} {s : Scope} (h : scpB fld s = true) : ∃ nms mr, s = scI nms mr ∧ nms.lookup ("super" : Str) = some .globalImplicit ∧ nms.lookup ("__class__" : Str) = some .free ∧ nms.lookup ("self" : Str) = some .local ∧ nms.lookup fld = some .local ∧ ∀ x ∈ nms, x.2 ≠ .cell := by
  unfold scpB at h
  split at h
  · simp only [Bool.and_eq_true, decide_eq_true_eq, List.all_eq_true] at h
    exact ⟨_, _, rfl, h⟩
  · cases h
theorem cod_of {K : PySem.W.Frag} {file : Str} {cda : Addr} (h : codB K file cda = true) : ∃ ccl cdd vs ccs tf, K.lookup cda = some ⟨ccl, cdd, .fields vs, ccs⟩ ∧ vs[2]? = some (.str file tf) := by
  unfold codB at h
  split at h
  · rename_i e
    split at h
    · rename_i e2
      have h := of_decide_eq_true h
      subst h
      exact ⟨_, _, _, _, _, e, e2⟩
    · cases h
  · cases h
theorem cel_of {K : PySem.W.Frag} {C cc : Addr} (h : celB K C cc = true) : ∃ cl cld csl, K.lookup cc = some ⟨cl, cld, .cell (some (.ref C)), csl⟩ := by
  unfold celB at h
  split at h
  · rename_i e
    have h := of_decide_eq_true h
    subst h
    exact ⟨_, _, _, e⟩
  · cases h
theorem ini_of {K : PySem.W.Frag} {file : Str} {C : Addr} {le : Bool} {fld : Str} (h : iniB K file C le fld = true) : Nonempty (IniC K file C le fld) := by
  unfold iniB at h
  split at h
  · rename_i fI hfind
    split at h
    · rename_i oc od fd osl hlk
      simp only [Bool.and_eq_true, decide_eq_true_eq, Bool.not_eq_true'] at h
      obtain ⟨h0, h1, h2, h3, h4, h5, h6, h7, h8, h9, g0, g1, g2, g3, g4, g5⟩ := h
      unfold funB at h0
      split at h0
      · rename_i name qual params body scope gl cn cc kV doc pm an cda ct bl
        simp only [Bool.and_eq_true, decide_eq_true_eq] at h0
        obtain ⟨a1, a2, a3, a4, a5, a6, rfl, rfl, rfl⟩ := h0
        obtain ⟨x0, x1, kwd, dfl, rfl, e0, e1⟩ := prm_of a1
        obtain ⟨s0, s1, rfl, b0, b1⟩ := bod_of a2
        obtain ⟨p0, p1, p2, p3, p4, p5, rfl, bq⟩ := s0_of b0
        obtain ⟨p6, p7, p8, p9, rfl⟩ := s1_of b1
        obtain ⟨nms, mr, rfl, c1, c2, c3, c4, c5⟩ := scp_of a3
        obtain ⟨ccl, cdd, vs, ccs, tf, d1, d2⟩ := cod_of a4
        obtain ⟨cl, cld, csl, d3⟩ := cel_of a5
        obtain ⟨cd, d4⟩ := Option.isSome_iff_exists.mp h3
        exact ⟨{ fI := fI, cc := cc, cda := cda, cl := cl, cld := cld, csl := csl, ccl := ccl, cdd := cdd, ccs := ccs, vs := vs, tf := tf, oc := oc, od := od, osl := osl, name := name, qual := qual, a0 := x0, a1 := x1, kwd := kwd, dfl := dfl, nms := nms, mr := mr, dV := .none, kV := kV, doc := doc, pm := pm, an := an, ct := ct, p0 := p0, p1 := p1, p2 := p2, p3 := p3, p4 := p4, p5 := p5, p6 := p6, p7 := p7, p8 := p8, p9 := p9, cd := cd, find := hfind, exi := h1, isf := h2, lk := hlk, h0 := e0, h1 := e1, cod := a6, code := d1, hvs := d2, cell := d3, cls := d4, mro := h4, sup := h5, opq := h6, hm := h7, hB := h8, sa := h9, ovr := g0, tak := g1, hd := g2, kp := g3, s1 := c1, s2 := c2, s3 := c3, s4 := c4, s5 := c5, q1 := bq, f1 := g4, f2 := g5 }⟩
      · cases h0
    · cases h
  · cases h
theorem excB_ok {K : PySem.W.Frag} {C : Addr} (h : excB K C = true) : ExcC K C := by
  unfold excB at h
  simp only [Bool.and_eq_true, decide_eq_true_eq] at h
  obtain ⟨h1, h2, h3, h4, h5, h6, h7, h8⟩ := h
  exact ⟨h1, h2, h3, h4, h5, h6, h7, h8⟩
def caM (K : PySem.W.Frag) (cls : List EC) (i : Nat) : Addr := match cls[i]? with
  | some c => He.ga K c.name
  | none => 0
def cfM (cls : List EC) (i : Nat) : Str := match cls[i]? with
  | some c => c.fld
  | none => ""
def vOf : D → V
  | .int i => .int i
  | .str x => .str x
  | _ => .non
theorem itB_rel {d : D} {v : Value} (h : itB d v = true) : RelV (vOf d) v ∧ ∀ K r H, Rep K r H (vOf d) d := by
  unfold itB at h
  split at h
  · have h := of_decide_eq_true h
    subst h
    exact ⟨⟨_, rfl⟩, fun _ _ _ => .int _⟩
  · have h := of_decide_eq_true h
    subst h
    exact ⟨⟨_, rfl⟩, fun _ _ _ => .str _⟩
  · cases h
theorem itsB_rel : ∀ {ds : List D} {vs : List Value}, itsB ds vs = true → Vals (ds.map vOf) vs ∧ ∀ K r H, Reps K r H (ds.map vOf) ds
  | [], [], _ => ⟨.nil, fun _ _ _ => .nil⟩
  | [], _ :: _, h => by cases h
  | _ :: _, [], h => by cases h
  | d :: ds, v :: vs, h => by
    simp only [itsB, Bool.and_eq_true] at h
    obtain ⟨a, b⟩ := itB_rel h.1
    obtain ⟨c, e⟩ := itsB_rel h.2
    exact ⟨.cons a c, fun K r H => .cons (b K r H) (e K r H)⟩
theorem tuB_ok {K : PySem.W.Frag} {x : Str} {ds : List D} (h : tuB K (x, .tup ds) = true) : PySem.W.nsIn K mainGlobals x = some (some (.ref (He.ga K x))) ∧ ∀ r H, Rep K r H (.ref (He.ga K x)) (.tup ds) := by
  have h : (He.eqO (PySem.W.nsIn K mainGlobals x) (some (some (.ref (He.ga K x)))) && (match K.lookup (He.ga K x) with
    | some o => decide (o.cls = .type "tuple") && (match o.data with
      | .seq its _ => decide (its.size ≤ sizeLine) && itsB ds its.toList
      | _ => false)
    | none => false)) = true := h
  rw [Bool.and_eq_true] at h
  refine ⟨He.eqO_ok h.1, fun r H => ?_⟩
  cases e : K.lookup (He.ga K x) with
  | none => rw [e] at h; exact absurd h.2 (by simp)
  | some o =>
    rw [e] at h
    have h2 := h.2
    simp only [Bool.and_eq_true, decide_eq_true_eq] at h2
    obtain ⟨h3, h4⟩ := h2
    split at h4
    · rename_i its n hd
      simp only [Bool.and_eq_true, decide_eq_true_eq] at h4
      obtain ⟨a, b⟩ := itsB_rel h4.2
      exact .tup (.inr ⟨o, its, n, e, h3, hd, h4.1, a⟩) (b K r H)
    · cases h4
theorem dcB_ok {K : PySem.W.Frag} {w : World} {q : Str × List (Str × Str)} {es : Array DictEntry} {n : Nat} (h : dcB K q = true) (hd : KDict K w (He.ga K q.1) es n) : PySem.W.nsIn K mainGlobals q.1 = some (some (.ref (He.ga K q.1))) ∧ ∀ z v, q.2.lookup z = some v → KDct K w (He.ga K q.1) z (.str v) := by
  unfold dcB at h
  rw [Bool.and_eq_true, List.all_eq_true] at h
  refine ⟨He.eqO_ok h.1, fun z v hz => ?_⟩
  have hm : (z, v) ∈ q.2 := by
    have : ∀ {l : List (Str × Str)}, l.lookup z = some v → (z, v) ∈ l := fun {l} => by
      induction l with
      | nil => intro h; cases h
      | cons a l ih =>
        intro h
        obtain ⟨a1, a2⟩ := a
        rw [List.lookup_cons] at h
        cases e : z == a1 with
        | true =>
          rw [e] at h
          cases h
          rw [eq_of_beq e]
          exact List.mem_cons_self
        | false =>
          rw [e] at h
          exact List.mem_cons_of_mem _ (ih h)
    exact this hz
  have h2 := h.2 _ hm
  dsimp only at h2
  split at h2
  · rename_i y t e
    have h2 := of_decide_eq_true h2
    subst h2
    exact ⟨es, n, _, hd.at_, hd.lit, e, ⟨t, rfl⟩⟩
  · cases h2
theorem exM_0 {T : Tx} {K : PySem.W.Frag} (h : exM T K = true) : exM0 T K = true := (Bool.and_eq_true_iff.mp h).1

/-! ### the module -/
/-- the text against the small program -/
def textC (T : Tx) (tp : Nat → Stmt) (ix : List Nat) : Bool := decide (T.p.defs.length = ix.length) && ((T.p.defs.zip ix).all fun q => (decide (q.1.np ≤ q.1.names.length) && C8.scC q.1.names (q.1.names.take q.1.np) (defScope (tp q.2))) && ssC T ⟨q.1.names, defScope (tp q.2), q.1.names⟩ q.1.body (defBody (tp q.2))) &&
  T.p.globs.all fun q => match q.2 with
  | .int _ => true
  | .str _ => true
  | .tup _ => true
  | _ => false
def mthC (T : Tx) : Bool := T.mths.all fun q => decide (q.2.2 < T.p.defs.length) && decide (T.mths.find? (fun z => z.2.2 == q.2.2) = some q)
/-- how the arguments bind -/
def BindP (tp : Nat → Stmt) (df : Def) (i : Nat) : Prop := ∀ (nm qual : Str) (kV doc pm : Value) (an : Option Addr) (cdv ct : Value) (us : List Value), us.length = df.np → bindArgs (PySem.W.fnOf nm qual (defArgs (tp i)) (defBody (tp i)) (defScope (tp i)) .none kV doc pm an cdv ct) ⟨us, []⟩ = pure ((df.names.take df.np).zip us)
def BindK (tp : Nat → Stmt) (df : Def) (i : Nat) (ks : List Nat) : Prop := ∀ (kV doc pm : Value) (an : Option Addr) (cdv ct : Value) (ws : List Value), ws.length = df.np → bindArgs (PySem.W.fnOf df.name df.name (defArgs (tp i)) (defBody (tp i)) (defScope (tp i)) .none kV doc pm an cdv ct) ⟨[], (ks.map fun j => df.names.getD j "").zip ws⟩ = pure ((df.names.take df.np).zip (permL df.np ks ws))
theorem says_all {fa : List He.Fa} {fn : List He.DefD} {K : PySem.W.Frag} (c : He.SaysD fa fn K) : ∀ f ∈ fa, f.ok K = true := by
  have c1 := (He.ba (show ((fa.all fun f => f.ok K) && fn.all fun d => d.ok K) = true from congrArg (fun z : He.AlD => z.1) c)).1
  exact List.all_eq_true.mp c1
theorem look_mem {α β : Type} [BEq α] [LawfulBEq α] : ∀ {l : List (α × β)} {x : α} {y : β}, l.lookup x = some y → (x, y) ∈ l
  | [], x, y, h => by cases h
  | (a, b) :: l, x, y, h => by
    rw [List.lookup_cons] at h
    cases e : x == a with
    | true =>
      rw [e] at h
      cases h
      rw [eq_of_beq e]
      exact List.mem_cons_self
    | false =>
      rw [e] at h
      exact List.mem_cons_of_mem _ (look_mem h)
theorem cls_of {T : Tx} {K : PySem.W.Frag} {h : Heap} {mg : Str → Option Value} {k : Kx} (kK : k.K = K) (ca : k.ca = caM K T.cls) (cf : k.cf = cfM T.cls) (kn : k.nc = T.cls.length) (X : K.In h) (G : h.Ns mainGlobals mg) (ex : exM T K = true) : ClOk k T.cls mg := by
  refine ⟨kn, fun i c hi => ?_⟩
  have ex := exM_0 ex
  unfold exM0 at ex
  simp only [Bool.and_eq_true, List.all_eq_true] at ex
  have at_ : ∀ {j : Nat} {c2 : EC}, T.cls[j]? = some c2 → (c2, j) ∈ T.cls.zipIdx := fun {j c2} hj => by
    obtain ⟨hl, e⟩ := List.getElem?_eq_some_iff.mp hj
    rw [List.mem_iff_getElem]
    exact ⟨j, by simpa using hl, by simp [e]⟩
  have b := (ex.2 _ (at_ hi)).1
  have bx := (ex.2 _ (at_ hi)).2
  have hcf : k.cf i = c.fld := by rw [cf]; unfold cfM; rw [hi]
  unfold clX at bx
  simp only [Bool.and_eq_true, decide_eq_true_eq, List.all_eq_true, Bool.or_eq_true] at bx
  have ga : ∀ {j : Nat} {c2 : EC}, T.cls[j]? = some c2 → k.ca j = He.ga K c2.name := fun {j c2} hj => by
    rw [ca]; unfold caM; rw [hj]
  unfold clB at b
  simp only [Bool.and_eq_true, decide_eq_true_eq, List.all_eq_true, Bool.or_eq_true] at b
  obtain ⟨b1, b2, b3, b4, b5, b6⟩ := b
  obtain ⟨x1, x2, x3, x4, x5⟩ := bx
  rw [← ga hi] at b1 b2 b3 b4 b5 b6 x1 x2 x3 x4 x5
  subst kK
  refine ⟨PySem.W.mg_of X G (He.eqO_ok b1), b2, b3, b4, fun h0 => ?_, fun j c2 hj => ?_, hcf, excB_ok x1, x2, x3, fun j c2 hj => ?_, fun h0 => ?_⟩
  · rcases b5 with q | q
    · rw [h0] at q; cases q
    · exact q
  · have := b6 _ (at_ hj)
    rw [← ga hj] at this
    exact this
  · have := x4 _ (at_ hj)
    rw [← ga hj] at this
    exact this
  · rcases x5 with q | q
    · rw [h0] at q; cases q
    · exact ⟨xfB_ok q.1, q.2.1⟩
theorem mod_of {T : Tx} {tp : Nat → Stmt} {ix : List Nat} {K : PySem.W.Frag} {h : Heap} {mg : Str → Option Value} (k : Kx) (kK : k.K = K) (X : K.In h) (G : h.Ns mainGlobals mg) (ca : k.ca = caM K T.cls) (cf : k.cf = cfM T.cls) (kn : k.nc = T.cls.length) (ex : exM T K = true) (c : He.SaysD (faM T) (fnM tp T ix) K) {w : World} (cd : T.dics.map (fun q => He.dicW K (He.ga K q.1)) = T.dics.map fun q => some (He.keysIn w.params (q.2.map (·.1)))) (ht : textC T tp ix = true) (hm : mthC T = true)
    (hb : ∀ (f : Nat) (df : Def) (i : Nat), T.p.defs[f]? = some df → ix[f]? = some i → BindP tp df i) (hk : ∀ (f : Nat) (df : Def) (i : Nat) (ks : List Nat), T.p.defs[f]? = some df → ix[f]? = some i → (f, ks) ∈ T.kwp → BindK tp df i ks) : ModT T k w mg := by
  have al := says_all c
  unfold textC at ht
  simp only [Bool.and_eq_true, decide_eq_true_eq, List.all_eq_true] at ht
  obtain ⟨⟨t1, t2⟩, t3⟩ := ht
  refine ⟨cls_of kK ca cf kn X G ex, fun x hx => He.free_ok X G (al _ (List.mem_append_left _ (List.mem_map_of_mem hx))), fun x d hd => ?_, fun f df hd hnm => ?_, fun q hq => ?_, fun q hq => ?_, fun ug => ?_, fun q hq => ?_⟩
  · have hm := look_mem hd
    have t4 := t3 _ hm
    cases d with
    | int i =>
      obtain ⟨t, e⟩ := He.int_ok X G (al (.int x i) (List.mem_append_right _ (List.mem_append_right _ (List.mem_append_left _ (List.mem_filterMap.mpr ⟨_, hm, rfl⟩)))))
      exact ⟨_, .int i, e, ⟨t, rfl⟩, fun r H => .int i⟩
    | str z =>
      obtain ⟨t, e⟩ := He.str_ok X G (al (.str x z) (List.mem_append_right _ (List.mem_append_right _ (List.mem_append_left _ (List.mem_filterMap.mpr ⟨_, hm, rfl⟩)))))
      exact ⟨_, .str z, e, ⟨t, rfl⟩, fun r H => .str z⟩
    | tup ds =>
      have tu := List.all_eq_true.mp (Bool.and_eq_true_iff.mp (Bool.and_eq_true_iff.mp (Bool.and_eq_true_iff.mp ex).2).1).1 _ hm
      obtain ⟨a, b⟩ := tuB_ok tu
      subst kK
      exact ⟨_, .ref (He.ga k.K x), PySem.W.mg_of X G a, rfl, b⟩
    | _ => cases t4
  · have hl := (List.getElem?_eq_some_iff.mp hd).1
    have hi : ix[f]? = some (ix[f]'(by omega)) := List.getElem?_eq_getElem (by omega)
    generalize ix[f]'(by omega) = i at hi
    have hz : (T.p.defs.zip ix)[f]? = some (df, i) := List.getElem?_zip_eq_some.mpr ⟨hd, hi⟩
    have hfd : (T.mths.find? fun q => q.2.2 == f) = none := List.find?_eq_none.mpr fun q hq => by
      have := of_decide_eq_true (List.all_eq_true.mp hnm q hq)
      simpa using this
    have hfn : (fnM tp T ix)[f]? = some (ddOf tp df.name i) := by
      unfold fnM
      rw [List.getElem?_map, List.getElem?_zipIdx, hz]
      show some (ddM T tp (0 + f) df.name i) = _
      rw [Nat.zero_add]
      unfold ddM
      rw [hfd]
    obtain ⟨fd, F⟩ := c.def_ f hfn
    have F : FunD K df.name df.name (defArgs (tp i)) (defBody (tp i)) (defScope (tp i)) [] [] (He.ga K df.name) fd := F
    have t5 := t2 _ (List.mem_of_getElem? hz)
    have g := He.glo_ok X G (al (.glo df.name) (List.mem_append_right _ (List.mem_append_left _ (List.mem_filterMap.mpr ⟨(df, f), List.mk_mem_zipIdx_iff_getElem?.mpr hd, if_pos hnm⟩))))
    subst kK
    have bp : ∀ (kV doc pm : Value) (an : Option Addr) (cdv ct : Value) (us : List Value), us.length = (df.names.take df.np).length → bindArgs (PySem.W.fnOf df.name df.name (defArgs (tp i)) (defBody (tp i)) (defScope (tp i)) .none kV doc pm an cdv ct) ⟨us, []⟩ = pure ((df.names.take df.np).zip us) := fun kV doc pm an cdv ct us hu => hb f df i hd hi _ _ kV doc pm an cdv ct us (by
      have t6 : df.np ≤ df.names.length := t5.1.1
      rw [hu, List.length_take]; omega)
    refine ⟨_, fd, _, _, _, [], g, F, F.bindsN bp, F.bindsA bp, fun ks hks s ws hK hw => ?_, C8.fnScope_by t5.1.2, t5.2⟩
    · obtain ⟨oc, od, dV, kV, doc, pm, an, cdv, ct, osl, e, lk, hcd, hD, hK2⟩ := F.ex
      rcases hD with ⟨_, rfl⟩ | ⟨z, _⟩
      · rw [e]
        exact .of_eq (hk f df i ks hd hi hks kV doc pm an cdv ct ws hw)
      · exact absurd rfl z
  · -- a method
    have hm1 := List.all_eq_true.mp hm q hq
    rw [Bool.and_eq_true, decide_eq_true_eq, decide_eq_true_eq] at hm1
    obtain ⟨hl, hfd⟩ := hm1
    generalize hf : q.2.2 = f at hl hfd
    have hd : T.p.defs[f]? = some (T.p.defs[f]) := List.getElem?_eq_getElem hl
    generalize T.p.defs[f] = df at hd
    have hi : ix[f]? = some (ix[f]'(by omega)) := List.getElem?_eq_getElem (by omega)
    generalize ix[f]'(by omega) = i at hi
    have hz : (T.p.defs.zip ix)[f]? = some (df, i) := List.getElem?_zip_eq_some.mpr ⟨hd, hi⟩
    have hfn : (fnM tp T ix)[f]? = some ⟨(q.1, some q.2.1), q.2.1, df.name, defArgs (tp i), defBody (tp i), defScope (tp i), [], []⟩ := by
      unfold fnM
      rw [List.getElem?_map, List.getElem?_zipIdx, hz]
      show some (ddM T tp (0 + f) df.name i) = _
      rw [Nat.zero_add]
      unfold ddM
      rw [hfd]
    obtain ⟨fd, F⟩ := c.def_ f hfn
    have F : FunD K q.2.1 df.name (defArgs (tp i)) (defBody (tp i)) (defScope (tp i)) [] [] (He.ma K (He.ga K q.1) q.2.1) fd := F
    have t5 := t2 _ (List.mem_of_getElem? hz)
    have cm : ∀ {a : He.Fa}, a ∈ clsM T → a ∈ faM T := fun h => List.mem_append_right _ (List.mem_append_right _ (List.mem_append_right _ h))
    have g1 := He.cls_ok (al (.cls q.1) (cm (List.mem_append_left _ (List.mem_map_of_mem (clD_mem (List.mem_append_left _ (List.mem_map_of_mem hq)))))))
    have g2 := He.meth_ok (al (.meth q.1 q.2.1) (cm (List.mem_append_right _ (List.mem_append_left _ (List.mem_map.mpr ⟨q, hq, rfl⟩)))))
    have g3 := obB_ok g1 (List.all_eq_true.mp (Bool.and_eq_true_iff.mp (Bool.and_eq_true_iff.mp ex).2).2 _ (clD_mem (List.mem_map_of_mem hq)))
    have g4 : q.2.1 = "__init__" → mg q.1 = some (.ref (He.ga K q.1)) ∧ Mk K (He.ga K q.1) (He.ma K (He.ga K q.1) q.2.1) := fun e => by
      have mm : ∀ a ∈ ([.mkr q.1, .glo q.1] : List He.Fa), a ∈ clsM T := fun a ha => List.mem_append_right _ (List.mem_append_right _ (List.mem_append_left _ (List.mem_flatMap.mpr ⟨q, hq, by rw [if_pos e]; exact ha⟩)))
      have k1 := He.mkr_ok (al (.mkr q.1) (cm (mm _ List.mem_cons_self)))
      have k2 := He.glo_ok X G (al (.glo q.1) (cm (mm _ (List.mem_cons_of_mem _ List.mem_cons_self))))
      rw [e]
      exact ⟨k2, k1⟩
    subst kK
    have bp : ∀ (kV doc pm : Value) (an : Option Addr) (cdv ct : Value) (us : List Value), us.length = (df.names.take df.np).length → bindArgs (PySem.W.fnOf q.2.1 df.name (defArgs (tp i)) (defBody (tp i)) (defScope (tp i)) .none kV doc pm an cdv ct) ⟨us, []⟩ = pure ((df.names.take df.np).zip us) := fun kV doc pm an cdv ct us hu => hb f df i hd hi _ _ kV doc pm an cdv ct us (by
      have t6 : df.np ≤ df.names.length := t5.1.1
      rw [hu, List.length_take]; omega)
    exact ⟨df, _, fd, _, _, _, _, _, [], by rw [hf]; exact hd, g3, g2, g4, F, F.bindsN bp, C8.fnScope_by t5.1.2, t5.2⟩
  · have cm : ∀ {a : He.Fa}, a ∈ clsM T → a ∈ faM T := fun h => List.mem_append_right _ (List.mem_append_right _ (List.mem_append_right _ h))
    subst kK
    exact ⟨He.cls_ok (al (.cls q.1) (cm (List.mem_append_left _ (List.mem_map_of_mem (clD_mem (List.mem_append_right _ (List.mem_map_of_mem hq))))))),
      He.noat_ok (al (.noat q.1 q.2) (cm (List.mem_append_right _ (List.mem_append_right _ (List.mem_append_right _ (List.mem_map.mpr ⟨q, hq, rfl⟩))))))⟩
  · have ex := exM_0 ex
    unfold exM0 at ex
    rw [ug, Bool.and_eq_true, Bool.and_eq_true] at ex
    exact PySem.W.mg_of X G (He.eqO_ok (by simpa using ex.1.2))
  · have td := List.all_eq_true.mp (Bool.and_eq_true_iff.mp (Bool.and_eq_true_iff.mp (Bool.and_eq_true_iff.mp ex).2).1).2 _ hq
    have hd : ∃ es n, KDict K w (He.ga K q.1) es n := by
      have all : ∀ {l : List (Str × List (Str × Str))}, l.map (fun q => He.dicW K (He.ga K q.1)) = l.map (fun q => some (He.keysIn w.params (q.2.map (·.1)))) → q ∈ l → He.dicW K (He.ga K q.1) = some (He.keysIn w.params (q.2.map (·.1))) := fun {l} => by
        induction l with
        | nil => intro _ h; cases h
        | cons a l ih =>
          intro h hm
          rw [List.map_cons, List.map_cons, List.cons.injEq] at h
          rcases List.mem_cons.mp hm with rfl | hm
          · exact h.1
          · exact ih h.2 hm
      exact He.dicW_ok (all cd hq)
    obtain ⟨es, n, kd⟩ := hd
    obtain ⟨a, b⟩ := dcB_ok td kd
    subst kK
    exact ⟨_, PySem.W.mg_of X G a, b⟩

theorem ini_all {T : Tx} {K : PySem.W.Frag} {P : Program} (hP : ((P.main.file : Str) == T.file) = true ∧ (P.main.scope.names.lookup ("super" : Str)).isSome = false) (ex : exM T K = true) : IniA ⟨K, caM K T.cls, cfM T.cls, T.cls.length⟩ T.cls P := fun i c hi h0 => by
  refine ⟨T.file, hP.1, hP.2, ?_⟩
  have ex := exM_0 ex
  unfold exM0 at ex
  simp only [Bool.and_eq_true, List.all_eq_true] at ex
  obtain ⟨hl, e⟩ := List.getElem?_eq_some_iff.mp hi
  have hm : (c, i) ∈ T.cls.zipIdx := by
    rw [List.mem_iff_getElem]
    exact ⟨i, by simpa using hl, by simp [e]⟩
  have bx := (ex.2 _ hm).2
  unfold clX at bx
  simp only [Bool.and_eq_true, Bool.or_eq_true, Bool.not_eq_true'] at bx
  obtain ⟨_, _, _, _, q | q⟩ := bx
  · rw [h0] at q; cases q
  · have ca : caM K T.cls i = He.ga K c.name := by unfold caM; rw [hi]
    show Nonempty (IniC K T.file (caM K T.cls i) c.le c.fld)
    rw [ca]
    exact ini_of q.2.2
/-! ### the law -/
theorem ints_rep {K : PySem.W.Frag} {r : Rg} {H : Hp} : ∀ ns : List Int, Reps K r H (ns.map V.int) (ns.map D.int)
  | [] => .nil
  | n :: ns => .cons (.int n) (ints_rep ns)
theorem look_in {K : PySem.W.Frag} {a : Addr} {o : Obj} : K.lookup a = some o → (a, o) ∈ K := look_mem
theorem walk_mi {l : PySem.W.OpenLaw} {n lv : Nat} {q : Program} {loose : List Str} {XP : (Str → Option Value) → Heap → Prop} {d : DefRec} {T : Tx} {tp : Nat → Stmt} {ix : List Nat} {fi : Nat} {df : Def} {x : Str} {m : Nat}
    (hP : ((l.prog.main.file : Str) == T.file) = true ∧ (l.prog.main.scope.names.lookup ("super" : Str)).isSome = false) (hn : l.most = some n) (hn2 : n ≤ sizeLine) (hdf : d.params.defaults = []) (hr : Room (2 * (lv + 1)) callerA) (ht : textC T tp ix = true) (hmt : mthC T = true)
    (hb : ∀ (f : Nat) (df : Def) (i : Nat), T.p.defs[f]? = some df → ix[f]? = some i → BindP tp df i) (hk : ∀ (f : Nat) (df : Def) (i : Nat) (ks : List Nat), T.p.defs[f]? = some df → ix[f]? = some i → (f, ks) ∈ T.kwp → BindK tp df i ks)
    (hd : T.p.defs[fi]? = some df) (hnot : notM T fi = true) (hnm : d.name = df.name) (hx : df.names.take df.np = [x])
    (law : ∀ ns : List Int, ns.length ≤ n → (∀ k ∈ ns, Builtin.Int.intBits k ≤ 1048576) → ∃ st, callN T.p (lv + 1) true fi [.fl (ns.map .int)] [] = .ok (.bl true) st) :
    PySem.W.WalkO q loose XP (hookM m T (faM T) (fnM tp T ix)).says l.row.toRowW d [] (fun f vs => PySem.call f vs) := by
  refine Att.attach_callB hn hdf fun w s₀ s₁ mg mb fa o pm cd doc a vs ns G Y ho hod hcd hmg hobj hints hlen hbits hg => ?_
  obtain ⟨K, KX, ex, c, cd⟩ := Y
  have M : ModT T ⟨K, caM K T.cls, cfM T.cls, T.cls.length⟩ w mg := mod_of _ rfl KX G.T.g rfl rfl rfl ex c cd ht hmt hb hk
  obtain ⟨fa', fd, params, body, scope, kws, m1, F, _, B, _, S, ck⟩ := (M.fn fi df hd hnot).ex
  rw [hnm] at hmg
  rw [hmg] at m1
  cases m1
  rw [hx] at B S
  have hF : ∀ base : Heap, K.In base → base.Ns mainGlobals mg → FnOk l.prog w K mg base (L2.CX l.prog w) (2 * (lv + 1)) fa fd [x] (spD ⟨K, caM K T.cls, cfM T.cls, T.cls.length⟩ T.p (lv + 1) fi) := fun base _ _ => by
    have := fn_lv (mg_all (P := l.prog) (w := w) (base := base) M (ini_all hP ex) lv) hd F (by rw [hx]; exact S) ck
    rw [hx] at this
    exact this
  refine law_call KX G.T.g G.T.b G.T.builtins G.T.nolimit hg hobj hints (Nat.le_trans hlen hn2) hr hF (fun s u => ?_) (fun H hO hS => ?_) fun H e s' z => ?_
  · exact B s [u] rfl
  · -- the script
    have hR : Rd H a (.lst (ns.map V.int)) := by
      rcases hS with h | ⟨o, its, c', h, hc, _⟩
      · exact h
      · have ex := exM_0 ex
        unfold exM0 at ex
        rw [Bool.and_eq_true, Bool.and_eq_true, List.all_eq_true] at ex
        have := ex.1.1 _ (look_in h)
        rw [hc] at this
        cases this
    obtain ⟨st, e⟩ := law ns hlen hbits
    refine ⟨true, ⟨[], []⟩, [], [.fl (ns.map .int)], [], ⟨List.nodup_nil, rfl, fun a h => (nomatch h), fun n xs h => by simp at h⟩, .cons (.fl hR (fun z => by rcases z with z | z <;> cases z) (ints_rep ns)) .nil, ?_⟩
    rw [e]
    intro r' H' v _ _ p
    cases p
    rfl
  · obtain ⟨_, _, _, _, _, _, _, _, _, _, _, _, z⟩ := z
    exact z
end Mi
end
namespace Pk27h
open PySem PySem.Spec PyProof.Rows L2 Pk27
theorem b6 : Mi.BindP top d_is_number 6 := fun _ _ _ _ _ _ _ _ us hl => match us, hl with | [_], _ => rfl
theorem b7 : Mi.BindP top d_is_from 7 := fun _ _ _ _ _ _ _ _ us hl => match us, hl with | [_, _], _ => rfl
theorem b8 : Mi.BindP top d_is_long 8 := fun _ _ _ _ _ _ _ _ us hl => match us, hl with | [_, _], _ => rfl
theorem b9 : Mi.BindP top d_tupled 9 := fun _ _ _ _ _ _ _ _ us hl => match us, hl with | [_], _ => rfl
theorem b10 : Mi.BindP top d_are_numbers 10 := fun _ _ _ _ _ _ _ _ us hl => match us, hl with | [_], _ => rfl
theorem b11 : Mi.BindP top d_are_from 11 := fun _ _ _ _ _ _ _ _ us hl => match us, hl with | [_, _], _ => rfl
theorem b12 : Mi.BindP top d_is_row_of 12 := fun _ _ _ _ _ _ _ _ us hl => match us, hl with | [_, _, _], _ => rfl
theorem b13 : Mi.BindP top d_unit_row 13 := fun _ _ _ _ _ _ _ _ us hl => match us, hl with | [_, _], _ => rfl
theorem b14 : Mi.BindP top d_sure_from 14 := fun _ _ _ _ _ _ _ _ us hl => match us, hl with | [_, _], _ => rfl
theorem b16 : Mi.BindP top d_is_town_in 16 := fun _ _ _ _ _ _ _ _ us hl => match us, hl with | [_], _ => rfl
theorem b17 : Mi.BindP top d_sure_town 17 := fun _ _ _ _ _ _ _ _ us hl => match us, hl with | [_], _ => rfl
theorem b19 : Mi.BindP top d_times_column 19 := fun _ _ _ _ _ _ _ _ us hl => match us, hl with | [_, _], _ => rfl
theorem b20 : Mi.BindP top d_identity_of 20 := fun _ _ _ _ _ _ _ _ us hl => match us, hl with | [_], _ => rfl
theorem b21 : Mi.BindP top d_rest_in 21 := fun _ _ _ _ _ _ _ _ us hl => match us, hl with | [_], _ => rfl
theorem b22 : Mi.BindP top d_pivot_row 22 := fun _ _ _ _ _ _ _ _ us hl => match us, hl with | [_, _], _ => rfl
theorem b23 : Mi.BindP top d_box_in 23 := fun _ _ _ _ _ _ _ _ us hl => match us, hl with | [_], _ => rfl
theorem b26 : Mi.BindP top d_worked 26 := fun _ _ _ _ _ _ _ _ us hl => match us, hl with | [_], _ => rfl
theorem b27 : Mi.BindP top d_factors_in 27 := fun _ _ _ _ _ _ _ _ us hl => match us, hl with | [_], _ => rfl
theorem b30 : Mi.BindP top d_divides 30 := fun _ _ _ _ _ _ _ _ us hl => match us, hl with | [_, _], _ => rfl
theorem b31 : Mi.BindP top d_are_parts_in 31 := fun _ _ _ _ _ _ _ _ us hl => match us, hl with | [_], _ => rfl
theorem b32 : Mi.BindP top d_is_sheet_in 32 := fun _ _ _ _ _ _ _ _ us hl => match us, hl with | [_], _ => rfl
theorem b33 : Mi.BindP top d_sure_sheet 33 := fun _ _ _ _ _ _ _ _ us hl => match us, hl with | [_], _ => rfl
theorem b34 : Mi.BindP top d_sign_of 34 := fun _ _ _ _ _ _ _ _ us hl => match us, hl with | [_], _ => rfl
theorem b35 : Mi.BindP top d_sheet_in 35 := fun _ _ _ _ _ _ _ _ us hl => match us, hl with | [_], _ => rfl
theorem b36 : Mi.BindP top d_marks_by 36 := fun _ _ _ _ _ _ _ _ us hl => match us, hl with | [_, _], _ => rfl
theorem b37 : Mi.BindP top d_full_parts 37 := fun _ _ _ _ _ _ _ _ us hl => match us, hl with | [_, _], _ => rfl
theorem b38 : Mi.BindP top d_chains_of 38 := fun _ _ _ _ _ _ _ _ us hl => match us, hl with | [_, _], _ => rfl
theorem b39 : Mi.BindP top d_unlike_in 39 := fun _ _ _ _ _ _ _ _ us hl => match us, hl with | [_, _], _ => rfl
theorem b40 : Mi.BindP top d_sheet 40 := fun _ _ _ _ _ _ _ _ us hl => match us, hl with | [_], _ => rfl
theorem b41 : Mi.BindP top d_order_of 41 := fun _ _ _ _ _ _ _ _ us hl => match us, hl with | [_], _ => rfl
theorem b42 : Mi.BindP top d_sheet_order 42 := fun _ _ _ _ _ _ _ _ us hl => match us, hl with | [_], _ => rfl
theorem b43 : Mi.BindP top d_marks_of_sheet 43 := fun _ _ _ _ _ _ _ _ us hl => match us, hl with | [_, _], _ => rfl
theorem b44 : Mi.BindP top d_unlike_number 44 := fun _ _ _ _ _ _ _ _ us hl => match us, hl with | [_, _], _ => rfl
theorem b45 : Mi.BindP top d_is_unlike_number 45 := fun _ _ _ _ _ _ _ _ us hl => match us, hl with | [_, _, _], _ => rfl
theorem b46 : Mi.BindP top d_sheet_beside 46 := fun _ _ _ _ _ _ _ _ us hl => match us, hl with | [_, _], _ => rfl
theorem b47 : Mi.BindP top d_sheets_of 47 := fun _ _ _ _ _ _ _ _ us hl => match us, hl with | [_], _ => rfl
theorem b50 : Mi.BindP top d_are_marks_in 50 := fun _ _ _ _ _ _ _ _ us hl => match us, hl with | [_, _, _], _ => rfl
theorem b51 : Mi.BindP top d_worth_in 51 := fun _ _ _ _ _ _ _ _ us hl => match us, hl with | [_, _, _], _ => rfl
theorem b52 : Mi.BindP top d_step_marks 52 := fun _ _ _ _ _ _ _ _ us hl => match us, hl with | [_, _, _], _ => rfl
theorem b53 : Mi.BindP top d_marks_in 53 := fun _ _ _ _ _ _ _ _ us hl => match us, hl with | [_, _], _ => rfl
theorem b54 : Mi.BindP top d_whole_in 54 := fun _ _ _ _ _ _ _ _ us hl => match us, hl with | [_], _ => rfl
theorem b55 : Mi.BindP top d_are_marks 55 := fun _ _ _ _ _ _ _ _ us hl => match us, hl with | [_, _, _], _ => rfl
theorem b56 : Mi.BindP top d_many_marks 56 := fun _ _ _ _ _ _ _ _ us hl => match us, hl with | [_, _], _ => rfl
theorem b57 : Mi.BindP top d_all_marks 57 := fun _ _ _ _ _ _ _ _ us hl => match us, hl with | [_, _], _ => rfl
theorem b58 : Mi.BindP top d_whole_marks 58 := fun _ _ _ _ _ _ _ _ us hl => match us, hl with | [_], _ => rfl
theorem b59 : Mi.BindP top d_are_whole_marks 59 := fun _ _ _ _ _ _ _ _ us hl => match us, hl with | [_, _], _ => rfl
theorem b60 : Mi.BindP top d_worth 60 := fun _ _ _ _ _ _ _ _ us hl => match us, hl with | [_, _, _], _ => rfl
theorem b62 : Mi.BindP top d__law_box 62 := fun _ _ _ _ _ _ _ _ us hl => match us, hl with | [_, _], _ => rfl
theorem b63 : Mi.BindP top d__law_take 63 := fun _ _ _ _ _ _ _ _ us hl => match us, hl with | [_, _], _ => rfl
theorem b64 : Mi.BindP top d__law_cells 64 := fun _ _ _ _ _ _ _ _ us hl => match us, hl with | [_, _], _ => rfl
theorem b65 : Mi.BindP top d__law_of 65 := fun _ _ _ _ _ _ _ _ us hl => match us, hl with | [_, _], _ => rfl
theorem b66 : Mi.BindP top d__law_same 66 := fun _ _ _ _ _ _ _ _ us hl => match us, hl with | [_, _], _ => rfl
theorem b67 : Mi.BindP top d__law_asked 67 := fun _ _ _ _ _ _ _ _ us hl => match us, hl with | [_, _, _, _], _ => rfl
theorem b68 : Mi.BindP top d__law_caught 68 := fun _ _ _ _ _ _ _ _ us hl => match us, hl with | [_, _, _, _], _ => rfl
theorem b69 : Mi.BindP top d_law 69 := fun _ _ _ _ _ _ _ _ us hl => match us, hl with | [_], _ => rfl
theorem b1025 : Mi.BindP top d_Work___init__ 1025 := fun _ _ _ _ _ _ _ _ us hl => match us, hl with | [_, _], _ => rfl
theorem b2025 : Mi.BindP top d_Work_add_row 2025 := fun _ _ _ _ _ _ _ _ us hl => match us, hl with | [_, _, _, _], _ => rfl
theorem b3025 : Mi.BindP top d_Work_add_column 3025 := fun _ _ _ _ _ _ _ _ us hl => match us, hl with | [_, _, _, _], _ => rfl
theorem b4025 : Mi.BindP top d_Work_exchange_rows 4025 := fun _ _ _ _ _ _ _ _ us hl => match us, hl with | [_, _, _], _ => rfl
theorem b5025 : Mi.BindP top d_Work_exchange_columns 5025 := fun _ _ _ _ _ _ _ _ us hl => match us, hl with | [_, _, _], _ => rfl
theorem b6025 : Mi.BindP top d_Work_least_from 6025 := fun _ _ _ _ _ _ _ _ us hl => match us, hl with | [_, _], _ => rfl
theorem b7025 : Mi.BindP top d_Work_swept 7025 := fun _ _ _ _ _ _ _ _ us hl => match us, hl with | [_, _], _ => rfl
theorem b8025 : Mi.BindP top d_Work_row_left_over 8025 := fun _ _ _ _ _ _ _ _ us hl => match us, hl with | [_, _], _ => rfl
theorem b9025 : Mi.BindP top d_Work_is_settled 9025 := fun _ _ _ _ _ _ _ _ us hl => match us, hl with | [_, _], _ => rfl
theorem b10025 : Mi.BindP top d_Work_settle 10025 := fun _ _ _ _ _ _ _ _ us hl => match us, hl with | [_], _ => rfl
/-- all of a list -/
def AllL {α : Type} (P : α → Prop) : List α → Prop
  | [] => True
  | q :: r => P q ∧ AllL P r
theorem AllL.mem {α : Type} {P : α → Prop} : ∀ {l : List α}, AllL P l → ∀ q ∈ l, P q
  | q :: r, h, x, hx => (List.mem_cons.mp hx).elim (fun e => e ▸ h.1) fun m => AllL.mem h.2 x m
theorem bAll : AllL (fun q => Mi.BindP top q.1 q.2) (tx.p.defs.zip ix) := ⟨b6, b7, b8, b9, b10, b11, b12, b13, b14, b16, b17, b19, b20, b21, b22, b23, b26, b27, b30, b31, b32, b33, b34, b35, b36, b37, b38, b39, b40, b41, b42, b43, b44, b45, b46, b47, b50, b51, b52, b53, b54, b55, b56, b57, b58, b59, b60, b62, b63, b64, b65, b66, b67, b68, b69, b1025, b2025, b3025, b4025, b5025, b6025, b7025, b8025, b9025, b10025, trivial⟩
theorem hb : ∀ (f : Nat) (df : Mi.Def) (i : Nat), tx.p.defs[f]? = some df → ix[f]? = some i → Mi.BindP top df i := fun f df i h1 h2 => bAll.mem (df, i) (List.mem_of_getElem? (List.getElem?_zip_eq_some.mpr ⟨h1, h2⟩))
theorem q0 : ∀ (df : Mi.Def) (i : Nat), tx.p.defs[46]? = some df → ix[46]? = some i → Mi.BindK top df i [2, 1, 0] := fun df i h1 h2 => by
  cases h1
  cases h2
  exact fun _ _ _ _ _ _ us hl => match us, hl with | [_, _, _], _ => rfl
theorem q1 : ∀ (df : Mi.Def) (i : Nat), tx.p.defs[41]? = some df → ix[41]? = some i → Mi.BindK top df i [2, 1, 0] := fun df i h1 h2 => by
  cases h1
  cases h2
  exact fun _ _ _ _ _ _ us hl => match us, hl with | [_, _, _], _ => rfl
theorem q2 : ∀ (df : Mi.Def) (i : Nat), tx.p.defs[45]? = some df → ix[45]? = some i → Mi.BindK top df i [1, 0] := fun df i h1 h2 => by
  cases h1
  cases h2
  exact fun _ _ _ _ _ _ us hl => match us, hl with | [_, _], _ => rfl
theorem q3 : ∀ (df : Mi.Def) (i : Nat), tx.p.defs[44]? = some df → ix[44]? = some i → Mi.BindK top df i [0] := fun df i h1 h2 => by
  cases h1
  cases h2
  exact fun _ _ _ _ _ _ us hl => match us, hl with | [_], _ => rfl
theorem q4 : ∀ (df : Mi.Def) (i : Nat), tx.p.defs[42]? = some df → ix[42]? = some i → Mi.BindK top df i [0, 1] := fun df i h1 h2 => by
  cases h1
  cases h2
  exact fun _ _ _ _ _ _ us hl => match us, hl with | [_, _], _ => rfl
theorem q5 : ∀ (df : Mi.Def) (i : Nat), tx.p.defs[32]? = some df → ix[32]? = some i → Mi.BindK top df i [1, 0] := fun df i h1 h2 => by
  cases h1
  cases h2
  exact fun _ _ _ _ _ _ us hl => match us, hl with | [_, _], _ => rfl
theorem q6 : ∀ (df : Mi.Def) (i : Nat), tx.p.defs[33]? = some df → ix[33]? = some i → Mi.BindK top df i [2, 1, 0] := fun df i h1 h2 => by
  cases h1
  cases h2
  exact fun _ _ _ _ _ _ us hl => match us, hl with | [_, _, _], _ => rfl
theorem q7 : ∀ (df : Mi.Def) (i : Nat), tx.p.defs[43]? = some df → ix[43]? = some i → Mi.BindK top df i [1, 0] := fun df i h1 h2 => by
  cases h1
  cases h2
  exact fun _ _ _ _ _ _ us hl => match us, hl with | [_, _], _ => rfl
theorem q8 : ∀ (df : Mi.Def) (i : Nat), tx.p.defs[28]? = some df → ix[28]? = some i → Mi.BindK top df i [0] := fun df i h1 h2 => by
  cases h1
  cases h2
  exact fun _ _ _ _ _ _ us hl => match us, hl with | [_], _ => rfl
theorem q9 : ∀ (df : Mi.Def) (i : Nat), tx.p.defs[30]? = some df → ix[30]? = some i → Mi.BindK top df i [0] := fun df i h1 h2 => by
  cases h1
  cases h2
  exact fun _ _ _ _ _ _ us hl => match us, hl with | [_], _ => rfl
theorem q10 : ∀ (df : Mi.Def) (i : Nat), tx.p.defs[31]? = some df → ix[31]? = some i → Mi.BindK top df i [1, 0] := fun df i h1 h2 => by
  cases h1
  cases h2
  exact fun _ _ _ _ _ _ us hl => match us, hl with | [_, _], _ => rfl
theorem q11 : ∀ (df : Mi.Def) (i : Nat), tx.p.defs[34]? = some df → ix[34]? = some i → Mi.BindK top df i [1, 0] := fun df i h1 h2 => by
  cases h1
  cases h2
  exact fun _ _ _ _ _ _ us hl => match us, hl with | [_, _], _ => rfl
theorem q12 : ∀ (df : Mi.Def) (i : Nat), tx.p.defs[35]? = some df → ix[35]? = some i → Mi.BindK top df i [0] := fun df i h1 h2 => by
  cases h1
  cases h2
  exact fun _ _ _ _ _ _ us hl => match us, hl with | [_], _ => rfl
theorem kAll : AllL (fun q : Nat × List Nat => ∀ (df : Mi.Def) (i : Nat), tx.p.defs[q.1]? = some df → ix[q.1]? = some i → Mi.BindK top df i q.2) tx.kwp := ⟨q0, q1, q2, q3, q4, q5, q6, q7, q8, q9, q10, q11, q12, trivial⟩
theorem hk : ∀ (f : Nat) (df : Mi.Def) (i : Nat) (ks : List Nat), tx.p.defs[f]? = some df → ix[f]? = some i → (f, ks) ∈ tx.kwp → Mi.BindK top df i ks := fun f df i ks h1 h2 h3 => kAll.mem (f, ks) h3 df i h1 h2
theorem text : Mi.textC tx top ix = true := by decide +kernel
theorem mtxt : Mi.mthC tx = true := by decide +kernel
end Pk27h
section
/-! MiU: plain reasoning over the interpreter (weakest preconditions). -/
namespace Mi
open PySem (Str)

/-- the result is a value of which P holds, or an exception of which X holds -/
@[irreducible] def Ok {α : Type} (o : Out α) (P : α → Sto → Prop) (X : Xn → Sto → Prop) : Prop := match o with
  | .ok a st => P a st
  | .exc x st => X x st
  | .bad => False
structure Kt where
  n : Env → Sto → Prop
  r : D → Sto → Prop
  b : Env → Sto → Prop
  c : Env → Sto → Prop
  x : Xn → Env → Sto → Prop
@[irreducible] def Sk (o : SOut) (k : Kt) : Prop := match o with
  | .nxt e s => k.n e s
  | .ret d s => k.r d s
  | .brk e s => k.b e s
  | .cnt e s => k.c e s
  | .exc x e s => k.x x e s
  | .bad => False
abbrev nX : Xn → Sto → Prop := fun _ _ => False

section
variable {α β : Type} {P P' : α → Sto → Prop} {X X' : Xn → Sto → Prop} {k k' : Kt} {cx : Cx} {env : Env} {st : Sto}
theorem ok_ok {a : α} : Ok (.ok a st) P X = P a st := by with_unfolding_all exact propext Iff.rfl
theorem ok_exc {x : Xn} : Ok (.exc x st : Out α) P X = X x st := by with_unfolding_all exact propext Iff.rfl
theorem ok_bind {o : Out α} {f : α → Sto → Out β} {P : β → Sto → Prop} : Ok (o.bind f) P X = Ok o (fun a s => Ok (f a s) P X) X := by with_unfolding_all cases o <;> rfl
/-- there is one, and P holds of it -/
@[irreducible] def Op {α : Type} (o : Option α) (P : α → Prop) : Prop := match o with
  | some a => P a
  | none => False
theorem op_some {a : α} {P : α → Prop} : Op (some a) P = P a := by with_unfolding_all exact propext Iff.rfl
theorem op_none {P : α → Prop} : Op none P = False := by with_unfolding_all exact propext Iff.rfl
theorem op_map {o : Option α} {f : α → β} {P : β → Prop} : Op (o.map f) P = Op o fun a => P (f a) := by with_unfolding_all cases o <;> rfl
theorem op_bind {o : Option α} {f : α → Option β} {P : β → Prop} : Op (o.bind f) P = Op o fun a => Op (f a) P := by with_unfolding_all cases o <;> rfl
theorem Op.of {o : Option α} {a : α} {P : α → Prop} (e : o = some a) (h : P a) : Op o P := by with_unfolding_all rw [e]; exact h
theorem Op.get {o : Option α} {P : α → Prop} (h : Op o P) : ∃ a, o = some a ∧ P a := by with_unfolding_all
  cases o with
  | some a => exact ⟨a, rfl, h⟩
  | none => exact h.elim
theorem ok_ofO {o : Option α} : Ok (ofO o st) P X = Op o fun a => P a st := by with_unfolding_all cases o <;> rfl
theorem ok_nox {o : Out α} : Ok (nox o) P X = Ok o P nX := by with_unfolding_all cases o <;> rfl
theorem Ok.mono {o : Out α} (h : Ok o P X) (w : ∀ a s, P a s → P' a s) (x : ∀ a s, X a s → X' a s) : Ok o P' X' := by with_unfolding_all
  cases o with
  | ok a s => exact w a s h
  | exc e s => exact x e s h
  | bad => exact h
theorem Ok.imp {o : Out α} (h : Ok o P X) (w : ∀ a s, P a s → P' a s) : Ok o P' X := h.mono w fun _ _ q => q
theorem Ok.nx {o : Out α} (h : Ok o P nX) (w : ∀ a s, P a s → P' a s) : Ok o P' X := h.mono w fun _ _ q => q.elim
theorem Ok.of {o : Out α} {a : α} {s : Sto} (e : o = .ok a s) (h : P a s) : Ok o P X := by with_unfolding_all rw [e]; exact h
theorem Ok.get {o : Out α} (h : Ok o P nX) : ∃ a s, o = .ok a s ∧ P a s := by with_unfolding_all
  cases o with
  | ok a s => exact ⟨a, s, rfl, h⟩
  | exc e s => exact h.elim
  | bad => exact h.elim
/-! ### expressions -/
/-- either way of a test -/
def Br (t : Bool) (A B : Prop) : Prop := (t = true → A) ∧ (t = false → B)
theorem br_true {A B : Prop} : Br true A B = A := by with_unfolding_all simp [Br]
theorem br_false {A B : Prop} : Br false A B = B := by with_unfolding_all simp [Br]
theorem br_dec {p : Prop} [Decidable p] {A B : Prop} : Br (decide p) A B = ((p → A) ∧ (¬p → B)) := by with_unfolding_all simp [Br]
theorem br_not {t : Bool} {A B : Prop} : Br (!t) A B = Br t B A := by with_unfolding_all cases t <;> simp [Br]
theorem ok_val {f : Env → Sto → Out D} {P : Bool → Sto → Prop} : Ok ((val f).t env st) P X = Ok (f env st) (fun x s => Ok (ofO (tru s x) s) P X) X := by with_unfolding_all
  show Ok ((f env st).bind _) P X = _
  rw [ok_bind]
variable {P : D → Sto → Prop} {T : Bool → Sto → Prop} {a b c e : E} {es kes : Es} {fz : Bool}
theorem ok_var {i : Nat} : Ok ((evP cx (.var i)).v env st) P X = Op env[i]? fun x => Op x fun d => P d st := by with_unfolding_all
  show Ok (match env[i]? with
    | some (some d) => .ok d st
    | _ => .bad) P X = _
  cases env[i]? with
  | none => rfl
  | some x => cases x <;> rfl
theorem ok_cst {d : D} : Ok ((evP cx (.cst d)).v env st) P X = P d st := by with_unfolding_all exact propext Iff.rfl
theorem ok_glob {x : Str} : Ok ((evP cx (.glob x)).v env st) P X = Op (cx.glob x) fun d => P d st := ok_ofO
theorem ok_tup : Ok ((evP cx (.tup es)).v env st) P X = Ok (evEs cx es env st) (fun xs s => Ok (mkT xs s) P X) X := ok_bind
theorem ok_lst : Ok ((evP cx (.lst fz es)).v env st) P X = Ok (evEs cx es env st) (fun xs s => Ok (mkL fz xs s) P X) X := ok_bind
theorem ok_bin {o : Bop} : Ok ((evP cx (.bin fz o a b)).v env st) P X = Ok ((evP cx a).v env st) (fun x s => Ok ((evP cx b).v env s) (fun y s => Ok (binD fz o x y s) P X) X) X := by with_unfolding_all
  show Ok (Out.bind _ _) P X = _
  rw [ok_bind]; simp only [ok_bind]
theorem ok_neg : Ok ((evP cx (.neg a)).v env st) P X = Ok ((evP cx a).v env st) (fun x s => Ok (match x with
    | .int i => .ok (.int (-i)) s
    | _ => .bad) P X) X := by with_unfolding_all
  show Ok (Out.bind _ _) P X = _
  rw [ok_bind] <;> rfl
theorem ok_cmp {o : Cop} : Ok ((evP cx (.cmp o a b)).v env st) P X = Ok ((evP cx a).v env st) (fun x s => Ok ((evP cx b).v env s) (fun y s => Ok (cmpD o x y s) P X) X) X := by with_unfolding_all
  show Ok (Out.bind _ _) P X = _
  rw [ok_bind]; simp only [ok_bind]
/-- a truth value's -/
def blOf : D → Option Bool
  | .bl b => some b
  | _ => none
theorem op_blOf {t : Bool} {P : Bool → Prop} : Op (blOf (.bl t)) P = P t := by with_unfolding_all exact propext Iff.rfl
theorem ok_chain {o p : Cop} : Ok ((evP cx (.chain o p a b c)).v env st) P X = Ok ((evP cx a).v env st) (fun x s => Ok ((evP cx b).v env s) (fun y s => Ok (cmpD o x y s) (fun r s => Op (blOf r) fun t => Br t (Ok ((evP cx c).v env s) (fun z s => Ok (cmpD p y z s) P X) X) (P (.bl false) s)) X) X) X := by with_unfolding_all
  show Ok (Out.bind _ _) P X = _
  rw [ok_bind]; simp only [ok_bind]
  congr 1; funext x s; congr 1; funext y s; congr 1; funext r s
  cases r with
  | bl t =>
    cases t
    · simp [blOf, Op, Br, Ok]
    · simp only [blOf, op_some, br_true]; exact ok_bind
  | _ => rfl
theorem ok_isN : Ok ((evP cx (.isN a)).v env st) P X = Ok ((evP cx a).v env st) (fun x s => P (.bl (match x with
    | .non => true
    | _ => false)) s) X := by with_unfolding_all
  show Ok (Out.bind _ _) P X = _
  rw [ok_bind] <;> rfl
theorem ok_notN : Ok ((evP cx (.notN a)).v env st) P X = Ok ((evP cx a).v env st) (fun x s => P (.bl (match x with
    | .non => false
    | _ => true)) s) X := by with_unfolding_all
  show Ok (Out.bind _ _) P X = _
  rw [ok_bind] <;> rfl
theorem ok_and : Ok ((evP cx (.and_ a b)).v env st) P X = Ok ((evP cx a).v env st) (fun x s => Op (tru s x) fun t => Br t (Ok ((evP cx b).v env s) P X) (P x s)) X := by with_unfolding_all
  show Ok (Out.bind _ _) P X = _
  rw [ok_bind]
  congr 1
  funext x s
  cases tru s x with
  | none => rfl
  | some t => cases t <;> simp [Br, Op, Ok]
theorem ok_or : Ok ((evP cx (.or_ a b)).v env st) P X = Ok ((evP cx a).v env st) (fun x s => Op (tru s x) fun t => Br t (P x s) (Ok ((evP cx b).v env s) P X)) X := by with_unfolding_all
  show Ok (Out.bind _ _) P X = _
  rw [ok_bind]
  congr 1
  funext x s
  cases tru s x with
  | none => rfl
  | some t => cases t <;> simp [Br, Op, Ok]
theorem ok_not : Ok ((evP cx (.not_ a)).v env st) P X = Ok ((evP cx a).v env st) (fun x s => Op (tru s x) fun c => P (.bl !c) s) X := by with_unfolding_all
  show Ok (Out.bind _ _) P X = _
  rw [ok_bind]; simp only [ok_ofO, op_map]
theorem ok_ifv : Ok ((evP cx (.ite c a b)).v env st) P X = Ok ((evP cx c).t env st) (fun t s => Br t (Ok ((evP cx a).v env s) P X) (Ok ((evP cx b).v env s) P X)) X := by with_unfolding_all
  show Ok (Out.bind _ _) P X = _
  rw [ok_bind]
  congr 1
  funext t s
  cases t <;> simp [Br]
theorem ok_ix : Ok ((evP cx (.ix a b)).v env st) P X = Ok ((evP cx a).v env st) (fun x s => Ok ((evP cx b).v env s) (fun y s => Ok (ixD x y s) P X) X) X := by with_unfolding_all
  show Ok (Out.bind _ _) P X = _
  rw [ok_bind]; simp only [ok_bind]
theorem ok_sl {lo hi : Eo} : Ok ((evP cx (.sl a lo hi)).v env st) P X = Ok ((evP cx a).v env st) (fun x s => Ok (evO cx lo env s) (fun l s => Ok (intB l s) (fun l s => Ok (evO cx hi env s) (fun h s => Ok (intB h s) (fun h s => Ok (slD x l h s) P X) X) X) X) X) X := by with_unfolding_all
  show Ok (Out.bind _ _) P X = _
  rw [ok_bind]; simp only [ok_bind]
theorem ok_call {f : Nat} {ks : List Nat} : Ok ((evP cx (.call fz f es ks kes)).v env st) P X = Ok (evEs cx es env st) (fun ds s => Ok (evEs cx kes env s) (fun zs s => Op (placed ds ks zs) fun ds => Ok (cx.call fz f ds s) P X) X) X := by with_unfolding_all
  show Ok (Out.bind _ _) P X = _
  rw [ok_bind]; simp only [ok_bind]
  congr 1
  funext ds s
  congr 1
  funext zs s
  cases placed ds ks zs <;> rfl
theorem op_placed {ds zs : List D} {P : List D → Prop} : Op (placed ds [] zs) P = P ds := by with_unfolding_all exact propext Iff.rfl
theorem ok_bi {o : Bi} : Ok ((evP cx (.bi fz o es)).v env st) P X = Ok (evEs cx es env st) (fun ds s => Ok (biD fz o ds s) P X) X := ok_bind
theorem ok_rev : Ok ((evP cx (.rev fz a)).v env st) P X = Ok ((evP cx a).v env st) (fun x s => Ok (revD fz x s) P X) X := ok_bind
theorem ok_tupS : Ok ((evP cx (.tupS a b)).v env st) P X = Ok ((evP cx a).v env st) (fun x s => Ok ((evP cx b).v env s) (fun y s => Op (y.seq? s) fun ys => Ok (mkT (x :: ys) s) P X) X) X := by with_unfolding_all
  show Ok (Out.bind _ _) P X = _
  rw [ok_bind]; simp only [ok_bind]
  congr 1; funext x s; congr 1; funext y s
  cases D.seq? s y <;> rfl
/-- a text's -/
def strOf : D → Option Str
  | .str z => some z
  | _ => none
theorem op_strOf {z : Str} {P : Str → Prop} : Op (strOf (.str z)) P = P z := by with_unfolding_all exact propext Iff.rfl
theorem ok_look : Ok ((evP cx (.look a b)).v env st) P X = Ok ((evP cx a).v env st) (fun x s => Op (dicO x) fun ps => Ok ((evP cx b).v env s) (fun y s => Op (strOf y) fun z => Op (lookP ps z) fun d => P d s) X) X := by with_unfolding_all
  show Ok (Out.bind _ _) P X = _
  rw [ok_bind]
  congr 1; funext x s
  cases dicO x with
  | none => rfl
  | some ps =>
    show Ok (Out.bind _ _) P X = _
    rw [ok_bind, op_some]
    congr 1; funext y s2
    cases y <;> first | rfl | (show Ok (ofO _ _) P X = _; rw [ok_ofO]; rfl)
theorem ok_glook {x : Str} {ps : List (Str × Str)} : Ok ((evP cx (.glook x ps b)).v env st) P X = Ok ((evP cx b).v env st) (fun y s => Op (strOf y) fun z => Op (ps.lookup z) fun u => P (.str u) s) X := by with_unfolding_all
  show Ok (Out.bind _ _) P X = _
  rw [ok_bind]
  congr 1; funext y s2
  cases y <;> first | rfl | (show Ok (ofO _ _) P X = _; rw [ok_ofO, op_map]; rfl)
theorem op_seqT {xs : List D} {P : List D → Prop} : Op (D.seq? st (.tup xs)) P = P xs := by with_unfolding_all exact propext Iff.rfl
theorem op_seqF {xs : List D} {P : List D → Prop} : Op (D.seq? st (.fl xs)) P = P xs := by with_unfolding_all exact propext Iff.rfl
theorem op_seqR {n : Nat} {P : List D → Prop} : Op (D.seq? st (.ref n)) P = Op st[n]? P := by with_unfolding_all exact propext Iff.rfl
theorem v_revF {xs : List D} : Ok (revD fz (.fl xs) st) P X = Ok (mkL fz xs.reverse st) P X := by with_unfolding_all exact propext Iff.rfl
theorem v_revT {xs : List D} : Ok (revD fz (.tup xs) st) P X = Ok (mkT xs.reverse st) P X := by with_unfolding_all exact propext Iff.rfl
theorem v_revR {n : Nat} : Ok (revD fz (.ref n) st) P X = Op st[n]? fun xs => Ok (mkL fz xs.reverse st) P X := by with_unfolding_all
  show Ok (match st[n]? with
    | some xs => mkL fz xs.reverse st
    | none => .bad) P X = _
  cases st[n]? <;> rfl
theorem ok_isi {ts : List Ty} : Ok ((evP cx (.isi a ts)).v env st) P X = Ok ((evP cx a).v env st) (fun x s => P (.bl (ts.any (isTy x))) s) X := by with_unfolding_all
  show Ok (Out.bind _ _) P X = _
  rw [ok_bind] <;> rfl
theorem ok_mth {m : Mt} : Ok ((evP cx (.mth fz m a es)).v env st) P X = Ok ((evP cx a).v env st) (fun x s => mtOk m x = true ∧ Ok (evEs cx es env s) (fun ds s2 => Ok (mtD fz m x ds s2) P X) X) X := by with_unfolding_all
  show Ok (Out.bind _ _) P X = _
  rw [ok_bind]
  congr 1
  funext x s
  cases mtOk m x
  · simp [Ok]
  · simp [ok_bind]
theorem ok_rg {tu : Bool} {lo : Eo} : Ok ((evP cx (.rg tu fz lo a)).v env st) P X = Ok (evO cx lo env st) (fun l s => Ok (intB l s) (fun l s => Ok ((evP cx a).v env s) (fun y s => Ok (rgD tu fz (l.getD 0) y s) P X) X) X) X := by with_unfolding_all
  show Ok (Out.bind _ _) P X = _
  rw [ok_bind]; simp only [ok_bind]
theorem ok_lc {own : List Nat} {g : G} {sr : Sr} {t : Eo} : Ok ((evP cx (.lc fz own g sr t e)).v env st) P X = Ok (evS cx sr env st) (fun p s => p.1.length ≤ lineN ∧ Ok (lcL p.2 g (evOT cx t) ((evP cx e).v) (wipe env own) p.1 s) (fun ys s => Ok (mkL fz ys s) P nX) nX) nX := by with_unfolding_all
  show Ok (nox (Out.bind _ _)) P X = _
  rw [ok_nox, ok_bind]
  congr 1
  funext p s
  split
  · rename_i h; simp only [ok_bind, h, true_and]
  · rename_i h; simp only [h, false_and]; rfl
theorem ok_lc2 {own own2 : List Nat} {g g2 : G} {sr sr2 : Sr} {t t2 : Eo} : Ok ((evP cx (.lc2 fz own own2 g sr t g2 sr2 t2 e)).v env st) P X = Ok (evS cx sr env st) (fun p s => p.1.length ≤ lineN ∧ Ok (lcL2 p.2 g (evOT cx t) (fun env1 st1 => (evS cx sr2 env1 st1).bind fun q st2 => if q.1.length ≤ lineN then lcL q.2 g2 (evOT cx t2) ((evP cx e).v) (wipe env1 own2) q.1 st2 else .bad) (wipe env own) p.1 s) (fun ys s => Ok (mkL fz ys s) P nX) nX) nX := by with_unfolding_all
  show Ok (nox (Out.bind _ _)) P X = _
  rw [ok_nox, ok_bind]
  congr 1
  funext p s
  split
  · rename_i h; simp only [ok_bind, h, true_and]
  · rename_i h; simp only [h, false_and]; rfl
/-! ### tests -/
theorem ot_and : Ok ((evP cx (.and_ a b)).t env st) T X = Ok ((evP cx a).t env st) (fun t s => Br t (Ok ((evP cx b).t env s) T X) (T false s)) X := by with_unfolding_all
  show Ok (Out.bind _ _) T X = _
  rw [ok_bind]
  congr 1
  funext t s
  cases t <;> simp [Br, Ok]
theorem ot_or : Ok ((evP cx (.or_ a b)).t env st) T X = Ok ((evP cx a).t env st) (fun t s => Br t (T true s) (Ok ((evP cx b).t env s) T X)) X := by with_unfolding_all
  show Ok (Out.bind _ _) T X = _
  rw [ok_bind]
  congr 1
  funext t s
  cases t <;> simp [Br, Ok]
theorem ot_not : Ok ((evP cx (.not_ a)).t env st) T X = Ok ((evP cx a).t env st) (fun t s => T (!t) s) X := by with_unfolding_all
  show Ok (Out.bind _ _) T X = _
  rw [ok_bind] <;> rfl
theorem ot_ite : Ok ((evP cx (.ite c a b)).t env st) T X = Ok ((evP cx c).t env st) (fun t s => Br t (Ok ((evP cx a).t env s) T X) (Ok ((evP cx b).t env s) T X)) X := by with_unfolding_all
  show Ok (Out.bind _ _) T X = _
  rw [ok_bind]
  congr 1
  funext t s
  cases t <;> simp [Br]
theorem ot_var {i : Nat} : Ok ((evP cx (.var i)).t env st) T X = Ok ((evP cx (.var i)).v env st) (fun x s => Op (tru s x) fun t => T t s) X := by with_unfolding_all simp only [← ok_ofO (X := X)]; exact ok_val
theorem ot_cst {d : D} : Ok ((evP cx (.cst d)).t env st) T X = Ok ((evP cx (.cst d)).v env st) (fun x s => Op (tru s x) fun t => T t s) X := by with_unfolding_all simp only [← ok_ofO (X := X)]; exact ok_val
theorem ot_cmp {o : Cop} : Ok ((evP cx (.cmp o a b)).t env st) T X = Ok ((evP cx (.cmp o a b)).v env st) (fun x s => Op (tru s x) fun t => T t s) X := by with_unfolding_all simp only [← ok_ofO (X := X)]; exact ok_val
theorem ot_chain {o p : Cop} : Ok ((evP cx (.chain o p a b c)).t env st) T X = Ok ((evP cx (.chain o p a b c)).v env st) (fun x s => Op (tru s x) fun t => T t s) X := by with_unfolding_all simp only [← ok_ofO (X := X)]; exact ok_val
theorem ot_isN : Ok ((evP cx (.isN a)).t env st) T X = Ok ((evP cx (.isN a)).v env st) (fun x s => Op (tru s x) fun t => T t s) X := by with_unfolding_all simp only [← ok_ofO (X := X)]; exact ok_val
theorem ot_notN : Ok ((evP cx (.notN a)).t env st) T X = Ok ((evP cx (.notN a)).v env st) (fun x s => Op (tru s x) fun t => T t s) X := by with_unfolding_all simp only [← ok_ofO (X := X)]; exact ok_val
theorem ot_rev : Ok ((evP cx (.rev fz a)).t env st) T X = Ok ((evP cx (.rev fz a)).v env st) (fun x s => Op (tru s x) fun t => T t s) X := by with_unfolding_all simp only [← ok_ofO (X := X)]; exact ok_val
theorem ot_tupS : Ok ((evP cx (.tupS a b)).t env st) T X = Ok ((evP cx (.tupS a b)).v env st) (fun x s => Op (tru s x) fun t => T t s) X := by with_unfolding_all simp only [← ok_ofO (X := X)]; exact ok_val
theorem ot_look : Ok ((evP cx (.look a b)).t env st) T X = Ok ((evP cx (.look a b)).v env st) (fun x s => Op (tru s x) fun t => T t s) X := by with_unfolding_all simp only [← ok_ofO (X := X)]; exact ok_val
theorem ot_glook {x : Str} {ps : List (Str × Str)} : Ok ((evP cx (.glook x ps b)).t env st) T X = Ok ((evP cx (.glook x ps b)).v env st) (fun x s => Op (tru s x) fun t => T t s) X := by with_unfolding_all simp only [← ok_ofO (X := X)]; exact ok_val
theorem ot_isi {ts : List Ty} : Ok ((evP cx (.isi a ts)).t env st) T X = Ok ((evP cx (.isi a ts)).v env st) (fun x s => Op (tru s x) fun t => T t s) X := by with_unfolding_all simp only [← ok_ofO (X := X)]; exact ok_val
theorem ot_call {f : Nat} {ks : List Nat} : Ok ((evP cx (.call fz f es ks kes)).t env st) T X = Ok ((evP cx (.call fz f es ks kes)).v env st) (fun x s => Op (tru s x) fun t => T t s) X := by with_unfolding_all simp only [← ok_ofO (X := X)]; exact ok_val
theorem ot_bi {o : Bi} : Ok ((evP cx (.bi fz o es)).t env st) T X = Ok ((evP cx (.bi fz o es)).v env st) (fun x s => Op (tru s x) fun t => T t s) X := by with_unfolding_all simp only [← ok_ofO (X := X)]; exact ok_val
theorem ot_ix : Ok ((evP cx (.ix a b)).t env st) T X = Ok ((evP cx (.ix a b)).v env st) (fun x s => Op (tru s x) fun t => T t s) X := by with_unfolding_all simp only [← ok_ofO (X := X)]; exact ok_val
theorem ot_bin {o : Bop} : Ok ((evP cx (.bin fz o a b)).t env st) T X = Ok ((evP cx (.bin fz o a b)).v env st) (fun x s => Op (tru s x) fun t => T t s) X := by with_unfolding_all simp only [← ok_ofO (X := X)]; exact ok_val
/-! ### several -/
variable {L : List D → Sto → Prop}
theorem os_nil : Ok (evEs cx .nil env st) L X = L [] st := by with_unfolding_all exact propext Iff.rfl
theorem os_cons : Ok (evEs cx (.cons e es) env st) L X = Ok ((evP cx e).v env st) (fun x s => Ok (evEs cx es env s) (fun xs s => L (x :: xs) s) X) X := by with_unfolding_all
  show Ok (Out.bind _ _) L X = _
  rw [ok_bind]; simp only [ok_bind, ok_ok]
theorem oo_none {P : Option D → Sto → Prop} : Ok (evO cx .none env st) P X = P none st := by with_unfolding_all exact propext Iff.rfl
theorem oo_some {P : Option D → Sto → Prop} : Ok (evO cx (.some e) env st) P X = Ok ((evP cx e).v env st) (fun x s => P (some x) s) X := by with_unfolding_all
  show Ok (Out.bind _ _) P X = _
  rw [ok_bind]; simp only [ok_ok]
theorem oi_none {P : Option Int → Sto → Prop} : Ok (intB none st) P X = P none st := by with_unfolding_all exact propext Iff.rfl
theorem oi_some {P : Option Int → Sto → Prop} {i : Int} : Ok (intB (some (.int i)) st) P X = P (some i) st := by with_unfolding_all exact propext Iff.rfl
theorem oot_none : Ok (evOT cx .none env st) T X = T true st := by with_unfolding_all exact propext Iff.rfl
theorem oot_some : Ok (evOT cx (.some e) env st) T X = Ok ((evP cx e).t env st) T X := by with_unfolding_all exact propext Iff.rfl
variable {Z : List D × Wt → Sto → Prop}
theorem or_seq : Ok (evS cx (.seq e) env st) Z X = Ok ((evP cx e).v env st) (fun x s => Op (srcD x s) fun p => Z p s) X := by with_unfolding_all
  simp only [← ok_ofO (X := X)]; exact ok_bind
theorem or_rng : Ok (evS cx (.rng es) env st) Z X = Ok (evEs cx es env st) (fun x s => Ok (rngO x s) Z X) X := ok_bind
theorem or_enum {n : Nat} : Ok (evS cx (.enum n es) env st) Z X = Ok (evEs cx es env st) (fun x s => Ok (enumO n x s) Z X) X := ok_bind
theorem or_zip : Ok (evS cx (.zip es) env st) Z X = Ok (evEs cx es env st) (fun x s => Ok (zipO x s) Z X) X := ok_bind
/-! ### statements -/
theorem Sk.mono {o : SOut} (h : Sk o k) (n : ∀ e s, k.n e s → k'.n e s) (r : ∀ d s, k.r d s → k'.r d s) (b : ∀ e s, k.b e s → k'.b e s) (c : ∀ e s, k.c e s → k'.c e s) (x : ∀ y e s, k.x y e s → k'.x y e s) : Sk o k' := by with_unfolding_all
  cases o with
  | nxt e s => exact n e s h
  | ret d s => exact r d s h
  | brk e s => exact b e s h
  | cnt e s => exact c e s h
  | exc y e s => exact x y e s h
  | bad => exact h
theorem sk_thn {o : Out α} {f : α → Sto → SOut} : Sk (o.thn env f) k = Ok o (fun a s => Sk (f a s) k) (fun x s => k.x x env s) := by with_unfolding_all cases o <;> rfl
theorem sk_nil : Sk (exSs cx .nil env st) k = k.n env st := by with_unfolding_all exact propext Iff.rfl
theorem sk_cons {s : S} {ss : Ss} : Sk (exSs cx (.cons s ss) env st) k = Sk (exS cx s env st) { k with n := fun e s1 => Sk (exSs cx ss e s1) k } := by with_unfolding_all
  show Sk (match exS cx s env st with
    | .nxt e s1 => exSs cx ss e s1
    | r => r) k = _
  cases exS cx s env st <;> rfl
theorem sk_asg {g : G} : Sk (exS cx (.asg g e) env st) k = Ok ((evP cx e).v env st) (fun d s => Op (gset g d env) fun env1 => k.n env1 s) (fun x s => k.x x env s) := by with_unfolding_all
  show Sk (Out.thn _ _ _) k = _
  rw [sk_thn]
  congr 1
  funext d s
  cases gset g d env <;> rfl
theorem op_gset {i : Nat} {d : D} {P : Env → Prop} : Op (gset (.nm i) d env) P = (i < env.length ∧ P (env.set i (some d))) := by with_unfolding_all
  rw [gset]
  split
  · rename_i h; simp [Op, h]
  · rename_i h; simp [Op, h]
theorem op_gset_tup {gs : List G} {ds : List D} {P : Env → Prop} : Op (gset (.tup gs) (.tup ds) env) P = Op (gsets gs ds env) P := by with_unfolding_all simp only [gset]
theorem op_gset_fl {gs : List G} {ds : List D} {P : Env → Prop} : Op (gset (.tup gs) (.fl ds) env) P = Op (gsets gs ds env) P := by with_unfolding_all simp only [gset]
theorem op_gsets_nil {P : Env → Prop} : Op (gsets [] [] env) P = P env := by with_unfolding_all simp only [gsets]; exact propext Iff.rfl
theorem op_gsets_cons {g : G} {gs : List G} {d : D} {ds : List D} {P : Env → Prop} : Op (gsets (g :: gs) (d :: ds) env) P = Op (gset g d env) fun e => Op (gsets gs ds e) P := by with_unfolding_all simp only [gsets, op_bind]
theorem op_sets {is : List Nat} {ds : List D} {P : Env → Prop} : Op (sets env is ds) P = ((is.length = ds.length ∧ (is.all fun i => decide (i < env.length)) = true) ∧ P (setsR env is ds)) := by with_unfolding_all
  unfold sets
  by_cases h : is.length = ds.length ∧ ∀ i ∈ is, i < env.length
  · have h2 : is.length = ds.length ∧ (is.all fun i => decide (i < env.length)) = true := ⟨h.1, by simpa using h.2⟩
    rw [if_pos h]
    simp only [h2, op_some, true_and, and_self]
  · have h2 : ¬(is.length = ds.length ∧ (is.all fun i => decide (i < env.length)) = true) := fun z => h ⟨z.1, by simpa using z.2⟩
    rw [if_neg h]
    simp only [h2, false_and]; rfl
theorem sk_par {is : List Nat} : Sk (exS cx (.par is es) env st) k = Ok (evEs cx es env st) (fun ds s => Op (sets env is ds) fun env1 => k.n env1 s) (fun x s => k.x x env s) := by with_unfolding_all
  show Sk (Out.thn _ _ _) k = _
  rw [sk_thn]
  congr 1
  funext d s
  cases sets env is d <;> rfl
theorem sk_sub {o i : E} : Sk (exS cx (.sub o i e) env st) k = Ok ((evP cx e).v env st) (fun d s => Ok (stO ((evP cx o).v) ((evP cx i).v) d env s) (fun _ s => k.n env s) (fun x s => k.x x env s)) (fun x s => k.x x env s) := by with_unfolding_all
  show Sk (Out.thn _ _ _) k = _
  rw [sk_thn]; simp only [sk_thn]; rfl
theorem ok_stO {o i : E} {d : D} {P : Unit → Sto → Prop} : Ok (stO ((evP cx o).v) ((evP cx i).v) d env st) P X = Ok ((evP cx o).v env st) (fun x s => Ok ((evP cx i).v env s) (fun y s => Op (setD x y d s) fun s3 => P () s3) X) X := by with_unfolding_all
  show Ok (Out.bind _ _) P X = _
  rw [ok_bind]; simp only [ok_bind]
  congr 1
  funext x s
  congr 1
  funext y s
  cases setD x y d s <;> rfl
theorem sk_aug {i : Nat} {o : Bop} : Sk (exS cx (.aug i o e) env st) k = Op env[i]? fun x => Op x fun x => Ok ((evP cx e).v env st) (fun y s1 => Ok (augD o x y s1) (fun z s2 => k.n (env.set i (some z)) s2) (fun x s => k.x x env s)) (fun x s => k.x x env s) := by with_unfolding_all
  show Sk (match env[i]? with
    | some (some x) => ((evP cx e).v env st).thn env fun y s1 => (augD o x y s1).thn env fun z s2 => .nxt (env.set i (some z)) s2
    | _ => .bad) k = _
  cases env[i]? with
  | none => rfl
  | some x =>
    cases x with
    | none => rfl
    | some x => simp only [Op, sk_thn]; rfl
theorem sk_augS {o i : E} {op : Bop} : Sk (exS cx (.augS o i op e) env st) k = Ok ((evP cx o).v env st) (fun x s => Ok ((evP cx i).v env s) (fun y s => Ok (ixL x y s) (fun u s => Ok ((evP cx e).v env s) (fun v s => Ok (augD op u v s) (fun z s => Op (setD x y z s) fun s6 => k.n env s6) (fun x s => k.x x env s)) (fun x s => k.x x env s)) (fun x s => k.x x env s)) (fun x s => k.x x env s)) (fun x s => k.x x env s) := by with_unfolding_all
  show Sk (Out.thn _ _ _) k = _
  rw [sk_thn]; simp only [sk_thn]
  congr 1; funext x s; congr 1; funext y s; congr 1; funext u s; congr 1; funext v s; congr 1; funext z s
  cases setD x y z s <;> rfl
theorem sk_swp {o i o2 i2 e2 : E} : Sk (exS cx (.swp o i o2 i2 (.cons e (.cons e2 .nil))) env st) k = Ok ((evP cx e).v env st) (fun x s => Ok ((evP cx e2).v env s) (fun y s => Ok (stO ((evP cx o).v) ((evP cx i).v) x env s) (fun _ s => Ok (stO ((evP cx o2).v) ((evP cx i2).v) y env s) (fun _ s => k.n env s) (fun x s => k.x x env s)) (fun x s => k.x x env s)) (fun x s => k.x x env s)) (fun x s => k.x x env s) := by with_unfolding_all
  show Sk (Out.thn _ _ _) k = _
  rw [sk_thn, os_cons]
  simp only [os_cons, os_nil, sk_thn]
  rfl
theorem sk_ex : Sk (exS cx (.ex e) env st) k = Ok ((evP cx e).v env st) (fun _ s => k.n env s) (fun x s => k.x x env s) := by with_unfolding_all exact sk_thn
theorem sk_ret : Sk (exS cx (.ret e) env st) k = Ok ((evP cx e).v env st) (fun d s => k.r d s) (fun x s => k.x x env s) := by with_unfolding_all exact sk_thn
theorem sk_ret0 : Sk (exS cx .ret0 env st) k = k.r .non st := by with_unfolding_all exact propext Iff.rfl
theorem sk_if {A B : Ss} : Sk (exS cx (.if_ c A B) env st) k = Ok ((evP cx c).t env st) (fun t s => Br t (Sk (exSs cx A env s) k) (Sk (exSs cx B env s) k)) (fun x s => k.x x env s) := by with_unfolding_all
  show Sk (Out.thn _ _ _) k = _
  rw [sk_thn]
  congr 1
  funext t s
  cases t <;> simp [Br]
theorem sk_for {g : G} {sr : Sr} {B : Ss} : Sk (exS cx (.for_ g sr B) env st) k = Ok (evS cx sr env st) (fun p s => Sk (forL p.2 g (exSs cx B) p.1 env s) k) (fun x s => k.x x env s) := by with_unfolding_all exact sk_thn
theorem sk_whil {B : Ss} : Sk (exS cx (.whil c B) env st) k = Sk (whileN ((evP cx c).t) (exSs cx B) whileFuel env st) k := by with_unfolding_all exact propext Iff.rfl
theorem sk_brk : Sk (exS cx .brk env st) k = k.b env st := by with_unfolding_all exact propext Iff.rfl
theorem sk_cnt : Sk (exS cx .cnt env st) k = k.c env st := by with_unfolding_all exact propext Iff.rfl
theorem sk_pass : Sk (exS cx .pass env st) k = k.n env st := by with_unfolding_all exact propext Iff.rfl
theorem sk_raise {n : Nat} : Sk (exS cx (.raise n es) env st) k = Ok (evEs cx es env st) (fun ds s => match ds with
    | [] => k.x ⟨n, none⟩ env s
    | [d] => k.x ⟨n, some d⟩ env s
    | _ => False) (fun x s => k.x x env s) := by with_unfolding_all
  show Sk (Out.thn _ _ _) k = _
  rw [sk_thn]
  congr 1
  funext ds s
  match ds with
  | [] => rfl
  | [_] => rfl
  | _ :: _ :: _ => rfl
theorem sk_try {b : Ss} {hs : Hs} : Sk (exS cx (.try_ b hs) env st) k = Sk (exSs cx b env st) { k with x := fun x e s => Sk (hands x hs e s) k } := by with_unfolding_all
  show Sk (match exSs cx b env st with
    | .exc x e s => hands x hs e s
    | r => r) k = _
  cases exSs cx b env st <;> rfl
theorem sk_hnil {x : Xn} : Sk (hands x .nil env st) k = k.x x env st := by with_unfolding_all exact propext Iff.rfl
theorem sk_hcons {x : Xn} {n : Nat} {nm : Option Nat} {su : Su} {hs : Hs} : Sk (hands x (.cons n nm su hs) env st) k = if n = x.c then ((nm.all fun j => decide (j < env.length)) = true ∧ Sk (suite x su nm env st) k) else Sk (hands x hs env st) k := by with_unfolding_all
  show Sk (if n = x.c then (if (nm.all fun j => decide (j < env.length)) = true then suite x su nm env st else .bad) else hands x hs env st) k = _
  split
  · split
    · rename_i h; simp [h]
    · rename_i h; simp [h, Sk]
  · rfl
/-- a name let go -/
def goneE (nm : Option Nat) (e : Env) : Env := match nm with
  | some j => e.set j none
  | none => e
theorem gone_none {e : Env} : goneE none e = e := rfl
theorem gone_some {e : Env} {j : Nat} : goneE (some j) e = e.set j none := rfl
theorem sk_suL {x : Xn} {i : Nat} {xs : Xs} {nm : Option Nat} : Sk (suite x (.asgL i xs) nm env st) k = Op (suiL x xs) fun ds => ds.length ≤ lineN ∧ i < env.length ∧ k.n (goneE nm (env.set i (some (.fl ds)))) st := by with_unfolding_all
  show Sk (match suiL x xs with
    | some ds => (match mkL true ds st with
      | .ok d s1 => if i < env.length then .nxt (match nm with
        | some j => (env.set i (some d)).set j none
        | none => env.set i (some d)) s1 else .bad
      | _ => .bad)
    | none => .bad) k = _
  cases suiL x xs with
  | none => rfl
  | some ds =>
    show Sk (match mkL true ds st with
      | .ok d s1 => if i < env.length then .nxt (match nm with
        | some j => (env.set i (some d)).set j none
        | none => env.set i (some d)) s1 else .bad
      | _ => .bad) k = (ds.length ≤ lineN ∧ i < env.length ∧ k.n (goneE nm (env.set i (some (.fl ds)))) st)
    by_cases h : ds.length ≤ lineN
    · have : mkL true ds st = .ok (.fl ds) st := by simp [mkL, h]
      rw [this]
      by_cases h2 : i < env.length
      · simp only [h, h2, if_true, true_and]
        cases nm <;> rfl
      · simp [h2, Sk]
    · have : mkL true ds st = .bad := by simp [mkL, h]
      rw [this]
      simp [h, Sk]
theorem sk_suC {x : Xn} {i : Nat} {d : D} {nm : Option Nat} : Sk (suite x (.asgC i d) nm env st) k = (i < env.length ∧ k.n (goneE nm (env.set i (some d))) st) := by with_unfolding_all
  show Sk (if i < env.length then .nxt (match nm with
      | some j => (env.set i (some d)).set j none
      | none => env.set i (some d)) st else .bad) k = _
  by_cases h2 : i < env.length
  · simp only [h2, if_true, true_and]
    cases nm <;> rfl
  · simp [h2, Sk]
theorem op_suN {x : Xn} {P : List D → Prop} : Op (suiL x .nil) P = P [] := by with_unfolding_all exact propext Iff.rfl
theorem op_suS {x : Xn} {e : Xe} {xs : Xs} {P : List D → Prop} : Op (suiL x (.cons e xs)) P = Op (suiD x e) fun d => Op (suiL x xs) fun ds => P (d :: ds) := by with_unfolding_all
  show Op ((suiD x e).bind fun d => (suiL x xs).map (d :: ·)) P = _
  rw [op_bind]
  simp only [op_map]
theorem op_suC {x : Xn} {d : D} {P : D → Prop} : Op (suiD x (.cst d)) P = P d := by with_unfolding_all exact propext Iff.rfl
theorem op_suF {x : Xn} {P : D → Prop} : Op (suiD x .fld) P = Op x.v P := by with_unfolding_all exact propext Iff.rfl
theorem op_suI {x : Xn} {cs : List Nat} {P : D → Prop} : Op (suiD x (.isi cs)) P = P (.bl (cs.contains x.c)) := by with_unfolding_all exact propext Iff.rfl
theorem op_suA {x : Xn} {cs ds : List Nat} {P : D → Prop} : Op (suiD x (.andNot cs ds)) P = P (.bl (cs.contains x.c && !ds.contains x.c)) := by with_unfolding_all exact propext Iff.rfl
end

/-! ### calls -/
section
variable {p : Prg} {k f : Nat} {fz : Bool} {ds : List D} {st : Sto} {df : Def}
abbrev cxN (p : Prg) (k : Nat) : Cx := ⟨callN p k, fun x => p.globs.lookup x⟩
/-- back with a value -/
def Kr (R : D → Sto → Prop) (X : Xn → Sto → Prop) : Kt := ⟨fun _ s => R .non s, R, fun _ _ => False, fun _ _ => False, fun x _ s => X x s⟩
theorem call_eq (hd : p.defs[f]? = some df) (h1 : ds.length = df.np) (h2 : df.np ≤ df.names.length) :
    callN p (k + 1) fz f ds st = if D.purs ds then runD fz (exSs (cxN p k) df.body (envOf df ds) []) true st else runD fz (exSs (cxN p k) df.body (envOf df ds) st) false st := by with_unfolding_all
  rw [callN_succ]
  simp only [hd, h1, h2, and_self, if_true]
/-- the arguments do not reach the store: what it hands back -/
theorem call_pure {P : D → Sto → Prop} {X : Xn → Sto → Prop} (hd : p.defs[f]? = some df) (h1 : ds.length = df.np) (h2 : df.np ≤ df.names.length) (hp : D.purs ds = true)
    (hb : Sk (exSs (cxN p k) df.body (envOf df ds) []) (Kr (fun d s => Ok (outP fz st d s) P X) fun x s => match x.v with
      | none => X x st
      | some d => d.pur = true ∧ X x st)) : Ok (callN p (k + 1) fz f ds st) P X := by with_unfolding_all
  rw [call_eq hd h1 h2, if_pos hp]
  cases e : exSs (cxN p k) df.body (envOf df ds) [] with
  | nxt e2 s =>
    rw [e] at hb
    have hb : Ok (outP fz st .non s) P X := hb
    have : outP fz st .non s = .ok .non st := by simp [outP, D.pur]
    rw [this] at hb
    exact hb
  | ret d s => rw [e] at hb; exact hb
  | brk e2 s => rw [e] at hb; exact hb
  | cnt e2 s => rw [e] at hb; exact hb
  | exc x e2 s =>
    rw [e] at hb
    have hb : match x.v with
      | none => X x st
      | some d => d.pur = true ∧ X x st := hb
    show Ok (match x.v with
      | none => .exc x st
      | some d => if d.pur then .exc x st else .bad) P X
    cases hv : x.v with
    | none => rw [hv] at hb; exact hb
    | some d =>
      rw [hv] at hb
      simp only [hb.1, if_true]
      exact hb.2
  | bad => rw [e] at hb; exact hb
/-- .. it hands back a value without references -/
theorem call_val {v : D} (hd : p.defs[f]? = some df) (h1 : ds.length = df.np) (h2 : df.np ≤ df.names.length) (hp : D.purs ds = true) (hv : v.pur = true)
    (hb : Sk (exSs (cxN p k) df.body (envOf df ds) []) (Kr (fun d _ => d = v) nX)) : callN p (k + 1) fz f ds st = .ok v st := by with_unfolding_all
  have h : Ok (callN p (k + 1) fz f ds st) (fun d s => d = v ∧ s = st) nX := by with_unfolding_all
    refine call_pure hd h1 h2 hp (hb.mono (fun e s q => ?_) (fun d s q => ?_) (fun _ _ q => q) (fun _ _ q => q) (fun x e s q => q.elim))
    · have q : D.non = v := q
      subst q
      have : outP fz st .non s = .ok .non st := by simp [outP, D.pur]
      show Ok (outP fz st .non s) (fun d s => d = .non ∧ s = st) nX
      rw [this]
      exact ⟨rfl, rfl⟩
    · have q : d = v := q
      subst q
      have : outP fz st d s = .ok d st := by simp [outP, hv]
      show Ok (outP fz st d s) _ _
      rw [this]
      exact ⟨rfl, rfl⟩
  obtain ⟨a, s, e, rfl, rfl⟩ := h.get
  exact e
/-- .. or it raises x -/
theorem call_exc {x : Xn} (hd : p.defs[f]? = some df) (h1 : ds.length = df.np) (h2 : df.np ≤ df.names.length) (hp : D.purs ds = true) (hv : ∀ d, x.v = some d → d.pur = true)
    (hb : Sk (exSs (cxN p k) df.body (envOf df ds) []) (Kr (fun _ _ => False) (fun y _ => y = x))) : callN p (k + 1) fz f ds st = .exc x st := by with_unfolding_all
  rw [call_eq hd h1 h2, if_pos hp]
  cases e : exSs (cxN p k) df.body (envOf df ds) [] with
  | nxt => rw [e] at hb; exact hb.elim
  | ret => rw [e] at hb; exact hb.elim
  | brk => rw [e] at hb; exact hb.elim
  | cnt => rw [e] at hb; exact hb.elim
  | bad => rw [e] at hb; exact hb.elim
  | exc y e2 s2 =>
    rw [e] at hb
    have hb : y = x := hb
    subst hb
    show (match y.v with
      | none => Out.exc y st
      | some d => if d.pur then .exc y st else .bad) = _
    cases ev : y.v with
    | none => rfl
    | some d => simp [hv d ev]
/-- the arguments reach the store -/
theorem call_ref {P : D → Sto → Prop} {X : Xn → Sto → Prop} (hd : p.defs[f]? = some df) (h1 : ds.length = df.np) (h2 : df.np ≤ df.names.length) (hp : D.purs ds = false)
    (hb : Sk (exSs (cxN p k) df.body (envOf df ds) st) (Kr (fun d s => Ok (outR fz st d s) P X) X)) : Ok (callN p (k + 1) fz f ds st) P X := by with_unfolding_all
  rw [call_eq hd h1 h2, if_neg (by rw [hp]; decide)]
  cases e : exSs (cxN p k) df.body (envOf df ds) st with
  | nxt e2 s => rw [e] at hb; exact hb
  | ret d s => rw [e] at hb; exact hb
  | brk e2 s => rw [e] at hb; exact hb
  | cnt e2 s => rw [e] at hb; exact hb
  | exc x e2 s => rw [e] at hb; exact hb
  | bad => rw [e] at hb; exact hb
end

/-! ### turns -/
section
variable {cx : Cx} {env : Env} {st : Sto} {X : Xn → Sto → Prop}
/-- this value, the store as it was -/
def Is {α : Type} (a : α) (st : Sto) : α → Sto → Prop := fun b s => b = a ∧ s = st
theorem is_eq {α : Type} {a : α} {o : Out α} : Ok o (Is a st) nX ↔ o = .ok a st := by with_unfolding_all
  constructor
  · intro h
    obtain ⟨b, s, e, rfl, rfl⟩ := h.get
    exact e
  · intro h
    rw [h]
    exact ⟨rfl, rfl⟩
/-- a comprehension whose items leave the store alone -/
theorem lcL_map {α : Type} {wt : Wt} {g : G} {e : Env → Sto → Out D} {enc f : α → D} : ∀ {xs : List α}, okW st wt = true → (∀ x ∈ xs, Op (gset g (enc x) env) fun env1 => Ok (e env1 st) (Is (f x) st) nX) →
    lcL wt g (evOT cx .none) e env (xs.map enc) st = .ok (xs.map f) st
  | [], hw, _ => by simp [lcL, hw]
  | d :: ds, hw, h => by with_unfolding_all
    obtain ⟨env1, e1, e2⟩ := (h d List.mem_cons_self).get
    have e2 := is_eq.mp e2
    have ih := lcL_map (xs := ds) hw fun x hx => h x (List.mem_cons_of_mem _ hx)
    have ot : evOT cx .none env1 st = .ok true st := rfl
    simp [lcL, hw, e1, ot, e2, ih]
/-- a comprehension that may write to the store: I at each turn, what each item is -/
theorem lcL_each {α : Type} {wt : Wt} {g : G} {e : Env → Sto → Out D} {enc : α → D} (I : List α → List D → Sto → Prop) : ∀ {xs : List α} {st : Sto} {done : List D}, I xs done st → (∀ xs done st, I xs done st → okW st wt = true) →
    (∀ x xs done st, I (x :: xs) done st → Op (gset g (enc x) env) fun env1 => Ok (e env1 st) (fun d s => I xs (done ++ [d]) s) nX) →
    Ok (lcL wt g (evOT cx .none) e env (xs.map enc) st) (fun ds s => I [] (done ++ ds) s) nX
  | [], st, done, h, hw, _ => by with_unfolding_all
    simp only [List.map_nil, lcL, hw _ _ _ h, if_true]
    show I [] (done ++ []) st
    rw [List.append_nil]
    exact h
  | x :: xs, st, done, h, hw, hs => by with_unfolding_all
    obtain ⟨env1, e1, e2⟩ := (hs _ _ _ _ h).get
    obtain ⟨d, s, e3, e4⟩ := e2.get
    have ih := lcL_each I (xs := xs) e4 hw hs
    have ot : evOT cx .none env1 st = .ok true st := rfl
    simp only [List.map_cons, lcL, hw _ _ _ h, if_true, e1, ot, Out.bind_ok, e3, ok_bind, ok_ok]
    refine ih.imp fun ds s q => ?_
    rw [List.append_assoc] at q
    exact q
/-- a for's turns: I at each -/
theorem forL_inv {α : Type} {wt : Wt} {g : G} {body : Env → Sto → SOut} {enc : α → D} {k : Kt} (I : List α → Env → Sto → Prop) : ∀ {xs : List α} {env : Env} {st : Sto}, I xs env st → (∀ xs env st, I xs env st → okW st wt = true) →
    (∀ x xs env st, I (x :: xs) env st → Op (gset g (enc x) env) fun env1 => Sk (body env1 st) ⟨fun e s => I xs e s, k.r, k.n, fun e s => I xs e s, k.x⟩) →
    (∀ env st, I [] env st → k.n env st) → Sk (forL wt g body (xs.map enc) env st) k
  | [], env, st, h, hw, _, hn => by with_unfolding_all
    simp only [List.map_nil, forL, hw _ _ _ h, if_true]
    exact hn _ _ h
  | x :: xs, env, st, h, hw, hs, hn => by with_unfolding_all
    obtain ⟨env1, e1, e2⟩ := (hs _ _ _ _ h).get
    simp only [List.map_cons, forL, hw _ _ _ h, if_true, e1]
    cases e : body env1 st with
    | nxt e s => rw [e] at e2; exact forL_inv I e2 hw hs hn
    | cnt e s => rw [e] at e2; exact forL_inv I e2 hw hs hn
    | brk e s => rw [e] at e2; exact e2
    | ret d s => rw [e] at e2; exact e2
    | exc x e s => rw [e] at e2; exact e2
    | bad => rw [e] at e2; exact e2.elim
end

/-! ### the data's shape -/
abbrev dI (ns : List Int) : D := .tup (ns.map .int)
abbrev dT (t : List (List Int)) : D := .tup (t.map fun r => dI r)
theorem purs_ints : ∀ ns : List Int, D.purs (ns.map .int) = true
  | [] => rfl
  | _ :: ns => by simp [D.purs, D.pur, purs_ints ns]
theorem pursM {α : Type} {f : α → D} : ∀ {xs : List α}, (∀ x ∈ xs, (f x).pur = true) → D.purs (xs.map f) = true
  | [], _ => rfl
  | x :: xs, h => by
    simp only [List.map_cons, D.purs, Bool.and_eq_true]
    exact ⟨h x List.mem_cons_self, pursM fun y hy => h y (List.mem_cons_of_mem _ hy)⟩
theorem pur_dI (ns : List Int) : (dI ns).pur = true := purs_ints ns
theorem pur_dT (t : List (List Int)) : (dT t).pur = true := pursM fun r _ => pur_dI r
theorem zip_gen {α β : Type} {f : α → D} {g : β → D} (a : List α) (b : List β) : zipD (a.map f) (b.map g) = (a.zip b).map fun p => .tup [f p.1, g p.2] := by with_unfolding_all
  simp [zipD, List.zip_map', List.zip_map, List.map_map]
theorem enum_map {α : Type} {f : α → D} : ∀ {c : Nat} {xs : List α}, enumD c (xs.map f) = (xs.zipIdx c).map fun p => .tup [.int p.2, f p.1]
  | _, [] => rfl
  | c, x :: xs => by simp [enumD, enum_map (xs := xs)]

/-! ### values -/
section
theorem ok_guard {α : Type} {c : Prop} [Decidable c] {o : Out α} {P : α → Sto → Prop} {X : Xn → Sto → Prop} : Ok (if c then o else .bad) P X = (c ∧ Ok o P X) := by with_unfolding_all
  split
  · rename_i h; simp only [h, true_and]
  · rename_i h; simp only [h, false_and]; rfl
variable {P : D → Sto → Prop} {X : Xn → Sto → Prop} {st : Sto} {fz : Bool} {i j : Int} {a b : Bool} {xs ys : List D} {n : Nat} {x y : Str}
theorem v_mkL : Ok (mkL true xs st) P X = (xs.length ≤ lineN ∧ P (.fl xs) st) := by with_unfolding_all
  exact ok_guard
theorem v_mkR : Ok (mkL false xs st) P X = (xs.length ≤ lineN ∧ P (.ref st.length) (st ++ [xs])) := by with_unfolding_all
  exact ok_guard
theorem v_mkT : Ok (mkT xs st) P X = (xs.length ≤ lineN ∧ P (.tup xs) st) := by with_unfolding_all
  exact ok_guard
theorem v_add : Ok (binD fz .add (.int i) (.int j) st) P X = P (.int (i + j)) st := by with_unfolding_all exact propext Iff.rfl
theorem v_sub : Ok (binD fz .sub (.int i) (.int j) st) P X = P (.int (i - j)) st := by with_unfolding_all exact propext Iff.rfl
theorem v_mul : Ok (binD fz .mul (.int i) (.int j) st) P X = (mulOk i j = true ∧ P (.int (i * j)) st) := by with_unfolding_all
  show Ok (if mulOk i j then .ok (.int (i * j)) st else .bad) P X = _
  exact ok_guard
theorem v_fdiv : Ok (binD fz .fdiv (.int i) (.int j) st) P X = (divOk j = true ∧ P (.int (i / j)) st) := by with_unfolding_all
  show Ok (if divOk j then .ok (.int (i / j)) st else .bad) P X = _
  exact ok_guard
theorem v_fdv : Ok (binD fz .fdv (.int i) (.int j) st) P X = (ndivOk j = true ∧ P (.int (i.fdiv j)) st) := by with_unfolding_all
  show Ok (if ndivOk j then .ok (.int (i.fdiv j)) st else .bad) P X = _
  exact ok_guard
theorem v_mdv : Ok (binD fz .mdv (.int i) (.int j) st) P X = (j ≠ 0 ∧ P (.int (i.fmod j)) st) := by with_unfolding_all
  show Ok (if j ≠ 0 then .ok (.int (i.fmod j)) st else .bad) P X = _
  exact ok_guard
theorem v_mod : Ok (binD fz .mod (.int i) (.int j) st) P X = (0 < j ∧ P (.int (i % j)) st) := by with_unfolding_all
  show Ok (if 0 < j then .ok (.int (i % j)) st else .bad) P X = _
  exact ok_guard
theorem v_pow : Ok (binD fz .pow (.int i) (.int j) st) P X = ((0 ≤ j ∧ j ≤ 1000000 ∧ i.natAbs < 2 ^ 64) ∧ P (.int (i ^ j.toNat)) st) := by with_unfolding_all
  show Ok (if 0 ≤ j ∧ j ≤ 1000000 ∧ i.natAbs < 2 ^ 64 then .ok (.int (i ^ j.toNat)) st else .bad) P X = _
  exact ok_guard
theorem v_addT : Ok (binD fz .add (.tup xs) (.tup ys) st) P X = Ok (mkT (xs ++ ys) st) P X := by with_unfolding_all exact propext Iff.rfl
theorem v_addF : Ok (binD fz .add (.fl xs) (.fl ys) st) P X = Ok (mkL fz (xs ++ ys) st) P X := by with_unfolding_all exact propext Iff.rfl
theorem v_addS : Ok (binD fz .add (.str x) (.str y) st) P X = (x.length + y.length ≤ lineN ∧ P (.str (x ++ y)) st) := by with_unfolding_all
  show Ok (if x.length + y.length ≤ lineN then .ok (.str (x ++ y)) st else .bad) P X = _
  exact ok_guard
theorem v_addFR : Ok (binD fz .add (.fl xs) (.ref n) st) P X = Op st[n]? fun ys => Ok (mkL fz (xs ++ ys) st) P X := by with_unfolding_all
  show Ok (match st[n]? with
    | some ys => mkL fz (xs ++ ys) st
    | none => .bad) P X = _
  cases st[n]? <;> rfl
theorem v_addRF : Ok (binD fz .add (.ref n) (.fl ys) st) P X = Op st[n]? fun xs => Ok (mkL fz (xs ++ ys) st) P X := by with_unfolding_all
  show Ok (match st[n]? with
    | some xs => mkL fz (xs ++ ys) st
    | none => .bad) P X = _
  cases st[n]? <;> rfl
theorem v_repT : Ok (binD fz .mul (.tup xs) (.int i) st) P X = ((-1000000 < i ∧ i < 1000000 ∧ xs.length * i.toNat ≤ lineN) ∧ P (.tup (repL xs i)) st) := by with_unfolding_all
  show Ok (if -1000000 < i ∧ i < 1000000 ∧ xs.length * i.toNat ≤ lineN then .ok (.tup (repL xs i)) st else .bad) P X = _
  exact ok_guard
theorem v_repF : Ok (binD fz .mul (.fl xs) (.int i) st) P X = ((0 ≤ i ∧ i < 1000000 ∧ xs.length * i.toNat ≤ lineN) ∧ Ok (mkL fz (repL xs i) st) P X) := by with_unfolding_all
  show Ok (if 0 ≤ i ∧ i < 1000000 ∧ xs.length * i.toNat ≤ lineN then mkL fz (repL xs i) st else .bad) P X = _
  exact ok_guard
theorem v_eqI : Ok (cmpD .eq (.int i) (.int j) st) P X = P (.bl (decide (i = j))) st := by with_unfolding_all exact propext Iff.rfl
theorem v_neI : Ok (cmpD .ne (.int i) (.int j) st) P X = P (.bl (!decide (i = j))) st := by with_unfolding_all exact propext Iff.rfl
theorem v_eqS : Ok (cmpD .eq (.str x) (.str y) st) P X = P (.bl (decide (x = y))) st := by with_unfolding_all exact propext Iff.rfl
theorem v_neS : Ok (cmpD .ne (.str x) (.str y) st) P X = P (.bl (!decide (x = y))) st := by with_unfolding_all exact propext Iff.rfl
theorem v_neB : Ok (cmpD .ne (.bl a) (.bl b) st) P X = P (.bl (a != b)) st := by with_unfolding_all
  show P (.bl !(a == b)) st = _
  rfl
theorem v_eqB : Ok (cmpD .eq (.bl a) (.bl b) st) P X = P (.bl (a == b)) st := by with_unfolding_all exact propext Iff.rfl
theorem v_lt : Ok (cmpD .lt (.int i) (.int j) st) P X = P (.bl (decide (i < j))) st := by with_unfolding_all exact propext Iff.rfl
theorem v_gt : Ok (cmpD .gt (.int i) (.int j) st) P X = P (.bl (decide (j < i))) st := by with_unfolding_all exact propext Iff.rfl
theorem not_lt_dec {i j : Int} : (!decide (i < j)) = decide (j ≤ i) := by with_unfolding_all
  by_cases h : i < j
  · simp [h, Int.not_le.mpr h]
  · simp [h, Int.not_lt.mp h]
theorem v_le : Ok (cmpD .le (.int i) (.int j) st) P X = P (.bl (decide (i ≤ j))) st := by with_unfolding_all rw [← not_lt_dec]; rfl
theorem v_ge : Ok (cmpD .ge (.int i) (.int j) st) P X = P (.bl (decide (j ≤ i))) st := by with_unfolding_all rw [← not_lt_dec]; rfl
theorem v_ne {d e : D} : Ok (cmpD .ne d e st) P X = Op (eqD st d e) fun t => P (.bl !t) st := by with_unfolding_all
  show Ok (ofO _ _) P X = _
  rw [ok_ofO, op_map]
theorem v_ixT : Ok (ixD (.tup xs) (.int i) st) P X = Op (atI xs i) fun d => P d st := ok_ofO
theorem v_ixF : Ok (ixD (.fl xs) (.int i) st) P X = Op (atI xs i) fun d => P d st := ok_ofO
theorem v_ixR : Ok (ixD (.ref n) (.int i) st) P X = Op st[n]? fun xs => Op (atI xs i) fun d => P d st := by with_unfolding_all
  show Ok (match D.seq? st (.ref n) with
    | some xs => ofO (atI xs i) st
    | none => .bad) P X = _
  show Ok (match st[n]? with
    | some xs => ofO (atI xs i) st
    | none => .bad) P X = _
  cases st[n]? with
  | none => rfl
  | some xs => exact ok_ofO
theorem v_lenT : Ok (biD fz .len [.tup xs] st) P X = P (.int xs.length) st := by with_unfolding_all exact propext Iff.rfl
theorem v_lenF : Ok (biD fz .len [.fl xs] st) P X = P (.int xs.length) st := by with_unfolding_all exact propext Iff.rfl
theorem v_lenR : Ok (biD fz .len [.ref n] st) P X = Op st[n]? fun xs => P (.int xs.length) st := by with_unfolding_all
  show Ok (ofO ((st[n]?).map fun xs => .int xs.length) st) P X = _
  rw [ok_ofO, op_map]
theorem v_tupF : Ok (biD fz .tuple [.fl xs] st) P X = P (.tup xs) st := by with_unfolding_all exact propext Iff.rfl
theorem v_tupT : Ok (biD fz .tuple [.tup xs] st) P X = P (.tup xs) st := by with_unfolding_all exact propext Iff.rfl
theorem v_tupR : Ok (biD fz .tuple [.ref n] st) P X = Op st[n]? fun xs => P (.tup xs) st := by with_unfolding_all
  show Ok (ofO ((st[n]?).map .tup) st) P X = _
  rw [ok_ofO, op_map]
theorem v_listF : Ok (biD fz .list [.fl xs] st) P X = Ok (mkL fz xs st) P X := by with_unfolding_all exact propext Iff.rfl
theorem v_listT : Ok (biD fz .list [.tup xs] st) P X = Ok (mkL fz xs st) P X := by with_unfolding_all exact propext Iff.rfl
theorem v_listR : Ok (biD fz .list [.ref n] st) P X = Op st[n]? fun xs => Ok (mkL fz xs st) P X := by with_unfolding_all
  show Ok (match st[n]? with
    | some xs => mkL fz xs st
    | none => .bad) P X = _
  cases st[n]? <;> rfl
theorem v_sumF : Ok (biD fz .sum [.fl xs] st) P X = Op (intsOf xs) fun ns => P (.int ns.sum) st := by with_unfolding_all
  show Ok (ofO ((intsOf xs).map fun ns => .int ns.sum) st) P X = _
  rw [ok_ofO, op_map]
theorem v_sumT : Ok (biD fz .sum [.tup xs] st) P X = Op (intsOf xs) fun ns => P (.int ns.sum) st := by with_unfolding_all
  show Ok (ofO ((intsOf xs).map fun ns => .int ns.sum) st) P X = _
  rw [ok_ofO, op_map]
theorem v_allF : Ok (biD fz .all [.fl xs] st) P X = Op (blsOf xs) fun bs => P (.bl (bs.all id)) st := by with_unfolding_all
  show Ok (ofO ((blsOf xs).map fun bs => .bl (bs.all id)) st) P X = _
  rw [ok_ofO, op_map]
theorem v_anyF : Ok (biD fz .any [.fl xs] st) P X = Op (blsOf xs) fun bs => P (.bl (bs.any id)) st := by with_unfolding_all
  show Ok (ofO ((blsOf xs).map fun bs => .bl (bs.any id)) st) P X = _
  rw [ok_ofO, op_map]
/-- sorted, its numbers looked at first -/
def srtO (fz : Bool) (o : Option (List Int)) (xs : List D) (st : Sto) : Out D := match o with
  | some ns => mkL fz ((sortI ns).map .int) st
  | none => if sortOk xs then mkL fz (sortD xs) st else .bad
theorem v_srtI {ns : List Int} : Ok (srtO fz (some ns) xs st) P X = Ok (mkL fz ((sortI ns).map .int) st) P X := by with_unfolding_all exact propext Iff.rfl
theorem v_sortF : Ok (biD fz .sorted [.fl xs] st) P X = Ok (srtO fz (intsOf xs) xs st) P X := by with_unfolding_all
  show Ok (match intsOf xs with
    | some ns => mkL fz ((sortI ns).map .int) st
    | none => if sortOk xs then mkL fz (sortD xs) st else .bad) P X = _
  unfold srtO
  cases intsOf xs <;> rfl
theorem v_sortR : Ok (biD fz .sorted [.ref n] st) P X = Op st[n]? fun xs => Ok (srtO fz (intsOf xs) xs st) P X := by with_unfolding_all
  show Ok (match (st[n]?).bind intsOf with
    | some ns => mkL fz ((sortI ns).map .int) st
    | none => (match st[n]? with
      | some xs => if sortOk xs then mkL fz (sortD xs) st else .bad
      | none => srtT fz (.ref n) st)) P X = _
  cases st[n]? with
  | none => rfl
  | some xs =>
    simp only [Option.bind_some, op_some]
    unfold srtO
    cases intsOf xs <;> rfl
theorem v_sortT : Ok (biD fz .sorted [.tup xs] st) P X = Op (intsOf xs) fun ns => Ok (mkL fz ((sortI ns).map .int) st) P X := by with_unfolding_all
  show Ok (match intsOf xs with
    | some ns => mkL fz ((sortI ns).map .int) st
    | none => .bad) P X = _
  cases intsOf xs <;> rfl
theorem v_abs : Ok (biD fz .abs [.int i] st) P X = P (.int (if i < 0 then -i else i)) st := by with_unfolding_all exact propext Iff.rfl
theorem v_intI : Ok (biD fz .int [.int i] st) P X = P (.int i) st := by with_unfolding_all exact propext Iff.rfl
theorem v_intB : Ok (biD fz .int [.bl a] st) P X = P (.int (if a then 1 else 0)) st := by with_unfolding_all exact propext Iff.rfl
theorem v_maxT {i : Int} {l : List Int} : Ok (biD fz .max [.tup (.int i :: l.map .int)] st) P X = P (.int (maxI i l)) st := by with_unfolding_all
  show Ok (match (some (.int i :: l.map .int : List D)).bind intsOf with
    | some (i :: r) => .ok (.int (maxI i r)) st
    | some [] => .bad
    | none => maxW (some (.int i :: l.map .int : List D)) st) P X = _
  have : intsOf (.int i :: l.map .int) = some (i :: l) := by with_unfolding_all
    have : ∀ ns : List Int, intsOf (ns.map .int) = some ns := fun ns => by
      induction ns with
      | nil => rfl
      | cons n ns ih => simp [intsOf, ih]
    exact this (i :: l)
  simp only [Option.bind_some, this]; rfl
theorem v_minT {i : Int} {l : List Int} : Ok (biD fz .min [.tup (.int i :: l.map .int)] st) P X = P (.int (minI i l)) st := by with_unfolding_all
  show Ok (match (some (.int i :: l.map .int : List D)).bind intsOf with
    | some (i :: r) => .ok (.int (minI i r)) st
    | some [] => .bad
    | none => minW (some (.int i :: l.map .int : List D)) st) P X = _
  have : intsOf (.int i :: l.map .int) = some (i :: l) := by with_unfolding_all
    have : ∀ ns : List Int, intsOf (ns.map .int) = some ns := fun ns => by
      induction ns with
      | nil => rfl
      | cons n ns ih => simp [intsOf, ih]
    exact this (i :: l)
  simp only [Option.bind_some, this]; rfl
theorem v_minF {i : Int} {l : List Int} : Ok (biD fz .min [.fl (.int i :: l.map .int)] st) P X = P (.int (minI i l)) st := v_minT (fz := fz)
theorem v_maxF {i : Int} {l : List Int} : Ok (biD fz .max [.fl (.int i :: l.map .int)] st) P X = P (.int (maxI i l)) st := v_maxT (fz := fz)
theorem v_minRT {ys ds : List D} : Ok (biD fz .min [.tup (.tup ys :: ds)] st) P X = (mnOk (.tup ys :: ds) = true ∧ P (minR (.tup ys) ds) st) := by with_unfolding_all
  show Ok (if mnOk (.tup ys :: ds) = true then .ok (minR (.tup ys) ds) st else .bad) P X = _
  by_cases h : mnOk (.tup ys :: ds) = true
  · rw [if_pos h]
    exact propext ⟨fun g => ⟨h, g⟩, fun g => g.2⟩
  · rw [if_neg h]
    exact propext ⟨fun g => g.elim, fun g => absurd g.1 h⟩
theorem v_minRF {ys ds : List D} : Ok (biD fz .min [.fl (.tup ys :: ds)] st) P X = (mnOk (.tup ys :: ds) = true ∧ P (minR (.tup ys) ds) st) := by with_unfolding_all
  show Ok (if mnOk (.tup ys :: ds) = true then .ok (minR (.tup ys) ds) st else .bad) P X = _
  by_cases h : mnOk (.tup ys :: ds) = true
  · rw [if_pos h]
    exact propext ⟨fun g => ⟨h, g⟩, fun g => g.2⟩
  · rw [if_neg h]
    exact propext ⟨fun g => g.elim, fun g => absurd g.1 h⟩
theorem v_maxRT {ys ds : List D} : Ok (biD fz .max [.tup (.tup ys :: ds)] st) P X = (mnOk (.tup ys :: ds) = true ∧ P (maxR (.tup ys) ds) st) := by with_unfolding_all
  show Ok (if mnOk (.tup ys :: ds) = true then .ok (maxR (.tup ys) ds) st else .bad) P X = _
  by_cases h : mnOk (.tup ys :: ds) = true
  · rw [if_pos h]
    exact propext ⟨fun g => ⟨h, g⟩, fun g => g.2⟩
  · rw [if_neg h]
    exact propext ⟨fun g => g.elim, fun g => absurd g.1 h⟩
theorem v_maxRF {ys ds : List D} : Ok (biD fz .max [.fl (.tup ys :: ds)] st) P X = (mnOk (.tup ys :: ds) = true ∧ P (maxR (.tup ys) ds) st) := by with_unfolding_all
  show Ok (if mnOk (.tup ys :: ds) = true then .ok (maxR (.tup ys) ds) st else .bad) P X = _
  by_cases h : mnOk (.tup ys :: ds) = true
  · rw [if_pos h]
    exact propext ⟨fun g => ⟨h, g⟩, fun g => g.2⟩
  · rw [if_neg h]
    exact propext ⟨fun g => g.elim, fun g => absurd g.1 h⟩
theorem v_max2 : Ok (biD fz .max [.int i, .int j] st) P X = P (.int (if j > i then j else i)) st := by with_unfolding_all exact propext Iff.rfl
theorem v_min2 : Ok (biD fz .min [.int i, .int j] st) P X = P (.int (if j < i then j else i)) st := by with_unfolding_all exact propext Iff.rfl
theorem v_zipTT {Z : List D × Wt → Sto → Prop} : Ok (zipO [.tup xs, .tup ys] st) Z X = Z (zipD xs ys, []) st := by with_unfolding_all exact propext Iff.rfl
theorem v_zipFT {Z : List D × Wt → Sto → Prop} : Ok (zipO [.fl xs, .tup ys] st) Z X = Z (zipD xs ys, []) st := by with_unfolding_all exact propext Iff.rfl
theorem v_zipTF {Z : List D × Wt → Sto → Prop} : Ok (zipO [.tup xs, .fl ys] st) Z X = Z (zipD xs ys, []) st := by with_unfolding_all exact propext Iff.rfl
theorem v_zipFF {Z : List D × Wt → Sto → Prop} : Ok (zipO [.fl xs, .fl ys] st) Z X = Z (zipD xs ys, []) st := by with_unfolding_all exact propext Iff.rfl
theorem v_enumT {Z : List D × Wt → Sto → Prop} {c : Nat} : Ok (enumO c [.tup xs] st) Z X = Z (enumD c xs, []) st := by with_unfolding_all exact propext Iff.rfl
theorem v_enumF {Z : List D × Wt → Sto → Prop} {c : Nat} : Ok (enumO c [.fl xs] st) Z X = Z (enumD c xs, []) st := by with_unfolding_all exact propext Iff.rfl
theorem v_rng1 {Z : List D × Wt → Sto → Prop} : Ok (rngO [.int j] st) Z X = (rgOk j = true ∧ Z (rngD 0 j.toNat, []) st) := by with_unfolding_all
  show Ok (if rgOk j then .ok (rngD 0 j.toNat, []) st else .bad) Z X = _
  exact ok_guard
theorem v_rng2 {Z : List D × Wt → Sto → Prop} : Ok (rngO [.int i, .int j] st) Z X = ((rgOk i = true ∧ rgOk j = true) ∧ Z (rngD i (j - i).toNat, []) st) := by with_unfolding_all
  show Ok (if rgOk i && rgOk j then .ok (rngD i (j - i).toNat, []) st else .bad) Z X = _
  rw [ok_guard, Bool.and_eq_true]; rfl
theorem s_tup {Z : List D × Wt → Prop} : Op (srcD (.tup xs) st) Z = Z (xs, []) := by with_unfolding_all exact propext Iff.rfl
theorem s_fl {Z : List D × Wt → Prop} : Op (srcD (.fl xs) st) Z = Z (xs, []) := by with_unfolding_all exact propext Iff.rfl
theorem s_ref {Z : List D × Wt → Prop} : Op (srcD (.ref n) st) Z = Op st[n]? fun xs => Z (xs, [(n, xs)]) := op_map
theorem t_bl {T : Bool → Prop} : Op (tru st (.bl a)) T = T a := by with_unfolding_all exact propext Iff.rfl
theorem t_int {T : Bool → Prop} : Op (tru st (.int i)) T = T (i != 0) := by with_unfolding_all exact propext Iff.rfl
theorem t_non {T : Bool → Prop} : Op (tru st .non) T = T false := by with_unfolding_all exact propext Iff.rfl
theorem t_ref {T : Bool → Prop} : Op (tru st (.ref n)) T = Op st[n]? fun xs => T (!xs.isEmpty) := op_map
theorem m_append {d : D} : Ok (mtD fz .append (.ref n) [d] st) P X = Op st[n]? fun xs => xs.length < lineN ∧ P .non (st.set n (xs ++ [d])) := by with_unfolding_all
  show Ok (match st[n]? with
    | some xs => if xs.length < lineN then .ok .non (st.set n (xs ++ [d])) else .bad
    | none => .bad) P X = _
  cases st[n]? with
  | none => rfl
  | some xs => exact ok_guard
theorem m_insert {d : D} : Ok (mtD fz .insert (.ref n) [.int i, d] st) P X = Op st[n]? fun xs => (xs.length < lineN ∧ 0 ≤ i ∧ i < 2 ^ 63) ∧ P .non (st.set n (xs.take i.toNat ++ [d] ++ xs.drop i.toNat)) := by with_unfolding_all
  show Ok (match st[n]? with
    | some xs => if xs.length < lineN ∧ 0 ≤ i ∧ i < 2 ^ 63 then .ok .non (st.set n (xs.take i.toNat ++ [d] ++ xs.drop i.toNat)) else .bad
    | none => .bad) P X = _
  cases st[n]? with
  | none => rfl
  | some xs => exact ok_guard
theorem m_pop : Ok (mtD fz .pop (.ref n) [] st) P X = Op st[n]? fun xs => Op xs.getLast? fun y => P y (st.set n xs.dropLast) := by with_unfolding_all
  show Ok (match st[n]? with
    | some xs => (match xs.getLast? with
      | some y => .ok y (st.set n xs.dropLast)
      | none => .bad)
    | none => .bad) P X = _
  cases st[n]? with
  | none => rfl
  | some xs => cases h : xs.getLast? <;> simp [Op, Ok, h]
theorem m_popAt : Ok (mtD fz .popAt (.ref n) [.int i] st) P X = Op st[n]? fun xs => Op (ixN xs.length i) fun k => Op xs[k]? fun y => P y (st.set n (xs.eraseIdx k)) := by with_unfolding_all
  show Ok (match st[n]? with
    | some xs => (match ixN xs.length i with
      | some k => (match xs[k]? with
        | some y => .ok y (st.set n (xs.eraseIdx k))
        | none => .bad)
      | none => .bad)
    | none => .bad) P X = _
  cases st[n]? with
  | none => rfl
  | some xs =>
    cases h : ixN xs.length i with
    | none => simp [Op, Ok, h]
    | some k => cases h2 : xs[k]? <;> simp [Op, Ok, h, h2]
theorem g_addI : Ok (augD .add (.int i) (.int j) st) P X = P (.int (i + j)) st := by with_unfolding_all exact propext Iff.rfl
theorem g_subI : Ok (augD .sub (.int i) (.int j) st) P X = P (.int (i - j)) st := by with_unfolding_all exact propext Iff.rfl
theorem g_mulI : Ok (augD .mul (.int i) (.int j) st) P X = (mulOk i j = true ∧ P (.int (i * j)) st) := by with_unfolding_all
  show Ok (if mulOk i j then .ok (.int (i * j)) st else .bad) P X = _
  exact ok_guard
theorem g_fdivI : Ok (augD .fdiv (.int i) (.int j) st) P X = (divOk j = true ∧ P (.int (i / j)) st) := by with_unfolding_all
  show Ok (if divOk j then .ok (.int (i / j)) st else .bad) P X = _
  exact ok_guard
theorem l_ixR : Ok (ixL (.ref n) (.int i) st) P X = Op st[n]? fun xs => Op (atI xs i) fun d => P d st := v_ixR
theorem l_ixF : Ok (ixL (.fl xs) (.int i) st) P X = Op (atI xs i) fun d => P d st := v_ixF
theorem d_ref {d : D} {T : Sto → Prop} : Op (setD (.ref n) (.int i) d st) T = Op st[n]? fun xs => Op (ixN xs.length i) fun j => T (st.set n (xs.set j d)) := by with_unfolding_all
  show Op ((st[n]?).bind fun xs => (ixN xs.length i).map fun j => st.set n (xs.set j d)) T = _
  simp only [op_bind, op_map]
theorem ints_some : ∀ ns : List Int, intsOf (ns.map .int) = some ns
  | [] => rfl
  | n :: ns => by simp [intsOf, ints_some ns]
theorem ints_map {α : Type} {f : α → Int} (l : List α) : intsOf (l.map fun x => .int (f x)) = some (l.map f) := by with_unfolding_all
  rw [← ints_some, List.map_map]; rfl
theorem bls_map {α : Type} {f : α → Bool} : ∀ l : List α, blsOf (l.map fun x => .bl (f x)) = some (l.map f)
  | [] => rfl
  | n :: ns => by simp [blsOf, bls_map ns]
theorem at_nat {α : Type} {xs : List α} {n : Nat} (h : n < xs.length) : atI xs (n : Int) = some xs[n] := by with_unfolding_all
  simp [atI, ixN, h]
theorem at_map {α β : Type} {f : α → β} {xs : List α} {i : Int} : atI (xs.map f) i = (atI xs i).map f := by with_unfolding_all
  simp only [atI, List.length_map]
  cases ixN xs.length i <;> simp
end
theorem mulOk_l {i j : Int} (h : -(2 ^ 64) < i ∧ i < 2 ^ 64) : mulOk i j = true := by with_unfolding_all simp only [mulOk, h, and_self, decide_true, Bool.true_or]
theorem mulOk_r {i j : Int} (h : -(2 ^ 64) < j ∧ j < 2 ^ 64) : mulOk i j = true := by with_unfolding_all simp only [mulOk, h, and_self, decide_true, Bool.true_or, Bool.or_true]
theorem rg_ok {i : Int} (h : -16777217 ≤ i ∧ i ≤ 16777217) : rgOk i = true := by with_unfolding_all
  simp only [rgOk, decide_eq_true_eq]; omega
theorem rg_nat {n : Nat} (h : n ≤ lineN) : rgOk (n : Int) = true := rg_ok (by
  have : lineN = 16777216 := rfl
  omega)
theorem len_rng {lo : Int} {n : Nat} : (rngD lo n).length = n := by with_unfolding_all simp [rngD]
theorem mk_pop {n : Nat} : mtOk .pop (.ref n) = true := rfl
theorem mk_popAt {n : Nat} : mtOk .popAt (.ref n) = true := rfl
theorem mk_insert {n : Nat} : mtOk .insert (.ref n) = true := rfl
theorem mk_append {n : Nat} : mtOk .append (.ref n) = true := rfl
theorem mk_extend {n : Nat} : mtOk .extend (.ref n) = true := rfl
/-! ### objects, dicts -/
section
variable {k : Kt} {cx : Cx} {env : Env} {st : Sto} {P : D → Sto → Prop} {T : Bool → Sto → Prop} {X : Xn → Sto → Prop} {a b e : E} {es : Es} {fz neg : Bool} {n : Nat} {i : Int} {d : D} {c f m : Str}
theorem ok_dnew : Ok ((evP cx .dnew).v env st) P X = P (.dct st.length) (st ++ [[]]) := by with_unfolding_all exact propext Iff.rfl
theorem ok_dnew1 : Ok ((evP cx (.dnew1 a b)).v env st) P X = Ok ((evP cx a).v env st) (fun x s => Ok ((evP cx b).v env s) (fun y s => Ok (dnewD x y s) P X) X) X := by with_unfolding_all
  show Ok (Out.bind _ _) P X = _
  rw [ok_bind]; simp only [ok_bind]
theorem v_dnew : Ok (dnewD (.int i) d st) P X = P (.dct st.length) (st ++ [[.tup [.int i, d]]]) := by with_unfolding_all exact propext Iff.rfl
theorem ok_dget : Ok ((evP cx (.dget a b)).v env st) P X = Ok ((evP cx a).v env st) (fun x s => Ok ((evP cx b).v env s) (fun y s => Ok (dgetD x y s) P X) X) X := by with_unfolding_all
  show Ok (Out.bind _ _) P X = _
  rw [ok_bind]; simp only [ok_bind]
theorem v_dget : Ok (dgetD (.dct n) (.int i) st) P X = Op st[n]? fun xs => Op (dFind xs i) fun d => P d st := by with_unfolding_all
  show Ok (match st[n]? with
    | some xs => ofO (dFind xs i) st
    | none => .bad) P X = _
  cases st[n]? with
  | none => rfl
  | some xs => exact ok_ofO
theorem ok_din : Ok ((evP cx (.din neg a b)).v env st) P X = Ok ((evP cx a).v env st) (fun x s => Ok ((evP cx b).v env s) (fun y s => Ok (dinD neg x y s) P X) X) X := by with_unfolding_all
  show Ok (Out.bind _ _) P X = _
  rw [ok_bind]; simp only [ok_bind]
theorem v_din : Ok (dinD false (.int i) (.dct n) st) P X = Op st[n]? fun xs => P (.bl (dFind xs i).isSome) st := by with_unfolding_all
  show Ok (match st[n]? with
    | some xs => .ok (.bl ((dFind xs i).isSome != false)) st
    | none => .bad) P X = _
  cases st[n]? with
  | none => rfl
  | some xs =>
    have e : ((dFind xs i).isSome != false) = (dFind xs i).isSome := by cases (dFind xs i).isSome <;> rfl
    show P (.bl ((dFind xs i).isSome != false)) st = _
    rw [e]; rfl
theorem v_dnin : Ok (dinD true (.int i) (.dct n) st) P X = Op st[n]? fun xs => P (.bl (!(dFind xs i).isSome)) st := by with_unfolding_all
  show Ok (match st[n]? with
    | some xs => .ok (.bl ((dFind xs i).isSome != true)) st
    | none => .bad) P X = _
  cases st[n]? with
  | none => rfl
  | some xs =>
    have e : ((dFind xs i).isSome != true) = !(dFind xs i).isSome := by cases (dFind xs i).isSome <;> rfl
    show P (.bl ((dFind xs i).isSome != true)) st = _
    rw [e]; rfl
theorem ok_fld : Ok ((evP cx (.fld c a f)).v env st) P X = Ok ((evP cx a).v env st) (fun x s => Ok (fldD c x f s) P X) X := ok_bind
theorem v_fld : Ok (fldD c (.obj c n) f st) P X = Op st[n]? fun xs => Op (oGet xs f) fun d => P d st := by with_unfolding_all
  show Ok (if c = c then (match st[n]? with
    | some xs => ofO (oGet xs f) st
    | none => .bad) else .bad) P X = _
  rw [if_pos rfl]
  cases st[n]? with
  | none => rfl
  | some xs => exact ok_ofO
theorem ok_new {fi : Nat} : Ok ((evP cx (.new c fi es)).v env st) P X = Ok (evEs cx es env st) (fun ds s1 => Ok (cx.call false fi (.obj c s1.length :: ds) (s1 ++ [[]])) (fun x s2 => x = .non ∧ P (.obj c s1.length) s2) X) X := by with_unfolding_all
  show Ok (Out.bind _ _) P X = _
  rw [ok_bind]; simp only [ok_bind]
  congr 1
  funext ds s1
  congr 1
  funext x s2
  cases x <;> simp [Ok]
theorem ok_mcall {fi : Nat} : Ok ((evP cx (.mcall fz c m fi a es)).v env st) P X = Ok ((evP cx a).v env st) (fun x s => mOk c m x s = true ∧ Ok (evEs cx es env s) (fun ds s2 => Ok (cx.call fz fi (x :: ds) s2) P X) X) X := by with_unfolding_all
  show Ok (Out.bind _ _) P X = _
  rw [ok_bind]
  congr 1
  funext x s
  cases mOk c m x s
  · simp [Ok]
  · simp [ok_bind]
theorem m_ok : (mOk c m (.obj c n) st = true) = Op st[n]? fun xs => oGet xs m = none := by with_unfolding_all
  show ((decide (c = c) && (match st[n]? with
    | some xs => (oGet xs m).isNone
    | none => false)) = true) = _
  rw [decide_eq_true rfl, Bool.true_and]
  cases st[n]? with
  | none => simp [Op]
  | some xs => simp [Op]
theorem ok_stF {o : E} {P : Unit → Sto → Prop} : Ok (stF c f ((evP cx o).v) d env st) P X = Ok ((evP cx o).v env st) (fun x s => Op (setfD c x f d s) fun s3 => P () s3) X := by with_unfolding_all
  show Ok (Out.bind _ _) P X = _
  rw [ok_bind]
  congr 1
  funext x s
  cases setfD c x f d s <;> rfl
theorem d_setf {Z : Sto → Prop} : Op (setfD c (.obj c n) f d st) Z = Op st[n]? fun xs => xs.length < 1000 ∧ Z (st.set n (oPut f d xs)) := by with_unfolding_all
  show Op (if c = c then (st[n]?).bind fun xs => if xs.length < 1000 then some (st.set n (oPut f d xs)) else none else none) Z = _
  rw [if_pos rfl]
  cases st[n]? with
  | none => rfl
  | some xs =>
    show Op (if xs.length < 1000 then some (st.set n (oPut f d xs)) else none) Z = _
    by_cases h : xs.length < 1000
    · rw [if_pos h]; simp [Op, h]
    · rw [if_neg h]; simp [Op, h]
theorem d_dput {Z : Sto → Prop} : Op (dputD (.dct n) (.int i) d st) Z = Op st[n]? fun xs => xs.length < lineN ∧ Z (st.set n (dPut xs i d)) := by with_unfolding_all
  show Op ((st[n]?).bind fun xs => if xs.length < lineN then some (st.set n (dPut xs i d)) else none) Z = _
  cases st[n]? with
  | none => rfl
  | some xs =>
    show Op (if xs.length < lineN then some (st.set n (dPut xs i d)) else none) Z = _
    by_cases h : xs.length < lineN
    · rw [if_pos h]; simp only [Op, h, true_and]
    · rw [if_neg h]; simp only [Op, h, false_and]
theorem sk_dput {o i : E} : Sk (exS cx (.dput o i e) env st) k = Ok ((evP cx e).v env st) (fun d s => Ok ((evP cx o).v env s) (fun x s => Ok ((evP cx i).v env s) (fun y s => Op (dputD x y d s) fun s4 => k.n env s4) (fun x s => k.x x env s)) (fun x s => k.x x env s)) (fun x s => k.x x env s) := by with_unfolding_all
  show Sk (Out.thn _ _ _) k = _
  rw [sk_thn]; simp only [sk_thn]
  congr 1; funext d s; congr 1; funext x s; congr 1; funext y s
  cases dputD x y d s <;> rfl
theorem sk_setf {o : E} : Sk (exS cx (.setf c o f e) env st) k = Ok ((evP cx e).v env st) (fun d s => Ok (stF c f ((evP cx o).v) d env s) (fun _ s => k.n env s) (fun x s => k.x x env s)) (fun x s => k.x x env s) := by with_unfolding_all
  show Sk (Out.thn _ _ _) k = _
  rw [sk_thn]; simp only [sk_thn]; rfl
theorem sk_setf2 {o o2 e2 : E} {g : Str} : Sk (exS cx (.setf2 c o f o2 g (.cons e (.cons e2 .nil))) env st) k = Ok ((evP cx e).v env st) (fun x s => Ok ((evP cx e2).v env s) (fun y s => Ok (stF c f ((evP cx o).v) x env s) (fun _ s => Ok (stF c g ((evP cx o2).v) y env s) (fun _ s => k.n env s) (fun x s => k.x x env s)) (fun x s => k.x x env s)) (fun x s => k.x x env s)) (fun x s => k.x x env s) := by with_unfolding_all
  show Sk (Out.thn _ _ _) k = _
  rw [sk_thn, os_cons]
  simp only [os_cons, os_nil, sk_thn]
  rfl
theorem ot_dget  : Ok ((evP cx (.dget a b)).t env st) T X = Ok ((evP cx (.dget a b)).v env st) (fun x s => Op (tru s x) fun t => T t s) X := by with_unfolding_all simp only [← ok_ofO (X := X)]; exact ok_val
theorem ot_din  : Ok ((evP cx (.din neg a b)).t env st) T X = Ok ((evP cx (.din neg a b)).v env st) (fun x s => Op (tru s x) fun t => T t s) X := by with_unfolding_all simp only [← ok_ofO (X := X)]; exact ok_val
theorem ot_fld  : Ok ((evP cx (.fld c a f)).t env st) T X = Ok ((evP cx (.fld c a f)).v env st) (fun x s => Op (tru s x) fun t => T t s) X := by with_unfolding_all simp only [← ok_ofO (X := X)]; exact ok_val
theorem ot_mcall {fi : Nat} : Ok ((evP cx (.mcall fz c m fi a es)).t env st) T X = Ok ((evP cx (.mcall fz c m fi a es)).v env st) (fun x s => Op (tru s x) fun t => T t s) X := by with_unfolding_all simp only [← ok_ofO (X := X)]; exact ok_val
end
end Mi
end
section
/-! MiV: plain data: numbers, rows, towns. -/
namespace Mi
/-! ### values, looked at -/
def isNum : D → Bool
  | .int _ => true
  | _ => false
def seqs : D → Option (List D)
  | .tup xs => some xs
  | .fl xs => some xs
  | _ => none
mutual
/-- lists made tuples -/
def tupD : D → D
  | .tup xs => .tup (tupDs xs)
  | .fl xs => .tup (tupDs xs)
  | .non => .non
  | .bl b => .bl b
  | .int i => .int i
  | .str x => .str x
  | .ref n => .ref n
  | .dct n => .dct n
  | .obj c n => .obj c n
def tupDs : List D → List D
  | [] => []
  | x :: xs => tupD x :: tupDs xs
end
mutual
def D.dep : D → Nat
  | .tup xs => D.deps xs + 1
  | .fl xs => D.deps xs + 1
  | _ => 0
def D.deps : List D → Nat
  | [] => 0
  | x :: xs => max (D.dep x) (D.deps xs)
end
theorem tupDs_eq : ∀ xs : List D, tupDs xs = xs.map tupD
  | [] => by simp [tupDs]
  | x :: xs => by simp [tupDs, tupDs_eq xs]
theorem deps_mem : ∀ {xs : List D} {n : Nat}, D.deps xs ≤ n → ∀ x ∈ xs, x.dep ≤ n
  | y :: ys, n, h, x, hx => by
    simp only [D.deps] at h
    rcases List.mem_cons.mp hx with e | hx
    · subst e; omega
    · exact deps_mem (by omega) x hx
theorem purs_mem : ∀ {xs : List D}, D.purs xs = true → ∀ x ∈ xs, x.pur = true
  | y :: ys, h, x, hx => by
    simp only [D.purs, Bool.and_eq_true] at h
    rcases List.mem_cons.mp hx with e | hx
    · subst e; exact h.1
    · exact purs_mem h.2 x hx
mutual
theorem tupD_pur : ∀ {d : D}, d.pur = true → (tupD d).pur = true
  | .tup xs, h => by simp only [tupD, D.pur] at *; exact tupDs_pur h
  | .fl xs, h => by simp only [tupD, D.pur] at *; exact tupDs_pur h
  | .non, _ => by simp [tupD, D.pur]
  | .bl _, _ => by simp [tupD, D.pur]
  | .int _, _ => by simp [tupD, D.pur]
  | .str _, _ => by simp [tupD, D.pur]
  | .ref _, h => by simp [D.pur] at h
  | .dct _, h => by simp [D.pur] at h
  | .obj _ _, h => by simp [D.pur] at h
theorem tupDs_pur : ∀ {xs : List D}, D.purs xs = true → D.purs (tupDs xs) = true
  | [], _ => by simp [tupDs, D.purs]
  | x :: xs, h => by
    simp only [D.purs, Bool.and_eq_true] at h
    simp only [tupDs, D.purs, Bool.and_eq_true]
    exact ⟨tupD_pur h.1, tupDs_pur h.2⟩
end
mutual
/-- every sequence in it has at most n items -/
def D.thin (n : Nat) : D → Bool
  | .tup xs => decide (xs.length ≤ n) && D.thins n xs
  | .fl xs => decide (xs.length ≤ n) && D.thins n xs
  | _ => true
def D.thins (n : Nat) : List D → Bool
  | [] => true
  | x :: xs => D.thin n x && D.thins n xs
end
theorem thins_mem : ∀ {xs : List D} {n : Nat}, D.thins n xs = true → ∀ x ∈ xs, x.thin n = true
  | y :: ys, n, h, x, hx => by
    simp only [D.thins, Bool.and_eq_true] at h
    rcases List.mem_cons.mp hx with e | hx
    · subst e; exact h.1
    · exact thins_mem h.2 x hx
/-! ### rows -/
def zSum (t : Int) (a b : List Int) : List Int := (a.zip b).map fun p => p.1 + t * p.2
def unitR (n : Nat) (p : Int) : List Int := (List.range n).map fun (i : Nat) => if (i : Int) = p then (1 : Int) else 0
def rowOk (n : Nat) (least : Int) (r : List Int) : Prop := r.length = n ∧ ∀ x ∈ r, least ≤ x
instance (n : Nat) (l : Int) (r : List Int) : Decidable (rowOk n l r) := inferInstanceAs (Decidable (_ ∧ _))
def townOk (t : List (List Int)) : Prop := t ≠ [] ∧ ∀ r ∈ t, rowOk t.length 0 r
instance (t : List (List Int)) : Decidable (townOk t) := inferInstanceAs (Decidable (_ ∧ _))
def restRow (i : Nat) (r : List Int) : List Int := (r.zipIdx).map fun q => q.1 - if i = q.2 then 1 else 0
def restR (t : List (List Int)) : List (List Int) := (t.zipIdx).map fun p => restRow p.2 p.1
/-! ### in -/
theorem fines_ints {k : Nat} : ∀ ns : List Int, D.fines k (ns.map .int) = true
  | [] => by simp [D.fines]
  | n :: ns => by simp [D.fines, D.fine, fines_ints ns]
/-! ### == of plain data -/
/-- without references, not too deep -/
def Fin (d : D) : Prop := d.pur = true ∧ D.fine 40 d = true
theorem eqD_fin {st : Sto} {a b : D} (ha : Fin a) (hb : Fin b) : eqD st a b = some (D.eqv a b) := by
  have go : (let x := deep st a; let y := deep st b; if D.fine 40 x && D.fine 40 y then some (D.eqv x y) else none) = some (D.eqv a b) := by
    simp only [deep, ha.1, hb.1, if_true, ha.2, hb.2, Bool.and_self]
  cases a <;> cases b <;> first | exact go | rfl
theorem fines_mem {k : Nat} : ∀ {xs : List D}, (∀ x ∈ xs, D.fine k x = true) → D.fines k xs = true
  | [], _ => by simp [D.fines]
  | x :: xs, h => by
    simp only [D.fines, Bool.and_eq_true]
    exact ⟨h x List.mem_cons_self, fines_mem fun y hy => h y (List.mem_cons_of_mem _ hy)⟩
theorem fine_dI {k : Nat} (l : List Int) : D.fine (k + 1) (dI l) = true := by simp only [D.fine]; exact fines_ints l
theorem fine_dT {k : Nat} (t : List (List Int)) : D.fine (k + 2) (dT t) = true := by
  simp only [D.fine]
  exact fines_mem fun x hx => by
    obtain ⟨r, _, rfl⟩ := List.mem_map.mp hx
    exact fine_dI r
theorem Fin.dI (l : List Int) : Fin (dI l) := ⟨pur_dI l, fine_dI l⟩
theorem Fin.dT (l : List (List Int)) : Fin (dT l) := ⟨pur_dT l, fine_dT l⟩
section
variable {P : D → Sto → Prop} {X : Xn → Sto → Prop} {st : Sto}
theorem v_neF {a b : D} (ha : Fin a) (hb : Fin b) : Ok (cmpD .ne a b st) P X = P (.bl (!D.eqv a b)) st := by rw [v_ne, eqD_fin ha hb, op_some]
end
end Mi
end
section
/-! MiW: towns as graphs (plain). -/
namespace Mi
/-- streets from a to b -/
def ent (t : List (List Int)) (a b : Nat) : Int := (t.getD a []).getD b 0
def Strt (t : List (List Int)) (a b : Nat) : Prop := a < t.length ∧ b < t.length ∧ 0 < ent t a b
inductive Rch (t : List (List Int)) : Nat → Nat → Prop
  | one {a b : Nat} : Strt t a b → Rch t a b
  | more {a b c : Nat} : Rch t a b → Strt t b c → Rch t a c
theorem Rch.trans {t : List (List Int)} {a b : Nat} (h : Rch t a b) : ∀ {c : Nat}, Rch t b c → Rch t a c := by
  intro c g
  induction g with
  | one s => exact .more h s
  | more _ s ih => exact .more ih s
theorem Rch.lt {t : List (List Int)} {a b : Nat} (h : Rch t a b) : a < t.length ∧ b < t.length := by
  induction h with
  | one s => exact ⟨s.1, s.2.1⟩
  | more _ s ih => exact ⟨ih.1, s.2.1⟩
/-- the new places that a row leads to -/
def fresh (F : List Int) (r : List Int) : List Int := (r.zipIdx).filterMap fun p => if 0 < p.1 ∧ (p.2 : Int) ∉ F then some (p.2 : Int) else none
theorem fresh_mem {F r : List Int} {x : Int} : x ∈ fresh F r ↔ ∃ i : Nat, i < r.length ∧ x = i ∧ 0 < r.getD i 0 ∧ x ∉ F := by
  simp only [fresh, List.mem_filterMap]
  constructor
  · rintro ⟨⟨v, i⟩, hm, h⟩
    have hm := List.mem_zipIdx hm
    simp only [Nat.zero_add, Nat.sub_zero] at hm
    split at h
    · rename_i c
      cases h
      refine ⟨i, by omega, rfl, ?_, c.2⟩
      have e := hm.2.2
      rw [List.getD_eq_getElem?_getD, List.getElem?_eq_getElem (by omega)]
      simp only [Option.getD_some]
      rw [← e]; exact c.1
    · cases h
  · rintro ⟨i, hi, rfl, h1, h2⟩
    refine ⟨(r[i], i), ?_, ?_⟩
    · rw [List.mem_iff_getElem]
      exact ⟨i, by simpa using hi, by simp⟩
    · have : 0 < r[i] := by
        rw [List.getD_eq_getElem?_getD, List.getElem?_eq_getElem hi] at h1
        exact h1
      simp [this, h2]
theorem fresh_nodup {F r : List Int} : (fresh F r).Nodup := by
  have h : ∀ (r : List Int) (c : Nat), ((r.zipIdx c).filterMap fun p => if 0 < p.1 ∧ (p.2 : Int) ∉ F then some (p.2 : Int) else none).Nodup ∧ ∀ x ∈ ((r.zipIdx c).filterMap fun p => if 0 < p.1 ∧ (p.2 : Int) ∉ F then some (p.2 : Int) else none), (c : Int) ≤ x := by
    intro r
    induction r with
    | nil => intro c; simp
    | cons v r ih =>
      intro c
      obtain ⟨h1, h2⟩ := ih (c + 1)
      simp only [List.zipIdx_cons, List.filterMap_cons]
      split
      · exact ⟨h1, fun x hx => by have := h2 x hx; omega⟩
      · rename_i e
        split at e
        · cases e
          refine ⟨List.nodup_cons.mpr ⟨fun hx => by have := h2 _ hx; omega, h1⟩, fun x hx => ?_⟩
          rcases List.mem_cons.mp hx with e | hx
          · omega
          · have := h2 x hx; omega
        · cases e
  exact (h r 0).1
/-- the places found so far (F), those still to be looked at (S) -/
structure RInv (t : List (List Int)) (a : Nat) (F S : List Int) : Prop where
  nd : F.Nodup
  rch : ∀ x ∈ F, ∃ i : Nat, x = i ∧ Rch t a i
  stk : ∀ x ∈ S, x = a ∨ x ∈ F
  cls : ∀ x : Nat, (x = a ∨ (x : Int) ∈ F) → (x : Int) ∈ S ∨ ∀ y : Nat, Strt t x y → (y : Int) ∈ F
theorem RInv.start (t : List (List Int)) (a : Nat) : RInv t a [] [(a : Int)] :=
  ⟨List.nodup_nil, fun x h => absurd h (List.not_mem_nil), fun x h => Or.inl (by simpa using h), fun x h => Or.inl (by
    rcases h with e | h
    · simp [e]
    · exact absurd h (List.not_mem_nil))⟩
theorem RInv.step {t : List (List Int)} {a : Nat} {F S : List Int} {o : Nat} (h : RInv t a F (S ++ [(o : Int)])) (ht : ∀ r ∈ t, r.length = t.length) (ha : a < t.length) : o < t.length ∧ RInv t a (F ++ fresh F (t.getD o [])) (S ++ fresh F (t.getD o [])) := by
  have ho : o < t.length := by
    rcases h.stk o (by simp) with e | e
    · have : o = a := by omega
      omega
    · obtain ⟨i, e1, e2⟩ := h.rch _ e
      have : o = i := by omega
      rw [this]; exact e2.lt.2
  have hrow : (t.getD o []).length = t.length := by
    rw [List.getD_eq_getElem?_getD, List.getElem?_eq_getElem ho]
    exact ht _ (List.getElem_mem ho)
  have hro : o = a ∨ Rch t a o := by
    rcases h.stk o (by simp) with e | e
    · left; omega
    · obtain ⟨i, e1, e2⟩ := h.rch _ e
      have : o = i := by omega
      rw [this]; exact .inr e2
  refine ⟨ho, ?_, ?_, ?_, ?_⟩
  · rw [List.nodup_append]
    refine ⟨h.nd, fresh_nodup, fun x hx y hy e => ?_⟩
    subst e
    obtain ⟨i, _, _, _, n⟩ := fresh_mem.mp hy
    exact n hx
  · intro x hx
    rcases List.mem_append.mp hx with hx | hx
    · exact h.rch x hx
    · obtain ⟨i, h1, rfl, h2, h3⟩ := fresh_mem.mp hx
      have s : Strt t o i := ⟨ho, by omega, h2⟩
      rcases hro with e | e
      · exact ⟨i, rfl, .one (e ▸ s)⟩
      · exact ⟨i, rfl, .more e s⟩
  · intro x hx
    rcases List.mem_append.mp hx with hx | hx
    · rcases h.stk x (by simp [hx]) with e | e
      · exact .inl e
      · exact .inr (by simp [e])
    · exact .inr (List.mem_append.mpr (.inr hx))
  · intro x hx
    by_cases hxo : x = o
    · right
      intro y s
      subst hxo
      by_cases hy : (y : Int) ∈ F
      · simp [hy]
      · exact List.mem_append.mpr (.inr (fresh_mem.mpr ⟨y, by have := s.2.1; omega, rfl, s.2.2, hy⟩))
    · have old : (x = a ∨ (x : Int) ∈ F) → (x : Int) ∈ S ++ fresh F (t.getD o []) ∨ ∀ y : Nat, Strt t x y → (y : Int) ∈ F ++ fresh F (t.getD o []) := by
        intro hx
        rcases h.cls x hx with e | e
        · left
          rcases List.mem_append.mp e with e | e
          · simp [e]
          · have : (x : Int) = o := by simpa using e
            exact absurd (by omega) hxo
        · right
          intro y s
          simp [e y s]
      rcases hx with e | e
      · exact old (.inl e)
      · rcases List.mem_append.mp e with e | e
        · exact old (.inr e)
        · left; exact List.mem_append.mpr (.inr e)
theorem RInv.fin {t : List (List Int)} {a : Nat} {F : List Int} (h : RInv t a F []) (x : Nat) : (x : Int) ∈ F ↔ Rch t a x := by
  constructor
  · intro hx
    obtain ⟨i, e, r⟩ := h.rch _ hx
    have : x = i := by omega
    rw [this]; exact r
  · intro r
    have cl : ∀ x : Nat, (x = a ∨ (x : Int) ∈ F) → ∀ y : Nat, Strt t x y → (y : Int) ∈ F := fun x hx => by
      rcases h.cls x hx with e | e
      · cases e
      · exact e
    induction r with
    | one s => exact cl _ (.inl rfl) _ s
    | more _ s ih => exact cl _ (.inr ih) _ s
/-- .. one by one -/
def freshS (F N : List Int) (p : Int × Nat) : List Int := if 0 < p.1 ∧ (p.2 : Int) ∉ F ++ N then N ++ [(p.2 : Int)] else N
theorem nodup_len : ∀ (n : Nat) (l : List Int), l.Nodup → (∀ x ∈ l, 0 ≤ x ∧ x < (n : Int)) → l.length ≤ n
  | 0, l, _, h => by
    cases l with
    | nil => simp
    | cons x l => have := h x List.mem_cons_self; omega
  | n + 1, l, hn, h => by
    by_cases hm : (n : Int) ∈ l
    · have e := List.length_erase_of_mem hm
      have ih := nodup_len n (l.erase (n : Int)) (hn.erase _) fun x hx => by
        have hx := (hn.mem_erase_iff).mp hx
        have := h x hx.2
        have := hx.1
        omega
      omega
    · have ih := nodup_len n l hn fun x hx => by
        have := h x hx
        have : x ≠ n := fun e => hm (e ▸ hx)
        omega
      omega
theorem RInv.len {t : List (List Int)} {a : Nat} {F S : List Int} (h : RInv t a F S) : F.length ≤ t.length := nodup_len _ _ h.nd fun x hx => by
  obtain ⟨i, e, r⟩ := h.rch x hx
  have := r.lt.2
  omega
theorem row_len {t : List (List Int)} (ht : ∀ r ∈ t, r.length = t.length) {o : Nat} (ho : o < t.length) : (t.getD o []).length = t.length := by
  rw [List.getD_eq_getElem?_getD, List.getElem?_eq_getElem ho]
  exact ht _ (List.getElem_mem ho)
theorem nodup_sub : ∀ {l m : List Int}, l.Nodup → (∀ x ∈ l, x ∈ m) → l.length ≤ m.length
  | [], _, _, _ => Nat.zero_le _
  | x :: l, m, h, hs => by
    have hn := List.nodup_cons.mp h
    have hx := hs x List.mem_cons_self
    have e := List.length_erase_of_mem hx
    have ih := nodup_sub (m := m.erase x) hn.2 fun y hy => (List.mem_erase_of_ne (fun e : y = x => hn.1 (e ▸ hy))).mpr (hs y (List.mem_cons_of_mem _ hy))
    have : 0 < m.length := List.length_pos_of_mem hx
    simp only [List.length_cons]
    omega
/-- each place is reached from each -/
def Conn (t : List (List Int)) : Prop := ∀ a b, a < t.length → b < t.length → Rch t a b
noncomputable def allR (t : List (List Int)) (a : Nat) : Bool := @decide (∀ b, b < t.length → Rch t a b) (Classical.propDecidable _)
noncomputable def connB (t : List (List Int)) : Bool := @decide (Conn t) (Classical.propDecidable _)
theorem nodup_rng (n : Nat) : ((List.range n).map fun (i : Nat) => (i : Int)).Nodup := by
  rw [List.Nodup, List.pairwise_map]
  exact List.nodup_range.imp fun h e => h (by omega)
theorem RInv.all {t : List (List Int)} {a : Nat} {F : List Int} (h : RInv t a F []) : decide (((sortI F).length : Int) = t.length) = allR t a := by
  rw [Bool.eq_iff_iff]
  simp only [allR, decide_eq_true_eq, (sortI_perm F).length_eq]
  constructor
  · intro e b hb
    refine (h.fin b).mp (Classical.byContradiction fun hn => ?_)
    have := nodup_len t.length ((b : Int) :: F) (List.nodup_cons.mpr ⟨hn, h.nd⟩) fun x hx => by
      rcases List.mem_cons.mp hx with e | hx
      · omega
      · obtain ⟨i, e, r⟩ := h.rch x hx
        have := r.lt.2
        omega
    simp only [List.length_cons] at this
    omega
  · intro hr
    have h1 := h.len
    have h2 := nodup_sub (m := F) (nodup_rng t.length) fun x hx => by
      obtain ⟨i, hi, e⟩ := List.mem_map.mp hx
      rw [← e]
      exact (h.fin i).mpr (hr i (List.mem_range.mp hi))
    simp only [List.length_map, List.length_range] at h2
    omega
end Mi
end
section
/-! MiX: the way to a place, layer by layer (plain). -/
namespace Mi
abbrev Far := List (Option Nat)
def Fnd (L : Far) (q : Nat) : Prop := ∃ d, L[q]? = some (some d)
def Cls (t : List (List Int)) (L : Far) (q : Nat) : Prop := ∀ p, Strt t p q → ∃ dp dq, L[p]? = some (some dp) ∧ L[q]? = some (some dq) ∧ dp ≤ dq + 1
structure BInv (t : List (List Int)) (g : Nat) (L : Far) : Prop where
  len : L.length = t.length
  zero : L[g]? = some (some 0)
  back : ∀ p d, L[p]? = some (some d) → (d = 0 ∧ p = g) ∨ ∃ q d', d = d' + 1 ∧ Strt t p q ∧ L[q]? = some (some d')
def noneC : Far → Nat
  | [] => 0
  | none :: l => noneC l + 1
  | some _ :: l => noneC l
/-- a place looked at: its row, its number -/
def bStep (o : Nat) (s : Far × List Int) (p : List Int × Nat) : Far × List Int :=
  if 0 < p.1.getD o 0 ∧ s.1[p.2]? = some none then (s.1.set p.2 (some ((s.1.getD o none).getD 0 + 1)), s.2 ++ [(p.2 : Int)]) else s
def rowStep (t : List (List Int)) (s : Far × List Int) (o : Int) : Far × List Int := (t.zipIdx).foldl (bStep o.toNat) s
/-- Fr: still to be looked at, s: found so far, the later ones -/
structure LInv (t : List (List Int)) (g : Nat) (Fr : List Int) (s : Far × List Int) : Prop where
  b : BInv t g s.1
  todo : ∀ x ∈ Fr, ∃ i : Nat, x = i ∧ Fnd s.1 i
  later : ∀ x ∈ s.2, ∃ i : Nat, x = i ∧ Fnd s.1 i
  cls : ∀ q : Nat, Fnd s.1 q → (q : Int) ∈ Fr ∨ (q : Int) ∈ s.2 ∨ Cls t s.1 q
  lay : ∃ D, (∀ i : Nat, (i : Int) ∈ Fr → s.1[i]? = some (some D)) ∧ (∀ i : Nat, (i : Int) ∈ s.2 → s.1[i]? = some (some (D + 1))) ∧ ∀ (p d : Nat), s.1[p]? = some (some d) → d ≤ D + 1
theorem set_get {L : Far} {p q : Nat} {v : Option Nat} : (L.set p v)[q]? = if p = q ∧ q < L.length then some v else L[q]? := by
  rw [List.getElem?_set]
  by_cases h : p = q
  · subst h
    by_cases hl : p < L.length
    · simp [hl]
    · simp [hl]
  · simp [h]
/-- the next layer -/
theorem LInv.next {t : List (List Int)} {g : Nat} {s : Far × List Int} (h : LInv t g [] s) : LInv t g s.2 (s.1, []) :=
  ⟨h.b, h.later, fun x hx => absurd hx List.not_mem_nil, fun q hq => by
    rcases h.cls q hq with z | z | z
    · exact absurd z List.not_mem_nil
    · exact .inl z
    · exact .inr (.inr z), by
    obtain ⟨D, l1, l2, l3⟩ := h.lay
    exact ⟨D + 1, l2, fun i hi => absurd hi List.not_mem_nil, fun p d e => by have := l3 p d e; omega⟩⟩
theorem LInv.start {t : List (List Int)} {g : Nat} (hg : g < t.length) : LInv t g [(g : Int)] ((List.replicate t.length none).set g (some 0), []) := by
  have e0 : ((List.replicate t.length (none : Option Nat)).set g (some 0))[g]? = some (some 0) := by
    rw [set_get, if_pos ⟨rfl, by simpa using hg⟩]
  have one : ∀ {q d : Nat}, ((List.replicate t.length (none : Option Nat)).set g (some 0))[q]? = some (some d) → q = g ∧ d = 0 := fun {q d} e => by
    rw [set_get] at e
    split at e
    · rename_i z
      cases e
      exact ⟨z.1.symm, rfl⟩
    · rw [List.getElem?_replicate] at e
      split at e <;> cases e
  refine ⟨⟨by simp, e0, fun p d e => .inl ⟨(one e).2, (one e).1⟩⟩, fun x hx => ⟨g, by simpa using hx, 0, e0⟩, fun x hx => absurd hx List.not_mem_nil, fun q ⟨d, e⟩ => .inl ?_, 0, fun i hi => ?_, fun i hi => absurd hi List.not_mem_nil, fun p d e => by rw [(one e).2]; omega⟩
  rotate_left
  · have : (i : Int) = g := by simpa using hi
    have : i = g := by omega
    rw [this]; exact e0
  rw [(one e).1]
  exact List.mem_cons_self
/-- a way of so many streets -/
inductive Wk (t : List (List Int)) : Nat → Nat → Nat → Prop
  | nil {a : Nat} : a < t.length → Wk t a a 0
  | cons {a b c m : Nat} : Strt t a b → Wk t b c m → Wk t a c (m + 1)
theorem Wk.rch {t : List (List Int)} : ∀ {m a b : Nat}, Wk t a b (m + 1) → Rch t a b
  | 0, _, _, .cons s w => by cases w; exact .one s
  | m + 1, _, _, .cons s w => by
    have := Wk.rch w
    exact (Rch.one s).trans this
theorem Rch.wk {t : List (List Int)} {a b : Nat} (h : Rch t a b) : ∃ m, Wk t a b (m + 1) := by
  have app : ∀ {m a b c : Nat}, Wk t a b m → Strt t b c → Wk t a c (m + 1) := by
    intro m a b c w
    induction w with
    | nil h => exact fun s => .cons s (.nil s.2.1)
    | cons s w ih => exact fun s2 => .cons s (ih s2)
  induction h with
  | one s => exact ⟨0, .cons s (.nil s.2.1)⟩
  | more _ s ih =>
    obtain ⟨m, w⟩ := ih
    exact ⟨m + 1, app w s⟩
/-- the table of how far it is -/
structure FarOk (t : List (List Int)) (g : Nat) (L : Far) : Prop where
  len : L.length = t.length
  zero : L[g]? = some (some 0)
  back : ∀ p d, L[p]? = some (some d) → (d = 0 ∧ p = g) ∨ ∃ q d', d = d' + 1 ∧ Strt t p q ∧ L[q]? = some (some d')
  step : ∀ p q dq, Strt t p q → L[q]? = some (some dq) → ∃ dp, L[p]? = some (some dp) ∧ dp ≤ dq + 1
theorem LInv.far {t : List (List Int)} {g : Nat} {L : Far} (h : LInv t g [] (L, [])) : FarOk t g L :=
  ⟨h.b.len, h.b.zero, h.b.back, fun p q dq s e => by
    rcases h.cls q ⟨dq, e⟩ with z | z | z
    · exact absurd z List.not_mem_nil
    · exact absurd z List.not_mem_nil
    · obtain ⟨dp, d2, z1, z2, z3⟩ := z p s
      have : d2 = dq := by
        have z2 : L[q]? = some (some d2) := z2
        rw [z2] at e; simpa using e
      exact ⟨dp, z1, by omega⟩⟩
theorem FarOk.le {t : List (List Int)} {g : Nat} {L : Far} (h : FarOk t g L) {p m : Nat} (w : Wk t p g m) : ∃ d, L[p]? = some (some d) ∧ d ≤ m := by
  have go : ∀ {m p q : Nat}, Wk t p q m → q = g → ∃ d, L[p]? = some (some d) ∧ d ≤ m := by
    intro m p q w
    induction w with
    | nil _ => exact fun e => ⟨0, e ▸ h.zero, Nat.le_refl _⟩
    | cons s w ih =>
      intro e
      obtain ⟨d, e1, e2⟩ := ih e
      obtain ⟨dp, e3, e4⟩ := h.step _ _ _ s e1
      exact ⟨dp, e3, by omega⟩
  exact go w rfl
theorem FarOk.wk {t : List (List Int)} {g : Nat} {L : Far} (h : FarOk t g L) (hg : g < t.length) : ∀ {d p : Nat}, L[p]? = some (some d) → Wk t p g d
  | 0, p, e => by
    rcases h.back p 0 e with ⟨_, rfl⟩ | ⟨q, d', e1, _⟩
    · exact .nil hg
    · omega
  | d + 1, p, e => by
    rcases h.back p (d + 1) e with ⟨e1, _⟩ | ⟨q, d', e1, s, e2⟩
    · omega
    · have : d' = d := by omega
      subst this
      exact .cons s (h.wk hg e2)
/-- the steps down: all places are unlike -/
theorem FarOk.down {t : List (List Int)} {g : Nat} {L : Far} (h : FarOk t g L) : ∀ {d p : Nat}, L[p]? = some (some d) → ∃ l : List Int, l.length = d + 1 ∧ l.Nodup ∧ ∀ x ∈ l, ∃ i : Nat, x = i ∧ i < t.length ∧ ∃ e, L[i]? = some (some e) ∧ e ≤ d := by
  have lt : ∀ {p d : Nat}, L[p]? = some (some d) → p < t.length := fun {p d} e => by
    rcases Nat.lt_or_ge p L.length with q | q
    · exact h.len ▸ q
    · rw [List.getElem?_eq_none q] at e; cases e
  intro d
  induction d with
  | zero => exact fun {p} e => ⟨[(p : Int)], rfl, by simp, fun x hx => ⟨p, by simpa using hx, lt e, 0, e, Nat.le_refl _⟩⟩
  | succ d ih =>
    intro p e
    rcases h.back p (d + 1) e with ⟨e1, _⟩ | ⟨q, d', e1, s, e2⟩
    · omega
    · have : d' = d := by omega
      subst this
      obtain ⟨l, l1, l2, l3⟩ := ih e2
      refine ⟨(p : Int) :: l, by simp [l1], List.nodup_cons.mpr ⟨fun hm => ?_, l2⟩, fun x hx => ?_⟩
      · obtain ⟨i, a, b, c, d1, d2⟩ := l3 _ hm
        have : p = i := by omega
        subst this
        rw [e] at d1
        have : d' + 1 = c := by simpa using d1
        omega
      · rcases List.mem_cons.mp hx with e3 | hx
        · exact ⟨p, e3, lt e, _, e, Nat.le_refl _⟩
        · obtain ⟨i, a, b, c, d1, d2⟩ := l3 _ hx
          exact ⟨i, a, b, c, d1, by omega⟩
theorem FarOk.lt {t : List (List Int)} {g : Nat} {L : Far} (h : FarOk t g L) {d p : Nat} (e : L[p]? = some (some d)) : d < t.length := by
  obtain ⟨l, l1, l2, l3⟩ := h.down e
  have := nodup_len t.length l l2 fun x hx => by
    obtain ⟨i, a, b, _⟩ := l3 x hx
    omega
  omega
def encO : Option Nat → D
  | none => .non
  | some d => .int d
abbrev farD (L : Far) : D := .fl (L.map encO)
theorem okW1 {st : Sto} {n : Nat} {xs : List D} (h : st[n]? = some xs) : okW st [(n, xs)] = true := by
  simp [okW, h, D.beqs_refl]
theorem ixN_nat {n i : Nat} (h : i < n) : ixN n (i : Int) = some i := by
  simp [ixN, h]
/-- a list: by value, or in the store, not first -/
def LstAt (st : Sto) (fr : D) (xs : List D) : Prop := fr = .fl xs ∨ ∃ j, fr = .ref j ∧ 0 < j ∧ st[j]? = some xs
theorem LstAt.len {st : Sto} {fr : D} {xs : List D} (h : LstAt st fr xs) {fz : Bool} {P : D → Sto → Prop} {X : Xn → Sto → Prop} (hp : P (.int xs.length) st) : Ok (biD fz .len [fr] st) P X := by with_unfolding_all
  rcases h with e | ⟨j, e, _, hj⟩
  · subst e; exact hp
  · subst e; rw [v_lenR, hj]; exact hp
theorem LstAt.src {st : Sto} {fr : D} {xs : List D} (h : LstAt st fr xs) : ∃ wt, srcD fr st = some (xs, wt) ∧ okW st wt = true ∧ ∀ p ∈ wt, p.1 ≠ 0 ∧ p.1 < st.length := by
  rcases h with e | ⟨j, e, h0, hj⟩
  · subst e; exact ⟨[], rfl, rfl, fun p hp => absurd hp List.not_mem_nil⟩
  · subst e
    refine ⟨[(j, xs)], by simp [srcD, hj], okW1 hj, fun p hp => ?_⟩
    have : p = (j, xs) := by simpa using hp
    subst this
    refine ⟨Nat.ne_of_gt h0, ?_⟩
    rcases Nat.lt_or_ge j st.length with q | q
    · exact q
    · rw [List.getElem?_eq_none q] at hj; cases hj
theorem LstAt.push {st : Sto} {fr : D} {xs ys : List D} (h : LstAt st fr xs) : LstAt (st ++ [ys]) fr xs := by
  rcases h with e | ⟨j, e, h0, hj⟩
  · exact .inl e
  · refine .inr ⟨j, e, h0, ?_⟩
    have : j < st.length := by
      rcases Nat.lt_or_ge j st.length with q | q
      · exact q
      · rw [List.getElem?_eq_none q] at hj; cases hj
    rw [List.getElem?_append_left this]
    exact hj
end Mi
end
section
/-! MiY: shortest ways; walkers that part (plain). -/
namespace Mi
/-! ### the next place -/
def npS (L : Far) (s : Option Nat) (p : Int × Nat) : Option Nat :=
  match L.getD p.2 none with
  | none => s
  | some d => match s with
    | none => if 0 < p.1 then some p.2 else none
    | some q => if 0 < p.1 ∧ d < (L.getD q none).getD 0 then some p.2 else some q
def nextP (t : List (List Int)) (L : Far) (p : Nat) : Option Nat := ((t.getD p []).zipIdx).foldl (npS L) none
def encN : Option Nat → Int
  | none => -1
  | some q => q
theorem encN_none : encN none = -1 := rfl
theorem encN_some {q : Nat} : encN (some q) = q := rfl
theorem encO_none : encO none = .non := rfl
theorem encO_some {q : Nat} : encO (some q) = .int q := rfl
/-- the nearest of the next places, the least of these -/
def Best (t : List (List Int)) (L : Far) (p q : Nat) : Prop := Strt t p q ∧ ∃ d, L[q]? = some (some d) ∧ ∀ q' d', Strt t p q' → L[q']? = some (some d') → d < d' ∨ (d = d' ∧ q ≤ q')
theorem far_get {L : Far} {q d : Nat} (h : L[q]? = some (some d)) : L.getD q none = some d := by rw [List.getD_eq_getElem?_getD, h]; rfl
theorem far_some {L : Far} {q d : Nat} (h : L.getD q none = some d) : L[q]? = some (some d) := by
  rw [List.getD_eq_getElem?_getD] at h
  cases e : L[q]? with
  | none => rw [e] at h; cases h
  | some x => rw [e] at h; exact congrArg some h
theorem np_fold (L : Far) : ∀ (r : List Int) (c : Nat) (s : Option Nat) (B : Nat → Nat → Prop), (∀ q d, B q d → L[q]? = some (some d)) → (∀ q d, B q d → q < c) →
    (match s with
      | none => ∀ q d, ¬B q d
      | some q => ∃ d, B q d ∧ ∀ q' d', B q' d' → d < d' ∨ (d = d' ∧ q ≤ q')) →
    (match (r.zipIdx c).foldl (npS L) s with
      | none => ∀ q d, ¬(B q d ∨ (c ≤ q ∧ q < c + r.length ∧ 0 < r.getD (q - c) 0 ∧ L[q]? = some (some d)))
      | some q => ∃ d, (B q d ∨ (c ≤ q ∧ q < c + r.length ∧ 0 < r.getD (q - c) 0 ∧ L[q]? = some (some d))) ∧ ∀ q' d', (B q' d' ∨ (c ≤ q' ∧ q' < c + r.length ∧ 0 < r.getD (q' - c) 0 ∧ L[q']? = some (some d'))) → d < d' ∨ (d = d' ∧ q ≤ q'))
  | [], c, s, B, _, _, h => by
    have e : ∀ q d, (B q d ∨ (c ≤ q ∧ q < c + ([] : List Int).length ∧ 0 < ([] : List Int).getD (q - c) 0 ∧ L[q]? = some (some d))) ↔ B q d := fun q d => ⟨fun z => z.elim id fun z => by simp at z, .inl⟩
    simp only [List.zipIdx_nil, List.foldl_nil, e]
    exact h
  | v :: r, c, s, B, hB, hc, h => by
    simp only [List.zipIdx_cons, List.foldl_cons]
    have key := np_fold L r (c + 1) (npS L s (v, c)) (fun q d => B q d ∨ (q = c ∧ 0 < v ∧ L[q]? = some (some d)))
      (fun q d z => z.elim (hB q d) fun z => z.2.2) (fun q d z => z.elim (fun z => by have := hc q d z; omega) fun z => by omega) ?_
    · have e : ∀ q d, ((B q d ∨ (q = c ∧ 0 < v ∧ L[q]? = some (some d))) ∨ (c + 1 ≤ q ∧ q < c + 1 + r.length ∧ 0 < r.getD (q - (c + 1)) 0 ∧ L[q]? = some (some d))) ↔ (B q d ∨ (c ≤ q ∧ q < c + (v :: r).length ∧ 0 < (v :: r).getD (q - c) 0 ∧ L[q]? = some (some d))) := fun q d => by
        constructor
        · rintro ((z | ⟨rfl, z1, z2⟩) | ⟨z1, z2, z3, z4⟩)
          · exact .inl z
          · exact .inr ⟨Nat.le_refl _, by simp, by simpa using z1, z2⟩
          · refine .inr ⟨by omega, by simp only [List.length_cons]; omega, ?_, z4⟩
            have : q - c = (q - (c + 1)) + 1 := by omega
            rw [this, List.getD_cons_succ]; exact z3
        · rintro (z | ⟨z1, z2, z3, z4⟩)
          · exact .inl (.inl z)
          · by_cases hq : q = c
            · subst hq
              exact .inl (.inr ⟨rfl, by simpa using z3, z4⟩)
            · have : q - c = (q - (c + 1)) + 1 := by omega
              rw [this, List.getD_cons_succ] at z3
              exact .inr ⟨by omega, by simp only [List.length_cons] at z2; omega, z3, z4⟩
      simp only [e] at key
      exact key
    · cases hL : L.getD c none with
      | none =>
        have hn : ∀ d, L[c]? ≠ some (some d) := fun d z => by rw [far_get z] at hL; cases hL
        have e : ∀ q d, (B q d ∨ (q = c ∧ 0 < v ∧ L[q]? = some (some d))) ↔ B q d := fun q d => ⟨fun z => z.elim id fun z => by obtain ⟨rfl, _, z⟩ := z; exact absurd z (hn d), .inl⟩
        have e2 : npS L s (v, c) = s := by simp only [npS, hL]
        simp only [e, e2]
        exact h
      | some d =>
        have hd := far_some hL
        by_cases hv : 0 < v
        · cases s with
          | none =>
            have e2 : npS L none (v, c) = some c := by simp only [npS, hL, hv, if_true]
            simp only [e2]
            refine ⟨d, .inr ⟨trivial, hv, hd⟩, fun q' d' z => ?_⟩
            rcases z with z | ⟨rfl, _, z⟩
            · exact absurd z (h q' d')
            · rw [hd] at z
              right; exact ⟨by simpa using z, Nat.le_refl _⟩
          | some q =>
            obtain ⟨dq, b1, b2⟩ := h
            have eq := far_get (hB q dq b1)
            by_cases lt : d < dq
            · have e2 : npS L (some q) (v, c) = some c := by simp only [npS, hL, hv, eq, Option.getD_some, lt, and_self, if_true]
              simp only [e2]
              refine ⟨d, .inr ⟨trivial, hv, hd⟩, fun q' d' z => ?_⟩
              rcases z with z | ⟨rfl, _, z⟩
              · have := b2 q' d' z
                omega
              · rw [hd] at z
                right; exact ⟨by simpa using z, Nat.le_refl _⟩
            · have e2 : npS L (some q) (v, c) = some q := by simp only [npS, hL, hv, eq, Option.getD_some, lt, and_false, if_false]
              simp only [e2]
              refine ⟨dq, .inl b1, fun q' d' z => ?_⟩
              rcases z with z | ⟨rfl, _, z⟩
              · exact b2 q' d' z
              · rw [hd] at z
                have : d = d' := by simpa using z
                have := hc q dq b1
                omega
        · have e : ∀ q d, (B q d ∨ (q = c ∧ 0 < v ∧ L[q]? = some (some d))) ↔ B q d := fun q d => ⟨fun z => z.elim id fun z => absurd z.2.1 hv, .inl⟩
          have e2 : npS L s (v, c) = s := by cases s <;> simp only [npS, hL, hv, false_and, if_false]
          simp only [e, e2]
          exact h
theorem nextP_ok {t : List (List Int)} {L : Far} {p : Nat} (ht : ∀ r ∈ t, r.length = t.length) (hp : p < t.length) : match nextP t L p with
    | none => ∀ q d, Strt t p q → L[q]? ≠ some (some d)
    | some q => Best t L p q := by
  have k := np_fold L (t.getD p []) 0 none (fun _ _ => False) (fun _ _ z => z.elim) (fun _ _ z => z.elim) (fun _ _ z => z)
  have e : ∀ q d, (False ∨ (0 ≤ q ∧ q < 0 + (t.getD p []).length ∧ 0 < (t.getD p []).getD (q - 0) 0 ∧ L[q]? = some (some d))) ↔ (Strt t p q ∧ L[q]? = some (some d)) := fun q d => by
    rw [row_len ht hp]
    simp only [false_or, Nat.zero_le, true_and, Nat.zero_add, Nat.sub_zero]
    exact ⟨fun z => ⟨⟨hp, z.1, z.2.1⟩, z.2.2⟩, fun z => ⟨z.1.2.1, z.1.2.2, z.2⟩⟩
  simp only [e] at k
  unfold nextP
  cases h : ((t.getD p []).zipIdx).foldl (npS L) none with
  | none =>
    rw [h] at k
    exact fun q d s z => k q d ⟨s, z⟩
  | some q =>
    rw [h] at k
    obtain ⟨d, k1, k2⟩ := k
    exact ⟨k1.1, d, k1.2, fun q' d' s z => k2 q' d' ⟨s, z⟩⟩
/-! ### the way -/
/-- the places behind the first, each the best, to the goal -/
inductive Greedy (t : List (List Int)) (L : Far) (g : Nat) : Nat → List Nat → Prop
  | last {p : Nat} : Best t L p g → Greedy t L g p [g]
  | step {p q : Nat} {l : List Nat} : Best t L p q → q ≠ g → Greedy t L g q l → Greedy t L g p (q :: l)
/-- the streets of a way -/
def wayS : Nat → List Nat → List (List Int)
  | _, [] => []
  | p, q :: l => [(p : Int), (q : Int), 0] :: wayS q l
/-- it ends in so many steps as it is far -/
theorem greedy_some {t : List (List Int)} {L : Far} {g : Nat} (h : FarOk t g L) (ht : ∀ r ∈ t, r.length = t.length) : ∀ {d p q : Nat}, Strt t p q → L[q]? = some (some d) → ∃ l, Greedy t L g p l ∧ l.length ≤ d + 1 := by
  intro d
  induction d using Nat.strongRecOn with
  | _ d ih =>
    intro p q s e
    have k := nextP_ok (L := L) ht s.1
    cases hn : nextP t L p with
    | none => rw [hn] at k; exact absurd e (k q d s)
    | some b =>
      rw [hn] at k
      by_cases hb : b = g
      · subst hb
        exact ⟨[b], .last k, by simp⟩
      · obtain ⟨db, e1, e2⟩ := k.2
        rcases h.back b db e1 with ⟨_, z⟩ | ⟨c, dc, z1, z2, z3⟩
        · exact absurd z hb
        · have : db ≤ d := by have := e2 q d s e; omega
          obtain ⟨l, g1, g2⟩ := ih dc (by omega) z2 z3
          exact ⟨b :: l, .step k hb g1, by simp only [List.length_cons]; omega⟩
/-- a way whatever -/
inductive Way (t : List (List Int)) (g : Nat) : Nat → List Nat → Prop
  | last {p : Nat} : Strt t p g → Way t g p [g]
  | step {p q : Nat} {l : List Nat} : Strt t p q → Way t g q l → Way t g p (q :: l)
theorem Greedy.way {t : List (List Int)} {L : Far} {g : Nat} : ∀ {p : Nat} {l : List Nat}, Greedy t L g p l → Way t g p l := by
  intro p l h
  induction h with
  | last b => exact .last b.1
  | step b _ _ ih => exact .step b.1 ih
/-! ### walkers -/
abbrev Vec := Nat → Int
def restV (t : List (List Int)) (p : Nat) : Vec := fun i => ent t p i - if p = i then 1 else 0
def rsum (t : List (List Int)) (p : Nat) : Int := (t.getD p []).sum
def Pass (t : List (List Int)) : Vec → List Nat → Prop
  | _, [] => True
  | v, p :: ps => 1 ≤ v p ∧ 0 < rsum t p ∧ Pass t (fun i => v i + restV t p i) ps
def chg (t : List (List Int)) (ps : List Nat) : Vec := fun i => (ps.map fun p => restV t p i).sum
def unitV (a : Nat) : Vec := fun i => if a = i then 1 else 0
theorem Pass.mono {t : List (List Int)} : ∀ {ps : List Nat} {v w : Vec}, (∀ i, v i ≤ w i) → Pass t v ps → Pass t w ps
  | [], _, _, _, _ => trivial
  | p :: ps, v, w, h, ⟨a, b, c⟩ => ⟨Int.le_trans a (h p), b, c.mono fun i => by have := h i; omega⟩
theorem chg_cons {t : List (List Int)} {p : Nat} {ps : List Nat} {i : Nat} : chg t (p :: ps) i = restV t p i + chg t ps i := by simp [chg]
theorem chg_append {t : List (List Int)} {ps qs : List Nat} {i : Nat} : chg t (ps ++ qs) i = chg t ps i + chg t qs i := by simp [chg]
theorem Pass.append {t : List (List Int)} : ∀ {ps qs : List Nat} {v : Vec}, Pass t v ps → Pass t (fun i => v i + chg t ps i) qs → Pass t v (ps ++ qs)
  | [], qs, v, _, h => by simpa [chg] using h
  | p :: ps, qs, v, ⟨a, b, c⟩, h => by
    refine ⟨a, b, c.append (h.mono fun i => ?_)⟩
    rw [chg_cons]; omega
theorem ent_le_sum : ∀ {r : List Int} {i : Nat}, (∀ x ∈ r, 0 ≤ x) → r.getD i 0 ≤ r.sum ∧ 0 ≤ r.getD i 0 ∧ 0 ≤ r.sum
  | [], i, _ => by simp
  | x :: r, i, h => by
    have hx := h x List.mem_cons_self
    cases i with
    | zero =>
      have := (ent_le_sum (r := r) (i := 0) fun y hy => h y (List.mem_cons_of_mem _ hy)).2.2
      simp; omega
    | succ i =>
      have := ent_le_sum (r := r) (i := i) fun y hy => h y (List.mem_cons_of_mem _ hy)
      simp only [List.getD_cons_succ, List.sum_cons]; omega
def Nng (t : List (List Int)) : Prop := ∀ r ∈ t, ∀ x ∈ r, 0 ≤ x
theorem Nng.row {t : List (List Int)} (h : Nng t) (p : Nat) : ∀ x ∈ t.getD p [], 0 ≤ x := fun x hx => by
  rw [List.getD_eq_getElem?_getD] at hx
  cases e : t[p]? with
  | none => rw [e] at hx; simp at hx
  | some r =>
    rw [e] at hx
    exact h r (List.mem_of_getElem? e) x hx
theorem Nng.ent {t : List (List Int)} (h : Nng t) (p i : Nat) : 0 ≤ ent t p i ∧ ent t p i ≤ rsum t p := by
  have := ent_le_sum (i := i) (h.row p)
  exact ⟨this.2.1, this.1⟩
/-- a walker goes along a way: the places at which it parts -/
theorem pass_way {t : List (List Int)} (hn : Nng t) {g : Nat} : ∀ {p : Nat} {l : List Nat} {v : Vec}, Way t g p l → (∀ i, unitV p i ≤ v i) → Pass t v (p :: l.dropLast) ∧ (∀ i, unitV g i ≤ v i + chg t (p :: l.dropLast) i) := by
  have one : ∀ {p q : Nat} {v : Vec}, Strt t p q → (∀ i, unitV p i ≤ v i) → 1 ≤ v p ∧ 0 < rsum t p ∧ ∀ i, unitV q i ≤ v i + restV t p i := fun {p q v} s h => by
    have h1 := h p
    simp only [unitV, if_true] at h1
    have h2 := hn.ent p q
    have h3 := s.2.2
    refine ⟨h1, by omega, fun i => ?_⟩
    have h4 := h i
    have h5 := (hn.ent p i).1
    by_cases e : q = i
    · subst e
      by_cases e2 : p = q
      · simp only [unitV, restV, e2] at *; simp at *; omega
      · simp only [unitV, restV, if_neg e2] at *; simp at *; omega
    · simp only [unitV, restV, if_neg e] at *; split at h4 <;> simp_all <;> omega
  intro p l v w
  induction w generalizing v with
  | last s =>
    intro h
    obtain ⟨a, b, c⟩ := one s h
    refine ⟨⟨a, b, trivial⟩, fun i => ?_⟩
    have := c i
    simpa [chg] using this
  | @step p q l s w ih =>
    intro h
    obtain ⟨a, b, c⟩ := one s h
    obtain ⟨k1, k2⟩ := ih c
    have e : (q :: l).dropLast = q :: l.dropLast := by
      cases w <;> rfl
    rw [e]
    refine ⟨⟨a, b, k1⟩, fun i => ?_⟩
    have := k2 i
    rw [chg_cons]
    omega
/-- how many walkers -/
def tot (n : Nat) (v : Vec) : Int := ((List.range n).map v).sum
theorem sum_map_add {α : Type} (f g : α → Int) : ∀ l : List α, (l.map fun i => f i + g i).sum = (l.map f).sum + (l.map g).sum
  | [] => rfl
  | x :: l => by simp only [List.map_cons, List.sum_cons, sum_map_add f g l]; omega
theorem sum_getD : ∀ (r : List Int), ((List.range r.length).map fun i => r.getD i 0).sum = r.sum
  | [] => rfl
  | x :: r => by
    rw [List.length_cons, List.range_succ_eq_map, List.map_cons, List.map_map, List.sum_cons, List.sum_cons]
    have := sum_getD r
    simp only [Function.comp_def, List.getD_cons_succ, List.getD_cons_zero]
    rw [this]
theorem sum_unit (n p : Nat) : ((List.range n).map fun i => if p = i then (1 : Int) else 0).sum = if p < n then 1 else 0 := by
  induction n with
  | zero => simp
  | succ n ih =>
    rw [List.range_succ, List.map_append, List.sum_append, ih]
    simp only [List.map_cons, List.map_nil, List.sum_cons, List.sum_nil]
    by_cases h : p = n
    · subst h; simp
    · by_cases h2 : p < n
      · have : p < n + 1 := by omega
        simp [h, h2, this]
      · have : ¬p < n + 1 := by omega
        simp [h, h2, this]
theorem tot_rest {t : List (List Int)} (ht : ∀ r ∈ t, r.length = t.length) {p : Nat} (hp : p < t.length) : tot t.length (restV t p) = rsum t p - 1 := by
  have h1 := sum_getD (t.getD p [])
  rw [row_len ht hp] at h1
  have h2 := sum_map_add (restV t p) (fun i => if p = i then (1 : Int) else 0) (List.range t.length)
  rw [sum_unit, if_pos hp] at h2
  have e : (List.range t.length).map (fun i => restV t p i + if p = i then (1 : Int) else 0) = (List.range t.length).map fun i => (t.getD p []).getD i 0 := by
    refine List.map_congr_left fun i _ => ?_
    simp only [restV, ent]; omega
  rw [e, h1] at h2
  unfold tot rsum
  omega
theorem tot_add (n : Nat) (v w : Vec) : tot n (fun i => v i + w i) = tot n v + tot n w := sum_map_add v w _
theorem tot_pos {n : Nat} {v : Vec} (h : 0 < tot n v) : ∃ i, i < n ∧ 0 < v i := by
  have go : ∀ l : List Nat, 0 < (l.map v).sum → ∃ i ∈ l, 0 < v i := by
    intro l
    induction l with
    | nil => intro h; simp at h
    | cons x l ih =>
      intro h
      rw [List.map_cons, List.sum_cons] at h
      by_cases hx : 0 < v x
      · exact ⟨x, List.mem_cons_self, hx⟩
      · obtain ⟨i, a, b⟩ := ih (by omega)
        exact ⟨i, List.mem_cons_of_mem _ a, b⟩
  obtain ⟨i, a, b⟩ := go _ h
  exact ⟨i, List.mem_range.mp a, b⟩
/-- no one is lost -/
theorem pass_tot {t : List (List Int)} (ht : ∀ r ∈ t, r.length = t.length) : ∀ {ps : List Nat} {v : Vec}, Pass t v ps → (∀ p ∈ ps, p < t.length) → 0 ≤ tot t.length (chg t ps) ∧ ∀ p ∈ ps, rsum t p - 1 ≤ tot t.length (chg t ps)
  | [], _, _, _ => by
    have : tot t.length (chg t []) = 0 := by
      unfold tot
      have : (List.range t.length).map (chg t []) = (List.range t.length).map fun _ => 0 := List.map_congr_left fun i _ => by simp [chg]
      rw [this]
      induction (List.range t.length) with
      | nil => rfl
      | cons x l ih => simp [ih]
    exact ⟨by omega, fun p hp => absurd hp List.not_mem_nil⟩
  | p :: ps, v, ⟨a, b, c⟩, hm => by
    obtain ⟨k1, k2⟩ := pass_tot ht c fun q hq => hm q (List.mem_cons_of_mem _ hq)
    have e : tot t.length (chg t (p :: ps)) = tot t.length (restV t p) + tot t.length (chg t ps) := by
      rw [← tot_add]
      exact congrArg _ (funext fun i => chg_cons)
    rw [tot_rest ht (hm p List.mem_cons_self)] at e
    refine ⟨by omega, fun q hq => ?_⟩
    rcases List.mem_cons.mp hq with rfl | hq
    · omega
    · have := k2 q hq
      omega

/-! ### the ways, told -/
theorem Best.uniq {t : List (List Int)} {L : Far} {p q q' : Nat} (h : Best t L p q) (h' : Best t L p q') : q = q' := by
  obtain ⟨s, d, e, m⟩ := h
  obtain ⟨s', d', e', m'⟩ := h'
  have a := m q' d' s' e'
  have b := m' q d s e
  omega
theorem Best.next {t : List (List Int)} {L : Far} {p q : Nat} (ht : ∀ r ∈ t, r.length = t.length) (h : Best t L p q) : nextP t L p = some q := by
  have k := nextP_ok (L := L) ht h.1.1
  cases e : nextP t L p with
  | none =>
    rw [e] at k
    obtain ⟨s, d, f, _⟩ := h
    exact absurd f (k q d s)
  | some b => rw [e] at k; rw [Best.uniq k h]
theorem FarOk.uniq {t : List (List Int)} {g : Nat} {L L' : Far} (hg : g < t.length) (h : FarOk t g L) (h' : FarOk t g L') : L = L' := by
  refine List.ext_getElem? fun p => ?_
  have go : ∀ {L L' : Far}, FarOk t g L → FarOk t g L' → ∀ d, L[p]? = some (some d) → ∃ d', L'[p]? = some (some d') ∧ d' ≤ d := fun {L L'} h h' d e => h'.le (h.wk hg e)
  by_cases hp : p < t.length
  · have l1 : p < L.length := by rw [h.len]; exact hp
    have l2 : p < L'.length := by rw [h'.len]; exact hp
    rw [List.getElem?_eq_getElem l1, List.getElem?_eq_getElem l2]
    cases e : L[p] with
    | none =>
      cases e' : L'[p] with
      | none => rfl
      | some d' =>
        obtain ⟨d, f, _⟩ := go h' h d' (by rw [List.getElem?_eq_getElem l2, e'])
        rw [List.getElem?_eq_getElem l1, e] at f
        cases f
    | some d =>
      obtain ⟨d', f, x⟩ := go h h' d (by rw [List.getElem?_eq_getElem l1, e])
      obtain ⟨d2, f2, x2⟩ := go h' h d' f
      rw [List.getElem?_eq_getElem l1, e] at f2
      rw [List.getElem?_eq_getElem l2] at f
      have : d = d2 := by simpa using f2
      have : L'[p] = some d' := by simpa using f
      rw [this]
      have : d = d' := by omega
      rw [this]
  · rw [List.getElem?_eq_none (by rw [h.len]; omega), List.getElem?_eq_none (by rw [h'.len]; omega)]
noncomputable def farL (t : List (List Int)) (g : Nat) : Far := @Classical.epsilon Far ⟨[]⟩ (FarOk t g)
noncomputable def wayL (t : List (List Int)) (a g : Nat) : List Nat := @Classical.epsilon (List Nat) ⟨[]⟩ (Greedy t (farL t g) g a)
theorem wayL_ok {t : List (List Int)} {a g : Nat} (hf : FarOk t g (farL t g)) (ht : ∀ r ∈ t, r.length = t.length) (h : Rch t a g) : Greedy t (farL t g) g a (wayL t a g) ∧ (wayL t a g).length ≤ t.length := by
  have uq : ∀ {l l' : List Nat} {a : Nat}, Greedy t (farL t g) g a l → Greedy t (farL t g) g a l' → l = l' := by
    intro l l' a w
    induction w generalizing l' with
    | last b =>
      intro w'
      cases w' with
      | last _ => rfl
      | step b' n _ => exact absurd (b'.uniq b) n
    | step b n w ih =>
      intro w'
      cases w' with
      | last b' => exact absurd (b.uniq b') n
      | step b' n' w' =>
        have := b.uniq b'
        subst this
        rw [ih w']
  obtain ⟨m, w⟩ := h.wk
  cases w with
  | cons s w =>
    obtain ⟨d, e, hd⟩ := hf.le w
    obtain ⟨l, g1, g2⟩ := greedy_some hf ht s e
    have k : Greedy t (farL t g) g a (wayL t a g) := @Classical.epsilon_spec _ (Greedy t (farL t g) g a) ⟨l, g1⟩
    have := uq k g1
    have := hf.lt e
    exact ⟨k, by rw [uq k g1]; omega⟩
theorem Greedy.ne {t : List (List Int)} {L : Far} {g p : Nat} {l : List Nat} (h : Greedy t L g p l) : l ≠ [] := by cases h <;> simp
/-! ### doubling, raising -/
/-- the places of a way, without its goal -/
noncomputable def wayP (t : List (List Int)) (a g : Nat) : List Nat := a :: (wayL t a g).dropLast
def forkP (t : List (List Int)) : Nat := ((List.range t.length).filter fun i => decide (1 < rsum t i)).headD 0
noncomputable def dblP (t : List (List Int)) (a : Nat) : List Nat := (if a = forkP t then [] else wayP t a (forkP t)) ++ wayP t (forkP t) a
noncomputable def moreP (t : List (List Int)) (a : Nat) : Nat := ((List.range t.length).filter fun i => decide (0 < chg t (dblP t a) i)).headD 0
noncomputable def raiseP (t : List (List Int)) (a g : Nat) : List Nat := dblP t a ++ if moreP t a = g then [] else wayP t (moreP t a) g
/-- a town fit for it -/
structure Lvl (t : List (List Int)) : Prop where
  rows : ∀ r ∈ t, r.length = t.length
  nng : Nng t
  conn : Conn t
  fork : ∃ i, i < t.length ∧ 1 < rsum t i
  far : ∀ g, g < t.length → FarOk t g (farL t g)
theorem headD_mem : ∀ {l : List Nat} {d i : Nat}, i ∈ l → l.headD d ∈ l
  | x :: l, _, _, _ => List.mem_cons_self
theorem Lvl.forkP {t : List (List Int)} (h : Lvl t) : forkP t < t.length ∧ 1 < rsum t (forkP t) := by
  obtain ⟨i, a, b⟩ := h.fork
  have := headD_mem (d := 0) (l := (List.range t.length).filter fun i => decide (1 < rsum t i)) (List.mem_filter.mpr ⟨List.mem_range.mpr a, by simpa using b⟩)
  have := List.mem_filter.mp this
  exact ⟨List.mem_range.mp this.1, of_decide_eq_true this.2⟩
theorem Lvl.way {t : List (List Int)} (h : Lvl t) {a g : Nat} (ha : a < t.length) (hg : g < t.length) : Greedy t (farL t g) g a (wayL t a g) ∧ (wayL t a g).length ≤ t.length := wayL_ok (h.far g hg) h.rows (h.conn a g ha hg)
theorem Way.mem {t : List (List Int)} {g : Nat} : ∀ {p : Nat} {l : List Nat}, Way t g p l → ∀ x ∈ p :: l.dropLast, x < t.length := by
  intro p l w
  induction w with
  | last s =>
    intro x hx
    rcases List.mem_cons.mp hx with rfl | hx
    · exact s.1
    · exact absurd hx List.not_mem_nil
  | @step p q l s w ih =>
    intro x hx
    have e : (q :: l).dropLast = q :: l.dropLast := by cases w <;> rfl
    rw [e] at hx
    rcases List.mem_cons.mp hx with rfl | hx
    · exact s.1
    · exact ih x hx
theorem Lvl.wayP {t : List (List Int)} (h : Lvl t) {a g : Nat} (ha : a < t.length) (hg : g < t.length) : (wayP t a g).length ≤ t.length ∧ (∀ x ∈ wayP t a g, x < t.length) ∧
    ∀ v : Vec, (∀ i, unitV a i ≤ v i) → Pass t v (wayP t a g) ∧ ∀ i, unitV g i ≤ v i + chg t (wayP t a g) i := by
  obtain ⟨k1, k2⟩ := h.way ha hg
  have := List.length_pos_iff.mpr k1.ne
  refine ⟨by simp only [Mi.wayP, List.length_cons, List.length_dropLast]; omega, k1.way.mem, fun v hv => pass_way h.nng k1.way hv⟩
theorem Lvl.dblP {t : List (List Int)} (h : Lvl t) {a : Nat} (ha : a < t.length) : (dblP t a).length ≤ 2 * t.length ∧ (∀ x ∈ dblP t a, x < t.length) ∧ dblP t a ≠ [] ∧
    (∀ v : Vec, (∀ i, unitV a i ≤ v i) → Pass t v (dblP t a) ∧ ∀ i, unitV a i ≤ v i + chg t (dblP t a) i) ∧ 1 ≤ tot t.length (chg t (dblP t a)) := by
  have hf := h.forkP
  have w2 := h.wayP hf.1 ha
  have ps : ∀ v : Vec, (∀ i, unitV a i ≤ v i) → Pass t v (Mi.dblP t a) ∧ ∀ i, unitV a i ≤ v i + chg t (Mi.dblP t a) i := fun v hv => by
    unfold Mi.dblP
    by_cases e : a = Mi.forkP t
    · rw [if_pos e, List.nil_append]
      exact w2.2.2 v (by rw [← e]; exact hv)
    · rw [if_neg e]
      obtain ⟨p1, p2⟩ := (h.wayP ha hf.1).2.2 v hv
      obtain ⟨p3, p4⟩ := w2.2.2 _ p2
      refine ⟨p1.append p3, fun i => ?_⟩
      rw [chg_append]
      have := p4 i
      omega
  have mem : ∀ x ∈ Mi.dblP t a, x < t.length := fun x hx => by
    unfold Mi.dblP at hx
    rcases List.mem_append.mp hx with hx | hx
    · split at hx
      · exact absurd hx List.not_mem_nil
      · exact (h.wayP ha hf.1).2.1 x hx
    · exact w2.2.1 x hx
  refine ⟨?_, mem, by unfold Mi.dblP Mi.wayP; simp, ps, ?_⟩
  · unfold Mi.dblP
    rw [List.length_append]
    have := w2.1
    split
    · simp only [List.length_nil]; omega
    · have := (h.wayP ha hf.1).1
      omega
  · have p := (ps (unitV a) fun i => Int.le_refl _).1
    have := (pass_tot h.rows p mem).2 (Mi.forkP t) (by unfold Mi.dblP Mi.wayP; simp)
    have := hf.2
    omega
theorem Lvl.moreP {t : List (List Int)} (h : Lvl t) {a : Nat} (ha : a < t.length) : moreP t a < t.length ∧ 0 < chg t (Mi.dblP t a) (moreP t a) := by
  obtain ⟨_, _, _, _, k⟩ := h.dblP ha
  obtain ⟨i, x, y⟩ := tot_pos (n := t.length) (v := chg t (Mi.dblP t a)) (by omega)
  have := headD_mem (d := 0) (l := (List.range t.length).filter fun i => decide (0 < chg t (Mi.dblP t a) i)) (List.mem_filter.mpr ⟨List.mem_range.mpr x, by simpa using y⟩)
  have := List.mem_filter.mp this
  exact ⟨List.mem_range.mp this.1, of_decide_eq_true this.2⟩
theorem Lvl.raiseP {t : List (List Int)} (h : Lvl t) {a g : Nat} (ha : a < t.length) (hg : g < t.length) : (raiseP t a g).length ≤ 3 * t.length ∧ (∀ x ∈ raiseP t a g, x < t.length) ∧ raiseP t a g ≠ [] ∧
    (∀ v : Vec, (∀ i, unitV a i ≤ v i) → Pass t v (raiseP t a g)) ∧ ∀ i, unitV g i ≤ chg t (raiseP t a g) i := by
  obtain ⟨d1, d2, d3, d4, d5⟩ := h.dblP ha
  obtain ⟨m1, m2⟩ := h.moreP ha
  have up : ∀ i, 0 ≤ chg t (Mi.dblP t a) i := fun i => by
    have := (d4 (unitV a) fun i => Int.le_refl _).2 i
    omega
  have um : ∀ i, unitV (Mi.moreP t a) i ≤ chg t (Mi.dblP t a) i := fun i => by
    unfold unitV
    split
    · rename_i e; subst e; omega
    · exact up i
  by_cases e : Mi.moreP t a = g
  · have er : Mi.raiseP t a g = Mi.dblP t a := by unfold Mi.raiseP; rw [if_pos e, List.append_nil]
    rw [er]
    exact ⟨by omega, d2, d3, fun v hv => (d4 v hv).1, fun i => e ▸ um i⟩
  · have er : Mi.raiseP t a g = Mi.dblP t a ++ Mi.wayP t (Mi.moreP t a) g := by unfold Mi.raiseP; rw [if_neg e]
    obtain ⟨w1, w2, w3⟩ := h.wayP m1 hg
    rw [er]
    refine ⟨by rw [List.length_append]; omega, fun x hx => (List.mem_append.mp hx).elim (d2 x) (w2 x), by simp [d3], fun v hv => ?_, fun i => ?_⟩
    · refine (d4 v hv).1.append (w3 _ fun i => ?_).1
      have h1 := um i
      have h2 := hv i
      have h3 : 0 ≤ unitV a i := by unfold unitV; split <;> omega
      omega
    · rw [chg_append]
      have := (w3 (chg t (Mi.dblP t a)) um).2 i
      omega
end Mi
end
section
/-! MiZ: arguments with lists for tuples; lots as lists (plain). -/
namespace Mi
/-- a value with lists in the place of tuples here and there -/
structure Mx (d v : D) : Prop where
  tup : tupD d = v
  pur : d.pur = true
  thin : d.thin lineN = true
  dep : d.dep ≤ 12
theorem tupDs_ints : ∀ l : List Int, tupDs (l.map .int) = l.map .int
  | [] => rfl
  | x :: l => by simp [tupDs, tupD, tupDs_ints l]
theorem thins_ints {n : Nat} : ∀ l : List Int, D.thins n (l.map .int) = true
  | [] => rfl
  | x :: l => by simp [D.thins, D.thin, thins_ints l]
theorem deps_ints : ∀ l : List Int, D.deps (l.map .int) = 0
  | [] => rfl
  | x :: l => by simp [D.deps, D.dep, deps_ints l]
theorem Mx.int (i : Int) : Mx (.int i) (.int i) := ⟨by simp [tupD], rfl, rfl, by simp [D.dep]⟩
theorem Mx.dI {l : List Int} (h : l.length ≤ lineN) : Mx (dI l) (dI l) :=
  ⟨by simp [tupD, tupDs_ints], pur_dI l, by simp [D.thin, thins_ints, h], by simp [D.dep, deps_ints]⟩
theorem tupDs_rows : ∀ t : List (List Int), tupDs (t.map fun r => Mi.dI r) = t.map fun r => Mi.dI r
  | [] => rfl
  | x :: l => by simp [tupDs, tupD, tupDs_ints, tupDs_rows l]
theorem thins_rows : ∀ {t : List (List Int)}, (∀ r ∈ t, r.length ≤ lineN) → D.thins lineN (t.map fun r => Mi.dI r) = true
  | [], _ => rfl
  | x :: l, h => by
    have h1 := h x List.mem_cons_self
    simp [D.thins, D.thin, thins_ints, h1, thins_rows fun r hr => h r (List.mem_cons_of_mem _ hr)]
theorem deps_rows : ∀ t : List (List Int), D.deps (t.map fun r => Mi.dI r) ≤ 1
  | [] => by simp [D.deps]
  | x :: l => by
    have := deps_rows l
    simp [D.deps, D.dep, deps_ints]; omega
theorem Mx.dT {t : List (List Int)} (h : t.length ≤ lineN) (hr : ∀ r ∈ t, r.length ≤ lineN) : Mx (dT t) (dT t) :=
  ⟨by simp [tupD, tupDs_rows], pur_dT t, by simp [D.thin, thins_rows hr, h], by
    have := deps_rows t
    simp only [D.dep]; omega⟩
/-! ### rows -/
theorem eq_map_range {l : List Int} {n : Nat} {f : Nat → Int} (h : l.length = n) (e : ∀ i, i < n → l.getD i 0 = f i) : l = (List.range n).map f := by
  refine List.ext_getElem (by simp [h]) fun i h1 h2 => ?_
  have := e i (by omega)
  rw [List.getD_eq_getElem?_getD, List.getElem?_eq_getElem h1] at this
  simpa using this
/-- how often -/
def countsL (n : Nat) (ps : List Nat) : List Int := (List.range n).map fun i => ((ps.filter fun p => decide (p = i)).length : Int)
def chgF (l : List (List Int × Int)) (f : List Int) : List Int := l.foldl (fun f p => zSum p.2 f p.1) f
/-! ### a RUN that lets a LOT grow -/
abbrev Run := List (List Nat × Int)
abbrev dRun (r : Run) : D := .tup (r.map fun b => .tup [.tup (b.1.map fun (p : Nat) => .int p), .int b.2])
abbrev chgL (t : List (List Int)) (ps : List Nat) : List Int := (List.range t.length).map (chg t ps)
def heldP (l : List Int) : Nat := (((l.zipIdx).filter fun p => decide (0 < p.1)).map fun p => p.2).headD 0
noncomputable def gStep (t : List (List Int)) (a : Nat) (goal : List Int) (s : Run × List Int) (p : Nat) : Run × List Int :=
  if s.2.getD p 0 < goal.getD p 0 then
    let m := -((s.2.getD p 0 - goal.getD p 0) / chg t (raiseP t a p) p)
    (s.1 ++ [(raiseP t a p, m)], zSum m s.2 (chgL t (raiseP t a p)))
  else s
noncomputable def growR (t : List (List Int)) (lot goal : List Int) : Run := ((List.range t.length).foldl (gStep t (heldP lot) goal) ([], lot)).1
/-- a block that can be gone through -/
structure Blk (t : List (List Int)) (lot : List Int) (b : List Nat × Int) : Prop where
  ne : b.1 ≠ []
  lt : ∀ p ∈ b.1, p < t.length
  one : 1 ≤ b.2
  top : b.2 < 2 ^ 63
  pass : ∀ lap : Int, 0 ≤ lap → lap < b.2 → Pass t (fun i => lot.getD i 0 + lap * chg t b.1 i) b.1
inductive RunOk (t : List (List Int)) : List Int → Run → List Int → Prop
  | nil {l : List Int} : RunOk t l [] l
  | cons {l e : List Int} {b : List Nat × Int} {r : Run} : Blk t l b → RunOk t (zSum b.2 l (chgL t b.1)) r e → RunOk t l (b :: r) e
theorem RunOk.snoc {t : List (List Int)} {b : List Nat × Int} : ∀ {l e : List Int} {r : Run}, RunOk t l r e → Blk t e b → RunOk t l (r ++ [b]) (zSum b.2 e (chgL t b.1))
  | _, _, _, .nil, h => .cons h .nil
  | _, _, _, .cons c w, h => .cons c (w.snoc h)
structure GInv (t : List (List Int)) (lot goal : List Int) (s : Run × List Int) (q : Nat) : Prop where
  run : RunOk t lot s.1 s.2
  len : s.2.length = t.length
  up : ∀ i, lot.getD i 0 ≤ s.2.getD i 0
  goal : ∀ i, i < q → goal.getD i 0 ≤ s.2.getD i 0
theorem divOk_of {j : Int} (h : 1 ≤ j) (h2 : j < 2 ^ 200) : divOk j = true := by
  have : j.natAbs.log2 < 200 := (Nat.log2_lt (by omega)).mpr (by omega)
  simp only [divOk, decide_eq_true_eq]
  omega
end Mi
end
section
/-! MiH2: draws. -/
namespace Mi
/-- the box of draws: its count is n at most -/
def TinC (n : Nat) (T : List D) : Prop := ∃ a b c : Int, T = [.int a, .int b, .int c] ∧ 0 ≤ c ∧ c ≤ n
theorem TinC.mono {n m : Nat} {T : List D} (h : TinC n T) (hm : n ≤ m) : TinC m T := by
  obtain ⟨a, b, c, e, x, y⟩ := h
  exact ⟨a, b, c, e, x, by omega⟩
/-! sequences in it -/
mutual
def D.nod : D → Nat
  | .tup xs => D.nods xs + 1
  | .fl xs => D.nods xs + 1
  | _ => 0
def D.nods : List D → Nat
  | [] => 0
  | x :: xs => D.nod x + D.nods xs
end
/-- d is v with lists in the place of some tuples -/
structure Mixed (d v : D) : Prop where
  tup : tupD d = tupD v
  pur : d.pur = true
  thin : ∀ n, d.thin n = v.thin n
  dep : d.dep = v.dep
theorem Mixed.mx {d v : D} (h : Mixed d v) (hv : Mx v v) : Mx d v := ⟨h.tup.trans hv.tup, h.pur, (h.thin _).trans hv.thin, h.dep ▸ hv.dep⟩
theorem at_lit0 {α : Type} {x : α} {l : List α} : atI (x :: l) (0 : Int) = some x := at_nat (n := 0) (xs := x :: l) (by simp)
theorem at_lit1 {α : Type} {x y : α} {l : List α} : atI (x :: y :: l) (1 : Int) = some y := at_nat (n := 1) (xs := x :: y :: l) (by simp)
theorem at_lit2 {α : Type} {x y z : α} {l : List α} : atI (x :: y :: z :: l) (2 : Int) = some z := at_nat (n := 2) (xs := x :: y :: z :: l) (by simp)
theorem at_lit3 {α : Type} {x y z w : α} {l : List α} : atI (x :: y :: z :: w :: l) (3 : Int) = some w := at_nat (n := 3) (xs := x :: y :: z :: w :: l) (by simp)
theorem ix30 : ixN 3 0 = some 0 := rfl
theorem ix31 : ixN 3 1 = some 1 := rfl
theorem ix32 : ixN 3 2 = some 2 := rfl
theorem sto_lt {st : Sto} {j : Nat} {T : List D} (hs : st[j]? = some T) : j < st.length := by
  rcases Nat.lt_or_ge j st.length with q | q
  · exact q
  · rw [List.getElem?_eq_none q] at hs; cases hs
/-- the store's references stay within it -/
def StL (st : Sto) : Prop := st.all (D.lows st.length) = true
mutual
theorem low_pur {n : Nat} : ∀ {d : D}, d.pur = true → d.low n = true
  | .tup xs, h => by simp only [D.pur, D.low] at *; exact lows_pur h
  | .fl xs, h => by simp only [D.pur, D.low] at *; exact lows_pur h
  | .non, _ => by simp [D.low]
  | .bl _, _ => by simp [D.low]
  | .int _, _ => by simp [D.low]
  | .str _, _ => by simp [D.low]
  | .ref _, h => by simp [D.pur] at h
  | .dct _, h => by simp [D.pur] at h
  | .obj _ _, h => by simp [D.pur] at h
theorem lows_pur {n : Nat} : ∀ {xs : List D}, D.purs xs = true → D.lows n xs = true
  | [], _ => by simp [D.lows]
  | x :: xs, h => by
    simp only [D.purs, Bool.and_eq_true] at h
    simp only [D.lows, Bool.and_eq_true]
    exact ⟨low_pur h.1, lows_pur h.2⟩
end
mutual
theorem low_up {n m : Nat} (hm : n ≤ m) : ∀ {d : D}, d.low n = true → d.low m = true
  | .tup xs, h => by simp only [D.low] at *; exact lows_up hm h
  | .fl xs, h => by simp only [D.low] at *; exact lows_up hm h
  | .non, _ => by simp [D.low]
  | .bl _, _ => by simp [D.low]
  | .int _, _ => by simp [D.low]
  | .str _, _ => by simp [D.low]
  | .ref _, h => by simp only [D.low, decide_eq_true_eq] at *; omega
  | .dct _, h => by simp only [D.low, decide_eq_true_eq] at *; omega
  | .obj _ _, h => by simp only [D.low, decide_eq_true_eq] at *; omega
theorem lows_up {n m : Nat} (hm : n ≤ m) : ∀ {xs : List D}, D.lows n xs = true → D.lows m xs = true
  | [], _ => by simp [D.lows]
  | x :: xs, h => by
    simp only [D.lows, Bool.and_eq_true] at *
    exact ⟨low_up hm h.1, lows_up hm h.2⟩
end
theorem frz_map_id {f : D → D} : ∀ {xs : List D}, (∀ x ∈ xs, f x = x) → xs.map f = xs
  | [], _ => rfl
  | x :: xs, h => by rw [List.map_cons, h x List.mem_cons_self, frz_map_id fun y hy => h y (List.mem_cons_of_mem _ hy)]
theorem frz_pur {n : Nat} {s : Sto} : ∀ {k : Nat} {d : D}, d.pur = true → D.frz n s k d = d
  | 0, d, _ => by cases d <;> rfl
  | k + 1, .tup xs, h => by
    simp only [D.frz, D.pur] at *
    rw [frz_map_id fun x hx => frz_pur (purs_mem h x hx)]
  | k + 1, .fl xs, h => by
    simp only [D.frz, D.pur] at *
    rw [frz_map_id fun x hx => frz_pur (purs_mem h x hx)]
  | k + 1, .non, _ => rfl
  | k + 1, .bl _, _ => rfl
  | k + 1, .int _, _ => rfl
  | k + 1, .str _, _ => rfl
  | k + 1, .ref _, h => by simp [D.pur] at h
theorem StL.set {st : Sto} {j : Nat} {xs : List D} (h : StL st) (hx : D.lows st.length xs = true) : StL (st.set j xs) := by
  unfold StL at *
  rw [List.length_set, List.all_eq_true] at *
  intro y hy
  rcases List.mem_or_eq_of_mem_set hy with hy | rfl
  · exact h y hy
  · exact hx
theorem StL.push {st : Sto} {xs : List D} (h : StL st) (hx : D.lows st.length xs = true) : StL (st ++ [xs]) := by
  unfold StL at *
  rw [List.all_eq_true] at *
  intro y hy
  rw [List.length_append]
  rcases List.mem_append.mp hy with hy | hy
  · exact lows_up (by simp) (h y hy)
  · have : y = xs := by simpa using hy
    subst this
    exact lows_up (by simp) hx
theorem TinC.lows {n m : Nat} {T : List D} (h : TinC n T) : D.lows m T = true := by
  obtain ⟨a, b, c, rfl, _⟩ := h
  simp [D.lows, D.low]
theorem StL.tin {st : Sto} {j n : Nat} {T : List D} (h : StL st) (hT : TinC n T) : StL (st.set j T) := h.set hT.lows
/-- back with a plain value: what was made on the way is left out -/
theorem outR_pur {fz : Bool} {st s : Sto} {d : D} {P : D → Sto → Prop} {X : Xn → Sto → Prop} (h : d.pur = true) (hl : s.length = st.length) (hs : StL s) : Ok (outR fz st d s) P X = P d s := by
  cases fz
  · with_unfolding_all exact propext Iff.rfl
  · have e : s.take st.length = s := by rw [← hl]; exact List.take_length
    unfold StL at hs
    rw [hl] at hs
    simp only [outR, if_true, frz_pur h, e, hl, Nat.le_refl, decide_true, low_pur h, hs, Bool.and_self]
    with_unfolding_all exact propext Iff.rfl
section
variable {P : D → Sto → Prop} {X : Xn → Sto → Prop} {st : Sto}
theorem v_slT {xs : List D} {lo hi : Option Int} : Ok (slD (.tup xs) lo hi st) P X = P (.tup (cut xs lo hi)) st := by with_unfolding_all exact propext Iff.rfl
theorem v_slF {xs : List D} {lo hi : Option Int} : Ok (slD (.fl xs) lo hi st) P X = P (.fl (cut xs lo hi)) st := by with_unfolding_all exact propext Iff.rfl
end
theorem cut_map {α β : Type} {f : α → β} {xs : List α} {lo hi : Option Int} : cut (xs.map f) lo hi = (cut xs lo hi).map f := by
  simp [cut, List.map_drop, List.map_take]
theorem cut_take {α : Type} {xs : List α} {k : Nat} : cut xs none (some (k : Int)) = xs.take k := by
  have h : ¬(k : Int) < 0 := by omega
  simp only [cut, sIx, h, if_false, Int.toNat_natCast, List.drop_zero, Nat.sub_zero]
  rcases Nat.le_total k xs.length with q | q
  · rw [Nat.min_eq_left q]
  · rw [Nat.min_eq_right q, List.take_of_length_le (Nat.le_refl _), List.take_of_length_le q]
theorem cut_mid {α : Type} {xs : List α} {k m : Nat} : cut xs (some (k : Int)) (some (m : Int)) = (xs.drop k).take (m - k) := by
  have h : ¬(k : Int) < 0 := by omega
  have h' : ¬(m : Int) < 0 := by omega
  simp only [cut, sIx, h, h', if_false, Int.toNat_natCast]
  rcases Nat.le_total k xs.length with q | q
  · rw [Nat.min_eq_left q]
    rcases Nat.le_total m xs.length with r | r
    · rw [Nat.min_eq_left r]
    · rw [Nat.min_eq_right r, List.take_of_length_le (by simp), List.take_of_length_le (by simp; omega)]
  · rw [Nat.min_eq_right q, List.drop_of_length_le (Nat.le_refl _), List.drop_of_length_le q]; simp
structure MixedL (ds vs : List D) : Prop where
  tup : tupDs ds = tupDs vs
  pur : D.purs ds = true
  thin : ∀ n, D.thins n ds = D.thins n vs
  dep : D.deps ds = D.deps vs
  len : ds.length = vs.length
theorem MixedL.nil : MixedL [] [] := ⟨rfl, rfl, fun _ => rfl, rfl, rfl⟩
theorem purs_append {a b : List D} : D.purs (a ++ b) = (D.purs a && D.purs b) := by
  induction a with
  | nil => simp [D.purs]
  | cons x a ih => simp [D.purs, ih, Bool.and_assoc]
theorem thins_append {n : Nat} {a b : List D} : D.thins n (a ++ b) = (D.thins n a && D.thins n b) := by
  induction a with
  | nil => simp [D.thins]
  | cons x a ih => simp [D.thins, ih, Bool.and_assoc]
theorem deps_append {a b : List D} : D.deps (a ++ b) = max (D.deps a) (D.deps b) := by
  induction a with
  | nil => simp [D.deps]
  | cons x a ih => simp only [List.cons_append, D.deps, ih]; omega
theorem MixedL.snoc {ds vs : List D} {d v : D} (h : MixedL ds vs) (q : Mixed d v) : MixedL (ds ++ [d]) (vs ++ [v]) :=
  ⟨by simp [tupDs_eq] at *; have := h.tup; simp [tupDs_eq] at this; simp [this, q.tup], by simp [purs_append, h.pur, D.purs, q.pur],
   fun n => by simp [thins_append, h.thin n, D.thins, q.thin n], by simp [deps_append, h.dep, D.deps, q.dep], by simp [h.len]⟩
theorem MixedL.fl {ds vs : List D} {d : D} (h : MixedL ds vs) (hd : d = .tup vs ∨ d = .fl vs) : Mixed (.fl ds) d ∧ Mixed (.tup ds) d := by
  rcases hd with rfl | rfl <;> exact ⟨⟨by simp [tupD, h.tup], by simp [D.pur, h.pur], fun n => by simp [D.thin, h.thin, h.len], by simp [D.dep, h.dep]⟩, ⟨by simp [tupD, h.tup], by simp [D.pur, h.pur], fun n => by simp [D.thin, h.thin, h.len], by simp [D.dep, h.dep]⟩⟩
end Mi
end
section
/-! MiG2: drawn towns (plain). -/
namespace Mi
/-- a matrix: square, not below 0 -/
structure Sq (n : Nat) (B : Int) (M : List (List Int)) : Prop where
  len : M.length = n
  rows : ∀ r ∈ M, r.length = n
  nn : ∀ r ∈ M, ∀ x ∈ r, 0 ≤ x ∧ x ≤ B
theorem Sq.townOk {n : Nat} {B : Int} {M : List (List Int)} (h : Sq n B M) (hn : 0 < n) : townOk M :=
  ⟨fun e => by have := h.len; rw [e] at this; simp at this; omega, fun r hr => ⟨by rw [h.len]; exact h.rows r hr, fun x hx => (h.nn r hr x hx).1⟩⟩
def putM (M : List (List Int)) (a b : Nat) (v : Int) : List (List Int) := M.set a ((M.getD a []).set b v)
theorem getD_set {α : Type} {l : List α} {a i : Nat} {x d : α} (ha : a < l.length) : (l.set a x).getD i d = if a = i then x else l.getD i d := by
  simp only [List.getD_eq_getElem?_getD, List.getElem?_set]
  by_cases h : a = i
  · subst h; simp [ha]
  · simp [h]
theorem Sq.row {n : Nat} {B : Int} {M : List (List Int)} (h : Sq n B M) {a : Nat} (ha : a < n) : M.getD a [] ∈ M ∧ (M.getD a []).length = n := by
  have e : M.getD a [] ∈ M := by
    rw [List.getD_eq_getElem?_getD, List.getElem?_eq_getElem (by rw [h.len]; exact ha)]
    exact List.getElem_mem _
  exact ⟨e, h.rows _ e⟩
theorem Sq.ent {n : Nat} {B : Int} {M : List (List Int)} (h : Sq n B M) {a b : Nat} (ha : a < n) (hb : b < n) : 0 ≤ ent M a b ∧ ent M a b ≤ B := by
  obtain ⟨e1, e2⟩ := h.row ha
  refine h.nn _ e1 _ ?_
  unfold Mi.ent
  rw [List.getD_eq_getElem?_getD (l := M.getD a []), List.getElem?_eq_getElem (by rw [e2]; exact hb)]
  exact List.getElem_mem _
theorem Sq.put {n : Nat} {B C : Int} {M : List (List Int)} (h : Sq n B M) {a b : Nat} {v : Int} (ha : a < n) (hb : b < n) (hv : 0 ≤ v ∧ v ≤ C) (hB : B ≤ C) : Sq n C (putM M a b v) ∧ ∀ i j, Mi.ent (putM M a b v) i j = if a = i ∧ b = j then v else Mi.ent M i j := by
  obtain ⟨e1, e2⟩ := h.row ha
  refine ⟨⟨by simp [putM, h.len], fun r hr => ?_, fun r hr x hx => ?_⟩, fun i j => ?_⟩
  · rcases List.mem_or_eq_of_mem_set hr with hr | rfl
    · exact h.rows r hr
    · rw [List.length_set, e2]
  · rcases List.mem_or_eq_of_mem_set hr with hr | rfl
    · have := h.nn r hr x hx; omega
    · rcases List.mem_or_eq_of_mem_set hx with hx | rfl
      · have := h.nn _ e1 x hx; omega
      · exact hv
  · unfold Mi.ent putM
    rw [getD_set (by rw [h.len]; exact ha)]
    by_cases e : a = i
    · subst e
      simp only [if_true, true_and]
      rw [getD_set (by rw [e2]; exact hb)]
    · simp [e]
theorem rsum_eq {n : Nat} {B : Int} {M : List (List Int)} (h : Sq n B M) {a : Nat} (ha : a < n) : rsum M a = ((List.range n).map fun j => ent M a j).sum := by
  have := sum_getD (M.getD a [])
  rw [(h.row ha).2] at this
  exact this.symm
theorem sum_if {n b : Nat} {f : Nat → Int} {v : Int} (hb : b < n) : ((List.range n).map fun j => if b = j then v else f j).sum = ((List.range n).map f).sum + v - f b := by
  have e : ((List.range n).map fun j => if b = j then v else f j) = (List.range n).map fun j => f j + (if b = j then (1 : Int) else 0) * (v - f b) := List.map_congr_left fun j _ => by
    by_cases h : b = j
    · subst h; simp; omega
    · simp [h]
  rw [e, sum_map_add]
  have mul : ∀ (l : List Nat), (l.map fun j => (if b = j then (1 : Int) else 0) * (v - f b)).sum = (l.map fun j => if b = j then (1 : Int) else 0).sum * (v - f b) := fun l => by
    induction l with
    | nil => simp
    | cons x l ih => simp only [List.map_cons, List.sum_cons, ih, Int.add_mul]
  rw [mul, sum_unit, if_pos hb]; omega
theorem Sq.put_rsum {n : Nat} {B C : Int} {M : List (List Int)} (h : Sq n B M) {a b : Nat} {v : Int} (ha : a < n) (hb : b < n) (hv : 0 ≤ v ∧ v ≤ C) (hB : B ≤ C) {i : Nat} (hi : i < n) : rsum (putM M a b v) i = if a = i then rsum M i + v - Mi.ent M a b else rsum M i := by
  obtain ⟨p1, p2⟩ := h.put ha hb hv hB
  rw [rsum_eq p1 hi, rsum_eq h hi]
  by_cases e : a = i
  · subst e
    rw [if_pos rfl, ← sum_if hb]
    refine congrArg _ (List.map_congr_left fun j _ => ?_)
    rw [p2]; simp
  · rw [if_neg e]
    refine congrArg _ (List.map_congr_left fun j _ => ?_)
    rw [p2]; simp [e]
/-! ### rings -/
structure RingIv (o : List Nat) (n q : Nat) (M : List (List Int)) : Prop where
  sq : Sq n 1 M
  ent : ∀ k, k < q → ent M (o.getD k 0) (o.getD ((k + 1) % n) 0) = 1
  zero : ∀ k, q ≤ k → k < n → ∀ j, Mi.ent M (o.getD k 0) j = 0
  one : ∀ k, k < q → rsum M (o.getD k 0) = 1
structure Order (o : List Nat) (n : Nat) : Prop where
  perm : o.Perm (List.range n)
theorem Order.len {o : List Nat} {n : Nat} (h : Order o n) : o.length = n := by have := h.perm.length_eq; simpa using this
theorem Order.lt {o : List Nat} {n : Nat} (h : Order o n) {k : Nat} (hk : k < n) : o.getD k 0 < n := by
  have hk : k < o.length := by rw [h.len]; exact hk
  rw [List.getD_eq_getElem?_getD, List.getElem?_eq_getElem hk]
  exact List.mem_range.mp (h.perm.mem_iff.mp (List.getElem_mem hk))
theorem Order.inj {o : List Nat} {n : Nat} (h : Order o n) {i j : Nat} (hi : i < n) (hj : j < n) (e : o.getD i 0 = o.getD j 0) : i = j := by
  have hn : o.Nodup := (h.perm.nodup_iff).mpr List.nodup_range
  have hi : i < o.length := by rw [h.len]; exact hi
  have hj : j < o.length := by rw [h.len]; exact hj
  rw [List.getD_eq_getElem?_getD, List.getElem?_eq_getElem hi, List.getD_eq_getElem?_getD, List.getElem?_eq_getElem hj] at e
  have hp := List.pairwise_iff_getElem.mp hn
  rcases Nat.lt_trichotomy i j with z | z | z
  · exact absurd e (hp i j hi hj z)
  · exact z
  · exact absurd e.symm (hp j i hj hi z)
theorem Order.onto {o : List Nat} {n : Nat} (h : Order o n) {a : Nat} (ha : a < n) : ∃ k, k < n ∧ o.getD k 0 = a := by
  have := h.perm.mem_iff.mpr (List.mem_range.mpr ha)
  obtain ⟨k, hk, e⟩ := List.mem_iff_getElem.mp this
  exact ⟨k, by rw [← h.len]; exact hk, by rw [List.getD_eq_getElem?_getD, List.getElem?_eq_getElem hk]; exact e⟩
theorem RingIv.step {o : List Nat} {n q : Nat} {M : List (List Int)} (ho : Order o n) (h : RingIv o n q M) (hq : q < n) : RingIv o n (q + 1) (putM M (o.getD q 0) (o.getD ((q + 1) % n) 0) 1) := by
  have h1 := ho.lt hq
  have h2 := ho.lt (k := (q + 1) % n) (Nat.mod_lt _ (by omega))
  obtain ⟨p1, p2⟩ := h.sq.put (v := 1) (C := 1) h1 h2 (by omega) (by omega)
  refine ⟨p1, fun k hk => ?_, fun k hk hkn j => ?_, fun k hk => ?_⟩
  · rw [p2]
    by_cases e : k = q
    · subst e; simp
    · rw [if_neg fun z => e (ho.inj hq (by omega) z.1).symm]
      exact h.ent k (by omega)
  · rw [p2, if_neg fun z => by have := ho.inj hq hkn z.1; omega]
    exact h.zero k (by omega) hkn j
  · rw [h.sq.put_rsum h1 h2 (C := 1) (by omega) (by omega) (ho.lt (by omega))]
    by_cases e : k = q
    · subst e
      rw [if_pos rfl, h.zero k (by omega) hq, rsum_eq h.sq h1]
      have : ((List.range n).map fun j => Mi.ent M (o.getD k 0) j) = (List.range n).map fun _ => 0 := List.map_congr_left fun j _ => h.zero k (by omega) hq j
      rw [this]
      have z : ∀ l : List Nat, (l.map fun _ => (0 : Int)).sum = 0 := fun l => by induction l with
        | nil => rfl
        | cons x l ih => simpa using ih
      rw [z]; omega
    · rw [if_neg fun z => e (ho.inj hq (by omega) z).symm]
      exact h.one k (by omega)
theorem RingIv.start {o : List Nat} {n : Nat} : RingIv o n 0 (List.replicate n (List.replicate n 0)) := by
  have hent : ∀ i j, Mi.ent (List.replicate n (List.replicate n (0 : Int))) i j = 0 := fun i j => by
    unfold Mi.ent
    simp only [List.getD_eq_getElem?_getD, List.getElem?_replicate]
    by_cases h : i < n
    · by_cases h2 : j < n <;> simp [h, h2]
    · simp [h]
  refine ⟨⟨by simp, fun r hr => ?_, fun r hr x hx => ?_⟩, fun k hk => absurd hk (Nat.not_lt_zero _), fun k _ _ j => hent _ _, fun k hk => absurd hk (Nat.not_lt_zero _)⟩
  · rw [List.eq_of_mem_replicate hr]; simp
  · rw [List.eq_of_mem_replicate hr] at hx
    rw [List.eq_of_mem_replicate hx]; omega
/-- along the order -/
theorem ring_conn {o : List Nat} {n : Nat} {M : List (List Int)} (ho : Order o n) (hl : M.length = n) (h : ∀ k, k < n → 0 < ent M (o.getD k 0) (o.getD ((k + 1) % n) 0)) : Conn M := by
  have one : ∀ k, k < n → Strt M (o.getD k 0) (o.getD ((k + 1) % n) 0) := fun k hk =>
    ⟨by rw [hl]; exact ho.lt hk, by rw [hl]; exact ho.lt (Nat.mod_lt _ (by omega)), h k hk⟩
  have far : ∀ (d k : Nat), k < n → Rch M (o.getD k 0) (o.getD ((k + (d + 1)) % n) 0) := by
    intro d
    induction d with
    | zero => exact fun k hk => .one (one k hk)
    | succ d ih =>
      intro k hk
      have s := one ((k + (d + 1)) % n) (Nat.mod_lt _ (by omega))
      have e : ((k + (d + 1)) % n + 1) % n = (k + (d + 1 + 1)) % n := by rw [Nat.mod_add_mod]; rfl
      rw [e] at s
      exact .more (ih k hk) s
  intro a b ha hb
  rw [hl] at ha hb
  obtain ⟨i, hi, rfl⟩ := ho.onto ha
  obtain ⟨j, hj, rfl⟩ := ho.onto hb
  have := far (n + j - i - 1) i hi
  have e : (i + (n + j - i - 1 + 1)) % n = j := by
    have : i + (n + j - i - 1 + 1) = n + j := by omega
    rw [this, Nat.add_mod_left, Nat.mod_eq_of_lt hj]
  rw [e] at this
  exact this
/-- a drawn lively town -/
structure LivT (n : Nat) (B : Int) (t : List (List Int)) : Prop where
  sq : Sq n B t
  pos : 0 < n
  conn : Conn t
  ge : ∀ i, i < n → 1 ≤ rsum t i
  fork : ∃ i, i < n ∧ 1 < rsum t i
/-- a drawn ring -/
structure RngT (n : Nat) (t : List (List Int)) : Prop where
  sq : Sq n 1 t
  pos : 0 < n
  conn : Conn t
  one : ∀ i, i < n → rsum t i = 1
theorem RingIv.fin {o : List Nat} {n : Nat} {M : List (List Int)} (ho : Order o n) (h : RingIv o n n M) (hn : 0 < n) : RngT n M :=
  ⟨h.sq, hn, ring_conn ho h.sq.len fun k hk => by rw [h.ent k hk]; omega, fun i hi => by
    obtain ⟨k, hk, rfl⟩ := ho.onto hi
    exact h.one k hk⟩
theorem Conn.mono {t u : List (List Int)} (h : Conn t) (hl : u.length = t.length) (he : ∀ a b, 0 < ent t a b → 0 < ent u a b) : Conn u := by
  have one : ∀ {a b}, Strt t a b → Strt u a b := fun s => ⟨by rw [hl]; exact s.1, by rw [hl]; exact s.2.1, he _ _ s.2.2⟩
  have far : ∀ {a b}, Rch t a b → Rch u a b := fun r => by
    induction r with
    | one s => exact .one (one s)
    | more _ s ih => exact .more ih (one s)
  intro a b ha hb
  rw [hl] at ha hb
  exact far (h a b ha hb)
/-- one street more -/
theorem RngT.more {n : Nat} {t : List (List Int)} (h : RngT n t) {a b : Nat} (ha : a < n) (hb : b < n) : LivT n 2 (putM t a b (ent t a b + 1)) := by
  have he := h.sq.ent ha hb
  obtain ⟨p1, p2⟩ := h.sq.put (v := ent t a b + 1) (C := 2) ha hb (by omega) (by omega)
  have hr : ∀ i, i < n → rsum (putM t a b (ent t a b + 1)) i = if a = i then 2 else 1 := fun i hi => by
    rw [h.sq.put_rsum ha hb (C := 2) (by omega) (by omega) hi, h.one i hi]
    split <;> omega
  refine ⟨p1, h.pos, h.conn.mono (p1.len.trans h.sq.len.symm) fun x y e => ?_, fun i hi => by rw [hr i hi]; split <;> omega, a, ha, by rw [hr a ha]; simp⟩
  rw [p2]
  split
  · omega
  · exact e
theorem LivT.more {n : Nat} {B C : Int} {t : List (List Int)} (h : LivT n B t) {a b : Nat} {v : Int} (ha : a < n) (hb : b < n) (hv : 0 ≤ v) (hC : B + v ≤ C) : LivT n C (putM t a b (ent t a b + v)) := by
  have he := h.sq.ent ha hb
  obtain ⟨p1, p2⟩ := h.sq.put (v := ent t a b + v) (C := C) ha hb (by omega) (by omega)
  have hr : ∀ i, i < n → rsum t i ≤ rsum (putM t a b (ent t a b + v)) i := fun i hi => by
    rw [h.sq.put_rsum ha hb (C := C) (by omega) (by omega) hi]
    split <;> omega
  refine ⟨p1, h.pos, h.conn.mono (p1.len.trans h.sq.len.symm) fun x y e => ?_, fun i hi => Int.le_trans (h.ge i hi) (hr i hi), ?_⟩
  · rw [p2]
    split
    · rename_i z; obtain ⟨rfl, rfl⟩ := z; omega
    · exact e
  · obtain ⟨i, hi, e⟩ := h.fork
    exact ⟨i, hi, Int.lt_of_lt_of_le e (hr i hi)⟩
/-! ### a matrix in the store -/
abbrev rowsD (M : List (List Int)) : Sto := M.map fun r => r.map .int
abbrev refsD (L n : Nat) : List D := (List.range n).map fun i => .ref (L + i)
theorem StL.rows : ∀ (M : List (List Int)) {b : Sto}, StL b → StL (b ++ rowsD M)
  | [], b, h => by simpa using h
  | r :: M, b, h => by
    have := StL.rows M (h.push (xs := r.map .int) (lows_pur (purs_ints r)))
    simpa using this
/-- the store with a matrix on top -/
def matS (st : Sto) (j : Nat) (T : List D) (M : List (List Int)) : Sto := st.set j T ++ rowsD M
section
variable {st : Sto} {j : Nat} {T T2 : List D} {M : List (List Int)} {a n : Nat}
end
section
variable {P : D → Sto → Prop} {X : Xn → Sto → Prop} {st : Sto}
theorem v_rgF {n : Nat} : Ok (rgD false true 0 (.int n) st) P X = (n ≤ lineN ∧ P (.fl (rngD 0 n)) st) := by
  by_cases h : n ≤ lineN
  · have e : rgOk (n : Int) = true := rg_nat h
    have e0 : rgOk 0 = true := rfl
    simp only [rgD, e, e0, Int.sub_zero, Int.toNat_natCast, h, Bool.and_self, decide_true, if_true, true_and, Bool.false_eq_true, if_false, mkL, len_rng]
    with_unfolding_all exact propext Iff.rfl
  · simp only [rgD, h, Int.sub_zero, Int.toNat_natCast, decide_false, Bool.and_false, Bool.false_eq_true, if_false, false_and]
    with_unfolding_all exact propext Iff.rfl
theorem v_rgT {n : Nat} : Ok (rgD true true 0 (.int n) st) P X = (n ≤ lineN ∧ P (.tup (rngD 0 n)) st) := by
  by_cases h : n ≤ lineN
  · have e : rgOk (n : Int) = true := rg_nat h
    have e0 : rgOk 0 = true := rfl
    simp only [rgD, e, e0, Int.sub_zero, Int.toNat_natCast, h, Bool.and_self, decide_true, if_true, true_and]
    with_unfolding_all exact propext Iff.rfl
  · simp only [rgD, h, Int.sub_zero, Int.toNat_natCast, decide_false, Bool.and_false, Bool.false_eq_true, if_false, false_and]
    with_unfolding_all exact propext Iff.rfl
end
theorem rep0 (n : Nat) : repL [D.int 0] (n : Int) = (List.replicate n (0 : Int)).map .int := by
  simp only [repL, Int.toNat_natCast]
  induction n with
  | zero => rfl
  | succ m ih => simp only [List.replicate_succ, List.flatten_cons, ih]; rfl
theorem rng0 (n : Nat) : rngD 0 n = (List.range n).map fun i => D.int (i : Nat) := by simp [rngD]
section
variable {P : D → Sto → Prop} {X : Xn → Sto → Prop} {st : Sto}
end
mutual
theorem fine_up {k m : Nat} (h : k ≤ m) : ∀ {d : D}, D.fine k d = true → D.fine m d = true
  | .non, _ => by simp [D.fine]
  | .bl _, _ => by simp [D.fine]
  | .int _, _ => by simp [D.fine]
  | .str _, hf => by simpa [D.fine] using hf
  | .tup xs, hf => by
    cases k with
    | zero => simp [D.fine] at hf
    | succ k =>
      cases m with
      | zero => omega
      | succ m => simp only [D.fine] at *; exact fines_up (by omega) hf
  | .fl xs, hf => by
    cases k with
    | zero => simp [D.fine] at hf
    | succ k =>
      cases m with
      | zero => omega
      | succ m => simp only [D.fine] at *; exact fines_up (by omega) hf
  | .ref _, hf => by simp [D.fine] at hf
theorem fines_up {k m : Nat} (h : k ≤ m) : ∀ {xs : List D}, D.fines k xs = true → D.fines m xs = true
  | [], _ => by simp [D.fines]
  | x :: xs, hf => by
    simp only [D.fines, Bool.and_eq_true] at *
    exact ⟨fine_up h hf.1, fines_up h hf.2⟩
end
theorem fines_all {k : Nat} : ∀ {xs : List D}, D.fines k xs = true → ∀ x ∈ xs, D.fine k x = true
  | y :: ys, h, x, hx => by
    simp only [D.fines, Bool.and_eq_true] at h
    rcases List.mem_cons.mp hx with e | hx
    · subst e; exact h.1
    · exact fines_all h.2 x hx
abbrev encB (b : List Nat × Int) : D := .tup [dI (b.1.map fun (p : Nat) => (p : Int)), .int b.2]
theorem dRun_eq (r : Run) : dRun r = .tup (r.map encB) := by
  unfold dRun encB dI
  simp
/-- a statement, then the others -/
theorem sk_seq {cx : Cx} {s : S} {ss : Ss} {env : Env} {st : Sto} {k : Kt} (Q : Env → Sto → Prop) (h1 : Sk (exS cx s env st) { k with n := Q }) (h2 : ∀ e s1, Q e s1 → Sk (exSs cx ss e s1) k) : Sk (exSs cx (.cons s ss) env st) k := by
  rw [sk_cons]
  exact h1.mono h2 (fun _ _ q => q) (fun _ _ q => q) (fun _ _ q => q) fun _ _ _ q => q
/-! ### keyword arguments -/
section
variable {a b c d e : D} {P : List D → Prop}
theorem pl_0 : Op (placed [] [0] [a]) P = P [a] := by with_unfolding_all exact propext Iff.rfl
theorem pl_01 : Op (placed [] [0, 1] [a, b]) P = P [a, b] := by with_unfolding_all exact propext Iff.rfl
theorem pl_10 : Op (placed [] [1, 0] [a, b]) P = P [b, a] := by with_unfolding_all exact propext Iff.rfl
theorem pl_012 : Op (placed [] [0, 1, 2] [a, b, c]) P = P [a, b, c] := by with_unfolding_all exact propext Iff.rfl
theorem pl_021 : Op (placed [] [0, 2, 1] [a, b, c]) P = P [a, c, b] := by with_unfolding_all exact propext Iff.rfl
theorem pl_102 : Op (placed [] [1, 0, 2] [a, b, c]) P = P [b, a, c] := by with_unfolding_all exact propext Iff.rfl
theorem pl_120 : Op (placed [] [1, 2, 0] [a, b, c]) P = P [c, a, b] := by with_unfolding_all exact propext Iff.rfl
theorem pl_201 : Op (placed [] [2, 0, 1] [a, b, c]) P = P [b, c, a] := by with_unfolding_all exact propext Iff.rfl
theorem pl_210 : Op (placed [] [2, 1, 0] [a, b, c]) P = P [c, b, a] := by with_unfolding_all exact propext Iff.rfl
theorem pl_0123 : Op (placed [] [0, 1, 2, 3] [a, b, c, d]) P = P [a, b, c, d] := by with_unfolding_all exact propext Iff.rfl
theorem pl_0132 : Op (placed [] [0, 1, 3, 2] [a, b, c, d]) P = P [a, b, d, c] := by with_unfolding_all exact propext Iff.rfl
theorem pl_0213 : Op (placed [] [0, 2, 1, 3] [a, b, c, d]) P = P [a, c, b, d] := by with_unfolding_all exact propext Iff.rfl
theorem pl_0231 : Op (placed [] [0, 2, 3, 1] [a, b, c, d]) P = P [a, d, b, c] := by with_unfolding_all exact propext Iff.rfl
theorem pl_0312 : Op (placed [] [0, 3, 1, 2] [a, b, c, d]) P = P [a, c, d, b] := by with_unfolding_all exact propext Iff.rfl
theorem pl_0321 : Op (placed [] [0, 3, 2, 1] [a, b, c, d]) P = P [a, d, c, b] := by with_unfolding_all exact propext Iff.rfl
theorem pl_1023 : Op (placed [] [1, 0, 2, 3] [a, b, c, d]) P = P [b, a, c, d] := by with_unfolding_all exact propext Iff.rfl
theorem pl_1032 : Op (placed [] [1, 0, 3, 2] [a, b, c, d]) P = P [b, a, d, c] := by with_unfolding_all exact propext Iff.rfl
theorem pl_1203 : Op (placed [] [1, 2, 0, 3] [a, b, c, d]) P = P [c, a, b, d] := by with_unfolding_all exact propext Iff.rfl
theorem pl_1230 : Op (placed [] [1, 2, 3, 0] [a, b, c, d]) P = P [d, a, b, c] := by with_unfolding_all exact propext Iff.rfl
theorem pl_1302 : Op (placed [] [1, 3, 0, 2] [a, b, c, d]) P = P [c, a, d, b] := by with_unfolding_all exact propext Iff.rfl
theorem pl_1320 : Op (placed [] [1, 3, 2, 0] [a, b, c, d]) P = P [d, a, c, b] := by with_unfolding_all exact propext Iff.rfl
theorem pl_2013 : Op (placed [] [2, 0, 1, 3] [a, b, c, d]) P = P [b, c, a, d] := by with_unfolding_all exact propext Iff.rfl
theorem pl_2031 : Op (placed [] [2, 0, 3, 1] [a, b, c, d]) P = P [b, d, a, c] := by with_unfolding_all exact propext Iff.rfl
theorem pl_2103 : Op (placed [] [2, 1, 0, 3] [a, b, c, d]) P = P [c, b, a, d] := by with_unfolding_all exact propext Iff.rfl
theorem pl_2130 : Op (placed [] [2, 1, 3, 0] [a, b, c, d]) P = P [d, b, a, c] := by with_unfolding_all exact propext Iff.rfl
theorem pl_2301 : Op (placed [] [2, 3, 0, 1] [a, b, c, d]) P = P [c, d, a, b] := by with_unfolding_all exact propext Iff.rfl
theorem pl_2310 : Op (placed [] [2, 3, 1, 0] [a, b, c, d]) P = P [d, c, a, b] := by with_unfolding_all exact propext Iff.rfl
theorem pl_3012 : Op (placed [] [3, 0, 1, 2] [a, b, c, d]) P = P [b, c, d, a] := by with_unfolding_all exact propext Iff.rfl
theorem pl_3021 : Op (placed [] [3, 0, 2, 1] [a, b, c, d]) P = P [b, d, c, a] := by with_unfolding_all exact propext Iff.rfl
theorem pl_3102 : Op (placed [] [3, 1, 0, 2] [a, b, c, d]) P = P [c, b, d, a] := by with_unfolding_all exact propext Iff.rfl
theorem pl_3120 : Op (placed [] [3, 1, 2, 0] [a, b, c, d]) P = P [d, b, c, a] := by with_unfolding_all exact propext Iff.rfl
theorem pl_3201 : Op (placed [] [3, 2, 0, 1] [a, b, c, d]) P = P [c, d, b, a] := by with_unfolding_all exact propext Iff.rfl
theorem pl_3210 : Op (placed [] [3, 2, 1, 0] [a, b, c, d]) P = P [d, c, b, a] := by with_unfolding_all exact propext Iff.rfl
theorem pl_01234 : Op (placed [] [0, 1, 2, 3, 4] [a, b, c, d, e]) P = P [a, b, c, d, e] := by with_unfolding_all exact propext Iff.rfl
theorem pl_43210 : Op (placed [] [4, 3, 2, 1, 0] [a, b, c, d, e]) P = P [e, d, c, b, a] := by with_unfolding_all exact propext Iff.rfl
end
theorem fines_of {k : Nat} {xs : List D} (h : ∀ x ∈ xs, D.fine k x = true) : D.fines k xs = true := fines_mem h
theorem deps_le {n : Nat} : ∀ {xs : List D}, (∀ x ∈ xs, x.dep ≤ n) → D.deps xs ≤ n
  | [], _ => by simp [D.deps]
  | x :: xs, h => by
    have := h x List.mem_cons_self
    have := deps_le fun y hy => h y (List.mem_cons_of_mem _ hy)
    simp only [D.deps]; omega
theorem thins_of {n : Nat} : ∀ {xs : List D}, (∀ x ∈ xs, x.thin n = true) → D.thins n xs = true
  | [], _ => by simp [D.thins]
  | x :: xs, h => by
    simp only [D.thins, Bool.and_eq_true]
    exact ⟨h x List.mem_cons_self, thins_of fun y hy => h y (List.mem_cons_of_mem _ hy)⟩
/-- plain data of no great depth or length -/
structure Pl (n : Nat) (d : D) : Prop where
  pur : d.pur = true
  dep : d.dep ≤ n
  thin : d.thin lineN = true
  fine : D.fine n d = true
theorem Pl.tup {n : Nat} {xs : List D} (h : ∀ x ∈ xs, Pl n x) (hl : xs.length ≤ lineN) : Pl (n + 1) (.tup xs) :=
  ⟨by have := pursM (f := id) (xs := xs) (fun x hx => (h x hx).pur); simpa [D.pur] using this, by have := deps_le fun x hx => (h x hx).dep; simp only [D.dep]; omega,
   by simp only [D.thin, Bool.and_eq_true, decide_eq_true_eq]; exact ⟨hl, thins_of fun x hx => (h x hx).thin⟩, by simp only [D.fine]; exact fines_of fun x hx => (h x hx).fine⟩
theorem Pl.fl {n : Nat} {xs : List D} (h : ∀ x ∈ xs, Pl n x) (hl : xs.length ≤ lineN) : Pl (n + 1) (.fl xs) :=
  ⟨by have := pursM (f := id) (xs := xs) (fun x hx => (h x hx).pur); simpa [D.pur] using this, by have := deps_le fun x hx => (h x hx).dep; simp only [D.dep]; omega,
   by simp only [D.thin, Bool.and_eq_true, decide_eq_true_eq]; exact ⟨hl, thins_of fun x hx => (h x hx).thin⟩, by simp only [D.fine]; exact fines_of fun x hx => (h x hx).fine⟩
theorem Pl.up {n m : Nat} {d : D} (h : Pl n d) (hm : n ≤ m) : Pl m d := ⟨h.pur, Nat.le_trans h.dep hm, h.thin, fine_up hm h.fine⟩
theorem Pl.int {n : Nat} (i : Int) : Pl n (.int i) := ⟨rfl, by simp [D.dep], by simp [D.thin], by simp [D.fine]⟩
theorem Pl.bl {n : Nat} (i : Bool) : Pl n (.bl i) := ⟨rfl, by simp [D.dep], by simp [D.thin], by simp [D.fine]⟩
theorem Pl.non {n : Nat} : Pl n .non := ⟨rfl, by simp [D.dep], by simp [D.thin], by simp [D.fine]⟩
theorem Pl.dI {n : Nat} {l : List Int} (h : l.length ≤ lineN) : Pl (n + 1) (dI l) := .tup (fun x hx => by
  obtain ⟨i, _, rfl⟩ := List.mem_map.mp hx
  exact .int i) (by simpa using h)
theorem Pl.dT {n : Nat} {t : List (List Int)} (h : t.length ≤ lineN) (hr : ∀ r ∈ t, r.length ≤ lineN) : Pl (n + 2) (dT t) := .tup (fun x hx => by
  obtain ⟨r, h, rfl⟩ := List.mem_map.mp hx
  exact .dI (hr r h)) (by simpa using h)
theorem Pl.run {n : Nat} {r : Run} (h : r.length ≤ 100000) (hr : ∀ b ∈ r, b.1.length ≤ 100000) : Pl (n + 3) (dRun r) := by
  have hN : lineN = 16777216 := rfl
  rw [dRun_eq]
  refine .tup (fun x hx => ?_) (by simp; omega)
  obtain ⟨b, hb, rfl⟩ := List.mem_map.mp hx
  have := hr b hb
  refine .tup (fun y hy => ?_) (by simp [lineN])
  simp only [List.mem_cons, List.not_mem_nil, or_false] at hy
  rcases hy with rfl | rfl
  · exact .dI (by simp; omega)
  · exact .int _
theorem stl1 {n : Nat} {T : List D} (h : TinC n T) : StL [T] := by
  unfold StL
  simp only [List.all_cons, List.all_nil, Bool.and_true]
  exact h.lows
end Mi
end
section
/-! MiK1: any value, looked at as numbers, rows, lots, blocks (plain). -/
namespace Mi
def fromD (l : Int) : D → Bool
  | .int i => decide (l ≤ i)
  | _ => false
def longD (n : Int) : D → Bool
  | .tup xs => decide ((xs.length : Int) = n)
  | _ => false
def numsD : D → Bool
  | .tup xs => xs.all isNum
  | _ => false
def areD (l : Int) : D → Bool
  | .tup xs => xs.all isNum && xs.all (fromD l)
  | _ => false
def rowD (n l : Int) (d : D) : Bool := longD n d && areD l d
def sumD : D → Int
  | .tup xs => ((intsOf xs).getD []).sum
  | _ => 0
def lotD (n : Int) (d : D) : Bool := numsD d && (rowD n 0 d && decide (0 < sumD d))
def belowD (n : Int) : D → Bool
  | .int i => decide (0 ≤ i) && decide (i < n)
  | _ => false
def blkD (n : Int) : D → Bool
  | .tup [.tup xs, y] => fromD 1 y && (!xs.isEmpty && xs.all (belowD n))
  | _ => false
def runsD (n : Int) : D → Bool
  | .tup xs => xs.all (blkD n)
  | _ => false
end Mi
end
section
/-! MiK2: blocks of partings, gone through or not (plain). -/
namespace Mi
def passB (t : List (List Int)) : Vec → List Nat → Bool
  | _, [] => true
  | v, q :: qs => decide (1 ≤ v q) && (decide (0 < rsum t q) && passB t (fun i => v i + restV t q i) qs)
abbrev vL (l : List Int) : Vec := fun i => l.getD i 0
/-- a block gone through -/
def blockO (t : List (List Int)) (l : List Int) (b : List Nat × Int) : Option (List Int) :=
  if passB t (vL l) b.1 && passB t (fun i => vL l i + (b.2 - 1) * chg t b.1 i) b.1 then some (zSum b.2 l (chgL t b.1)) else none
/-- a result, or None -/
abbrev oD (o : Option (List Int)) : D := match o with
  | some e => dI e
  | none => .non
/-- the end of a run, or the block that it fails at -/
def runG (t : List (List Int)) : Nat → List Int → Run → Nat ⊕ List Int
  | _, l, [] => .inr l
  | k, l, b :: r => match blockO t l b with
    | some e => runG t (k + 1) e r
    | none => .inl k
end Mi
end
section
/-! MiM1: moves of towns (plain). -/
namespace Mi
open PySem (Str)
/-! ### great numbers that may be multiplied -/
@[irreducible] def bigN : Nat := 2 ^ 400000
def Bd (x : Int) : Prop := x.natAbs ≤ bigN
theorem big_ge : 2 ^ 250 ≤ bigN := by
  unfold bigN
  exact Nat.pow_le_pow_right (by decide) (by decide)
theorem Bd.of {x : Int} (h : -(2 ^ 250) ≤ x ∧ x ≤ 2 ^ 250) : Bd x := by
  unfold Bd
  have := big_ge
  omega
def Bd1 (x : Int) : Prop := x.natAbs < bigN
theorem Bd1.bd {x : Int} (h : Bd1 x) : Bd x := Nat.le_of_lt h
theorem Bd1.sub {x : Int} (h : Bd1 x) : Bd (x - 1) := by unfold Bd1 at h; unfold Bd; omega
theorem Bd1.of {x : Int} (h : -(2 ^ 249) ≤ x ∧ x ≤ 2 ^ 249) : Bd1 x := by
  unfold Bd1
  have := big_ge
  omega
def BdT (t : List (List Int)) : Prop := ∀ r ∈ t, ∀ x ∈ r, Bd1 x
theorem Bd.zero : Bd 0 := .of (by decide)
theorem BdT.ent1 {t : List (List Int)} (h : BdT t) (i j : Nat) : Bd1 (ent t i j) := by
  unfold Mi.ent
  rw [List.getD_eq_getElem?_getD (l := t)]
  cases e : t[i]? with
  | none => simp; exact .of (by decide)
  | some r =>
    simp only [Option.getD_some]
    rw [List.getD_eq_getElem?_getD]
    cases e2 : r[j]? with
    | none => exact .of (by decide)
    | some x => exact h r (List.mem_of_getElem? e) x (List.mem_of_getElem? e2)
theorem BdT.ent {t : List (List Int)} (h : BdT t) (i j : Nat) : Bd (ent t i j) := (h.ent1 i j).bd
/-! ### towns by their entries -/
abbrev Tn := List (List Int)
def Sqr (t : Tn) : Prop := ∀ r ∈ t, r.length = t.length
def mkTn (n : Nat) (f : Nat → Nat → Int) : Tn := (List.range n).map fun i => (List.range n).map fun j => f i j
theorem mkTn_len (n : Nat) (f : Nat → Nat → Int) : (mkTn n f).length = n := by simp [mkTn]
theorem mkTn_sqr (n : Nat) (f : Nat → Nat → Int) : Sqr (mkTn n f) := by
  intro r hr
  obtain ⟨i, hi, rfl⟩ := List.mem_map.mp hr
  simp [mkTn]
theorem mkTn_row {n : Nat} {f : Nat → Nat → Int} {i : Nat} (hi : i < n) : (mkTn n f).getD i [] = (List.range n).map fun j => f i j := by
  simp [mkTn, List.getD_eq_getElem?_getD, hi]
theorem mkTn_ent {n : Nat} {f : Nat → Nat → Int} {i j : Nat} (hi : i < n) (hj : j < n) : ent (mkTn n f) i j = f i j := by
  unfold ent
  rw [mkTn_row hi]
  simp [List.getD_eq_getElem?_getD, hj]
theorem row_eq {r : List Int} {n : Nat} {f : Nat → Int} (h : r.length = n) (e : ∀ j, j < n → r.getD j 0 = f j) : r = (List.range n).map f := eq_map_range h e
theorem Sqr.rowL {t : Tn} (h : Sqr t) {i : Nat} (hi : i < t.length) : (t.getD i []).length = t.length := row_len h hi
theorem Sqr.eq {t : Tn} (h : Sqr t) : t = mkTn t.length (ent t) := by
  refine List.ext_getElem (by rw [mkTn_len]) fun i h1 h2 => ?_
  have e1 : t.getD i [] = t[i] := by simp [List.getD_eq_getElem?_getD, h1]
  have e2 := mkTn_row (f := ent t) h1
  have e3 : (mkTn t.length (ent t)).getD i [] = (mkTn t.length (ent t))[i] := by simp [List.getD_eq_getElem?_getD, h2]
  rw [← e3, e2, ← e1]
  exact row_eq (h.rowL h1) fun j hj => rfl
theorem mkTn_congr {n : Nat} {f g : Nat → Nat → Int} (h : ∀ i j, i < n → j < n → f i j = g i j) : mkTn n f = mkTn n g := by
  unfold mkTn
  refine List.map_congr_left fun i hi => List.map_congr_left fun j hj => h i j (List.mem_range.mp hi) (List.mem_range.mp hj)
theorem Sqr.ext {t u : Tn} (h : Sqr t) (h' : Sqr u) (hl : t.length = u.length) (e : ∀ i j, i < t.length → j < t.length → ent t i j = ent u i j) : t = u := by
  rw [h.eq, h'.eq, ← hl]
  exact mkTn_congr e
/-! ### columns -/
def colL (t : Tn) (p : Nat) : List Int := t.map fun r => r.getD p 0
theorem colL_len (t : Tn) (p : Nat) : (colL t p).length = t.length := by simp [colL]
theorem colL_get {t : Tn} {p i : Nat} (hi : i < t.length) : (colL t p).getD i 0 = ent t i p := by
  unfold ent
  simp [colL, List.getD_eq_getElem?_getD, hi]
theorem colL_eq (t : Tn) (p : Nat) : colL t p = (List.range t.length).map fun i => ent t i p := row_eq (colL_len t p) fun j hj => colL_get hj
theorem rowL_eq {t : Tn} (h : Sqr t) {i : Nat} (hi : i < t.length) : t.getD i [] = (List.range t.length).map fun j => ent t i j := row_eq (h.rowL hi) fun j hj => rfl
def revT (t : Tn) : Tn := mkTn t.length fun i j => ent t j i
/-! ### one place left out, one put in -/
def shp (p i : Nat) : Nat := if i < p then i else i + 1
def unp (p i : Nat) : Nat := if i < p then i else i - 1
theorem shp_lt {p i n : Nat} (h : i < n - 1) : shp p i < n := by unfold shp; split <;> omega
theorem shp_ne (p i : Nat) : shp p i ≠ p := by unfold shp; split <;> omega
theorem unp_shp (p i : Nat) : unp p (shp p i) = i := by
  unfold unp shp
  by_cases h : i < p
  · simp [h]
  · rw [if_neg h, if_neg (by omega)]; omega
theorem shp_unp {p i : Nat} (h : i ≠ p) : shp p (unp p i) = i := by
  unfold unp shp
  by_cases h : i < p
  · simp [h]
  · rw [if_neg h, if_neg (by omega)]; omega
def outP1 {α : Type} (xs : List α) (p : Nat) : List α := xs.take p ++ xs.drop (p + 1)
theorem outP1_len {α : Type} {xs : List α} {p : Nat} (h : p < xs.length) : (outP1 xs p).length = xs.length - 1 := by simp [outP1]; omega
theorem outP1_get {α : Type} {xs : List α} {p i : Nat} {d : α} (h : p < xs.length) (hi : i < xs.length - 1) : (outP1 xs p).getD i d = xs.getD (shp p i) d := by
  unfold outP1 shp
  simp only [List.getD_eq_getElem?_getD]
  split
  · rw [List.getElem?_append_left (by simp; omega), List.getElem?_take_of_lt (by assumption)]
  · rw [List.getElem?_append_right (by simp; omega), List.getElem?_drop, List.length_take]
    congr 2; omega
/-! ### moves -/
def foldC (t : Tn) (p : Nat) : Bool := decide (p < t.length) && (decide (2 ≤ t.length) && (decide (ent t p p ≤ 0) && (decide ((colL t p).sum ≠ 0) && decide ((t.getD p []).sum ≠ 0))))
def foldT (t : Tn) (p : Nat) : Tn := mkTn (t.length - 1) fun i j => ent t (shp p i) (shp p j) + ent t (shp p i) p * ent t p (shp p j)
def foldO (t : Tn) (p : Nat) : Option Tn := if foldC t p then some (foldT t p) else none
def unfE (t : Tn) (p : Nat) (ins outs : List Int) (i j : Nat) : Int := if i = p then (if j = p then 0 else outs.getD (unp p j) 0) else if j = p then ins.getD (unp p i) 0 else ent t (unp p i) (unp p j) - ins.getD (unp p i) 0 * outs.getD (unp p j) 0
def unfT (t : Tn) (p : Nat) (ins outs : List Int) : Tn := mkTn (t.length + 1) (unfE t p ins outs)
def unfC (t : Tn) (p : Nat) (ins outs : List Int) : Bool := decide (p ≤ t.length) && (decide (ins.length = t.length) && (decide (ins.sum ≠ 0) && (decide (outs.sum ≠ 0) &&
  (List.range t.length).all fun i => (List.range t.length).all fun j => decide (0 ≤ ent t i j - ins.getD i 0 * outs.getD j 0))))
def unfO (t : Tn) (p : Nat) (ins outs : List Int) : Option Tn := if unfC t p ins outs then some (unfT t p ins outs) else none
def swpI (p q i : Nat) : Nat := if i = q then p else if i = p then q else i
def swpT (t : Tn) (p q : Nat) : Tn := mkTn t.length fun i j => ent t (swpI p q i) (swpI p q j)
def swpO (t : Tn) (p q : Nat) : Option Tn := if q < t.length then some (swpT t p q) else none
def ledT (t : Tn) (p q : Nat) (m : Int) : Tn := mkTn t.length fun i j => ent t i j + if i = p then m * restV t q j else 0
def ahdC (t : Tn) (p q : Nat) (m : Int) : Bool := decide (p < t.length) && (decide (q < t.length) && (decide (ent t p q ≠ 0) && (decide (¬(ent t q q = 0 ∧ ent t p q < m)) && decide (0 < (colL (ledT t p q m) q).sum))))
def ahdO (t : Tn) (p q : Nat) (m : Int) : Option Tn := if ahdC t p q m then some (ledT t p q m) else none
def uahC (t : Tn) (p q : Nat) (m : Int) : Bool := decide (p < t.length) && (decide (q < t.length) && (decide ((colL t q).sum ≠ 0) &&
  ((List.range t.length).all (fun j => decide (0 ≤ ent (ledT t p q (-m)) p j)) && (decide (ent (ledT t p q (-m)) p q ≠ 0) && (decide (0 < ent t q q) || decide (m ≤ ent (ledT t p q (-m)) p q))))))
def uahO (t : Tn) (p q : Nat) (m : Int) : Option Tn := if uahC t p q m then some (ledT t p q (-m)) else none
inductive Mv where
  | fold (p : Nat) | unfold (p : Nat) (ins outs : List Int) | swap (p q : Nat) | ahead (p q : Nat) (m : Int) | unahead (p q : Nat) (m : Int) | behind (p q : Nat) (m : Int) | unbehind (p q : Nat) (m : Int)
abbrev wFold : Str := ⟨#[102, 111, 108, 100]⟩
abbrev wUnfold : Str := ⟨#[117, 110, 102, 111, 108, 100]⟩
abbrev wSwap : Str := ⟨#[115, 119, 97, 112]⟩
abbrev wAhead : Str := ⟨#[97, 104, 101, 97, 100]⟩
abbrev wUnahead : Str := ⟨#[117, 110, 97, 104, 101, 97, 100]⟩
abbrev wBehind : Str := ⟨#[98, 101, 104, 105, 110, 100]⟩
abbrev wUnbehind : Str := ⟨#[117, 110, 98, 101, 104, 105, 110, 100]⟩
def encV : Mv → D
  | .fold p => .tup [.str wFold, .int p]
  | .unfold p ins outs => .tup [.str wUnfold, .int p, dI ins, dI outs]
  | .swap p q => .tup [.str wSwap, .int p, .int q]
  | .ahead p q m => .tup [.str wAhead, .int p, .int q, .int m]
  | .unahead p q m => .tup [.str wUnahead, .int p, .int q, .int m]
  | .behind p q m => .tup [.str wBehind, .int p, .int q, .int m]
  | .unbehind p q m => .tup [.str wUnbehind, .int p, .int q, .int m]
/-- what a MOVE is -/
def MvOk : Mv → Prop
  | .fold _ => True
  | .unfold _ ins outs => (∀ x ∈ ins, 0 ≤ x) ∧ outs.length = ins.length ∧ ∀ x ∈ outs, 0 ≤ x
  | .swap p q => p < q
  | .ahead p q m => p ≠ q ∧ 1 ≤ m
  | .unahead p q m => p ≠ q ∧ 1 ≤ m
  | .behind p q m => p ≠ q ∧ 1 ≤ m
  | .unbehind p q m => p ≠ q ∧ 1 ≤ m
def movO (t : Tn) : Mv → Option Tn
  | .fold p => foldO t p
  | .unfold p ins outs => unfO t p ins outs
  | .swap p q => swpO t p q
  | .ahead p q m => ahdO t p q m
  | .unahead p q m => uahO t p q m
  | .behind p q m => (ahdO (revT t) q p m).map revT
  | .unbehind p q m => (uahO (revT t) q p m).map revT
def tnO : Option Tn → D
  | none => .non
  | some t => dT t
/-- its numbers may be multiplied, its rows are not too long -/
def MvBd : Mv → Prop
  | .fold _ => True
  | .unfold _ ins outs => (∀ x ∈ ins, Bd x) ∧ (∀ x ∈ outs, Bd x) ∧ ins.length ≤ 1000
  | .swap _ _ => True
  | .ahead _ _ m => Bd m
  | .unahead _ _ m => Bd m
  | .behind _ _ m => Bd m
  | .unbehind _ _ m => Bd m
theorem Bd.neg {m : Int} (h : Bd m) : Bd (-m) := by unfold Bd at *; simpa using h
theorem outP1_mem {α : Type} {xs : List α} {p : Nat} {x : α} (h : x ∈ outP1 xs p) : x ∈ xs := by
  unfold outP1 at h
  rcases List.mem_append.mp h with h | h
  · exact List.mem_of_mem_take h
  · exact List.mem_of_mem_drop h
def minL : List Int → Int
  | [] => 0
  | i :: l => minI i l
def insP {α : Type} (xs : List α) (p : Nat) (x : α) : List α := xs.take p ++ [x] ++ xs.drop p
theorem v_rgR {P : D → Sto → Prop} {X : Xn → Sto → Prop} {st : Sto} {n : Nat} : Ok (rgD false false 0 (.int n) st) P X = (n ≤ lineN ∧ P (.ref st.length) (st ++ [rngD 0 n])) := by
  by_cases h : n ≤ lineN
  · have e : rgOk (n : Int) = true := rg_nat h
    have e0 : rgOk 0 = true := rfl
    simp only [rgD, e, e0, Int.sub_zero, Int.toNat_natCast, h, Bool.and_self, decide_true, if_true, true_and, Bool.false_eq_true, if_false, mkL, len_rng]
    with_unfolding_all exact propext Iff.rfl
  · simp only [rgD, h, Int.sub_zero, Int.toNat_natCast, decide_false, Bool.and_false, Bool.false_eq_true, if_false, false_and]
    with_unfolding_all exact propext Iff.rfl
theorem swpI_lt {n p q i : Nat} (hp : p < n) (hq : q < n) (hi : i < n) : swpI p q i < n := by unfold swpI; split <;> (try split) <;> omega
def ledRow (t : Tn) (p q : Nat) (m : Int) (i : Nat) : List Int := (List.range t.length).map fun j => ent t p j + if j < i then m * restV t q j else 0
theorem ahdO_sq {t u : Tn} {p q : Nat} {m : Int} (h : ahdO t p q m = some u) : Sqr u ∧ u.length = t.length := by
  unfold ahdO at h
  split at h
  · cases h; exact ⟨mkTn_sqr _ _, mkTn_len _ _⟩
  · cases h
theorem uahO_sq {t u : Tn} {p q : Nat} {m : Int} (h : uahO t p q m = some u) : Sqr u ∧ u.length = t.length := by
  unfold uahO at h
  split at h
  · cases h; exact ⟨mkTn_sqr _ _, mkTn_len _ _⟩
  · cases h
/-! ### what is a MOVE -/
def lenD : D → Int
  | .tup xs => xs.length
  | _ => 0
def ledTail (p : Int) : List D → Bool
  | [q, m] => fromD 0 q && (fromD 1 m && (match q with
      | .int q => decide (p ≠ q)
      | _ => false))
  | _ => false
def mvTail (w : Str) (p : Int) (r : List D) : Bool :=
  if w = wFold then r.isEmpty
  else if w = wUnfold then (match r with
    | [a, b] => areD 0 a && rowD (lenD a) 0 b
    | _ => false)
  else if w = wSwap then (match r with
    | [q] => fromD (p + 1) q
    | _ => false)
  else if w = wAhead ∨ w = wUnahead ∨ w = wBehind ∨ w = wUnbehind then ledTail p r
  else false
def mvD : D → Bool
  | .tup (.str w :: .int p :: r) => decide (0 ≤ p) && mvTail w p r
  | _ => false
def mvsD : D → Bool
  | .tup xs => xs.all mvD
  | _ => false
/-! ### two clauses, extend -/
section
variable {cx : Cx} {env : Env} {st : Sto}
theorem m_extendF {P : D → Sto → Prop} {X : Xn → Sto → Prop} {fz : Bool} {n : Nat} {ys : List D} : Ok (mtD fz .extend (.ref n) [.fl ys] st) P X = Op st[n]? fun xs => xs.length + ys.length ≤ lineN ∧ P .non (st.set n (xs ++ ys)) := by with_unfolding_all
  show Ok (match st[n]?, D.seq? st (.fl ys) with
    | some xs, some ys' => if (D.fl ys).beq (.ref n) then .bad else if xs.length + ys'.length ≤ lineN then .ok .non (st.set n (xs ++ ys')) else .bad
    | _, _ => .bad) P X = _
  cases st[n]? with
  | none => rfl
  | some xs => exact ok_guard
theorem m_extendT {P : D → Sto → Prop} {X : Xn → Sto → Prop} {fz : Bool} {n : Nat} {ys : List D} : Ok (mtD fz .extend (.ref n) [.tup ys] st) P X = Op st[n]? fun xs => xs.length + ys.length ≤ lineN ∧ P .non (st.set n (xs ++ ys)) := by with_unfolding_all
  show Ok (match st[n]?, D.seq? st (.tup ys) with
    | some xs, some ys' => if (D.tup ys).beq (.ref n) then .bad else if xs.length + ys'.length ≤ lineN then .ok .non (st.set n (xs ++ ys')) else .bad
    | _, _ => .bad) P X = _
  cases st[n]? with
  | none => rfl
  | some xs => exact ok_guard
end
/-! ### rows of moves -/
structure TnOk (t : Tn) : Prop where
  sq : Sqr t
  pos : 0 < t.length
  few : t.length ≤ 1000
  nn : Nng t
  bd : BdT t
def along (n : Nat) (t : Tn) : List Mv → Nat ⊕ List Tn
  | [] => .inr []
  | v :: vs => match movO t v with
    | none => .inl n
    | some u => match along (n + 1) u vs with
      | .inl j => .inl j
      | .inr us => .inr (u :: us)
def AlOk (t : Tn) : List Mv → Prop
  | [] => True
  | v :: vs => MvOk v ∧ MvBd v ∧ ∀ u, movO t v = some u → TnOk u ∧ AlOk u vs
abbrev dMs (vs : List Mv) : D := .tup (vs.map encV)
/-! ### the moves that can be done here -/
def candL (n : Nat) (f : Nat → Nat → Mv) : List Mv := ((List.range n).map fun p => ((List.range n).filter fun o => decide (p ≠ o)).map fun o => f p o).flatten
def cands (n : Nat) : List Mv := (List.range n).map Mv.fold ++ candL n (fun p o => .ahead p o 1) ++ candL n fun p o => .behind p o 1
def hereL (t : Tn) : List Mv := (cands t.length).filter fun v => (movO t v).isSome
def isC : Mv → Prop
  | .fold _ => True
  | .ahead p o m => p ≠ o ∧ m = 1
  | .behind p o m => p ≠ o ∧ m = 1
  | _ => False
theorem LivT.tn {n : Nat} {B : Int} {t : Tn} (h : LivT n B t) (hn : n ≤ 12) (hB : B ≤ 2 ^ 200) : TnOk t where
  sq := fun r hr => by rw [h.sq.rows r hr, h.sq.len]
  pos := by rw [h.sq.len]; exact h.pos
  few := by rw [h.sq.len]; omega
  nn := fun r hr x hx => (h.sq.nn r hr x hx).1
  bd := fun r hr x hx => by
    have := h.sq.nn r hr x hx
    exact Bd1.of (by omega)
theorem mkTn_ok {n : Nat} {f : Nat → Nat → Int} (h0 : 0 < n) (hn : n ≤ 1000) (h1 : ∀ i j, i < n → j < n → 0 ≤ f i j) (h2 : ∀ i j, i < n → j < n → Bd1 (f i j)) : TnOk (mkTn n f) where
  sq := mkTn_sqr n f
  pos := by rw [mkTn_len]; exact h0
  few := by rw [mkTn_len]; exact hn
  nn := by
    intro r hr x hx
    obtain ⟨i, hi, rfl⟩ := List.mem_map.mp hr
    obtain ⟨j, hj, rfl⟩ := List.mem_map.mp hx
    exact h1 i j (List.mem_range.mp hi) (List.mem_range.mp hj)
  bd := by
    intro r hr x hx
    obtain ⟨i, hi, rfl⟩ := List.mem_map.mp hr
    obtain ⟨j, hj, rfl⟩ := List.mem_map.mp hx
    exact h2 i j (List.mem_range.mp hi) (List.mem_range.mp hj)
theorem TnOk.swp {t : Tn} (h : TnOk t) {p q : Nat} (hp : p < t.length) (hq : q < t.length) : TnOk (swpT t p q) :=
  mkTn_ok h.pos h.few (fun i j _ _ => (h.nn.ent _ _).1) fun i j _ _ => h.bd.ent1 _ _
theorem TnOk.town {t : Tn} (h : TnOk t) : townOk t := ⟨fun e => by have := h.pos; rw [e] at this; exact absurd this (by decide), fun r hr => ⟨h.sq r hr, h.nn r hr⟩⟩
theorem rep1 (d : D) (n : Nat) : repL [d] (n : Int) = List.replicate n d := by
  simp only [repL, Int.toNat_natCast]
  induction n with
  | zero => rfl
  | succ n ih => rw [List.replicate_succ, List.flatten_cons, ih]; rfl
/-! ### a value, or an error -/
inductive Re where
  | val (d : D) | exc (c : Nat) (v : Option D)
def Re.out (r : Re) (st : Sto) : Out D := match r with
  | .val d => .ok d st
  | .exc c v => .exc ⟨c, v⟩ st
theorem re_val {d : D} {st : Sto} : (Re.val d).out st = .ok d st := rfl
theorem re_exc {c : Nat} {v : Option D} {st : Sto} : (Re.exc c v).out st = .exc ⟨c, v⟩ st := rfl
def Re.pur : Re → Bool
  | .val d => d.pur
  | .exc _ none => true
  | .exc _ (some d) => d.pur
section
variable {p : Prg} {k : Nat} {fz : Bool} {f : Nat} {ds : List D} {st : Sto} {df : Def}
end
/-! ### what is a TOWN -/
def townD : D → Bool
  | .tup xs => !xs.isEmpty && xs.all (rowD (xs.length : Nat) 0)
  | _ => false
mutual
theorem tupD_thin {n : Nat} : ∀ {d : D}, (tupD d).thin n = d.thin n
  | .tup xs => by
    have h := tupDs_thin (n := n) (xs := xs)
    simp [tupD, D.thin, h.1, h.2]
  | .fl xs => by
    have h := tupDs_thin (n := n) (xs := xs)
    simp [tupD, D.thin, h.1, h.2]
  | .non => by simp [tupD]
  | .bl _ => by simp [tupD]
  | .int _ => by simp [tupD]
  | .str _ => by simp [tupD]
  | .ref _ => by simp [tupD]
  | .dct _ => by simp [tupD]
  | .obj _ _ => by simp [tupD]
theorem tupDs_thin {n : Nat} : ∀ {xs : List D}, D.thins n (tupDs xs) = D.thins n xs ∧ (tupDs xs).length = xs.length
  | [] => by simp [tupDs]
  | x :: xs => by
    have h1 := tupD_thin (n := n) (d := x)
    have h2 := tupDs_thin (n := n) (xs := xs)
    simp [tupDs, D.thins, h1, h2.1, h2.2]
end
mutual
theorem tupD_fine {n : Nat} : ∀ {d : D}, (tupD d).fine n = d.fine n
  | .tup xs => by
    cases n with
    | zero => simp [tupD, D.fine]
    | succ n => simp only [tupD, D.fine]; exact tupDs_fine
  | .fl xs => by
    cases n with
    | zero => simp [tupD, D.fine]
    | succ n => simp only [tupD, D.fine]; exact tupDs_fine
  | .non => by simp [tupD]
  | .bl _ => by simp [tupD]
  | .int _ => by simp [tupD]
  | .str _ => by simp [tupD]
  | .ref _ => by simp [tupD]
  | .dct _ => by simp [tupD]
  | .obj _ _ => by simp [tupD]
theorem tupDs_fine {n : Nat} : ∀ {xs : List D}, D.fines n (tupDs xs) = D.fines n xs
  | [] => by simp [tupDs]
  | x :: xs => by
    have h1 := tupD_fine (n := n) (d := x)
    have h2 := tupDs_fine (n := n) (xs := xs)
    simp [tupDs, D.fines, h1, h2]
end
/-- an argument: no references, not too deep, not too long -/
structure Ar (d : D) : Prop where
  pur : d.pur = true
  dep : d.dep ≤ 12
  thin : d.thin lineN = true
  fine : d.fine 40 = true
theorem Ar.tp {d : D} (h : Ar d) : (tupD d).pur = true := tupD_pur h.pur
theorem Ar.tf {d : D} (h : Ar d) : (tupD d).fine 40 = true := by rw [tupD_fine]; exact h.fine
theorem Pl.ar {d : D} (h : Pl 12 d) : Ar d := ⟨h.pur, h.dep, h.thin, fine_up (by decide) h.fine⟩
end Mi
end
section
/-! MiM2: moves and their opposites (plain). -/
namespace Mi
open PySem (Str)
theorem Sqr.cols {t : Tn} (h : Sqr t) (p : Nat) : (colL t p).sum = ((List.range t.length).map fun i => ent t i p).sum := by rw [colL_eq]
theorem Sqr.rows {t : Tn} (h : Sqr t) {p : Nat} (hp : p < t.length) : (t.getD p []).sum = ((List.range t.length).map fun j => ent t p j).sum := by rw [rowL_eq h hp]
theorem range_split {n p : Nat} (hp : p ≤ n) : List.range (n + 1) = List.range p ++ p :: (List.range (n - p)).map fun i => p + 1 + i := by
  refine List.ext_getElem (by simp; omega) fun i h1 h2 => ?_
  simp only [List.getElem_range]
  by_cases c1 : i < p
  · rw [List.getElem_append_left (by simpa using c1)]; simp
  · rw [List.getElem_append_right (by simpa using Nat.not_lt.mp c1)]
    simp only [List.length_range]
    by_cases c2 : i = p
    · subst c2; simp
    · rw [List.getElem_cons]
      simp only [List.getElem_map, List.getElem_range]
      rw [dif_neg (by omega)]
      omega
theorem sum_shp {n p : Nat} {f : Nat → Int} (hp : p ≤ n) : ((List.range (n + 1)).map f).sum = f p + ((List.range n).map fun j => f (shp p j)).sum := by
  have e : List.range n = List.range p ++ (List.range (n - p)).map fun i => p + i := by
    have := List.range_add (n := p) (m := n - p)
    rw [show p + (n - p) = n by omega] at this
    exact this
  rw [range_split hp, e]
  simp only [List.map_append, List.map_cons, List.sum_append, List.sum_cons, List.map_map, Function.comp_def]
  have e1 : (List.range p).map (fun j => f (shp p j)) = (List.range p).map f := List.map_congr_left fun j hj => by
    have := List.mem_range.mp hj
    simp [shp, this]
  have e2 : (List.range (n - p)).map (fun i => f (shp p (p + i))) = (List.range (n - p)).map fun i => f (p + 1 + i) := List.map_congr_left fun j _ => by
    have h : ¬p + j < p := by omega
    simp only [shp, h, if_false]
    congr 1; omega
  rw [e1, e2]
  omega
theorem sum_getD_eq {l : List Int} {n : Nat} (h : l.length = n) : ((List.range n).map fun i => l.getD i 0).sum = l.sum := by rw [← h]; exact sum_getD l
/-- the MOVE back -/
def oppV (t : Tn) : Mv → Mv
  | .fold p => .unfold p (outP1 (colL t p) p) (outP1 (t.getD p []) p)
  | .unfold p _ _ => .fold p
  | .swap p q => .swap p q
  | .ahead p q m => .unahead p q m
  | .unahead p q m => .ahead p q m
  | .behind p q m => .unbehind p q m
  | .unbehind p q m => .behind p q m
theorem revT_ent {t : Tn} {i j : Nat} (hi : i < t.length) (hj : j < t.length) : ent (revT t) i j = ent t j i := mkTn_ent hi hj
theorem revT_len (t : Tn) : (revT t).length = t.length := mkTn_len _ _
theorem revT_sqr (t : Tn) : Sqr (revT t) := mkTn_sqr _ _
theorem revT_revT {t : Tn} (h : Sqr t) : revT (revT t) = t := by
  refine (revT_sqr _).ext h (by rw [revT_len, revT_len]) fun i j hi hj => ?_
  rw [revT_len, revT_len] at hi hj
  rw [revT_ent (by rw [revT_len]; exact hi) (by rw [revT_len]; exact hj), revT_ent hj hi]
theorem ledT_len (t : Tn) (p q : Nat) (m : Int) : (ledT t p q m).length = t.length := mkTn_len _ _
theorem ledT_sqr (t : Tn) (p q : Nat) (m : Int) : Sqr (ledT t p q m) := mkTn_sqr _ _
theorem ledT_ent {t : Tn} {p q : Nat} {m : Int} {i j : Nat} (hi : i < t.length) (hj : j < t.length) : ent (ledT t p q m) i j = ent t i j + if i = p then m * restV t q j else 0 := mkTn_ent hi hj
theorem ledT_rest {t : Tn} {p q : Nat} {m : Int} {j : Nat} (hpq : p ≠ q) (hq : q < t.length) (hj : j < t.length) : restV (ledT t p q m) q j = restV t q j := by
  unfold restV
  rw [ledT_ent hq hj, if_neg (Ne.symm hpq)]
  simp
theorem ledT_ledT {t : Tn} {p q : Nat} {m k : Int} (hpq : p ≠ q) (hq : q < t.length) : ledT (ledT t p q m) p q k = ledT t p q (m + k) := by
  unfold ledT
  rw [mkTn_len]
  refine mkTn_congr fun i j hi hj => ?_
  rw [mkTn_ent hi hj]
  have := ledT_rest (t := t) (p := p) (q := q) (m := m) hpq hq hj
  unfold ledT at this
  rw [this]
  by_cases h : i = p
  · simp only [h, if_true, Int.add_mul]; omega
  · simp [h]
theorem ledT_zero {t : Tn} {p q : Nat} (h : Sqr t) : ledT t p q 0 = t := by
  refine Sqr.ext (ledT_sqr _ _ _ _) h (ledT_len _ _ _ _) fun i j hi hj => ?_
  rw [ledT_len] at hi hj
  rw [ledT_ent hi hj]; simp
theorem ledT_back {t : Tn} {p q : Nat} {m : Int} (h : Sqr t) (hpq : p ≠ q) (hq : q < t.length) : ledT (ledT t p q m) p q (-m) = t := by
  rw [ledT_ledT hpq hq, Int.add_right_neg, ledT_zero h]
theorem swpI_swpI {p q i : Nat} : swpI p q (swpI p q i) = i := by
  unfold swpI
  by_cases h1 : i = q
  · subst h1
    by_cases h2 : p = i
    · simp [h2]
    · simp [h2]
  · by_cases h2 : i = p
    · subst h2; simp [h1]
    · simp [h1, h2]
theorem swpT_sqr (t : Tn) (p q : Nat) : Sqr (swpT t p q) := mkTn_sqr _ _
theorem swpT_len (t : Tn) (p q : Nat) : (swpT t p q).length = t.length := mkTn_len _ _
theorem foldT_sqr (t : Tn) (p : Nat) : Sqr (foldT t p) := mkTn_sqr _ _
theorem unfT_sqr (t : Tn) (p : Nat) (ins outs : List Int) : Sqr (unfT t p ins outs) := mkTn_sqr _ _
theorem swpT_swpT {t : Tn} {p q : Nat} (h : Sqr t) (hp : p < t.length) (hq : q < t.length) : swpT (swpT t p q) p q = t := by
  have hl : (swpT t p q).length = t.length := mkTn_len _ _
  refine Sqr.ext (swpT_sqr _ _ _) h (by rw [swpT_len, hl]) fun i j hi hj => ?_
  rw [swpT_len, hl] at hi hj
  have e1 : ent (swpT (swpT t p q) p q) i j = ent (swpT t p q) (swpI p q i) (swpI p q j) := mkTn_ent (by rw [hl]; exact hi) (by rw [hl]; exact hj)
  have e2 : ent (swpT t p q) (swpI p q i) (swpI p q j) = ent t (swpI p q (swpI p q i)) (swpI p q (swpI p q j)) := mkTn_ent (swpI_lt hp hq hi) (swpI_lt hp hq hj)
  rw [e1, e2, swpI_swpI, swpI_swpI]
theorem foldT_len (t : Tn) (p : Nat) : (foldT t p).length = t.length - 1 := mkTn_len _ _
theorem foldT_ent {t : Tn} {p i j : Nat} (hi : i < t.length - 1) (hj : j < t.length - 1) : ent (foldT t p) i j = ent t (shp p i) (shp p j) + ent t (shp p i) p * ent t p (shp p j) := mkTn_ent hi hj
theorem unfT_len (t : Tn) (p : Nat) (ins outs : List Int) : (unfT t p ins outs).length = t.length + 1 := mkTn_len _ _
theorem unfT_ent {t : Tn} {p i j : Nat} {ins outs : List Int} (hi : i < t.length + 1) (hj : j < t.length + 1) : ent (unfT t p ins outs) i j = unfE t p ins outs i j := mkTn_ent hi hj
theorem foldC_iff {t : Tn} {p : Nat} : foldC t p = true ↔ p < t.length ∧ 2 ≤ t.length ∧ ent t p p ≤ 0 ∧ (colL t p).sum ≠ 0 ∧ (t.getD p []).sum ≠ 0 := by
  simp only [foldC, Bool.and_eq_true, decide_eq_true_eq]
theorem unfC_iff {t : Tn} {p : Nat} {ins outs : List Int} : unfC t p ins outs = true ↔ p ≤ t.length ∧ ins.length = t.length ∧ ins.sum ≠ 0 ∧ outs.sum ≠ 0 ∧ ∀ i, i < t.length → ∀ j, j < t.length → 0 ≤ ent t i j - ins.getD i 0 * outs.getD j 0 := by
  simp only [unfC, Bool.and_eq_true, decide_eq_true_eq, List.all_eq_true, List.mem_range]
theorem unp_lt {p i n : Nat} (hp : p ≤ n) (hi : i < n + 1) (h : i ≠ p) : unp p i < n := by unfold unp; split <;> omega
theorem shp_le {p i n : Nat} (h : i < n) : shp p i < n + 1 := by unfold shp; split <;> omega
theorem out_get {t : Tn} (h : Sqr t) {p i : Nat} (hp : p < t.length) (hi : i < t.length - 1) : (outP1 (colL t p) p).getD i 0 = ent t (shp p i) p ∧ (outP1 (t.getD p []) p).getD i 0 = ent t p (shp p i) := by
  refine ⟨?_, ?_⟩
  · rw [outP1_get (by rw [colL_len]; exact hp) (by rw [colL_len]; exact hi), colL_get (shp_lt hi)]
  · rw [outP1_get (by rw [h.rowL hp]; exact hp) (by rw [h.rowL hp]; exact hi)]; rfl
/-- back from a fold -/
theorem fold_back {t : Tn} (h : Sqr t) (hn : Nng t) {p : Nat} (hc : foldC t p = true) : unfO (foldT t p) p (outP1 (colL t p) p) (outP1 (t.getD p []) p) = some t := by
  obtain ⟨hp, h2, h0, hs, hr⟩ := foldC_iff.mp hc
  have pp : ent t p p = 0 := by have := (hn.ent p p).1; omega
  have hl := foldT_len t p
  obtain ⟨m, hm⟩ : ∃ m, t.length = m + 1 := ⟨t.length - 1, by omega⟩
  have l1 : (outP1 (colL t p) p).length = t.length - 1 := by rw [outP1_len (by rw [colL_len]; exact hp), colL_len]
  have l2 : (outP1 (t.getD p []) p).length = t.length - 1 := by rw [outP1_len (by rw [h.rowL hp]; exact hp), h.rowL hp]
  have s1 : (outP1 (colL t p) p).sum = (colL t p).sum := by
    rw [← sum_getD_eq l1, h.cols p, hm, sum_shp (n := m) (p := p) (by omega), pp, Int.zero_add]
    congr 1
    exact List.map_congr_left fun i hi => (out_get (i := i) h hp (by have := List.mem_range.mp hi; omega)).1
  have s2 : (outP1 (t.getD p []) p).sum = (t.getD p []).sum := by
    rw [← sum_getD_eq l2, h.rows hp, hm, sum_shp (n := m) (p := p) (by omega), pp, Int.zero_add]
    congr 1
    exact List.map_congr_left fun i hi => (out_get (i := i) h hp (by have := List.mem_range.mp hi; omega)).2
  have key : ∀ i j, i < t.length - 1 → j < t.length - 1 → ent (foldT t p) i j - (outP1 (colL t p) p).getD i 0 * (outP1 (t.getD p []) p).getD j 0 = ent t (shp p i) (shp p j) := fun i j hi hj => by
    rw [foldT_ent hi hj, (out_get h hp hi).1, (out_get h hp hj).2]; omega
  have c : unfC (foldT t p) p (outP1 (colL t p) p) (outP1 (t.getD p []) p) = true := by
    rw [unfC_iff, hl]
    refine ⟨by omega, l1, by rw [s1]; exact hs, by rw [s2]; exact hr, fun i hi j hj => ?_⟩
    rw [key i j hi hj]
    exact (hn.ent _ _).1
  unfold unfO
  rw [if_pos c]
  congr 1
  refine Sqr.ext (unfT_sqr _ _ _ _) h (by rw [unfT_len, hl]; omega) fun i j hi hj => ?_
  rw [unfT_len, hl] at hi hj
  rw [unfT_ent (by rw [hl]; exact hi) (by rw [hl]; exact hj)]
  unfold unfE
  by_cases c1 : i = p
  · subst c1
    by_cases c2 : j = i
    · subst c2; simp [pp]
    · have := (out_get h hp (unp_lt (n := t.length - 1) (by omega) hj c2)).2
      rw [shp_unp c2] at this
      simp only [if_true, c2, if_false, this]
  · by_cases c2 : j = p
    · subst c2
      have := (out_get h hp (unp_lt (n := t.length - 1) (by omega) hi c1)).1
      rw [shp_unp c1] at this
      simp only [if_true, c1, if_false, this]
    · simp only [c1, c2, if_false]
      rw [key _ _ (unp_lt (by omega) hi c1) (unp_lt (by omega) hj c2), shp_unp c1, shp_unp c2]
theorem unf_pp {t : Tn} {p : Nat} {ins outs : List Int} (hp : p ≤ t.length) : ent (unfT t p ins outs) p p = 0 := by
  rw [unfT_ent (by omega) (by omega)]; simp [unfE]
theorem unf_ip {t : Tn} {p i : Nat} {ins outs : List Int} (hp : p ≤ t.length) (hi : i < t.length) : ent (unfT t p ins outs) (shp p i) p = ins.getD i 0 := by
  rw [unfT_ent (shp_le hi) (by omega)]
  simp only [unfE, shp_ne, if_false, if_true, unp_shp]
theorem unf_pj {t : Tn} {p j : Nat} {ins outs : List Int} (hp : p ≤ t.length) (hj : j < t.length) : ent (unfT t p ins outs) p (shp p j) = outs.getD j 0 := by
  rw [unfT_ent (by omega) (shp_le hj)]
  simp only [unfE, shp_ne, if_false, if_true, unp_shp]
theorem unf_ij {t : Tn} {p i j : Nat} {ins outs : List Int} (hp : p ≤ t.length) (hi : i < t.length) (hj : j < t.length) : ent (unfT t p ins outs) (shp p i) (shp p j) = ent t i j - ins.getD i 0 * outs.getD j 0 := by
  rw [unfT_ent (shp_le hi) (shp_le hj)]
  simp only [unfE, shp_ne, if_false, unp_shp]
theorem unf_sums {t : Tn} {p : Nat} {ins outs : List Int} (hp : p ≤ t.length) (l1 : ins.length = t.length) (l2 : outs.length = t.length) : (colL (unfT t p ins outs) p).sum = ins.sum ∧ ((unfT t p ins outs).getD p []).sum = outs.sum := by
  have hs : Sqr (unfT t p ins outs) := mkTn_sqr _ _
  have hl := unfT_len t p ins outs
  refine ⟨?_, ?_⟩
  · rw [hs.cols, hl, sum_shp hp, unf_pp hp, Int.zero_add, ← sum_getD_eq l1]
    congr 1
    exact List.map_congr_left fun i hi => unf_ip hp (List.mem_range.mp hi)
  · rw [hs.rows (by rw [hl]; omega), hl, sum_shp hp, unf_pp hp, Int.zero_add, ← sum_getD_eq l2]
    congr 1
    exact List.map_congr_left fun i hi => unf_pj hp (List.mem_range.mp hi)
theorem unf_back {t : Tn} (h : Sqr t) (h0 : 0 < t.length) {p : Nat} {ins outs : List Int} (hc : unfC t p ins outs = true) (hlo : outs.length = ins.length) : foldO (unfT t p ins outs) p = some t := by
  obtain ⟨hp, l1, s1, s2, _⟩ := unfC_iff.mp hc
  have hl := unfT_len t p ins outs
  obtain ⟨e1, e2⟩ := unf_sums hp l1 (hlo.trans l1)
  have c : foldC (unfT t p ins outs) p = true := foldC_iff.mpr ⟨by omega, by omega, by rw [unf_pp hp]; decide, by rw [e1]; exact s1, by rw [e2]; exact s2⟩
  unfold foldO
  rw [if_pos c]
  congr 1
  refine Sqr.ext (foldT_sqr _ _) h (by rw [foldT_len, hl]; omega) fun i j hi hj => ?_
  rw [foldT_len, hl] at hi hj
  rw [foldT_ent (by rw [hl]; exact hi) (by rw [hl]; exact hj), unf_ij hp hi hj, unf_ip hp hi, unf_pj hp hj]
  omega
theorem ahdC_iff {t : Tn} {p q : Nat} {m : Int} : ahdC t p q m = true ↔ p < t.length ∧ q < t.length ∧ ent t p q ≠ 0 ∧ ¬(ent t q q = 0 ∧ ent t p q < m) ∧ 0 < (colL (ledT t p q m) q).sum := by
  simp only [ahdC, Bool.and_eq_true, decide_eq_true_eq]
theorem uahC_iff {t : Tn} {p q : Nat} {m : Int} : uahC t p q m = true ↔ p < t.length ∧ q < t.length ∧ (colL t q).sum ≠ 0 ∧ (∀ j, j < t.length → 0 ≤ ent (ledT t p q (-m)) p j) ∧ ent (ledT t p q (-m)) p q ≠ 0 ∧ (0 < ent t q q ∨ m ≤ ent (ledT t p q (-m)) p q) := by
  simp only [uahC, Bool.and_eq_true, decide_eq_true_eq, List.all_eq_true, List.mem_range, Bool.or_eq_true]
theorem led_qq {t : Tn} {p q : Nat} {m : Int} (hpq : p ≠ q) (hq : q < t.length) : ent (ledT t p q m) q q = ent t q q := by
  rw [ledT_ent hq hq, if_neg (Ne.symm hpq), Int.add_zero]
theorem ahd_back {t u : Tn} (h : Sqr t) (hn : Nng t) {p q : Nat} {m : Int} (hpq : p ≠ q) (e : ahdO t p q m = some u) : uahO u p q m = some t := by
  unfold ahdO at e
  split at e
  · rename_i c
    cases e
    obtain ⟨hp, hq, h1, h2, h3⟩ := ahdC_iff.mp c
    have b := ledT_back (m := m) h hpq hq
    have c2 : uahC (ledT t p q m) p q m = true := by
      rw [uahC_iff, b, ledT_len]
      refine ⟨hp, hq, by omega, fun j _ => (hn.ent p j).1, h1, ?_⟩
      rw [led_qq hpq hq]
      have := (hn.ent q q).1
      by_cases z : ent t q q = 0
      · exact .inr (Int.not_lt.mp fun y => h2 ⟨z, y⟩)
      · exact .inl (by omega)
    unfold uahO
    rw [if_pos c2, b]
  · cases e
theorem sum_nn {l : List Int} (h : ∀ x ∈ l, 0 ≤ x) : 0 ≤ l.sum := by
  induction l with
  | nil => exact Int.le_refl _
  | cons x l ih =>
    have := h x List.mem_cons_self
    have := ih fun y hy => h y (List.mem_cons_of_mem _ hy)
    rw [List.sum_cons]; omega
theorem col_nn {t : Tn} (hn : Nng t) (q : Nat) : 0 ≤ (colL t q).sum := sum_nn fun x hx => by
  rw [colL_eq] at hx
  obtain ⟨i, _, rfl⟩ := List.mem_map.mp hx
  exact (hn.ent i q).1
theorem uah_back {t u : Tn} (h : Sqr t) (hn : Nng t) {p q : Nat} {m : Int} (hpq : p ≠ q) (e : uahO t p q m = some u) : ahdO u p q m = some t := by
  unfold uahO at e
  split at e
  · rename_i c
    cases e
    obtain ⟨hp, hq, h1, h2, h3, h4⟩ := uahC_iff.mp c
    have b : ledT (ledT t p q (-m)) p q m = t := by
      have := ledT_back (m := -m) h hpq hq
      rw [Int.neg_neg] at this
      exact this
    have c2 : ahdC (ledT t p q (-m)) p q m = true := by
      rw [ahdC_iff, b, ledT_len]
      refine ⟨hp, hq, h3, ?_, ?_⟩
      · rw [led_qq hpq hq]
        rintro ⟨z, y⟩
        rcases h4 with h4 | h4 <;> omega
      · have := col_nn hn q
        omega
    unfold ahdO
    rw [if_pos c2, b]
  · cases e
theorem Nng.rev {t : Tn} (h : Nng t) : Nng (revT t) := by
  intro r hr x hx
  obtain ⟨i, _, rfl⟩ := List.mem_map.mp hr
  obtain ⟨j, _, rfl⟩ := List.mem_map.mp hx
  exact (h.ent j i).1
theorem movO_back {t u : Tn} {v : Mv} (h : Sqr t) (h0 : 0 < t.length) (hn : Nng t) (hv : MvOk v) (e : movO t v = some u) : movO u (oppV t v) = some t := by
  cases v with
  | fold p =>
    simp only [movO, foldO] at e
    split at e
    · rename_i c
      cases e
      exact fold_back h hn c
    · cases e
  | unfold p ins outs =>
    simp only [movO, unfO] at e
    split at e
    · rename_i c
      cases e
      exact unf_back h h0 c hv.2.1
    · cases e
  | swap p q =>
    simp only [movO, swpO] at e
    split at e
    · rename_i c
      cases e
      have hp : p < q := hv
      simp only [oppV, movO, swpO]
      rw [if_pos (by rw [swpT, mkTn_len]; exact c), swpT_swpT h (by omega) c]
    · cases e
  | ahead p q m => exact ahd_back h hn hv.1 e
  | unahead p q m => exact uah_back h hn hv.1 e
  | behind p q m =>
    simp only [movO] at e
    obtain ⟨w, e1, rfl⟩ := Option.map_eq_some_iff.mp e
    have := ahd_back (revT_sqr t) hn.rev hv.1.symm e1
    simp only [oppV, movO]
    rw [revT_revT (ahdO_sq e1).1, this, Option.map_some, revT_revT h]
  | unbehind p q m =>
    simp only [movO] at e
    obtain ⟨w, e1, rfl⟩ := Option.map_eq_some_iff.mp e
    have := uah_back (revT_sqr t) hn.rev hv.1.symm e1
    simp only [oppV, movO]
    rw [revT_revT (uahO_sq e1).1, this, Option.map_some, revT_revT h]
theorem opp_ok {t : Tn} {v : Mv} (h : Sqr t) (hn : Nng t) (hv : MvOk v) (hc : ∀ p, v = .fold p → p < t.length) : MvOk (oppV t v) := by
  cases v with
  | fold p =>
    have hp := hc p rfl
    refine ⟨fun x hx => ?_, ?_, fun x hx => ?_⟩
    · have := outP1_mem hx
      rw [colL_eq] at this
      obtain ⟨i, _, rfl⟩ := List.mem_map.mp this
      exact (hn.ent i p).1
    · rw [outP1_len (by rw [h.rowL hp]; exact hp), outP1_len (by rw [colL_len]; exact hp), colL_len, h.rowL hp]
    · exact hn.row p x (outP1_mem hx)
  | unfold p ins outs => trivial
  | _ => exact hv
/-! ### bounds -/
structure TnB (B : Int) (t : Tn) : Prop where
  sq : Sqr t
  pos : 0 < t.length
  few : t.length ≤ 1000
  nn : Nng t
  up : ∀ i j, i < t.length → j < t.length → ent t i j ≤ B
theorem TnB.ok {B : Int} {t : Tn} (h : TnB B t) (hB : B ≤ 2 ^ 240) : TnOk t where
  sq := h.sq
  pos := h.pos
  few := h.few
  nn := h.nn
  bd := fun r hr x hx => by
    obtain ⟨i, hi, rfl⟩ := List.mem_iff_getElem.mp hr
    obtain ⟨j, hj, rfl⟩ := List.mem_iff_getElem.mp hx
    have hj2 : j < t.length := by rw [h.sq _ (List.getElem_mem hi)] at hj; exact hj
    have e : ent t i j = t[i][j] := by
      unfold ent
      simp [List.getD_eq_getElem?_getD, hi, hj]
    have h1 := (h.nn.ent i j).1
    have h2 := h.up i j hi hj2
    rw [e] at h1 h2
    exact Bd1.of (by omega)
theorem TnB.mono {B C : Int} {t : Tn} (h : TnB B t) (hC : B ≤ C) : TnB C t := ⟨h.sq, h.pos, h.few, h.nn, fun i j hi hj => Int.le_trans (h.up i j hi hj) hC⟩
theorem mkTn_tb {n : Nat} {B : Int} {f : Nat → Nat → Int} (h0 : 0 < n) (hn : n ≤ 1000) (h1 : ∀ i j, i < n → j < n → 0 ≤ f i j ∧ f i j ≤ B) : TnB B (mkTn n f) where
  sq := mkTn_sqr n f
  pos := by rw [mkTn_len]; exact h0
  few := by rw [mkTn_len]; exact hn
  nn := by
    intro r hr x hx
    obtain ⟨i, hi, rfl⟩ := List.mem_map.mp hr
    obtain ⟨j, hj, rfl⟩ := List.mem_map.mp hx
    exact (h1 i j (List.mem_range.mp hi) (List.mem_range.mp hj)).1
  up := fun i j hi hj => by
    rw [mkTn_len] at hi hj
    rw [mkTn_ent hi hj]
    exact (h1 i j hi hj).2
/-- its numbers are M at most -/
def MvM (M : Int) : Mv → Prop
  | .unfold _ ins outs => (∀ x ∈ ins, x ≤ M) ∧ (∀ x ∈ outs, x ≤ M) ∧ ins.length ≤ 1000
  | .ahead _ _ m => m ≤ M
  | .unahead _ _ m => m ≤ M
  | .behind _ _ m => m ≤ M
  | .unbehind _ _ m => m ≤ M
  | _ => True
theorem MvM.bd {M : Int} {v : Mv} (h : MvM M v) (hv : MvOk v) (hM : M ≤ 2 ^ 240) : MvBd v := by
  cases v with
  | fold => trivial
  | swap => trivial
  | unfold p ins outs => exact ⟨fun x hx => Bd.of (by have := h.1 x hx; have := hv.1 x hx; omega), fun x hx => Bd.of (by have := h.2.1 x hx; have := hv.2.2 x hx; omega), h.2.2⟩
  | ahead p q m =>
    have h : m ≤ M := h
    have := hv.2
    exact Bd.of (by omega)
  | unahead p q m =>
    have h : m ≤ M := h
    have := hv.2
    exact Bd.of (by omega)
  | behind p q m =>
    have h : m ≤ M := h
    have := hv.2
    exact Bd.of (by omega)
  | unbehind p q m =>
    have h : m ≤ M := h
    have := hv.2
    exact Bd.of (by omega)
theorem getD_mem_or {l : List Int} (i : Nat) : l.getD i 0 ∈ l ∨ l.getD i 0 = 0 := by
  rw [List.getD_eq_getElem?_getD]
  cases e : l[i]? with
  | none => exact .inr rfl
  | some x => exact .inl (List.mem_of_getElem? e)
abbrev mvB (B M : Int) : Int := B + B * B + M + M * (B + 1)
theorem TnB.rev {B : Int} {t : Tn} (h : TnB B t) : TnB B (revT t) := mkTn_tb h.pos h.few fun i j hi hj => ⟨(h.nn.ent j i).1, h.up j i hj hi⟩
theorem opp_mm {B M : Int} {t : Tn} {v : Mv} (h : TnB B t) (hBM : B ≤ M) (hm : MvM M v) (hc : ∀ p, v = .fold p → p < t.length) : MvM M (oppV t v) := by
  cases v with
  | fold p =>
    have hp := hc p rfl
    refine ⟨fun x hx => ?_, fun x hx => ?_, by rw [outP1_len (by rw [colL_len]; exact hp), colL_len]; have := h.few; omega⟩
    · have := outP1_mem hx
      rw [colL_eq] at this
      obtain ⟨i, hi, rfl⟩ := List.mem_map.mp this
      exact Int.le_trans (h.up i p (List.mem_range.mp hi) hp) hBM
    · have := outP1_mem hx
      rw [rowL_eq h.sq hp] at this
      obtain ⟨i, hi, rfl⟩ := List.mem_map.mp this
      exact Int.le_trans (h.up p i hp (List.mem_range.mp hi)) hBM
  | unfold p ins outs => trivial
  | _ => exact hm
/-! ### street by street -/
def oneO (t : Tn) (p q : Nat) : Option Tn := if ent t p q = 0 then none else some (ledT t p q 1)
def bysN (p q : Nat) : Nat → Option Tn → Option Tn
  | 0, o => o
  | n + 1, o => bysN p q n (o.bind fun t => oneO t p q)
def bysO (t : Tn) (p q : Nat) (m : Nat) : Option Tn := (bysN p q m (some t)).bind fun u => if (colL u q).sum = 0 then none else some u
theorem led_pq {t : Tn} {p q : Nat} {m : Int} (hp : p < t.length) (hq : q < t.length) : ent (ledT t p q m) p q = ent t p q + m * (ent t q q - 1) := by
  rw [ledT_ent hp hq, if_pos rfl]; unfold restV; rw [if_pos rfl]
end Mi
end
section
/-! MiM3: loops over ranges by their counter; what a law's own moves need (plain). -/
namespace Mi
section
variable {P : D → Sto → Prop} {X : Xn → Sto → Prop} {st : Sto}
end
end Mi
end
section
/-! MiM4: moves as plain data. -/
namespace Mi
theorem Mx.ar {d v : D} (h : Mx d v) (hf : v.fine 40 = true) : Ar d := ⟨h.pur, h.dep, h.thin, by rw [← tupD_fine, h.tup]; exact hf⟩
def VSz : Mv → Prop
  | .unfold _ ins outs => ins.length ≤ 100000 ∧ outs.length ≤ 100000
  | _ => True
theorem MvM.sz {M : Int} {v : Mv} (h : MvM M v) (hv : MvOk v) : VSz v := by
  cases v with
  | unfold p ins outs => exact ⟨by have := h.2.2; omega, by have := h.2.2; have := hv.2.1; omega⟩
  | _ => trivial
theorem Pl.str {n : Nat} {w : PySem.Str} (h : strB w = true) : Pl n (.str w) := ⟨rfl, by simp [D.dep], by simp [D.thin], by simp [D.fine, h]⟩
theorem Sq.tb {n : Nat} {B C : Int} {t : Tn} (h : Sq n B t) (h0 : 0 < n) (hn : n ≤ 1000) (hC : B ≤ C) (hC0 : 0 ≤ C) : TnB C t where
  sq := fun r hr => by rw [h.len]; exact h.rows r hr
  pos := by rw [h.len]; exact h0
  few := by rw [h.len]; exact hn
  nn := fun r hr x hx => (h.nn r hr x hx).1
  up := fun i j hi hj => by
    have h1 : t.getD i [] ∈ t := by rw [List.getD_eq_getElem?_getD, List.getElem?_eq_getElem hi]; exact List.getElem_mem hi
    unfold Mi.ent
    rcases getD_mem_or (l := t.getD i []) j with z | z
    · exact Int.le_trans (h.nn _ h1 _ z).2 hC
    · rw [z]; exact hC0
/-! one street led on -/
def oneRow (t : Tn) (p q : Nat) (i : Nat) : List Int := (List.range t.length).map fun j => (ent t p j - if q = j then 1 else 0) + if j < i then ent t q j else 0
def toldO (o : Option Tn) : D := match o with
  | none => .fl [.bl false, .bl true]
  | some u => .fl [.bl true, dT u]
end Mi
end
section
/-! MiM5: moves keep what is connected, and rings (plain). -/
namespace Mi
theorem strt_rev {t : Tn} {a b : Nat} : Strt (revT t) a b ↔ Strt t b a := by
  unfold Strt
  rw [revT_len]
  constructor
  · rintro ⟨h1, h2, h3⟩
    rw [revT_ent h1 h2] at h3
    exact ⟨h2, h1, h3⟩
  · rintro ⟨h1, h2, h3⟩
    refine ⟨h2, h1, ?_⟩
    rw [revT_ent h2 h1]
    exact h3
theorem rch_rev {t : Tn} {a b : Nat} (h : Rch t a b) : Rch (revT t) b a := by
  induction h with
  | one s => exact .one (strt_rev.mpr s)
  | more _ s ih => exact (Rch.one (strt_rev.mpr s)).trans ih
theorem conn_rev {t : Tn} (h : Conn t) : Conn (revT t) := fun a b ha hb => by
  rw [revT_len] at ha hb
  exact rch_rev (h b a hb ha)
theorem conn_fold {t : Tn} (hn : Nng t) {p : Nat} (hc : foldC t p = true) (h : Conn t) : Conn (foldT t p) := by
  obtain ⟨hp, h2, h0, _, _⟩ := foldC_iff.mp hc
  have pp : ent t p p = 0 := by have := (hn.ent p p).1; omega
  have hl := foldT_len t p
  have edge : ∀ a b, a ≠ p → b ≠ p → a < t.length → b < t.length → (0 < ent t a b ∨ (0 < ent t a p ∧ 0 < ent t p b)) → Strt (foldT t p) (unp p a) (unp p b) := fun a b ha hb la lb hh => by
    have l1 := unp_lt (n := t.length - 1) (by omega) (show a < t.length - 1 + 1 by omega) ha
    have l2 := unp_lt (n := t.length - 1) (by omega) (show b < t.length - 1 + 1 by omega) hb
    refine ⟨by omega, by omega, ?_⟩
    rw [foldT_ent l1 l2, shp_unp ha, shp_unp hb]
    have e1 := (hn.ent a b).1
    have e2 := Int.mul_nonneg (hn.ent a p).1 (hn.ent p b).1
    rcases hh with hh | ⟨h3, h4⟩
    · omega
    · have := Int.mul_pos h3 h4; omega
  have key : ∀ x y, x ≠ p → Rch t x y → (y ≠ p → Rch (foldT t p) (unp p x) (unp p y)) ∧ (y = p → ∃ z, z ≠ p ∧ z < t.length ∧ 0 < ent t z p ∧ (z = x ∨ Rch (foldT t p) (unp p x) (unp p z))) := fun x y hx hr => by
    induction hr with
    | one s =>
      refine ⟨fun hy => .one (edge _ _ hx hy s.1 s.2.1 (.inl s.2.2)), fun hy => ⟨x, hx, s.1, by rw [← hy]; exact s.2.2, .inl rfl⟩⟩
    | more r s ih =>
      rename_i b c
      by_cases hb : b = p
      · subst hb
        obtain ⟨z, z1, z2, z3, z4⟩ := ih.2 rfl
        have hc : c ≠ b := fun e => by
          rw [e] at s
          have := s.2.2
          omega
        refine ⟨fun _ => ?_, fun e => absurd e hc⟩
        have e := edge z c z1 hc z2 s.2.1 (.inr ⟨z3, s.2.2⟩)
        rcases z4 with rfl | z4
        · exact .one e
        · exact .more z4 e
      · have r1 := ih.1 hb
        refine ⟨fun hc => .more r1 (edge b c hb hc s.1 s.2.1 (.inl s.2.2)), fun hc => ⟨b, hb, s.1, by rw [← hc]; exact s.2.2, .inr r1⟩⟩
  intro a b ha hb
  rw [hl] at ha hb
  have r := (key (shp p a) (shp p b) (shp_ne p a) (h _ _ (shp_lt ha) (shp_lt hb))).1 (shp_ne p b)
  rwa [unp_shp, unp_shp] at r
theorem pos_of_sum {l : List Int} (h0 : ∀ x ∈ l, 0 ≤ x) (h : l.sum ≠ 0) : ∃ i, i < l.length ∧ 0 < l.getD i 0 := by
  induction l with
  | nil => exact absurd rfl h
  | cons x l ih =>
    by_cases hx : 0 < x
    · exact ⟨0, by simp, by simpa using hx⟩
    · have := h0 x List.mem_cons_self
      obtain ⟨i, hi, hp⟩ := ih (fun y hy => h0 y (List.mem_cons_of_mem _ hy)) (by rw [List.sum_cons] at h; omega)
      exact ⟨i + 1, by simpa using hi, by simpa using hp⟩
theorem conn_unf {t : Tn} {p : Nat} {ins outs : List Int} (hc : unfC t p ins outs = true) (hi : ∀ x ∈ ins, 0 ≤ x) (ho : ∀ x ∈ outs, 0 ≤ x) (hlo : outs.length = ins.length) (h : Conn t) : Conn (unfT t p ins outs) := by
  obtain ⟨hp, l1, s1, s2, h0⟩ := unfC_iff.mp hc
  have hl := unfT_len t p ins outs
  obtain ⟨i0, i1, i2⟩ := pos_of_sum hi s1
  obtain ⟨o0, o1, o2⟩ := pos_of_sum ho s2
  have inn : ∀ i, 0 < ins.getD i 0 → i < t.length → Strt (unfT t p ins outs) (shp p i) p := fun i h1 h2 => ⟨by rw [hl]; exact shp_le h2, by omega, by rw [unf_ip hp h2]; exact h1⟩
  have out : ∀ j, 0 < outs.getD j 0 → j < t.length → Strt (unfT t p ins outs) p (shp p j) := fun j h1 h2 => ⟨by omega, by rw [hl]; exact shp_le h2, by rw [unf_pj hp h2]; exact h1⟩
  have nng : ∀ {l : List Int}, (∀ x ∈ l, 0 ≤ x) → ∀ i, 0 ≤ l.getD i 0 := fun hh i => by
    rcases getD_mem_or (l := _) i with z | z
    · exact hh _ z
    · omega
  have edge : ∀ a b, Strt t a b → Rch (unfT t p ins outs) (shp p a) (shp p b) := fun a b s => by
    by_cases c : 0 < ent t a b - ins.getD a 0 * outs.getD b 0
    · exact .one ⟨by rw [hl]; exact shp_le s.1, by rw [hl]; exact shp_le s.2.1, by rw [unf_ij hp s.1 s.2.1]; exact c⟩
    · have m : 0 < ins.getD a 0 * outs.getD b 0 := by have := s.2.2; omega
      have pa : 0 < ins.getD a 0 := by
        have := nng hi a
        by_cases z : ins.getD a 0 = 0
        · rw [z] at m; simp at m
        · omega
      have pb : 0 < outs.getD b 0 := by
        have := nng ho b
        by_cases z : outs.getD b 0 = 0
        · rw [z] at m; simp at m
        · omega
      exact .more (.one (inn a pa s.1)) (out b pb s.2.1)
  have rr : ∀ a b, Rch t a b → Rch (unfT t p ins outs) (shp p a) (shp p b) := fun a b r => by
    induction r with
    | one s => exact edge _ _ s
    | more _ s ih => exact ih.trans (edge _ _ s)
  have toP : ∀ a, a < t.length → Rch (unfT t p ins outs) (shp p a) p := fun a ha => .more (rr a i0 (h a i0 ha (by omega))) (inn i0 i2 (by omega))
  have ofP : ∀ b, b < t.length → Rch (unfT t p ins outs) p (shp p b) := fun b hb => (Rch.one (out o0 o2 (by omega))).trans (rr o0 b (h o0 b (by omega) hb))
  have h00 : 0 < t.length := by omega
  intro a b ha hb
  rw [hl] at ha hb
  by_cases ca : a = p
  · by_cases cb : b = p
    · rw [ca, cb]
      exact (ofP 0 h00).trans (toP 0 h00)
    · have := ofP (unp p b) (unp_lt hp hb cb)
      rw [shp_unp cb] at this
      rw [ca]; exact this
  · by_cases cb : b = p
    · have := toP (unp p a) (unp_lt hp ha ca)
      rw [shp_unp ca] at this
      rw [cb]; exact this
    · have := rr (unp p a) (unp p b) (h _ _ (unp_lt hp ha ca) (unp_lt hp hb cb))
      rwa [shp_unp ca, shp_unp cb] at this
theorem conn_swp {t : Tn} {p q : Nat} (hp : p < t.length) (hq : q < t.length) (h : Conn t) : Conn (swpT t p q) := by
  have hl := swpT_len t p q
  have edge : ∀ a b, Strt t a b → Strt (swpT t p q) (swpI p q a) (swpI p q b) := fun a b s => by
    have la := swpI_lt hp hq s.1
    have lb := swpI_lt hp hq s.2.1
    refine ⟨by omega, by omega, ?_⟩
    have e : ent (swpT t p q) (swpI p q a) (swpI p q b) = ent t (swpI p q (swpI p q a)) (swpI p q (swpI p q b)) := mkTn_ent la lb
    rw [e, swpI_swpI, swpI_swpI]
    exact s.2.2
  have rr : ∀ a b, Rch t a b → Rch (swpT t p q) (swpI p q a) (swpI p q b) := fun a b r => by
    induction r with
    | one s => exact .one (edge _ _ s)
    | more _ s ih => exact .more ih (edge _ _ s)
  intro a b ha hb
  rw [hl] at ha hb
  have := rr (swpI p q a) (swpI p q b) (h _ _ (swpI_lt hp hq ha) (swpI_lt hp hq hb))
  rwa [swpI_swpI, swpI_swpI] at this
theorem conn_ahd {t u : Tn} (hn : Nng t) {p q : Nat} {m : Int} (hpq : p ≠ q) (hm : 1 ≤ m) (e : ahdO t p q m = some u) (h : Conn t) : Conn u := by
  unfold ahdO at e
  split at e
  · rename_i hcc
    cases e
    obtain ⟨hp, hq, h1, h2, h3⟩ := ahdC_iff.mp hcc
    have hl := ledT_len t p q m
    have row : ∀ a b, a ≠ p → a < t.length → b < t.length → ent (ledT t p q m) a b = ent t a b := fun a b ha la lb => by
      rw [ledT_ent la lb, if_neg ha, Int.add_zero]
    have rowp : ∀ b, b ≠ q → b < t.length → ent (ledT t p q m) p b = ent t p b + m * ent t q b := fun b hb lb => by
      rw [ledT_ent hp lb, if_pos rfl]
      unfold restV
      rw [if_neg (Ne.symm hb), Int.sub_zero]
    -- who leads to q there
    obtain ⟨z, z1, z2⟩ : ∃ z, z < t.length ∧ 0 < ent (ledT t p q m) z q := by
      refine Classical.byContradiction fun hh => ?_
      have : (colL (ledT t p q m) q).sum ≤ 0 := by
        rw [colL_eq, hl]
        have le : ∀ l : List Nat, (∀ i ∈ l, i < t.length) → (l.map fun i => ent (ledT t p q m) i q).sum ≤ 0 := fun l => by
          induction l with
          | nil => exact fun _ => Int.le_refl _
          | cons i l ih =>
            intro hl2
            have a := ih fun j hj => hl2 j (List.mem_cons_of_mem _ hj)
            have b : ¬0 < ent (ledT t p q m) i q := fun hpos => hh ⟨i, hl2 i List.mem_cons_self, hpos⟩
            simp only [List.map_cons, List.sum_cons]
            omega
        exact le _ fun i hi => List.mem_range.mp hi
      omega
    have edge : ∀ a b, Strt t a b → (a = p → b ≠ q) → Strt (ledT t p q m) a b := fun a b s hab => by
      refine ⟨by rw [hl]; exact s.1, by rw [hl]; exact s.2.1, ?_⟩
      by_cases ha : a = p
      · subst ha
        rw [rowp b (hab rfl) s.2.1]
        have := s.2.2
        have := Int.mul_nonneg (show 0 ≤ m by omega) (hn.ent q b).1
        omega
      · rw [row a b ha s.1 s.2.1]; exact s.2.2
    have key : ∀ x y, Rch t x y → Rch (ledT t p q m) x y ∨ (y = q ∧ (x = p ∨ Rch (ledT t p q m) x p)) := fun x y r => by
      have rp : ∀ {x b c : Nat}, (x = b ∨ Rch (ledT t p q m) x b) → Strt t b c → Rch (ledT t p q m) x c ∨ (c = q ∧ (x = p ∨ Rch (ledT t p q m) x p)) := fun {x b c} hx s => by
        by_cases hbc : b = p ∧ c = q
        · obtain ⟨rfl, rfl⟩ := hbc
          exact .inr ⟨rfl, hx⟩
        · have ed := edge b c s fun hb hc => hbc ⟨hb, hc⟩
          rcases hx with rfl | hx
          · exact .inl (.one ed)
          · exact .inl (.more hx ed)
      induction r with
      | one s => exact rp (.inl rfl) s
      | more r s ih =>
        rename_i b c
        rcases ih with ih | ⟨rfl, ih⟩
        · exact rp (.inr ih) s
        · by_cases hc : c = b
          · subst hc
            exact .inr ⟨rfl, ih⟩
          · have ed : Strt (ledT t p b m) p c := by
              refine ⟨by omega, by rw [hl]; exact s.2.1, ?_⟩
              rw [rowp c hc s.2.1]
              have := (hn.ent p c).1
              have := Int.mul_pos (show 0 < m by omega) s.2.2
              omega
            rcases ih with rfl | ih
            · exact .inl (.one ed)
            · exact .inl (.more ih ed)
    intro a b ha hb
    rw [hl] at ha hb
    rcases key a b (h a b ha hb) with k | ⟨rfl, k⟩
    · exact k
    · have zq : Strt (ledT t p b m) z b := ⟨by omega, by omega, z2⟩
      by_cases hz : z = b
      · -- b leads to itself: the street from p to b stands
        subst hz
        rw [led_qq hpq hb] at z2
        have pz : Strt (ledT t p z m) p z := by
          refine ⟨by omega, by omega, ?_⟩
          rw [led_pq hp hb]
          have := (hn.ent p z).1
          have := Int.mul_nonneg (show 0 ≤ m by omega) (show 0 ≤ ent t z z - 1 by omega)
          omega
        rcases k with rfl | k
        · exact .one pz
        · exact .more k pz
      · rcases key a z (h a z ha z1) with k2 | ⟨k2, _⟩
        · exact .more k2 zq
        · exact absurd k2 hz
  · cases e
theorem conn_uah {t u : Tn} (ht : Sqr t) (hn : Nng t) {p q : Nat} {m : Int} (hpq : p ≠ q) (hm : 1 ≤ m) (e : uahO t p q m = some u) (hu : Nng u) (h : Conn t) : Conn u := by
  have back := uah_back ht hn hpq e
  have hul := (uahO_sq e).2
  unfold ahdO at back
  split at back
  · rename_i c
    have e2 := Option.some.inj back
    obtain ⟨hp, hq, h1, h2, h3⟩ := ahdC_iff.mp c
    have pq : Strt u p q := ⟨hp, hq, by have := (hu.ent p q).1; omega⟩
    have edge : ∀ a b, Strt t a b → Rch u a b := fun a b s => by
      have s3 := s.2.2
      have la : a < u.length := by rw [hul]; exact s.1
      have lb : b < u.length := by rw [hul]; exact s.2.1
      by_cases z : 0 < ent u a b
      · exact .one ⟨la, lb, z⟩
      · rw [← e2, ledT_ent la lb] at s3
        by_cases ha : a = p
        · rw [if_pos ha] at s3
          have r0 : 0 < m * restV u q b := by omega
          have r1 : 0 < restV u q b := by
            refine Int.not_le.mp fun y => ?_
            have := Int.mul_nonneg (show 0 ≤ m by omega) (show 0 ≤ -restV u q b by omega)
            rw [Int.mul_neg] at this
            omega
          have r2 : 0 < ent u q b := by
            unfold restV at r1
            split at r1 <;> omega
          rw [ha]
          exact .more (.one pq) ⟨hq, lb, r2⟩
        · rw [if_neg ha] at s3
          omega
    have rr : ∀ a b, Rch t a b → Rch u a b := fun a b r => by
      induction r with
      | one s => exact edge _ _ s
      | more _ s ih => exact ih.trans (edge _ _ s)
    intro a b ha hb
    rw [hul] at ha hb
    exact rr a b (h a b ha hb)
  · cases back
theorem movO_conn {t u : Tn} {v : Mv} (ht : Sqr t) (hn : Nng t) (hu : Nng u) (hv : MvOk v) (e : movO t v = some u) (h : Conn t) : Conn u := by
  cases v with
  | fold p =>
    simp only [movO, foldO] at e
    split at e
    · rename_i c; cases e; exact conn_fold hn c h
    · cases e
  | unfold p ins outs =>
    simp only [movO, unfO] at e
    split at e
    · rename_i c; cases e; exact conn_unf c hv.1 hv.2.2 hv.2.1 h
    · cases e
  | swap p q =>
    simp only [movO, swpO] at e
    split at e
    · rename_i c
      cases e
      have hp : p < q := hv
      exact conn_swp (by omega) c h
    · cases e
  | ahead p q m => exact conn_ahd hn hv.1 hv.2 e h
  | unahead p q m => exact conn_uah ht hn hv.1 hv.2 e hu h
  | behind p q m =>
    simp only [movO] at e
    obtain ⟨w, e1, rfl⟩ := Option.map_eq_some_iff.mp e
    exact conn_rev (conn_ahd hn.rev hv.1.symm hv.2 e1 (conn_rev h))
  | unbehind p q m =>
    simp only [movO] at e
    obtain ⟨w, e1, rfl⟩ := Option.map_eq_some_iff.mp e
    have hw : Nng w := by
      have := hu.rev
      rwa [revT_revT (uahO_sq e1).1] at this
    exact conn_rev (conn_uah (revT_sqr t) hn.rev hv.1.symm hv.2 e1 hw (conn_rev h))
/-! ### rings -/
def RgT (t : Tn) : Prop := ∀ i, i < t.length → ((List.range t.length).map fun j => ent t i j).sum = 1
theorem sum_map_mul {α : Type} (c : Int) (f : α → Int) : ∀ l : List α, (l.map fun i => c * f i).sum = c * (l.map f).sum
  | [] => by simp
  | x :: l => by simp only [List.map_cons, List.sum_cons, sum_map_mul c f l, Int.mul_add]
theorem sum_congr {n : Nat} {f g : Nat → Int} (h : ∀ i, i < n → f i = g i) : ((List.range n).map f).sum = ((List.range n).map g).sum := by
  rw [List.map_congr_left fun i hi => h i (List.mem_range.mp hi)]
theorem sum_comm2 (f : Nat → Nat → Int) (m : Nat) : ∀ l : List Nat, (l.map fun i => ((List.range m).map fun j => f i j).sum).sum = ((List.range m).map fun j => (l.map fun i => f i j).sum).sum
  | [] => by
    simp only [List.map_nil, List.sum_nil]
    have : ∀ k : List Nat, (k.map fun _ => (0 : Int)).sum = 0 := fun k => by induction k with
      | nil => rfl
      | cons x k ih => simp only [List.map_cons, List.sum_cons, ih]; rfl
    exact (this _).symm
  | x :: l => by
    simp only [List.map_cons, List.sum_cons, sum_comm2 f m l]
    rw [← sum_map_add]
theorem all_one : ∀ {l : List Int}, (∀ x ∈ l, 1 ≤ x) → l.sum = l.length → ∀ x ∈ l, x = 1
  | [], _, _ => fun x hx => absurd hx List.not_mem_nil
  | y :: l, h, e => by
    have ge : ∀ l : List Int, (∀ x ∈ l, 1 ≤ x) → (l.length : Int) ≤ l.sum := fun l => by
      induction l with
      | nil => exact fun _ => Int.le_refl _
      | cons z l ih =>
        intro hz
        have a := ih fun x hx => hz x (List.mem_cons_of_mem _ hx)
        have b := hz z List.mem_cons_self
        simp only [List.length_cons, List.sum_cons]
        omega
    have a := ge l fun x hx => h x (List.mem_cons_of_mem _ hx)
    have b := h y List.mem_cons_self
    simp only [List.length_cons, List.sum_cons] at e
    intro x hx
    rcases List.mem_cons.mp hx with rfl | hx
    · omega
    · exact all_one (fun x hx => h x (List.mem_cons_of_mem _ hx)) (by omega) x hx
theorem le_sum_of {n : Nat} {f : Nat → Int} (h0 : ∀ i, i < n → 0 ≤ f i) {a : Nat} (ha : a < n) : f a ≤ ((List.range n).map f).sum := by
  have go : ∀ l : List Nat, (∀ i ∈ l, i < n) → a ∈ l → f a ≤ (l.map f).sum := fun l => by
    induction l with
    | nil => exact fun _ h => absurd h List.not_mem_nil
    | cons i l ih =>
      intro hl hm
      have nn : ∀ x ∈ l.map f, 0 ≤ x := fun x hx => by
        obtain ⟨j, hj, rfl⟩ := List.mem_map.mp hx
        exact h0 j (hl j (List.mem_cons_of_mem _ hj))
      have s0 := sum_nn nn
      have i0 := h0 i (hl i List.mem_cons_self)
      simp only [List.map_cons, List.sum_cons]
      rcases List.mem_cons.mp hm with rfl | hm
      · omega
      · have := ih (fun j hj => hl j (List.mem_cons_of_mem _ hj)) hm
        omega
  exact go _ (fun i hi => List.mem_range.mp hi) (List.mem_range.mpr ha)
theorem last_step {t : Tn} {a b : Nat} (h : Rch t a b) : ∃ z, Strt t z b := by
  cases h with
  | one s => exact ⟨_, s⟩
  | more _ s => exact ⟨_, s⟩
theorem rg_rev {t : Tn} (hn : Nng t) (hc : Conn t) (h : RgT t) : RgT (revT t) := by
  have hl := revT_len t
  have cs : ∀ j, j < t.length → 1 ≤ ((List.range t.length).map fun i => ent t i j).sum := fun j hj => by
    obtain ⟨z, s⟩ := last_step (hc j j hj hj)
    have := le_sum_of (n := t.length) (f := fun i => ent t i j) (fun i _ => (hn.ent i j).1) s.1
    have := s.2.2
    omega
  have tot : ((List.range t.length).map fun j => ((List.range t.length).map fun i => ent t i j).sum).sum = t.length := by
    rw [← sum_comm2 (fun i j => ent t i j)]
    rw [sum_congr (g := fun _ => 1) fun i hi => h i hi]
    have : ∀ k : List Nat, (k.map fun _ => (1 : Int)).sum = k.length := fun k => by induction k with
      | nil => rfl
      | cons x k ih => simp only [List.map_cons, List.sum_cons, ih, List.length_cons]; omega
    rw [this, List.length_range]
  have one := all_one (l := (List.range t.length).map fun j => ((List.range t.length).map fun i => ent t i j).sum) (fun x hx => by
    obtain ⟨j, hj, rfl⟩ := List.mem_map.mp hx
    exact cs j (List.mem_range.mp hj)) (by rw [tot]; simp)
  intro i hi
  rw [hl] at hi ⊢
  rw [sum_congr (g := fun j => ent t j i) fun j hj => revT_ent hi hj]
  exact one _ (List.mem_map.mpr ⟨i, List.mem_range.mpr hi, rfl⟩)
theorem sum_restV {t : Tn} {q : Nat} (hq : q < t.length) (h : RgT t) : ((List.range t.length).map fun j => restV t q j).sum = 0 := by
  have e : ((List.range t.length).map fun j => restV t q j).sum = ((List.range t.length).map fun j => ent t q j + -1 * if q = j then 1 else 0).sum := sum_congr fun j _ => by unfold restV; split <;> omega
  rw [e, sum_map_add, h q hq, sum_map_mul, sum_unit, if_pos hq]
  rfl
theorem rg_led {t : Tn} {p q : Nat} {m : Int} (hp : p < t.length) (hq : q < t.length) (h : RgT t) : RgT (ledT t p q m) := by
  have hl := ledT_len t p q m
  intro i hi
  rw [hl] at hi ⊢
  rw [sum_congr (g := fun j => ent t i j + if i = p then m * restV t q j else 0) fun j hj => ledT_ent hi hj]
  by_cases c : i = p
  · simp only [c, if_true]
    rw [sum_map_add, sum_map_mul, sum_restV hq h, h p hp]
    omega
  · simp only [c, if_false, Int.add_zero]
    exact h i hi
theorem rg_fold {t : Tn} {p : Nat} (hn : Nng t) (hc : foldC t p = true) (h : RgT t) : RgT (foldT t p) := by
  obtain ⟨hp, h2, h0, _, _⟩ := foldC_iff.mp hc
  have pp : ent t p p = 0 := by have := (hn.ent p p).1; omega
  have hl := foldT_len t p
  obtain ⟨m, hm⟩ : ∃ m, t.length = m + 1 := ⟨t.length - 1, by omega⟩
  have row : ∀ i, i < t.length → ((List.range (t.length - 1)).map fun j => ent t i (shp p j)).sum = 1 - ent t i p := fun i hi => by
    have := h i hi
    rw [hm, sum_shp (n := m) (p := p) (by omega)] at this
    rw [hm, Nat.add_sub_cancel]
    omega
  intro i hi
  rw [hl] at hi ⊢
  have hs := shp_lt (p := p) hi
  rw [sum_congr (g := fun j => ent t (shp p i) (shp p j) + ent t (shp p i) p * ent t p (shp p j)) fun j hj => foldT_ent hi hj]
  rw [sum_map_add, sum_map_mul, row _ hs, row p hp, pp]
  omega
theorem rg_unf {t : Tn} {p : Nat} {ins outs : List Int} (hc : unfC t p ins outs = true) (hi : ∀ x ∈ ins, 0 ≤ x) (ho : ∀ x ∈ outs, 0 ≤ x) (hlo : outs.length = ins.length) (h : RgT t) : RgT (unfT t p ins outs) := by
  obtain ⟨hp, l1, s1, s2, h0⟩ := unfC_iff.mp hc
  have hl := unfT_len t p ins outs
  obtain ⟨i0, i1, i2⟩ := pos_of_sum hi s1
  have so : ((List.range t.length).map fun j => outs.getD j 0).sum = outs.sum := sum_getD_eq (hlo.trans l1)
  have row : ∀ i, i < t.length → ((List.range t.length).map fun j => ent t i j - ins.getD i 0 * outs.getD j 0).sum = 1 - ins.getD i 0 * outs.sum := fun i hi => by
    rw [sum_congr (g := fun j => ent t i j + -ins.getD i 0 * outs.getD j 0) fun j _ => by rw [Int.neg_mul]; rfl, sum_map_add, sum_map_mul, h i hi, so, Int.neg_mul]
    rfl
  have one : outs.sum = 1 := by
    have a := row i0 (by omega)
    have b : 0 ≤ ((List.range t.length).map fun j => ent t i0 j - ins.getD i0 0 * outs.getD j 0).sum := sum_nn fun x hx => by
      obtain ⟨j, hj, rfl⟩ := List.mem_map.mp hx
      exact h0 i0 (by omega) j (List.mem_range.mp hj)
    have c := sum_nn ho
    have d : 1 * outs.sum ≤ ins.getD i0 0 * outs.sum := Int.mul_le_mul_of_nonneg_right (by omega) c
    omega
  intro i hi
  rw [hl] at hi ⊢
  rw [sum_shp hp]
  by_cases c : i = p
  · subst c
    rw [unf_pp hp, sum_congr (g := fun j => outs.getD j 0) fun j hj => unf_pj hp hj, so, one]
    rfl
  · have hu := unp_lt hp hi c
    have e1 : ent (unfT t p ins outs) i p = ins.getD (unp p i) 0 := by
      have := unf_ip (ins := ins) (outs := outs) hp hu
      rwa [shp_unp c] at this
    rw [e1, sum_congr (g := fun j => ent t (unp p i) j - ins.getD (unp p i) 0 * outs.getD j 0) fun j hj => by
      have := unf_ij (ins := ins) (outs := outs) hp hu hj
      rwa [shp_unp c] at this]
    rw [row _ hu, one]
    omega
theorem sum_swp {n p q : Nat} {f : Nat → Int} (hp : p < n) (hq : q < n) (hpq : p ≠ q) : ((List.range n).map fun j => f (swpI p q j)).sum = ((List.range n).map f).sum := by
  rw [sum_congr (g := fun j => if p = j then f q else if q = j then f p else f j) fun j _ => by
    unfold swpI
    by_cases h1 : p = j
    · subst h1
      rw [if_neg hpq, if_pos rfl, if_pos rfl]
    · by_cases h2 : q = j
      · subst h2
        rw [if_pos rfl, if_neg h1, if_pos rfl]
      · rw [if_neg (Ne.symm h2), if_neg (Ne.symm h1), if_neg h1, if_neg h2]]
  rw [sum_if hp, sum_if hq, if_neg hpq.symm]
  omega
theorem rg_swp {t : Tn} {p q : Nat} (hp : p < t.length) (hq : q < t.length) (hpq : p ≠ q) (h : RgT t) : RgT (swpT t p q) := by
  have hl := swpT_len t p q
  intro i hi
  rw [hl] at hi ⊢
  rw [sum_congr (f := fun j => ent (swpT t p q) i j) (g := fun j => ent t (swpI p q i) (swpI p q j)) fun j hj => mkTn_ent hi hj, sum_swp (f := fun j => ent t (swpI p q i) j) hp hq hpq]
  exact h _ (swpI_lt hp hq hi)
theorem movO_ring {t u : Tn} {v : Mv} (ht : Sqr t) (hn : Nng t) (hu : Nng u) (hv : MvOk v) (e : movO t v = some u) (hc : Conn t) (h : RgT t) : RgT u := by
  cases v with
  | fold p =>
    simp only [movO, foldO] at e
    split at e
    · rename_i c; cases e; exact rg_fold hn c h
    · cases e
  | unfold p ins outs =>
    simp only [movO, unfO] at e
    split at e
    · rename_i c; cases e; exact rg_unf c hv.1 hv.2.2 hv.2.1 h
    · cases e
  | swap p q =>
    simp only [movO, swpO] at e
    split at e
    · rename_i c
      cases e
      have hp : p < q := hv
      exact rg_swp (by omega) c (by omega) h
    · cases e
  | ahead p q m =>
    simp only [movO, ahdO] at e
    split at e
    · rename_i c; cases e; exact rg_led (ahdC_iff.mp c).1 (ahdC_iff.mp c).2.1 h
    · cases e
  | unahead p q m =>
    simp only [movO, uahO] at e
    split at e
    · rename_i c; cases e; exact rg_led (uahC_iff.mp c).1 (uahC_iff.mp c).2.1 h
    · cases e
  | behind p q m =>
    have cu := movO_conn ht hn hu hv e hc
    simp only [movO] at e
    obtain ⟨w, e1, rfl⟩ := Option.map_eq_some_iff.mp e
    have hw : Nng w := by
      have := hu.rev
      rwa [revT_revT (ahdO_sq e1).1] at this
    have cw : Conn w := by
      have := conn_rev cu
      rwa [revT_revT (ahdO_sq e1).1] at this
    refine rg_rev hw cw ?_
    unfold ahdO at e1
    split at e1
    · rename_i c; cases e1; exact rg_led (ahdC_iff.mp c).1 (ahdC_iff.mp c).2.1 (rg_rev hn hc h)
    · cases e1
  | unbehind p q m =>
    have cu := movO_conn ht hn hu hv e hc
    simp only [movO] at e
    obtain ⟨w, e1, rfl⟩ := Option.map_eq_some_iff.mp e
    have hw : Nng w := by
      have := hu.rev
      rwa [revT_revT (uahO_sq e1).1] at this
    have cw : Conn w := by
      have := conn_rev cu
      rwa [revT_revT (uahO_sq e1).1] at this
    refine rg_rev hw cw ?_
    unfold uahO at e1
    split at e1
    · rename_i c; cases e1; exact rg_led (uahC_iff.mp c).1 (uahC_iff.mp c).2.1 (rg_rev hn hc h)
    · cases e1
/-- a MOVE keeps the kind of a connected TOWN -/
theorem movO_kind {t u : Tn} {v : Mv} (ht : Sqr t) (h0 : 0 < t.length) (hn : Nng t) (hu : Sqr u) (hun : Nng u) (hv : MvOk v) (e : movO t v = some u) (hc : Conn t) : Conn u ∧ (RgT u ↔ RgT t) := by
  have cu := movO_conn ht hn hun hv e hc
  have fp : ∀ p, v = .fold p → p < t.length := fun p hp => by
    subst hp
    simp only [movO, foldO] at e
    split at e
    · rename_i c; exact (foldC_iff.mp c).1
    · cases e
  exact ⟨cu, fun r => movO_ring hu hun hn (opp_ok ht hn hv fp) (movO_back ht h0 hn hv e) cu r, fun r => movO_ring ht hn hun hv e hc r⟩
/-! ### rows of MOVES, and back -/
/-- the towns behind each MOVE, for those that can be done -/
def towns (t : Tn) : List Mv → Option Tn
  | [] => some t
  | v :: vs => (movO t v).bind fun u => towns u vs
/-- the opposites, in the order of the MOVES -/
def opps (t : Tn) : List Mv → List Mv
  | [] => []
  | v :: vs => oppV t v :: (match movO t v with
    | none => []
    | some u => opps u vs)
def backL (t : Tn) (vs : List Mv) : List Mv := (opps t vs).reverse
end Mi
end
section
/-! MiM6: rows of MOVES that can be done (plain). -/
namespace Mi
/-- a row of MOVES leads from a TOWN to another, all of them small -/
inductive Chn (B M : Int) : Tn → List Mv → Tn → Prop
  | nil {t : Tn} : TnB B t → t.length ≤ 6 → Chn B M t [] t
  | cons {t u w : Tn} {v : Mv} {vs : List Mv} : TnB B t → t.length ≤ 6 → MvOk v → MvM M v → movO t v = some u → Chn B M u vs w → Chn B M t (v :: vs) w
section
variable {B M : Int}
theorem Chn.tb {t u : Tn} {vs : List Mv} (h : Chn B M t vs u) : TnB B t ∧ t.length ≤ 6 := by
  cases h with
  | nil h l => exact ⟨h, l⟩
  | cons h l => exact ⟨h, l⟩
theorem Chn.te {t u : Tn} {vs : List Mv} (h : Chn B M t vs u) : TnB B u ∧ u.length ≤ 6 := by
  induction h with
  | nil h l => exact ⟨h, l⟩
  | cons _ _ _ _ _ _ ih => exact ih
theorem Chn.app {t u w : Tn} {vs ws : List Mv} (h : Chn B M t vs u) (g : Chn B M u ws w) : Chn B M t (vs ++ ws) w := by
  induction h with
  | nil _ _ => exact g
  | cons a b c d e _ ih => exact .cons a b c d e (ih g)
theorem Chn.snoc {t u w : Tn} {vs : List Mv} {v : Mv} (h : Chn B M t vs u) (hv : MvOk v) (hm : MvM M v) (e : movO u v = some w) (hw : TnB B w) (hl : w.length ≤ 6) : Chn B M t (vs ++ [v]) w :=
  h.app (.cons h.te.1 h.te.2 hv hm e (.nil hw hl))
theorem Chn.split {t w : Tn} : ∀ {xs ys : List Mv}, Chn B M t (xs ++ ys) w → ∃ h, Chn B M t xs h ∧ Chn B M h ys w := by
  intro xs
  induction xs generalizing t with
  | nil => exact fun h => ⟨t, .nil h.tb.1 h.tb.2, h⟩
  | cons x xs ih =>
    intro ys h
    cases h with
    | cons a b c d e f =>
      obtain ⟨g, g1, g2⟩ := ih f
      exact ⟨g, .cons a b c d e g1, g2⟩
theorem fold_lt {t u : Tn} {v : Mv} (e : movO t v = some u) : ∀ p, v = .fold p → p < t.length := fun p hp => by
  subst hp
  simp only [movO, foldO] at e
  split at e
  · rename_i c; exact (foldC_iff.mp c).1
  · cases e
theorem Chn.back (hBM : B ≤ M) {t u : Tn} {vs : List Mv} (h : Chn B M t vs u) : Chn B M u (backL t vs) t := by
  induction h with
  | nil h l => exact .nil h l
  | cons a b c d e f ih =>
    simp only [backL, opps, e, List.reverse_cons] at ih ⊢
    exact ih.snoc (opp_ok a.sq a.nn c (fold_lt e)) (opp_mm a hBM d (fold_lt e)) (movO_back a.sq a.pos a.nn c e) a b
theorem Chn.along {t u : Tn} {vs : List Mv} (h : Chn B M t vs u) : ∀ n, ∃ us, along n t vs = .inr us ∧ ∀ hne, (t :: us).getLast hne = u := by
  induction h with
  | nil _ _ => exact fun n => ⟨[], rfl, fun _ => rfl⟩
  | cons a b c d e f ih =>
    intro n
    obtain ⟨us, u1, u2⟩ := ih (n + 1)
    rename_i ta ua wa va vsa
    refine ⟨ua :: us, by simp only [Mi.along, e, u1], fun hne => ?_⟩
    rw [List.getLast_cons (by simp)]
    exact u2 _
theorem Chn.stop {t u : Tn} {xs rest : List Mv} {v : Mv} (h : Chn B M t xs u) (hv : movO u v = none) : ∀ n, Mi.along n t (xs ++ v :: rest) = .inl (n + xs.length) := by
  induction h with
  | nil _ _ => intro n; simp only [List.nil_append, Mi.along, hv]; rfl
  | cons a b c d e f ih =>
    intro n
    simp only [List.cons_append, Mi.along, e, ih hv (n + 1), List.length_cons]
    congr 1
    omega
theorem Chn.kind {t u : Tn} {xs : List Mv} (h : Chn B M t xs u) : Conn t → Conn u ∧ (RgT u ↔ RgT t) := by
  induction h with
  | nil _ _ => exact fun h => ⟨h, Iff.rfl⟩
  | cons a b c d e f ih =>
    intro hc
    obtain ⟨c1, c2⟩ := movO_kind a.sq a.pos a.nn f.tb.1.sq f.tb.1.nn c e hc
    obtain ⟨d1, d2⟩ := ih c1
    exact ⟨d1, d2.trans c2⟩
end
end Mi
end
section
/-! MiS1: PARTS in plain data; what they are worth by a number; a number that tells two apart; closed calls. -/
namespace Mi
def mks (P : List Nat) (m : Nat) : Nat := (P.map fun p => Nat.gcd p m).prod
def unlO : List (Nat × Nat) → Option Nat
  | [] => none
  | (a, b) :: r => if a = b then unlO r else some (if a = 0 ∨ b = 0 then 2 * max a b else if b % a ≠ 0 then a else b)
def padN (P : List Nat) (n : Nat) : List Nat := List.replicate (n - P.length) 1 ++ P
structure Prt (P : List Nat) : Prop where
  ne : ∀ p ∈ P, p ≠ 1
  ch : P.Pairwise (· ∣ ·)
def unlN (P Q : List Nat) : Option Nat := unlO ((padN P (max P.length Q.length)).zip (padN Q (max P.length Q.length)))
/-- draws on the way; what comes is known -/
theorem lcL_drawF {cx : Cx} {env : Env} {g : G} {e : Env → Sto → Out D} {α : Type} {encA : α → D} {f : α → D} {c N : Nat} {xs : List α} {nn : Nat} {T : List D} {R : Sto} (hT : TinC nn T) (hn : nn + c * xs.length ≤ N)
    (h : ∀ x ∈ xs, ∀ m T, TinC m T → m ≤ N → Op (gset g (encA x) env) fun env1 => Ok (e env1 (T :: R)) (fun d s => d = f x ∧ ∃ T', s = T' :: R ∧ TinC (m + c) T') nX) :
    Ok (lcL [] g (evOT cx .none) e env (xs.map encA) (T :: R)) (fun ds s => ds = xs.map f ∧ ∃ T', s = T' :: R ∧ TinC (nn + c * xs.length) T') nX := by
  have := lcL_each (cx := cx) (env := env) (g := g) (e := e) (wt := []) (enc := encA) (I := fun ys done s => ∃ pre T', xs = pre ++ ys ∧ done = pre.map f ∧ s = T' :: R ∧ TinC (nn + c * pre.length) T') (xs := xs) (st := T :: R) (done := []) ⟨[], T, rfl, rfl, rfl, by simpa using hT⟩ (fun _ _ _ _ => rfl) ?_
  · refine this.imp ?_
    rintro ds s ⟨pre, T', e, h1, rfl, h2⟩
    rw [List.append_nil] at e
    subst e
    exact ⟨by simpa using h1, T', rfl, h2⟩
  · rintro x ys done s ⟨pre, T', hx, rfl, rfl, hT'⟩
    have hxm : x ∈ xs := by rw [hx]; simp
    have hlen : pre.length + 1 ≤ xs.length := by rw [hx]; simp
    have hle : nn + c * pre.length ≤ N := Nat.le_trans (Nat.add_le_add_left (Nat.mul_le_mul_left _ (by omega)) _) hn
    obtain ⟨env1, g1, q⟩ := (h x hxm _ _ hT' hle).get
    rw [g1, op_some]
    refine q.imp ?_
    rintro d s ⟨rfl, T2, rfl, hT2⟩
    exact ⟨pre ++ [x], T2, by rw [hx]; simp, by simp, rfl, by rw [List.length_append, List.length_singleton, Nat.mul_add, Nat.mul_one, ← Nat.add_assoc]; exact hT2⟩
theorem forL_invD {wt : Wt} {g : G} {body : Env → Sto → SOut} {k : Kt} (I : List D → Env → Sto → Prop) {xs : List D} {env : Env} {st : Sto} (h0 : I xs env st) (hw : ∀ xs env st, I xs env st → okW st wt = true)
    (hs : ∀ x xs env st, I (x :: xs) env st → Op (gset g x env) fun env1 => Sk (body env1 st) ⟨fun e s => I xs e s, k.r, k.n, fun e s => I xs e s, k.x⟩) (hn : ∀ env st, I [] env st → k.n env st) : Sk (forL wt g body xs env st) k := by
  have := forL_inv (enc := fun d : D => d) (g := g) (body := body) (k := k) I h0 hw hs hn
  rwa [show xs.map (fun d : D => d) = xs from List.map_id' xs] at this
/-! closed calls -/
theorem frame_t {p : Prg} {k f : Nat} {ds : List D} {v : D} {s0 : Sto} (hp : D.purs ds = true) (h : callN p k true f ds [] = .ok v s0) (st : Sto) : callN p k true f ds st = .ok v st := by
  cases k with
  | zero => rw [callN_zero] at h; cases h
  | succ k =>
    rw [callN_succ] at h ⊢
    cases e : p.defs[f]? with
    | none => rw [e] at h; cases h
    | some df =>
      rw [e] at h
      simp only at h ⊢
      split
      · rename_i c
        rw [if_pos c] at h
        simp only [hp, if_true] at h ⊢
        generalize exSs _ df.body (envOf df ds) [] = o at h ⊢
        cases o with
        | ret d s =>
          simp only [runD, if_true, outP] at h ⊢
          split
          · rename_i c2; rw [if_pos c2] at h; cases h; rfl
          · rename_i c2; rw [if_neg c2] at h
            split
            · rename_i c3; rw [if_pos c3] at h; cases h; rfl
            · rename_i c3; rw [if_neg c3] at h; cases h
        | nxt e s => simp only [runD, if_true] at h ⊢; cases h; rfl
        | exc x e s =>
          simp only [runD, if_true] at h
          split at h
          · cases h
          · split at h <;> cases h
        | brk => cases h
        | cnt => cases h
        | bad => cases h
      · rename_i c; rw [if_neg c] at h; cases h
/-! equal values, by looking -/
mutual
def sameD : D → D → Bool
  | .non, .non => true
  | .bl a, .bl b => a == b
  | .int a, .int b => decide (a = b)
  | .str a, .str b => decide (a.cps.toList = b.cps.toList)
  | .tup a, .tup b => sameDs a b
  | .fl a, .fl b => sameDs a b
  | .ref a, .ref b => decide (a = b)
  | _, _ => false
def sameDs : List D → List D → Bool
  | [], [] => true
  | a :: r, b :: t => sameD a b && sameDs r t
  | _, _ => false
end
mutual
theorem sameD_eq : ∀ {a b : D}, sameD a b = true → a = b
  | .non, b, h => by cases b <;> first | rfl | exact nomatch h
  | .bl x, b, h => by
    cases b with
    | bl y => simp only [sameD, beq_iff_eq] at h; rw [h]
    | _ => exact nomatch h
  | .int x, b, h => by
    cases b with
    | int y => simp only [sameD, decide_eq_true_eq] at h; rw [h]
    | _ => exact nomatch h
  | .str x, b, h => by
    cases b with
    | str y =>
      simp only [sameD, decide_eq_true_eq] at h
      obtain ⟨⟨x⟩⟩ := x
      obtain ⟨⟨y⟩⟩ := y
      simp only at h
      rw [h]
    | _ => exact nomatch h
  | .tup x, b, h => by
    cases b with
    | tup y => rw [sameDs_eq (show sameDs x y = true from by simpa only [sameD] using h)]
    | _ => exact nomatch h
  | .fl x, b, h => by
    cases b with
    | fl y => rw [sameDs_eq (show sameDs x y = true from by simpa only [sameD] using h)]
    | _ => exact nomatch h
  | .ref x, b, h => by
    cases b with
    | ref y => simp only [sameD, decide_eq_true_eq] at h; rw [h]
    | _ => exact nomatch h
theorem sameDs_eq : ∀ {a b : List D}, sameDs a b = true → a = b
  | [], b, h => by cases b <;> first | rfl | exact nomatch h
  | x :: r, b, h => by
    cases b with
    | nil => exact nomatch h
    | cons y t =>
      simp only [sameDs, Bool.and_eq_true] at h
      rw [sameD_eq h.1, sameDs_eq h.2]
end
end Mi
end
section
/-! MiR1: the equations of the interpreter, in one. -/
namespace Mi
def rAll := (And.intro (And.intro (And.intro (And.intro (And.intro (And.intro (And.intro (And.intro @ok_ok @ok_exc) (And.intro @op_some @op_map)) (And.intro (And.intro @op_bind @ok_ofO) (And.intro @br_true (And.intro @br_false @br_dec)))) (And.intro (And.intro (And.intro @br_not @ok_var) (And.intro @ok_cst (And.intro @ok_glob @ok_tup))) (And.intro (And.intro @ok_lst @ok_bin) (And.intro @ok_neg (And.intro @ok_cmp @op_blOf))))) (And.intro (And.intro (And.intro (And.intro @ok_chain @ok_isN) (And.intro @ok_notN (And.intro @ok_and @ok_or))) (And.intro (And.intro @ok_not @ok_ifv) (And.intro @ok_ix (And.intro @ok_sl @ok_call)))) (And.intro (And.intro (And.intro @op_placed @ok_bi) (And.intro @ok_rev (And.intro @ok_tupS @op_strOf))) (And.intro (And.intro @ok_look @ok_glook) (And.intro @op_seqT (And.intro @op_seqF @op_seqR)))))) (And.intro (And.intro (And.intro (And.intro (And.intro @v_revF @v_revT) (And.intro @v_revR (And.intro @ok_isi @ok_mth))) (And.intro (And.intro @ok_rg @ok_lc) (And.intro @ok_lc2 (And.intro @ot_and @ot_or)))) (And.intro (And.intro (And.intro @ot_not @ot_ite) (And.intro @ot_var (And.intro @ot_cst @ot_cmp))) (And.intro (And.intro @ot_chain @ot_isN) (And.intro @ot_notN (And.intro @ot_rev @ot_tupS))))) (And.intro (And.intro (And.intro (And.intro @ot_look @ot_glook) (And.intro @ot_isi (And.intro @ot_call @ot_bi))) (And.intro (And.intro @ot_ix @ot_bin) (And.intro @os_nil (And.intro @os_cons @oo_none)))) (And.intro (And.intro (And.intro @oo_some @oi_none) (And.intro @oi_some (And.intro @oot_none @oot_some))) (And.intro (And.intro @or_seq @or_rng) (And.intro @or_enum (And.intro @or_zip @sk_nil))))))) (And.intro (And.intro (And.intro (And.intro (And.intro (And.intro @sk_cons @sk_asg) (And.intro @op_gset @op_gset_tup)) (And.intro (And.intro @op_gset_fl @op_gsets_nil) (And.intro @op_gsets_cons (And.intro @op_sets @sk_par)))) (And.intro (And.intro (And.intro @sk_sub @ok_stO) (And.intro @sk_aug (And.intro @sk_augS @sk_swp))) (And.intro (And.intro @sk_ex @sk_ret) (And.intro @sk_ret0 (And.intro @sk_if @sk_for))))) (And.intro (And.intro (And.intro (And.intro @sk_whil @sk_brk) (And.intro @sk_cnt (And.intro @sk_pass @sk_raise))) (And.intro (And.intro @sk_try @sk_hnil) (And.intro @sk_hcons (And.intro @sk_suL @sk_suC)))) (And.intro (And.intro (And.intro @op_suN @op_suS) (And.intro @op_suC (And.intro @op_suF @op_suI))) (And.intro (And.intro @op_suA @v_mkL) (And.intro @v_mkR (And.intro @v_mkT @v_add)))))) (And.intro (And.intro (And.intro (And.intro (And.intro @v_sub @v_mul) (And.intro @v_fdiv (And.intro @v_fdv @v_mdv))) (And.intro (And.intro @v_mod @v_pow) (And.intro @v_addT (And.intro @v_addF @v_addS)))) (And.intro (And.intro (And.intro @v_addFR @v_addRF) (And.intro @v_repT (And.intro @v_repF @v_eqI))) (And.intro (And.intro @v_neI @v_eqS) (And.intro @v_neS (And.intro @v_neB @v_eqB))))) (And.intro (And.intro (And.intro (And.intro @v_lt @v_gt) (And.intro @v_le (And.intro @v_ge @v_ixT))) (And.intro (And.intro @v_ixF @v_ixR) (And.intro @v_lenT (And.intro @v_lenF @v_lenR)))) (And.intro (And.intro (And.intro @v_tupF @v_tupT) (And.intro @v_tupR (And.intro @v_listF @v_listT))) (And.intro (And.intro @v_listR @v_sumF) (And.intro @v_sumT (And.intro @v_allF @v_anyF)))))))) (And.intro (And.intro (And.intro (And.intro (And.intro (And.intro (And.intro @v_srtI @v_sortF) (And.intro @v_sortR @v_sortT)) (And.intro (And.intro @v_abs @v_intI) (And.intro @v_intB (And.intro @v_maxT @v_minT)))) (And.intro (And.intro (And.intro @v_minF @v_maxF) (And.intro @v_minRT (And.intro @v_minRF @v_maxRT))) (And.intro (And.intro @v_maxRF @v_max2) (And.intro @v_min2 (And.intro @v_zipTT @v_zipFT))))) (And.intro (And.intro (And.intro (And.intro @v_zipTF @v_zipFF) (And.intro @v_enumT (And.intro @v_enumF @v_rng1))) (And.intro (And.intro @v_rng2 @s_tup) (And.intro @s_fl (And.intro @s_ref @t_bl)))) (And.intro (And.intro (And.intro @t_int @t_non) (And.intro @t_ref (And.intro @m_append @m_insert))) (And.intro (And.intro @m_pop @m_popAt) (And.intro @g_addI (And.intro @g_subI @g_mulI)))))) (And.intro (And.intro (And.intro (And.intro (And.intro @g_fdivI @l_ixR) (And.intro @l_ixF (And.intro @d_ref @mk_pop))) (And.intro (And.intro @mk_popAt @mk_insert) (And.intro @mk_append (And.intro @mk_extend @ok_dnew)))) (And.intro (And.intro (And.intro @ok_dnew1 @v_dnew) (And.intro @ok_dget (And.intro @v_dget @ok_din))) (And.intro (And.intro @v_din @v_dnin) (And.intro @ok_fld (And.intro @v_fld @ok_new))))) (And.intro (And.intro (And.intro (And.intro @ok_mcall @m_ok) (And.intro @ok_stF (And.intro @d_setf @d_dput))) (And.intro (And.intro @sk_dput @sk_setf) (And.intro @sk_setf2 (And.intro @ot_dget @ot_din)))) (And.intro (And.intro (And.intro @ot_fld @ot_mcall) (And.intro @op_none (And.intro @ints_some @ints_map))) (And.intro (And.intro @bls_map @decide_true) (And.intro @Bool.and_true (And.intro @Bool.true_and @true_and))))))) (And.intro (And.intro (And.intro (And.intro (And.intro (And.intro @and_true @Nat.lt_add_one) (And.intro @Nat.zero_lt_succ @Nat.lt_irrefl)) (And.intro (And.intro @Nat.succ_lt_succ_iff @Int.toNat_natCast) (And.intro @List.length_range (And.intro @len_rng @zip_gen)))) (And.intro (And.intro (And.intro @enum_map @Bool.false_eq_true) (And.intro @Bool.not_true (And.intro @Bool.not_false @encN_none))) (And.intro (And.intro @encN_some @encO_none) (And.intro @encO_some (And.intro @Int.cast_ofNat_Int @Int.natCast_zero))))) (And.intro (And.intro (And.intro (And.intro @not_true_eq_false @not_false_eq_true) (And.intro @false_implies (And.intro @true_implies @v_rgF))) (And.intro (And.intro @v_rgT @v_rgR) (And.intro @m_extendF (And.intro @m_extendT @re_val)))) (And.intro (And.intro (And.intro @re_exc @Nat.zero_add) (And.intro @pl_0 (And.intro @pl_01 @pl_10))) (And.intro (And.intro @pl_012 @pl_021) (And.intro @pl_102 (And.intro @pl_120 @pl_201)))))) (And.intro (And.intro (And.intro (And.intro (And.intro @pl_210 @pl_0123) (And.intro @pl_0132 (And.intro @pl_0213 @pl_0231))) (And.intro (And.intro @pl_0312 @pl_0321) (And.intro @pl_1023 (And.intro @pl_1032 @pl_1203)))) (And.intro (And.intro (And.intro @pl_1230 @pl_1302) (And.intro @pl_1320 (And.intro @pl_2013 @pl_2031))) (And.intro (And.intro @pl_2103 @pl_2130) (And.intro @pl_2301 (And.intro @pl_2310 @pl_3012))))) (And.intro (And.intro (And.intro (And.intro @pl_3021 @pl_3102) (And.intro @pl_3120 (And.intro @pl_3201 @pl_3210))) (And.intro (And.intro @pl_01234 @pl_43210) (And.intro @rep0 (And.intro @v_slT @v_slF)))) (And.intro (And.intro (And.intro @cut_map @at_lit0) (And.intro @at_lit1 (And.intro @at_lit2 @at_lit3))) (And.intro (And.intro @ix30 @ix31) (And.intro @ix32 (And.intro @gone_none @gone_some)))))))))
def rEnv := (And.intro (And.intro (And.intro (And.intro @List.all_cons.{0} @List.all_nil.{0}) (And.intro @List.map_cons.{0, 0} @List.map_nil.{0, 0})) (And.intro (And.intro @List.length_cons.{0} @List.length_nil.{0}) (And.intro @List.replicate_zero.{0} @List.replicate_succ.{0}))) (And.intro (And.intro (And.intro @List.cons_append.{0} @List.nil_append.{0}) (And.intro @List.getElem?_cons_zero.{0} @List.getElem?_cons_succ.{0})) (And.intro (And.intro @List.set_cons_zero.{0} @List.set_cons_succ.{0}) (And.intro @List.set_nil.{0} (And.intro @List.length_map.{0, 0} @Option.getD_none.{0})))))
end Mi
end
namespace Pk27
open Mi
abbrev g_MOST_TOLD_sheets : D := (.int 2000)
theorem gl_MOST_TOLD_sheets : prg.globs.lookup ⟨#[77, 79, 83, 84, 95, 84, 79, 76, 68, 95, 115, 104, 101, 101, 116, 115]⟩ = some g_MOST_TOLD_sheets := rfl
abbrev g_MOST_TOLD_marks : D := (.int 2000)
theorem gl_MOST_TOLD_marks : prg.globs.lookup ⟨#[77, 79, 83, 84, 95, 84, 79, 76, 68, 95, 109, 97, 114, 107, 115]⟩ = some g_MOST_TOLD_marks := rfl
abbrev x_CanNot : Nat := 0
abbrev x_TooMany : Nat := 1
abbrev x_Unfit : Nat := 2
section
variable {k : Nat} {fz : Bool} {st : Sto}

theorem sp_is_number {d : D} (hp : d.pur = true) : callN prg (k+1) fz i_is_number [d] st = .ok (.bl (isNum d)) st := by
  refine call_val (df := d_is_number) rfl rfl (by decide) (by simp [D.purs, hp]) rfl ?_
  simp only [d_is_number, b_is_number]
  cases d <;> simp [rAll, rEnv, envOf, wipe, setsR, Kr, lineN, if_true, if_false, Int.cast_ofNat_Int, implies_true, Nat.reduceLeDiff, Nat.reduceAdd, Nat.reduceSub, Nat.reduceLT, Int.reduceEq, Int.reduceLT, Int.reduceLE, Int.reduceNeg, Int.reduceAdd, Int.reduceSub, Int.reduceMul, gl_MOST_TOLD_sheets, gl_MOST_TOLD_marks, isTy, isLst, isTup, isNum]

theorem sp_is_from {i l : Int} : callN prg (k+2) fz i_is_from [.int i, .int l] st = .ok (.bl (decide (l ≤ i))) st := by
  refine call_val (df := d_is_from) rfl rfl (by decide) (by simp [D.purs, D.pur]) rfl ?_
  simp only [d_is_from, b_is_from]
  simp only [rAll, rEnv, envOf, wipe, setsR, Kr, lineN, if_true, if_false, Int.cast_ofNat_Int, implies_true, Nat.reduceLeDiff, Nat.reduceAdd, Nat.reduceSub, Nat.reduceLT, Int.reduceEq, Int.reduceLT, Int.reduceLE, Int.reduceNeg, Int.reduceAdd, Int.reduceSub, Int.reduceMul, gl_MOST_TOLD_sheets, gl_MOST_TOLD_marks, sp_is_number (d := .int i) rfl, isNum]

theorem sp__law_box {ns : List Int} : ∃ T : List D, TinC 0 T ∧ callN prg (k+1) false i__law_box [.fl (ns.map .int), .int 0] st = .ok (.ref st.length) (st ++ [T]) := by
  have hN : lineN = 16777216 := rfl
  suffices h : Ok (callN prg (k+1) false i__law_box [.fl (ns.map .int), .int 0] st) (fun d s => ∃ T : List D, TinC 0 T ∧ d = .ref st.length ∧ s = st ++ [T]) nX by
    obtain ⟨d, s, e, T, h, rfl, rfl⟩ := h.get
    exact ⟨T, h, e⟩
  refine call_pure (df := d__law_box) rfl rfl (by decide) (by simp [D.purs, D.pur, purs_ints]) ?_
  simp only [d__law_box, b__law_box]
  have e0 : ∀ h : 0 < ns.length, atI (ns.map D.int) (0 : Int) = some (.int (ns.getD 0 0)) := fun h => by
    have := at_nat (xs := ns.map D.int) (n := 0) (by simpa using h)
    rw [List.getElem_map] at this
    rw [List.getD_eq_getElem?_getD, List.getElem?_eq_getElem h]; exact this
  have fin : ∀ b : Int, (∀ k : Int, b = k → True) → ∀ X : Prop, X → X := fun _ _ _ h => h
  have key : ∀ x y : Int, Ok (outP false st (.ref 0) [[.int x, .int y, .int 0]]) (fun d s => ∃ T : List D, TinC 0 T ∧ d = .ref st.length ∧ s = st ++ [T]) nX := fun x y => by
    rw [show outP false st (.ref 0) [[.int x, .int y, .int 0]] = .ok (.ref st.length) (st ++ [[.int x, .int y, .int 0]]) from rfl, ok_ok]
    exact ⟨[.int x, .int y, .int 0], ⟨x, y, 0, rfl, Int.le_refl _, Int.le_refl _⟩, rfl, rfl⟩
  have mk : ∀ (c : Bool) (x : Int), mulOk x (if c = true then 1 else 0) = true := fun c x => by cases c <;> exact mulOk_r (by decide)
  simp only [rAll, rEnv, envOf, wipe, setsR, Kr, lineN, if_true, if_false, Int.cast_ofNat_Int, implies_true, Nat.reduceLeDiff, Nat.reduceAdd, Nat.reduceSub, Nat.reduceLT, Int.reduceEq, Int.reduceLT, Int.reduceLE, Int.reduceNeg, Int.reduceAdd, Int.reduceSub, Int.reduceMul, gl_MOST_TOLD_sheets, gl_MOST_TOLD_marks, mk, key]
  refine ⟨fun h => ?_, fun h => ?_⟩
  · rw [e0 (by omega)]
    simp only [rAll, rEnv, envOf, wipe, setsR, Kr, lineN, if_true, if_false, Int.cast_ofNat_Int, implies_true, Nat.reduceLeDiff, Nat.reduceAdd, Nat.reduceSub, Nat.reduceLT, Int.reduceEq, Int.reduceLT, Int.reduceLE, Int.reduceNeg, Int.reduceAdd, Int.reduceSub, Int.reduceMul, gl_MOST_TOLD_sheets, gl_MOST_TOLD_marks, mk, key]
    exact ⟨by decide, by decide⟩
  · exact ⟨by decide, by decide⟩

theorem sp__law_take {j n : Nat} {m : Int} {T : List D} (hs : st[j]? = some T) (hS : StL st) (hT : TinC n T) (hn : n ≤ 2 ^ 50) (h0 : 0 < m) (h1 : m < 2 ^ 200) : ∃ (v : Nat) (T' : List D), (v : Int) < m ∧ TinC (n + 1) T' ∧ callN prg (k+1) fz i__law_take [.ref j, .int m] st = .ok (.int v) (st.set j T') := by
  have hN : lineN = 16777216 := rfl
  obtain ⟨a, b, c, rfl, c0, c1⟩ := hT
  have hj := sto_lt hs
  suffices h : Ok (callN prg (k+1) fz i__law_take [.ref j, .int m] st) (fun d s => ∃ (v : Nat) (T' : List D), (v : Int) < m ∧ TinC (n + 1) T' ∧ d = .int v ∧ s = st.set j T') nX by
    obtain ⟨d, s, e, v, T', h1, h2, rfl, rfl⟩ := h.get
    exact ⟨v, T', h1, h2, e⟩
  refine call_ref (df := d__law_take) rfl rfl (by decide) rfl ?_
  simp only [d__law_take, b__law_take]
  have dm := divOk_of (j := m) (by omega) h1
  have fin : ∀ (x a b c : Int), 0 ≤ x → x < m → 0 ≤ c → c ≤ n + 1 → Ok (outR fz st (.int x) (st.set j [.int a, .int b, .int c])) (fun d s => ∃ (v : Nat) (T' : List D), (v : Int) < m ∧ TinC (n + 1) T' ∧ d = .int v ∧ s = st.set j T') nX := fun x a b c x0 x1 c0 c1 => by
    have hT : TinC (n + 1) [.int a, .int b, .int c] := ⟨a, b, c, rfl, c0, by omega⟩
    rw [outR_pur rfl (by simp) (hS.tin hT)]
    exact ⟨x.toNat, _, by omega, hT, by rw [Int.toNat_of_nonneg x0], rfl⟩
  have p1 : ∀ x : Int, 0 ≤ x % m ∧ x % m < m := fun x => ⟨Int.emod_nonneg _ (by omega), Int.emod_lt_of_pos _ h0⟩
  have p2 : ∀ x : Int, 0 ≤ x % 40009 + 7 ∧ x % 40009 + 7 < 2 ^ 64 := fun x => by omega
  simp only [rAll, rEnv, envOf, wipe, setsR, Kr, lineN, if_true, if_false, Int.cast_ofNat_Int, implies_true, Nat.reduceLeDiff, Nat.reduceAdd, Nat.reduceSub, Nat.reduceLT, Int.reduceEq, Int.reduceLT, Int.reduceLE, Int.reduceNeg, Int.reduceAdd, Int.reduceSub, Int.reduceMul, gl_MOST_TOLD_sheets, gl_MOST_TOLD_marks, hs, List.set_set, List.getElem?_set_self hj, dm, h0]
  refine ⟨fun ha => fin (a % m) (a / m) b c (p1 _).1 (p1 _).2 c0 (by omega), fun ha => ⟨mulOk_l (by decide), mulOk_r (by omega), by decide, mulOk_r ?_, mulOk_r (by decide), by decide, ?_⟩⟩
  · have := p2 ((b + 48271 * (c + 1)) * (39373 + (c + 1)) % 2147483647); omega
  · generalize (((b + 48271 * (c + 1)) * (39373 + (c + 1)) % 2147483647 + (c + 1) + b / 1000003) * ((b + 48271 * (c + 1)) * (39373 + (c + 1)) % 2147483647 % 40009 + 7) % 2147483629 * 48271 + (b + 48271 * (c + 1)) * (39373 + (c + 1)) % 2147483647) % 2147483587 / 64 = x
    exact fin (x % m) a b (c + 1) (p1 _).1 (p1 _).2 (by omega) (by omega)
theorem tk1 {m : Int} {n : Nat} {T : List D} (h : TinC n T) (hn : n ≤ 2 ^ 45) (h0 : 0 < m) (h1 : m < 2 ^ 200) : ∃ (v : Nat) (T' : List D), (v : Int) < m ∧ TinC (n + 1) T' ∧ callN prg 100 true i__law_take [.ref 0, .int m] [T] = .ok (.int v) [T'] := by
  obtain ⟨v, T', a, b, c⟩ := sp__law_take (k := 99) (fz := true) (st := [T]) (j := 0) (m := m) rfl (stl1 h) h (by omega) h0 h1
  exact ⟨v, T', a, b, c⟩

theorem sp__law_cells {ns : List Int} {m : Int} (h1 : 1 ≤ m) (h2 : m ≤ 63) (hl : ns.length ≤ 63) : ∃ cs : List Int, callN prg (k+1) true i__law_cells [.fl (ns.map .int), .int m] st = .ok (.fl (cs.map .int)) st := by
  have hN : lineN = 16777216 := rfl
  suffices h : Ok (callN prg (k+1) true i__law_cells [.fl (ns.map .int), .int m] st) (fun d s => ∃ cs : List Int, d = .fl (cs.map .int) ∧ s = st) nX by
    obtain ⟨d, s, e, cs, rfl, rfl⟩ := h.get
    exact ⟨cs, e⟩
  obtain ⟨m, rfl⟩ := Int.eq_ofNat_of_zero_le (a := m) (by omega)
  have loop : ∀ (r : Nat) (cs : List Int) (st0 : Sto), st0[r]? = some (cs.map .int) → (m < ns.length → cs.length = m) → Sk (forL [] (.tup [.nm 3, .nm 4]) (exSs (cxN prg k) (Ss.cons (S.asg (G.nm 5) (E.bin true Bop.mod (E.bi true Bi.int (Es.cons (E.var 3) Es.nil)) (E.var 1))) (Ss.cons (S.sub (E.var 2) (E.var 5) (E.bin true Bop.add ((E.var 2).ix (E.var 5)) (E.bin true Bop.mul (E.var 4) (E.bin true Bop.add (E.var 3) (E.cst (D.int 2)))))) Ss.nil)))
      ((((ns.drop m).take (63 - m)).zipIdx 0).map fun p => .tup [.int p.2, .int p.1]) [some (.fl (ns.map .int)), some (.int m), some (.ref r), none, none, none] st0)
      ⟨fun e s1 => Op e[2]? fun x => Op x fun d => Ok (outP true st d s1) (fun d s => ∃ cs : List Int, d = .fl (cs.map .int) ∧ s = st) nX, fun d s => Ok (outP true st d s) (fun d s => ∃ cs : List Int, d = .fl (cs.map .int) ∧ s = st) nX, fun _ _ => False, fun _ _ => False, fun x _ s => match x.v with
        | none => nX x st
        | some d => d.pur = true ∧ nX x st⟩ := by
    intro r cs st0 hr hc
    refine forL_inv (I := fun xs env s => ∃ (cs : List Int), ∃ x3 x4 x5, env = [some (.fl (ns.map .int)), some (.int m), some (.ref r), x3, x4, x5] ∧ s[r]? = some (cs.map .int) ∧ (m < ns.length → cs.length = m) ∧ ∀ x ∈ xs, x.2 ≤ 63 ∧ m < ns.length) ⟨cs, none, none, none, rfl, hr, hc, fun x hx => ?_⟩ (fun _ _ _ _ => rfl) ?_ ?_
    · have := List.mem_zipIdx hx
      simp only [List.length_take, List.length_drop] at this
      exact ⟨by omega, by omega⟩
    · rintro ⟨b, i⟩ xs env s ⟨cs, x3, x4, x5, rfl, hr, hc, hx⟩
      have hi := hx (b, i) List.mem_cons_self
      have hcl := hc hi.2
      have hm : i % m < cs.length := by rw [hcl]; exact Nat.mod_lt _ (by omega)
      have e1 : ((i : Int) % (m : Int)) = ((i % m : Nat) : Int) := by omega
      have e2 : atI (cs.map D.int) ((i : Int) % (m : Int)) = some (.int (cs.getD (i % m) 0)) := by
        rw [e1, at_map, at_nat hm, List.getD_eq_getElem?_getD, List.getElem?_eq_getElem hm]; rfl
      have e3 : ixN cs.length ((i : Int) % (m : Int)) = some (i % m) := by rw [e1]; exact ixN_nat hm
      simp only [rAll, rEnv, envOf, wipe, setsR, Kr, lineN, if_true, if_false, Int.cast_ofNat_Int, implies_true, Nat.reduceLeDiff, Nat.reduceAdd, Nat.reduceSub, Nat.reduceLT, Int.reduceEq, Int.reduceLT, Int.reduceLE, Int.reduceNeg, Int.reduceAdd, Int.reduceSub, Int.reduceMul, gl_MOST_TOLD_sheets, gl_MOST_TOLD_marks, hr, e2, e3]
      refine ⟨by omega, mulOk_r (by have := hi.1; omega), cs.set (i % m) (cs.getD (i % m) 0 + b * ((i : Int) + 2)), _, _, _, rfl, ?_, fun h => by simpa using hc h, fun x h => hx x (List.mem_cons_of_mem _ h)⟩
      rw [List.getElem?_set_self (sto_lt hr), List.map_set]
    · rintro env s ⟨cs, x3, x4, x5, rfl, hr, _, _⟩
      simp only [rAll, rEnv, envOf, wipe, setsR, Kr, lineN, if_true, if_false, Int.cast_ofNat_Int, implies_true, Nat.reduceLeDiff, Nat.reduceAdd, Nat.reduceSub, Nat.reduceLT, Int.reduceEq, Int.reduceLT, Int.reduceLE, Int.reduceNeg, Int.reduceAdd, Int.reduceSub, Int.reduceMul, gl_MOST_TOLD_sheets, gl_MOST_TOLD_marks]
      have e : outP true st (.ref r) s = .ok (.fl (cs.map .int)) st := by
        have : D.frz 0 s 40 (.ref r) = .fl (cs.map .int) := by
          simp only [D.frz, Nat.not_lt_zero, if_false, hr]
          rw [frz_map_id fun x hx => frz_pur (purs_mem (purs_ints cs) x hx)]
        simp [outP, this, D.pur, purs_ints]
      rw [e, ok_ok]
      exact ⟨cs, rfl, rfl⟩
  refine call_pure (df := d__law_cells) rfl rfl (by decide) (by simp [D.purs, D.pur, purs_ints]) ?_
  simp only [d__law_cells, b__law_cells]
  have e63 : (63 : Int) = ((63 : Nat) : Int) := rfl
  simp only [rAll, rEnv, envOf, wipe, setsR, Kr, lineN, if_true, if_false, Int.cast_ofNat_Int, implies_true, Nat.reduceLeDiff, Nat.reduceAdd, Nat.reduceSub, Nat.reduceLT, Int.reduceEq, Int.reduceLT, Int.reduceLE, Int.reduceNeg, Int.reduceAdd, Int.reduceSub, Int.reduceMul, gl_MOST_TOLD_sheets, gl_MOST_TOLD_marks, cut_take]
  rw [e63, cut_mid]
  refine ⟨by simp; omega, ?_⟩
  cases hn : ns with
  | nil =>
    subst hn
    have := loop 1 [0] [[], [.int 0]] rfl (fun h => by simp at h)
    simp only [List.take_nil, List.map_nil, List.isEmpty_nil, rAll, rEnv, envOf, wipe, setsR, Kr, lineN, if_true, if_false, Int.cast_ofNat_Int, implies_true, Nat.reduceLeDiff, Nat.reduceAdd, Nat.reduceSub, Nat.reduceLT, Int.reduceEq, Int.reduceLT, Int.reduceLE, Int.reduceNeg, Int.reduceAdd, Int.reduceSub, Int.reduceMul, gl_MOST_TOLD_sheets, gl_MOST_TOLD_marks]
    exact this
  | cons x xs =>
    have := loop 0 (ns.take m) [(ns.take m).map .int] rfl (fun h => by simp; omega)
    rw [hn] at this
    have he : (List.take m (List.map D.int (x :: xs))).isEmpty = false := by
      cases m with
      | zero => omega
      | succ m => rfl
    rw [he, br_false]
    rw [List.map_take] at this
    exact this

theorem sp__law_of {j n : Nat} {T xs : List D} (hp : D.purs xs = true) (hx : 0 < xs.length) (hl : xs.length ≤ 1000000) (hs : st[j]? = some T) (hS : StL st) (hT : TinC n T) (hn : n ≤ 2 ^ 45) : ∃ (i : Nat) (T' : List D), ∃ h : i < xs.length, TinC (n + 1) T' ∧ callN prg (k+2) true i__law_of [.ref j, .fl xs] st = .ok xs[i] (st.set j T') := by
  have hj := sto_lt hs
  obtain ⟨v, T2, v1, v2, v3⟩ := sp__law_take (k := k) (fz := true) (st := st) (j := j) (m := xs.length) hs hS hT (by omega) (by omega) (by omega)
  have hv : v < xs.length := by omega
  refine ⟨v, T2, hv, v2, is_eq.mp (call_ref (df := d__law_of) rfl rfl (by decide) (by simp [D.purs, D.pur]) ?_)⟩
  simp only [d__law_of, b__law_of]
  simp only [rAll, rEnv, envOf, wipe, setsR, Kr, lineN, if_true, if_false, Int.cast_ofNat_Int, implies_true, Nat.reduceLeDiff, Nat.reduceAdd, Nat.reduceSub, Nat.reduceLT, Int.reduceEq, Int.reduceLT, Int.reduceLE, Int.reduceNeg, Int.reduceAdd, Int.reduceSub, Int.reduceMul, gl_MOST_TOLD_sheets, gl_MOST_TOLD_marks, v3, at_nat hv]
  rw [outR_pur (purs_mem hp _ (List.getElem_mem hv)) (by simp) (hS.tin v2)]
  exact ⟨rfl, rfl⟩

theorem sp__law_same : ∀ (n : Nat) {d : D} {k : Nat} {fz : Bool} {st : Sto}, d.dep ≤ n → d.pur = true → d.thin lineN = true → D.fine 40 d = true → callN prg (k+n+1) fz i__law_same [d, d] st = .ok (.bl true) st := by
  intro n
  have hN : lineN = 16777216 := rfl
  induction n with
  | zero =>
    intro d k fz st hd hp ht hf
    refine call_val (df := d__law_same) rfl rfl (by decide) (by simp [D.purs, hp]) rfl ?_
    simp only [d__law_same, b__law_same]
    cases d with
    | tup xs => simp [D.dep] at hd
    | fl xs => simp [D.dep] at hd
    | ref n => simp [D.pur] at hp
    | dct n => simp [D.pur] at hp
    | obj c n => simp [D.pur] at hp
    | _ => simp [rAll, rEnv, envOf, wipe, setsR, Kr, lineN, if_true, if_false, Int.cast_ofNat_Int, implies_true, Nat.reduceLeDiff, Nat.reduceAdd, Nat.reduceSub, Nat.reduceLT, Int.reduceEq, Int.reduceLT, Int.reduceLE, Int.reduceNeg, Int.reduceAdd, Int.reduceSub, Int.reduceMul, gl_MOST_TOLD_sheets, gl_MOST_TOLD_marks, isTy, isLst, isTup]
  | succ n ih =>
    intro d k fz st hd hp ht hf
    have main : ∀ xs : List D, D.deps xs ≤ n → D.purs xs = true → D.thins lineN xs = true → xs.length ≤ lineN → (∀ x ∈ xs, D.fine 40 x = true) → ∀ (a b : Option D), lcL [] (.tup [.nm 2, .nm 3]) (evOT (cxN prg (k + (n + 1))) .none) (evP (cxN prg (k + (n + 1))) (.call true i__law_same (.cons (.var 2) (.cons (.var 3) .nil)) [] .nil)).v [a, b, none, none] ((xs.zip xs).map fun p => .tup [p.1, p.2]) [] = .ok ((xs.zip xs).map fun _ => .bl true) [] := by
      intro xs h1 h2 h3 h4 h5 a b
      refine lcL_map (cx := cxN prg (k + (n + 1))) (enc := fun p : D × D => .tup [p.1, p.2]) (f := fun _ => .bl true) rfl fun p hp => ?_
      have hz : p.1 = p.2 ∧ p.1 ∈ xs := by
        have := List.of_mem_zip hp
        refine ⟨?_, this.1⟩
        obtain ⟨i, hi, e⟩ := List.mem_iff_getElem.mp hp
        rw [← e]; simp
      obtain ⟨p1, p2⟩ := p
      obtain ⟨e, hx⟩ := hz
      simp only at e hx
      rw [← e]
      simp only [rAll, rEnv, envOf, wipe, setsR, Kr, lineN, if_true, if_false, Int.cast_ofNat_Int, implies_true, Nat.reduceLeDiff, Nat.reduceAdd, Nat.reduceSub, Nat.reduceLT, Int.reduceEq, Int.reduceLT, Int.reduceLE, Int.reduceNeg, Int.reduceAdd, Int.reduceSub, Int.reduceMul, gl_MOST_TOLD_sheets, gl_MOST_TOLD_marks]
      exact is_eq.mpr (ih (k := k) (fz := true) (st := []) (deps_mem h1 p1 hx) (purs_mem h2 p1 hx) (thins_mem h3 p1 hx) (h5 p1 hx))
    refine call_val (df := d__law_same) rfl rfl (by decide) (by simp [D.purs, hp]) rfl ?_
    simp only [d__law_same, b__law_same]
    have zd : ∀ xs : List D, zipD xs xs = (xs.zip xs).map fun p => .tup [p.1, p.2] := fun xs => by
      have := zip_gen (f := id) (g := id) xs xs
      simpa using this
    have al : ∀ xs : List D, blsOf ((xs.zip xs).map fun _ => D.bl true) = some ((xs.zip xs).map fun _ => true) := fun xs => bls_map _
    have fm : ∀ (k : Nat) (xs : List D), D.fines k xs = true → ∀ x ∈ xs, D.fine 40 x = true → True := fun _ _ _ _ _ _ => trivial
    cases d with
    | tup xs =>
      simp only [D.dep, D.pur, D.thin, D.fine, Bool.and_eq_true, decide_eq_true_eq] at hd hp ht hf
      have hm := main xs (by omega) hp ht.2 ht.1 (fun x hx => fine_up (by decide) (fines_all hf x hx))
      simp only [rAll, rEnv, envOf, wipe, setsR, Kr, lineN, if_true, if_false, Int.cast_ofNat_Int, implies_true, Nat.reduceLeDiff, Nat.reduceAdd, Nat.reduceSub, Nat.reduceLT, Int.reduceEq, Int.reduceLT, Int.reduceLE, Int.reduceNeg, Int.reduceAdd, Int.reduceSub, Int.reduceMul, gl_MOST_TOLD_sheets, gl_MOST_TOLD_marks, isTy, isLst, isTup, List.any, Bool.or_true, Bool.true_or, Bool.or_false, bne_self_eq_false, BEq.rfl, zd, hm, al, List.length_zip, Nat.min_self, decide_true]
      exact ⟨ht.1, ht.1, by simp⟩
    | fl xs =>
      simp only [D.dep, D.pur, D.thin, D.fine, Bool.and_eq_true, decide_eq_true_eq] at hd hp ht hf
      have hm := main xs (by omega) hp ht.2 ht.1 (fun x hx => fine_up (by decide) (fines_all hf x hx))
      simp only [rAll, rEnv, envOf, wipe, setsR, Kr, lineN, if_true, if_false, Int.cast_ofNat_Int, implies_true, Nat.reduceLeDiff, Nat.reduceAdd, Nat.reduceSub, Nat.reduceLT, Int.reduceEq, Int.reduceLT, Int.reduceLE, Int.reduceNeg, Int.reduceAdd, Int.reduceSub, Int.reduceMul, gl_MOST_TOLD_sheets, gl_MOST_TOLD_marks, isTy, isLst, isTup, List.any, Bool.or_true, Bool.true_or, Bool.or_false, bne_self_eq_false, BEq.rfl, zd, hm, al, List.length_zip, Nat.min_self, decide_true]
      exact ⟨ht.1, ht.1, by simp⟩
    | ref n => simp [D.pur] at hp
    | dct n => simp [D.pur] at hp
    | obj c n => simp [D.pur] at hp
    | _ => simp [rAll, rEnv, envOf, wipe, setsR, Kr, lineN, if_true, if_false, Int.cast_ofNat_Int, implies_true, Nat.reduceLeDiff, Nat.reduceAdd, Nat.reduceSub, Nat.reduceLT, Int.reduceEq, Int.reduceLT, Int.reduceLE, Int.reduceNeg, Int.reduceAdd, Int.reduceSub, Int.reduceMul, gl_MOST_TOLD_sheets, gl_MOST_TOLD_marks, isTy, isLst, isTup]

abbrev lisT (t : List (List Int)) : D := .fl (t.map fun r => .fl (r.map .int))
/-- closed calls -/
def uD : D := .fl [.str ⟨#[117, 110, 102, 105, 116]⟩, .bl true, .bl false]
def mD : D := .fl [.str ⟨#[109, 97, 110, 121]⟩, .bl true, .bl false]
def tD : D := .fl [.str ⟨#[116, 111, 108, 100]⟩]
def cChk (k : Int) (a b c v : D) : Bool := match callN prg 100 true i__law_caught [.int k, a, b, c] [] with
  | .ok d _ => sameD d v
  | _ => false
theorem c_of {k : Int} {a b c v : D} (hp : D.purs [a, b, c] = true) (h : cChk k a b c v = true) (st : Sto) : callN prg 100 true i__law_caught [.int k, a, b, c] st = .ok v st := by
  unfold cChk at h
  split at h
  · rename_i d s e
    rw [← sameD_eq h]
    exact frame_t (by simpa [D.purs, D.pur] using hp) e st
  · cases h
def badL : List D := [.tup [], .tup [.tup [.int 1, .int 0]], .tup [.tup [.int (-1)]], .int 7, .non, .fl [.fl [.bl true]], .tup [.tup [.int 1, .int 2], .tup [.int 3]]]
def noneL : List D := [.tup [], .tup [.tup [.int 2]], .tup [.tup [.int 2, .int 3], .int 1], .tup [.tup [.int 0], .int 1], .tup [.tup [.int 2], .int 0], .tup [.tup [.int 1], .int 1], .tup [.tup [.int 2, .int 0], .int 1], .int 5, .non, .tup [.tup [.int (-2)], .int 1], .tup [.tup [.int 2], .bl true], .tup [.tup [], .int 0]]
abbrev goldD : D := .tup [.tup [.int 1, .int 1], .tup [.int 1, .int 0]]
abbrev goodD : D := .tup [.tup [.int 2], .int 1]
theorem chk_a : (badL.all fun a => [D.int 0, .int 3000, .non].all fun b => [0, 1, 2, 3, 4, 5].all fun k => cChk k a b (.int 0) uD) = true := by decide +kernel
theorem chk_b : (noneL.all fun a => [D.int 0, .int 3, goodD].all fun b => [6, 7, 8, 9, 10].all fun k => cChk k a b (.int 0) uD) = true := by decide +kernel
theorem chk_c : (noneL.all fun b => [8, 9, 10].all fun k => cChk k goodD b (.int 0) uD) = true := by decide +kernel
def ownL : List D := [.int 0, .int (-1), .non, .bl true, .tup [.int 1], .str ⟨#[49]⟩]
def ow2L : List D := [.tup [.int 1], .tup [.int 1, .int 2, .int 3], .non, .int 5, .tup [.int 1, .non], .tup [.int 1, .bl true], .str ⟨#[97, 98]⟩]
theorem chk_d : (ownL.all fun x => cChk 2 goldD x (.int 0) uD && (cChk 3 goldD x (.int 0) uD && (cChk 7 goodD x (.int 0) uD && cChk 11 x (.int 0) (.int 0) uD))) = true := by decide +kernel
theorem chk_e : (ownL.all fun x => D.eqv x (.int 0) || (cChk 1 goldD x (.tup [.int 0, .int 0]) uD && cChk 12 x (.tup [.int 1]) (.tup [.int 1]) uD)) = true := by decide +kernel
theorem chk_f : (ow2L.all fun x => cChk 12 (.int 5) x (.tup [.int 1, .int 2]) uD && cChk 12 (.int 0) (.tup [.int 1, .int 2]) x uD) = true := by decide +kernel
theorem chk_g : cChk 3 (.tup [.tup [.int 1, .int 0], .tup [.int 0, .int 1]]) (.int 45) (.int 0) mD = true := by decide +kernel
theorem chk_h : cChk 3 goldD (.int 2000) (.int 0) tD = true := by decide +kernel
theorem chk_i : cChk 1 goldD (.int 0) .non tD = true := by decide +kernel
theorem chk_j : cChk 12 (.int 0) (.tup []) (.tup []) tD = true := by decide +kernel
def fChk (f : Nat) (ds : List D) (v : D) : Bool := match callN prg 100 true f ds [] with
  | .ok d _ => sameD d v
  | _ => false
theorem f_of {f : Nat} {ds : List D} {v : D} (hp : D.purs ds = true) (h : fChk f ds v = true) (st : Sto) : callN prg 100 true f ds st = .ok v st := by
  unfold fChk at h
  split at h
  · rename_i d s e
    rw [← sameD_eq h]
    exact frame_t hp e st
  · cases h
theorem chk_f0 : fChk i_sheet [.fl [.fl [.int 3, .int 0], .fl [.int 0, .int 3]]] (.tup [.tup [.int 2, .int 2], .int 1]) = true := by decide +kernel
theorem chk_f1 : fChk i_sheet_order [.fl [.fl [.int 2, .int 6], .int 1]] (.int 12) = true := by decide +kernel
theorem chk_f2 : fChk i_marks_of_sheet [.fl [.fl [.int 2, .int 12], .int (-1)], .int 4] (.int 8) = true := by decide +kernel
theorem chk_f3 : fChk i_sheet_beside [.fl [.fl [.int 4], .int (-1)], .fl [.fl [.int 6, .int 0], .int 0]] (.tup [.tup [.int 2, .int 12, .int 0], .int 0]) = true := by decide +kernel
theorem chk_f4 : fChk i_sheets_of [.int 4] (.fl [.tup [.tup [.int 2, .int 2], .int (-1)], .tup [.tup [.int 2, .int 2], .int 1], .tup [.tup [.int 4], .int (-1)], .tup [.tup [.int 4], .int 1]]) = true := by decide +kernel
theorem chk_f5 : fChk i_unlike_number [.tup [.tup [.int 2], .int (-1)], .tup [.tup [.int 2], .int 1]] (.non) = true := by decide +kernel
theorem chk_f6 : fChk i_is_unlike_number [.tup [.tup [.int 4], .int 1], .tup [.tup [.int 2, .int 2], .int 1], .int 2] (.bl true) = true := by decide +kernel
theorem chk_f7 : fChk i_all_marks [.fl [.fl [.int 3]], .int 6] (.fl [.tup [.int 0], .tup [.int 3]]) = true := by decide +kernel
theorem chk_f8 : fChk i_many_marks [.fl [.fl [.int 3, .int 1], .fl [.int 2, .int 2]], .int 4] (.int 4) = true := by decide +kernel
theorem chk_f9 : fChk i_are_marks [.fl [.fl [.int 2, .int 1], .fl [.int 1, .int 2]], .int 0, .tup [.int 1, .int (-1)]] (.bl true) = true := by decide +kernel
theorem chk_f10 : fChk i_are_whole_marks [.fl [.fl [.int 2, .int 1], .fl [.int 1, .int 2]], .tup [.tup [.int 1, .int (-1)]]] (.bl true) = true := by decide +kernel
theorem chk_f11 : fChk i_whole_marks [.fl [.fl [.int 1, .int 1], .fl [.int 1, .int 0]]] (.tup []) = true := by decide +kernel
theorem chk_f12 : fChk i_worth [.int 5, .fl [.int 1, .int 3], .fl [.int 2, .int 4]] (.int 4) = true := by decide +kernel
theorem chk_s : (match callN prg 97 true i_sheet_in [goldD] [] with
  | .ok d _ => sameD d (.tup [.tup [], .int (-1)])
  | _ => false) = true := by decide +kernel
theorem sheet_gold (st : Sto) : callN prg 97 true i_sheet_in [goldD] st = .ok (.tup [.tup [], .int (-1)]) st := by
  have h := chk_s
  split at h
  · rename_i d s e
    have e2 := frame_t rfl e st
    rw [sameD_eq h] at e2
    exact e2
  · cases h
theorem chk_t : (match callN prg 97 true i_sure_town [goldD] [] with
  | .ok d _ => sameD d goldD
  | _ => false) = true := by decide +kernel
theorem town_gold (st : Sto) : callN prg 97 true i_sure_town [goldD] st = .ok goldD st := by
  have h := chk_t
  split at h
  · rename_i d s e
    have e2 := frame_t rfl e st
    rw [sameD_eq h] at e2
    exact e2
  · cases h
theorem sp_sure_from {i l : Int} (h : l ≤ i) : callN prg (k+3) fz i_sure_from [.int i, .int l] st = .ok (.int i) st := by
  refine call_val (df := d_sure_from) rfl rfl (by decide) rfl rfl ?_
  simp only [d_sure_from, b_sure_from]
  simp only [rAll, rEnv, envOf, wipe, setsR, Kr, lineN, if_true, if_false, Int.cast_ofNat_Int, implies_true, Nat.reduceLeDiff, Nat.reduceAdd, Nat.reduceSub, Nat.reduceLT, Int.reduceEq, Int.reduceLT, Int.reduceLE, Int.reduceNeg, Int.reduceAdd, Int.reduceSub, Int.reduceMul, gl_MOST_TOLD_sheets, gl_MOST_TOLD_marks, sp_is_from, h, decide_true]
theorem great_3 {g : Int} (h : 2001 ≤ g) (st : Sto) : callN prg 100 true i__law_caught [.int 3, goldD, .int g, .int 0] st = .ok mD st := by
  have e0 : ∀ st, callN prg 97 true i_marks_by [.tup [], .int g] st = .ok (.int 1) st := fun st => by
    refine call_val (df := d_marks_by) rfl rfl (by decide) rfl rfl ?_
    simp only [d_marks_by, b_marks_by]
    simp only [rAll, rEnv, envOf, wipe, setsR, Kr, lineN, if_true, if_false, Int.cast_ofNat_Int, implies_true, Nat.reduceLeDiff, Nat.reduceAdd, Nat.reduceSub, Nat.reduceLT, Int.reduceEq, Int.reduceLT, Int.reduceLE, Int.reduceNeg, Int.reduceAdd, Int.reduceSub, Int.reduceMul, gl_MOST_TOLD_sheets, gl_MOST_TOLD_marks]
    refine forL_invD (I := fun xs e s => xs = [] ∧ e = [some (.tup []), some (.int g), some (.int 1), none]) ⟨rfl, rfl⟩ (fun _ _ _ _ => rfl) (fun _ _ _ _ h => nomatch h.1) ?_
    rintro e s ⟨-, rfl⟩
    simp only [rAll, rEnv, envOf, wipe, setsR, Kr, lineN, if_true, if_false, Int.cast_ofNat_Int, implies_true, Nat.reduceLeDiff, Nat.reduceAdd, Nat.reduceSub, Nat.reduceLT, Int.reduceEq, Int.reduceLT, Int.reduceLE, Int.reduceNeg, Int.reduceAdd, Int.reduceSub, Int.reduceMul, gl_MOST_TOLD_sheets, gl_MOST_TOLD_marks]
  have e1 : ∀ st, callN prg 98 true i_all_marks [goldD, .int g] st = .exc ⟨x_TooMany, none⟩ st := fun st => by
    refine call_exc (df := d_all_marks) rfl rfl (by decide) rfl (fun _ q => by cases q) ?_
    simp only [d_all_marks, b_all_marks]
    have a1 := fun st => sp_sure_from (k := 94) (fz := true) (st := st) (i := g) (l := 1) (by omega)
    simp only [rAll, rEnv, envOf, wipe, setsR, Kr, lineN, if_true, if_false, Int.cast_ofNat_Int, implies_true, Nat.reduceLeDiff, Nat.reduceAdd, Nat.reduceSub, Nat.reduceLT, Int.reduceEq, Int.reduceLT, Int.reduceLE, Int.reduceNeg, Int.reduceAdd, Int.reduceSub, Int.reduceMul, gl_MOST_TOLD_sheets, gl_MOST_TOLD_marks, a1, town_gold, sheet_gold, e0]
    exact fun z => absurd z (by omega)
  have e2 : ∀ st, callN prg 99 true i__law_asked [.int 3, goldD, .int g, .int 0] st = .exc ⟨x_TooMany, none⟩ st := fun st => by
    refine call_exc (df := d__law_asked) rfl rfl (by decide) rfl (fun _ q => by cases q) ?_
    simp only [d__law_asked, b__law_asked]
    simp only [rAll, rEnv, envOf, wipe, setsR, Kr, lineN, if_true, if_false, Int.cast_ofNat_Int, implies_true, Nat.reduceLeDiff, Nat.reduceAdd, Nat.reduceSub, Nat.reduceLT, Int.reduceEq, Int.reduceLT, Int.reduceLE, Int.reduceNeg, Int.reduceAdd, Int.reduceSub, Int.reduceMul, gl_MOST_TOLD_sheets, gl_MOST_TOLD_marks, e1]
  refine call_val (df := d__law_caught) rfl rfl (by decide) rfl rfl ?_
  simp only [d__law_caught, b__law_caught]
  simp only [rAll, rEnv, envOf, wipe, setsR, Kr, lineN, if_true, if_false, Int.cast_ofNat_Int, implies_true, Nat.reduceLeDiff, Nat.reduceAdd, Nat.reduceSub, Nat.reduceLT, Int.reduceEq, Int.reduceLT, Int.reduceLE, Int.reduceNeg, Int.reduceAdd, Int.reduceSub, Int.reduceMul, gl_MOST_TOLD_sheets, gl_MOST_TOLD_marks, e2]
  first | exact ⟨rfl, rfl⟩ | (simp [x_TooMany, mD]; done) | rfl
theorem great_11 {g : Int} (h : 2001 ≤ g) (st : Sto) : callN prg 100 true i__law_caught [.int 11, .int g, .int 0, .int 0] st = .ok mD st := by
  have e1 : ∀ st, callN prg 98 true i_sheets_of [.int g] st = .exc ⟨x_TooMany, none⟩ st := fun st => by
    refine call_exc (df := d_sheets_of) rfl rfl (by decide) rfl (fun _ q => by cases q) ?_
    simp only [d_sheets_of, b_sheets_of]
    have a1 := fun st => sp_sure_from (k := 94) (fz := true) (st := st) (i := g) (l := 1) (by omega)
    simp only [rAll, rEnv, envOf, wipe, setsR, Kr, lineN, if_true, if_false, Int.cast_ofNat_Int, implies_true, Nat.reduceLeDiff, Nat.reduceAdd, Nat.reduceSub, Nat.reduceLT, Int.reduceEq, Int.reduceLT, Int.reduceLE, Int.reduceNeg, Int.reduceAdd, Int.reduceSub, Int.reduceMul, gl_MOST_TOLD_sheets, gl_MOST_TOLD_marks, a1]
    exact fun z => absurd z (by omega)
  have e2 : ∀ st, callN prg 99 true i__law_asked [.int 11, .int g, .int 0, .int 0] st = .exc ⟨x_TooMany, none⟩ st := fun st => by
    refine call_exc (df := d__law_asked) rfl rfl (by decide) rfl (fun _ q => by cases q) ?_
    simp only [d__law_asked, b__law_asked]
    simp only [rAll, rEnv, envOf, wipe, setsR, Kr, lineN, if_true, if_false, Int.cast_ofNat_Int, implies_true, Nat.reduceLeDiff, Nat.reduceAdd, Nat.reduceSub, Nat.reduceLT, Int.reduceEq, Int.reduceLT, Int.reduceLE, Int.reduceNeg, Int.reduceAdd, Int.reduceSub, Int.reduceMul, gl_MOST_TOLD_sheets, gl_MOST_TOLD_marks, e1]
  refine call_val (df := d__law_caught) rfl rfl (by decide) rfl rfl ?_
  simp only [d__law_caught, b__law_caught]
  simp only [rAll, rEnv, envOf, wipe, setsR, Kr, lineN, if_true, if_false, Int.cast_ofNat_Int, implies_true, Nat.reduceLeDiff, Nat.reduceAdd, Nat.reduceSub, Nat.reduceLT, Int.reduceEq, Int.reduceLT, Int.reduceLE, Int.reduceNeg, Int.reduceAdd, Int.reduceSub, Int.reduceMul, gl_MOST_TOLD_sheets, gl_MOST_TOLD_marks, e2]
  first | exact ⟨rfl, rfl⟩ | (simp [x_TooMany, mD]; done) | rfl
def dueL : List D := [.tup [.tup [.int 2, .int 2], .int 1], .int 12, .int 8, .tup [.tup [.int 2, .int 12, .int 0], .int 0], .fl [.tup [.tup [.int 2, .int 2], .int (-1)], .tup [.tup [.int 2, .int 2], .int 1], .tup [.tup [.int 4], .int (-1)], .tup [.tup [.int 4], .int 1]], .non, .bl true, .fl [.tup [.int 0], .tup [.int 3]], .int 4, .bl true, .bl true, .tup [], .int 4]
/-- all refused -/
def Us (G : List D) (m : Nat) : Prop := (∀ x ∈ G, x = uD) ∧ G.length ≤ m
theorem us_two : Us [uD, uD] 2 := ⟨by simp, by simp⟩
theorem us_app {G H : List D} {m n : Nat} (h : Us G m) (k : Us H n) : Us (G ++ H) (m + n) := ⟨fun x hx => (List.mem_append.mp hx).elim (h.1 x) (k.1 x), by rw [List.length_append]; exact Nat.add_le_add h.2 k.2⟩
theorem own_fin : (ownL.all fun x => D.fine 40 x) = true := by decide +kernel
theorem pl_uD : Pl 2 uD := ⟨by decide, by decide, by decide, by decide +kernel⟩
theorem pl_fl {xs : List D} {n : Nat} (h : ∀ x ∈ xs, Pl n x) (hl : xs.length ≤ 1000) : Pl (n + 1) (.fl xs) := .fl h (by simp only [lineN]; omega)
theorem mem_of {xs : List D} {i : Nat} (h : i < xs.length) : xs[i] ∈ xs := List.getElem_mem h
theorem plain_law {ns : List Int} (hl : ns.length ≤ 63) : ∃ st, callN prg 101 true i_law [.fl (ns.map .int)] [] = .ok (.bl true) st := by
  have hN : lineN = 16777216 := rfl
  obtain ⟨cs, hcs⟩ := sp__law_cells (k := 99) (st := []) (ns := ns) (m := 1) (by omega) (by omega) hl
  obtain ⟨T0, hT0, hbox⟩ := sp__law_box (k := 99) (st := []) (ns := cs)
  refine ⟨[], call_val (df := d_law) rfl rfl (by decide) (by simp [D.purs, D.pur, purs_ints]) rfl ?_⟩
  simp only [d_law, b_law]
  obtain ⟨NS, hNS⟩ : ∃ d : D, d = .fl (ns.map .int) := ⟨_, rfl⟩
  refine sk_seq (fun e s => e = [some NS, some (.ref 0), none, none, none, none, none, none, none, none, none, none, none] ∧ s = [T0]) (by simp only [rAll, rEnv, envOf, wipe, setsR, Kr, lineN, if_true, if_false, Int.cast_ofNat_Int, implies_true, Nat.reduceLeDiff, Nat.reduceAdd, Nat.reduceSub, Nat.reduceLT, Int.reduceEq, Int.reduceLT, Int.reduceLE, Int.reduceNeg, Int.reduceAdd, Int.reduceSub, Int.reduceMul, gl_MOST_TOLD_sheets, gl_MOST_TOLD_marks, hcs, hbox, hNS, and_self]) ?_
  rintro _ _ ⟨rfl, rfl⟩
  refine sk_seq (fun e s => e = [some NS, some (.ref 0), some uD, some mD, none, none, none, none, none, none, none, none, none] ∧ s = [T0]) (by simp only [rAll, rEnv, envOf, wipe, setsR, Kr, lineN, if_true, if_false, Int.cast_ofNat_Int, implies_true, Nat.reduceLeDiff, Nat.reduceAdd, Nat.reduceSub, Nat.reduceLT, Int.reduceEq, Int.reduceLT, Int.reduceLE, Int.reduceNeg, Int.reduceAdd, Int.reduceSub, Int.reduceMul, gl_MOST_TOLD_sheets, gl_MOST_TOLD_marks, uD, mD]) ?_
  rintro _ _ ⟨rfl, rfl⟩
  obtain ⟨i1, T1, h1, hT1, e1⟩ := sp__law_of (k := 98) (st := [T0]) (j := 0) (xs := badL) rfl (by decide) (by decide) rfl (stl1 hT0) hT0 (by omega)
  obtain ⟨i2, T2, h2, hT2, e2⟩ := sp__law_of (k := 98) (st := [T1]) (j := 0) (xs := noneL) rfl (by decide) (by decide) rfl (stl1 hT1) hT1 (by omega)
  simp only [List.set_cons_zero] at e1 e2
  obtain ⟨bd, hbd⟩ : ∃ bd, bd = badL[i1] := ⟨_, rfl⟩
  obtain ⟨no, hno⟩ : ∃ no, no = noneL[i2] := ⟨_, rfl⟩
  have mb : bd ∈ badL := by rw [hbd]; exact mem_of h1
  have mn : no ∈ noneL := by rw [hno]; exact mem_of h2
  rw [← hbd] at e1
  rw [← hno] at e2
  have pb : bd.pur = true := purs_mem (xs := badL) rfl bd mb
  have pn : no.pur = true := purs_mem (xs := noneL) rfl no mn
  have ca : ∀ b ∈ [D.int 0, .int 3000, .non], ∀ k ∈ [(0 : Int), 1, 2, 3, 4, 5], ∀ st, callN prg 100 true i__law_caught [.int k, bd, b, .int 0] st = .ok uD st := fun b hb k hk st => by
    have := List.all_eq_true.mp (List.all_eq_true.mp (List.all_eq_true.mp chk_a bd mb) b hb) k hk
    refine c_of ?_ this st
    simp only [D.purs, pb, purs_mem (xs := [D.int 0, .int 3000, .non]) rfl b hb]; rfl
  have cb : ∀ b ∈ [D.int 0, .int 3, goodD], ∀ k ∈ [(6 : Int), 7, 8, 9, 10], ∀ st, callN prg 100 true i__law_caught [.int k, no, b, .int 0] st = .ok uD st := fun b hb k hk st => by
    have := List.all_eq_true.mp (List.all_eq_true.mp (List.all_eq_true.mp chk_b no mn) b hb) k hk
    refine c_of ?_ this st
    simp only [D.purs, pn, purs_mem (xs := [D.int 0, .int 3, goodD]) rfl b hb]; rfl
  have cc : ∀ k ∈ [(8 : Int), 9, 10], ∀ st, callN prg 100 true i__law_caught [.int k, goodD, no, .int 0] st = .ok uD st := fun k hk st => by
    have := List.all_eq_true.mp (List.all_eq_true.mp chk_c no mn) k hk
    refine c_of ?_ this st
    simp only [D.purs, pn]; rfl
  refine sk_seq (fun e s => e = [some NS, some (.ref 0), some uD, some mD, some bd, none, none, none, none, none, none, none, none] ∧ s = [T1]) ?_ ?_
  · simp only [badL] at e1
    simp only [rAll, rEnv, envOf, wipe, setsR, Kr, lineN, if_true, if_false, Int.cast_ofNat_Int, implies_true, Nat.reduceLeDiff, Nat.reduceAdd, Nat.reduceSub, Nat.reduceLT, Int.reduceEq, Int.reduceLT, Int.reduceLE, Int.reduceNeg, Int.reduceAdd, Int.reduceSub, Int.reduceMul, gl_MOST_TOLD_sheets, gl_MOST_TOLD_marks, e1]
  rintro _ _ ⟨rfl, rfl⟩
  refine sk_seq (fun e s => e = [some NS, some (.ref 0), some uD, some mD, some bd, some no, none, none, none, none, none, none, none] ∧ s = [T2]) ?_ ?_
  · simp only [noneL] at e2
    simp only [rAll, rEnv, envOf, wipe, setsR, Kr, lineN, if_true, if_false, Int.cast_ofNat_Int, implies_true, Nat.reduceLeDiff, Nat.reduceAdd, Nat.reduceSub, Nat.reduceLT, Int.reduceEq, Int.reduceLT, Int.reduceLE, Int.reduceNeg, Int.reduceAdd, Int.reduceSub, Int.reduceMul, gl_MOST_TOLD_sheets, gl_MOST_TOLD_marks, e2]
  rintro _ _ ⟨rfl, rfl⟩
  refine sk_seq (fun e s => e = [some NS, some (.ref 0), some uD, some mD, some bd, some no, some goldD, some goodD, none, none, none, none, none] ∧ s = [T2]) (by simp only [rAll, rEnv, envOf, wipe, setsR, Kr, lineN, if_true, if_false, Int.cast_ofNat_Int, implies_true, Nat.reduceLeDiff, Nat.reduceAdd, Nat.reduceSub, Nat.reduceLT, Int.reduceEq, Int.reduceLT, Int.reduceLE, Int.reduceNeg, Int.reduceAdd, Int.reduceSub, Int.reduceMul, gl_MOST_TOLD_sheets, gl_MOST_TOLD_marks, goldD, goodD]) ?_
  rintro _ _ ⟨rfl, rfl⟩
  obtain ⟨Gd, hGd⟩ : ∃ g, g = goodD := ⟨_, rfl⟩
  have drw : ∀ {n : Nat} {T : List D} (xs : List D), TinC n T → n ≤ 40000 → D.purs xs = true → 0 < xs.length → xs.length ≤ 1000 → ∃ (d : D) (T' : List D), d ∈ xs ∧ TinC (n + 1) T' ∧ callN prg 100 true i__law_of [.ref 0, .fl xs] [T] = .ok d [T'] := fun xs h hn hp h0 h1 => by
    obtain ⟨i, T', hi, a, b⟩ := sp__law_of (k := 98) (st := [_]) (j := 0) (xs := xs) hp h0 (by omega) rfl (stl1 h) h (by omega)
    exact ⟨_, T', mem_of hi, a, b⟩
  refine sk_seq (fun e s => ∃ (T3 G : List D), e = [some NS, some (.ref 0), some uD, some mD, some bd, some no, some goldD, some goodD, some (.fl G), none, none, none, none] ∧ s = [T3] ∧ TinC 50000 T3 ∧ Us G 11) ?_ ?_
  · simp only [rAll, rEnv, envOf, wipe, setsR, Kr, lineN, if_true, if_false, Int.cast_ofNat_Int, implies_true, Nat.reduceLeDiff, Nat.reduceAdd, Nat.reduceSub, Nat.reduceLT, Int.reduceEq, Int.reduceLT, Int.reduceLE, Int.reduceNeg, Int.reduceAdd, Int.reduceSub, Int.reduceMul, gl_MOST_TOLD_sheets, gl_MOST_TOLD_marks]
    rw [show Int.toNat 6 = 6 from rfl, rng0]
    refine ⟨rfl, by omega, ?_⟩
    refine Ok.imp (lcL_drawF (encA := fun i : Nat => D.int i) (xs := List.range 6) (f := fun _ => uD) (c := 1000) (N := 20000) (R := []) hT2 (by simp) fun m hm c T hT hc => ?_) ?_
    · obtain ⟨d, T', h1, h2, h3⟩ := drw [D.int 0, .int 3000, .non] hT (by omega) rfl (by decide) (by decide)
      have hk : (m : Int) ∈ [(0 : Int), 1, 2, 3, 4, 5] := by
        have := List.mem_range.mp hm
        simp only [List.mem_cons, List.not_mem_nil, or_false]
        omega
      have := ca d h1 m hk
      simp only [rAll, rEnv, envOf, wipe, setsR, Kr, lineN, if_true, if_false, Int.cast_ofNat_Int, implies_true, Nat.reduceLeDiff, Nat.reduceAdd, Nat.reduceSub, Nat.reduceLT, Int.reduceEq, Int.reduceLT, Int.reduceLE, Int.reduceNeg, Int.reduceAdd, Int.reduceSub, Int.reduceMul, gl_MOST_TOLD_sheets, gl_MOST_TOLD_marks, h3, this]
      exact ⟨T', rfl, h2.mono (by omega)⟩
    · rintro ds s ⟨rfl, T', rfl, hT'⟩
      refine ⟨by simp, ?_⟩
      rw [show [D.int 6, D.int 7, D.int 8, D.int 9, D.int 10] = [6, 7, 8, 9, 10].map (fun m : Int => D.int m) from rfl]
      refine Ok.imp (lcL_drawF (f := fun _ => uD) (c := 1000) (N := 20000) (R := []) hT' (by simp) fun m hm c T hT hc => ?_) ?_
      · obtain ⟨d, T', h1, h2, h3⟩ := drw [D.int 0, .int 3, goodD] hT (by omega) rfl (by decide) (by decide)
        have := cb d h1 m hm
        simp only [rAll, rEnv, envOf, wipe, setsR, Kr, lineN, if_true, if_false, Int.cast_ofNat_Int, implies_true, Nat.reduceLeDiff, Nat.reduceAdd, Nat.reduceSub, Nat.reduceLT, Int.reduceEq, Int.reduceLT, Int.reduceLE, Int.reduceNeg, Int.reduceAdd, Int.reduceSub, Int.reduceMul, gl_MOST_TOLD_sheets, gl_MOST_TOLD_marks, h3, this]
        exact ⟨T', rfl, h2.mono (by omega)⟩
      · rintro ds s ⟨rfl, T', rfl, hT'⟩
        refine ⟨by simp, by simp, T', _, rfl, rfl, hT'.mono (by simp), fun x hx => ?_, by simp⟩
        rcases List.mem_append.mp hx with q | q <;> (obtain ⟨_, _, rfl⟩ := List.mem_map.mp q; rfl)
  rintro _ _ ⟨T3, G1, rfl, rfl, hT3, u1⟩
  have pu : D.purs [uD] = true := rfl
  refine sk_seq (fun e s => ∃ G : List D, e = [some NS, some (.ref 0), some uD, some mD, some bd, some no, some goldD, some goodD, some (.fl G), none, none, none, none] ∧ s = [T3] ∧ Us G 14) ?_ ?_
  · simp only [rAll, rEnv, envOf, wipe, setsR, Kr, lineN, if_true, if_false, Int.cast_ofNat_Int, implies_true, Nat.reduceLeDiff, Nat.reduceAdd, Nat.reduceSub, Nat.reduceLT, Int.reduceEq, Int.reduceLT, Int.reduceLE, Int.reduceNeg, Int.reduceAdd, Int.reduceSub, Int.reduceMul, gl_MOST_TOLD_sheets, gl_MOST_TOLD_marks]
    rw [show [D.int 8, D.int 9, D.int 10] = [8, 9, 10].map (fun m : Int => D.int m) from rfl]
    refine Ok.of (lcL_map (f := fun _ => uD) rfl fun m hm => ?_) ?_
    · simp only [rAll, rEnv, envOf, wipe, setsR, Kr, lineN, if_true, if_false, Int.cast_ofNat_Int, implies_true, Nat.reduceLeDiff, Nat.reduceAdd, Nat.reduceSub, Nat.reduceLT, Int.reduceEq, Int.reduceLT, Int.reduceLE, Int.reduceNeg, Int.reduceAdd, Int.reduceSub, Int.reduceMul, gl_MOST_TOLD_sheets, gl_MOST_TOLD_marks, cc m hm]
      exact ⟨rfl, rfl⟩
    · have := u1.2
      refine ⟨by simp, by simp; omega, _, rfl, rfl, fun x hx => ?_, by simp; omega⟩
      rcases List.mem_append.mp hx with q | q
      · exact u1.1 x q
      · obtain ⟨_, _, rfl⟩ := List.mem_map.mp q; rfl
  rintro _ _ ⟨G2, rfl, rfl, u2⟩
  refine sk_seq (fun e s => ∃ (G : List D) (x9 : Option D), e = [some NS, some (.ref 0), some uD, some mD, some bd, some no, some goldD, some goodD, some (.fl G), x9, none, none, none] ∧ s = [T3] ∧ Us G 60) ?_ ?_
  · simp only [rAll, rEnv, envOf, wipe, setsR, Kr, lineN, if_true, if_false, Int.cast_ofNat_Int, implies_true, Nat.reduceLeDiff, Nat.reduceAdd, Nat.reduceSub, Nat.reduceLT, Int.reduceEq, Int.reduceLT, Int.reduceLE, Int.reduceNeg, Int.reduceAdd, Int.reduceSub, Int.reduceMul, gl_MOST_TOLD_sheets, gl_MOST_TOLD_marks]
    refine forL_invD (I := fun xs e s => ∃ (G : List D) (x9 : Option D), e = [some NS, some (.ref 0), some uD, some mD, some bd, some no, some goldD, some goodD, some (.fl G), x9, none, none, none] ∧ s = [T3] ∧ Us G G.length ∧ G.length + 6 * xs.length ≤ 50 ∧ ∀ x ∈ xs, x ∈ ownL) ⟨G2, none, rfl, rfl, ⟨u2.1, Nat.le_refl _⟩, by have := u2.2; simp; omega, fun x hx => hx⟩ (fun _ _ _ _ => rfl) ?_ ?_
    · rintro x xs e s ⟨G, x9, rfl, rfl, ug, ul, hx⟩
      have mx := hx x List.mem_cons_self
      have px : x.pur = true := purs_mem (xs := ownL) rfl x mx
      have d1 := List.all_eq_true.mp chk_d x mx
      have d2 := List.all_eq_true.mp chk_e x mx
      simp only [Bool.and_eq_true] at d1
      have d3 : ∀ k ∈ [(2 : Int), 3], ∀ st, callN prg 100 true i__law_caught [.int k, goldD, x, .int 0] st = .ok uD st := fun k hk st => by
        simp only [List.mem_cons, List.not_mem_nil, or_false] at hk
        have pp : D.purs [goldD, x, .int 0] = true := by simp only [D.purs, px]; rfl
        rcases hk with rfl | rfl
        · exact c_of pp d1.1 st
        · exact c_of pp d1.2.1 st
      have d4 := fun st => c_of (by simp only [D.purs, px]; rfl) d1.2.2.1 st
      have d5 := fun st => c_of (by simp only [D.purs, px]; rfl) d1.2.2.2 st
      simp only [List.length_cons] at ul
      simp only [op_gset, List.length_cons, List.length_nil, Nat.reduceAdd, Nat.reduceLT, List.set_cons_succ, List.set_cons_zero, true_and]
      refine sk_seq (fun e s => ∃ G3 : List D, e = [some NS, some (.ref 0), some uD, some mD, some bd, some no, some goldD, some goodD, some (.fl G3), some x, none, none, none] ∧ s = [T3] ∧ Us G3 (G.length + 4)) ?_ ?_
      · simp only [rAll, rEnv, envOf, wipe, setsR, Kr, lineN, if_true, if_false, Int.cast_ofNat_Int, implies_true, Nat.reduceLeDiff, Nat.reduceAdd, Nat.reduceSub, Nat.reduceLT, Int.reduceEq, Int.reduceLT, Int.reduceLE, Int.reduceNeg, Int.reduceAdd, Int.reduceSub, Int.reduceMul, gl_MOST_TOLD_sheets, gl_MOST_TOLD_marks]
        rw [show [D.int 2, D.int 3] = [2, 3].map (fun m : Int => D.int m) from rfl]
        refine Ok.of (lcL_map (f := fun _ => uD) rfl fun m hm => ?_) ?_
        · simp only [rAll, rEnv, envOf, wipe, setsR, Kr, lineN, if_true, if_false, Int.cast_ofNat_Int, implies_true, Nat.reduceLeDiff, Nat.reduceAdd, Nat.reduceSub, Nat.reduceLT, Int.reduceEq, Int.reduceLT, Int.reduceLE, Int.reduceNeg, Int.reduceAdd, Int.reduceSub, Int.reduceMul, gl_MOST_TOLD_sheets, gl_MOST_TOLD_marks, d3 m hm]
          exact ⟨rfl, rfl⟩
        · simp only [rAll, rEnv, envOf, wipe, setsR, Kr, lineN, if_true, if_false, Int.cast_ofNat_Int, implies_true, Nat.reduceLeDiff, Nat.reduceAdd, Nat.reduceSub, Nat.reduceLT, Int.reduceEq, Int.reduceLT, Int.reduceLE, Int.reduceNeg, Int.reduceAdd, Int.reduceSub, Int.reduceMul, gl_MOST_TOLD_sheets, gl_MOST_TOLD_marks, d4, d5]
          refine ⟨by simp; omega, by simp; omega, _, rfl, us_app (m := G.length + 2) (us_app (m := G.length) ⟨ug.1, Nat.le_refl _⟩ us_two) us_two⟩
      rintro _ _ ⟨G3, rfl, rfl, u3⟩
      have u3l := u3.2
      have fx : Fin x := ⟨px, List.all_eq_true.mp own_fin x mx⟩
      have f0 : Fin (.int 0) := ⟨rfl, rfl⟩
      simp only [rAll, rEnv, envOf, wipe, setsR, Kr, lineN, if_true, if_false, Int.cast_ofNat_Int, implies_true, Nat.reduceLeDiff, Nat.reduceAdd, Nat.reduceSub, Nat.reduceLT, Int.reduceEq, Int.reduceLT, Int.reduceLE, Int.reduceNeg, Int.reduceAdd, Int.reduceSub, Int.reduceMul, gl_MOST_TOLD_sheets, gl_MOST_TOLD_marks, v_neF fx f0]
      cases q : D.eqv x (.int 0) with
      | true =>
        simp only [rAll, rEnv, envOf, wipe, setsR, Kr, lineN, if_true, if_false, Int.cast_ofNat_Int, implies_true, Nat.reduceLeDiff, Nat.reduceAdd, Nat.reduceSub, Nat.reduceLT, Int.reduceEq, Int.reduceLT, Int.reduceLE, Int.reduceNeg, Int.reduceAdd, Int.reduceSub, Int.reduceMul, gl_MOST_TOLD_sheets, gl_MOST_TOLD_marks]
        exact ⟨G3, _, rfl, ⟨u3.1, Nat.le_refl _⟩, by omega, fun y hy => hx y (List.mem_cons_of_mem _ hy)⟩
      | false =>
        rw [q] at d2
        simp only [Bool.false_or, Bool.and_eq_true] at d2
        have d6 := fun st => c_of (by simp only [D.purs, px]; rfl) d2.1 st
        have d7 := fun st => c_of (by simp only [D.purs, px]; rfl) d2.2 st
        simp only [rAll, rEnv, envOf, wipe, setsR, Kr, lineN, if_true, if_false, Int.cast_ofNat_Int, implies_true, Nat.reduceLeDiff, Nat.reduceAdd, Nat.reduceSub, Nat.reduceLT, Int.reduceEq, Int.reduceLT, Int.reduceLE, Int.reduceNeg, Int.reduceAdd, Int.reduceSub, Int.reduceMul, gl_MOST_TOLD_sheets, gl_MOST_TOLD_marks, d6, d7]
        exact ⟨by simp; omega, _, _, rfl, ⟨(us_app ⟨u3.1, Nat.le_refl _⟩ us_two).1, Nat.le_refl _⟩, by simp; omega, fun y hy => hx y (List.mem_cons_of_mem _ hy)⟩
    · rintro e s ⟨G, x9, rfl, rfl, ug, ul, hx⟩
      exact ⟨G, x9, rfl, rfl, ug.1, by simp at ul; omega⟩
  rintro _ _ ⟨G4, x9, rfl, rfl, u4⟩
  refine sk_seq (fun e s => ∃ (G : List D) (x9 : Option D), e = [some NS, some (.ref 0), some uD, some mD, some bd, some no, some goldD, some goodD, some (.fl G), x9, none, none, none] ∧ s = [T3] ∧ Us G 80) ?_ ?_
  · simp only [rAll, rEnv, envOf, wipe, setsR, Kr, lineN, if_true, if_false, Int.cast_ofNat_Int, implies_true, Nat.reduceLeDiff, Nat.reduceAdd, Nat.reduceSub, Nat.reduceLT, Int.reduceEq, Int.reduceLT, Int.reduceLE, Int.reduceNeg, Int.reduceAdd, Int.reduceSub, Int.reduceMul, gl_MOST_TOLD_sheets, gl_MOST_TOLD_marks]
    refine forL_invD (I := fun xs e s => ∃ (G : List D) (x9 : Option D), e = [some NS, some (.ref 0), some uD, some mD, some bd, some no, some goldD, some goodD, some (.fl G), x9, none, none, none] ∧ s = [T3] ∧ Us G G.length ∧ G.length + 2 * xs.length ≤ 74 ∧ ∀ x ∈ xs, x ∈ ow2L) ⟨G4, x9, rfl, rfl, ⟨u4.1, Nat.le_refl _⟩, by have := u4.2; simp; omega, fun x hx => hx⟩ (fun _ _ _ _ => rfl) ?_ ?_
    · rintro x xs e s ⟨G, x9, rfl, rfl, ug, ul, hx⟩
      have mx := hx x List.mem_cons_self
      have px : x.pur = true := purs_mem (xs := ow2L) rfl x mx
      have d1 := List.all_eq_true.mp chk_f x mx
      simp only [Bool.and_eq_true] at d1
      have d4 := fun st => c_of (by simp only [D.purs, px]; rfl) d1.1 st
      have d5 := fun st => c_of (by simp only [D.purs, px]; rfl) d1.2 st
      simp only [List.length_cons] at ul
      simp only [rAll, rEnv, envOf, wipe, setsR, Kr, lineN, if_true, if_false, Int.cast_ofNat_Int, implies_true, Nat.reduceLeDiff, Nat.reduceAdd, Nat.reduceSub, Nat.reduceLT, Int.reduceEq, Int.reduceLT, Int.reduceLE, Int.reduceNeg, Int.reduceAdd, Int.reduceSub, Int.reduceMul, gl_MOST_TOLD_sheets, gl_MOST_TOLD_marks, d4, d5]
      exact ⟨by simp; omega, _, _, rfl, ⟨(us_app ⟨ug.1, Nat.le_refl _⟩ us_two).1, Nat.le_refl _⟩, by simp; omega, fun y hy => hx y (List.mem_cons_of_mem _ hy)⟩
    · rintro e s ⟨G, x9, rfl, rfl, ug, ul, hx⟩
      exact ⟨G, x9, rfl, rfl, ug.1, by simp at ul; omega⟩
  rintro _ _ ⟨G5, x9, rfl, rfl, u5⟩
  have g5 : G5 = List.replicate G5.length uD := List.eq_replicate_iff.mpr ⟨rfl, u5.1⟩
  have ul5 := u5.2
  have pl5 : ∀ x ∈ G5, Pl 2 x := fun x hx => by rw [u5.1 x hx]; exact pl_uD
  have s1 := fun st => sp__law_same 3 (d := .fl G5) (k := 96) (fz := true) (st := st) (pl_fl pl5 (by omega)).dep (pl_fl pl5 (by omega)).pur (pl_fl pl5 (by omega)).thin (fine_up (by decide) (pl_fl pl5 (by omega)).fine)
  have rp : repL [uD] (G5.length : Int) = G5 := by rw [rep1, ← g5]
  refine sk_seq (fun e s => e = [some NS, some (.ref 0), some uD, some mD, some bd, some no, some goldD, some goodD, some (.fl G5), x9, none, none, none] ∧ s = [T3]) ?_ ?_
  · simp only [rAll, rEnv, envOf, wipe, setsR, Kr, lineN, if_true, if_false, Int.cast_ofNat_Int, implies_true, Nat.reduceLeDiff, Nat.reduceAdd, Nat.reduceSub, Nat.reduceLT, Int.reduceEq, Int.reduceLT, Int.reduceLE, Int.reduceNeg, Int.reduceAdd, Int.reduceSub, Int.reduceMul, gl_MOST_TOLD_sheets, gl_MOST_TOLD_marks, rp, s1]
    omega
  rintro _ _ ⟨rfl, rfl⟩
  obtain ⟨v, T4, hv, hT4, e4⟩ := tk1 (m := 10 ^ 8) hT3 (by omega) (by decide) (by decide)
  obtain ⟨g, hg⟩ : ∃ g : Int, g = 2001 + v := ⟨_, rfl⟩
  have p8 : (10 : Int) ^ Int.toNat 8 = 10 ^ 8 := rfl
  refine sk_seq (fun e s => e = [some NS, some (.ref 0), some uD, some mD, some bd, some no, some goldD, some goodD, some (.fl G5), x9, some (.int g), none, none] ∧ s = [T4]) ?_ ?_
  · simp only [rAll, rEnv, envOf, wipe, setsR, Kr, lineN, if_true, if_false, Int.cast_ofNat_Int, implies_true, Nat.reduceLeDiff, Nat.reduceAdd, Nat.reduceSub, Nat.reduceLT, Int.reduceEq, Int.reduceLT, Int.reduceLE, Int.reduceNeg, Int.reduceAdd, Int.reduceSub, Int.reduceMul, gl_MOST_TOLD_sheets, gl_MOST_TOLD_marks, p8, e4, ← hg]
    exact by decide
  rintro _ _ ⟨rfl, rfl⟩
  have q1 := great_3 (g := g) (by omega)
  have q2 := fun st => c_of rfl chk_g st
  have q3 := great_11 (g := g) (by omega)
  have q4 := fun st => c_of rfl chk_h st
  refine sk_seq (fun e s => e = [some NS, some (.ref 0), some uD, some mD, some bd, some no, some goldD, some goodD, some (.fl [mD, mD, mD, tD]), x9, some (.int g), none, none] ∧ s = [T4]) ?_ ?_
  · simp only [rAll, rEnv, envOf, wipe, setsR, Kr, lineN, if_true, if_false, Int.cast_ofNat_Int, implies_true, Nat.reduceLeDiff, Nat.reduceAdd, Nat.reduceSub, Nat.reduceLT, Int.reduceEq, Int.reduceLT, Int.reduceLE, Int.reduceNeg, Int.reduceAdd, Int.reduceSub, Int.reduceMul, gl_MOST_TOLD_sheets, gl_MOST_TOLD_marks, q1, q2, q3, q4]
  rintro _ _ ⟨rfl, rfl⟩
  have q5 := fun st => c_of rfl chk_i st
  have q6 := fun st => c_of rfl chk_j st
  refine sk_seq (fun e s => e = [some NS, some (.ref 0), some uD, some mD, some bd, some no, some goldD, some goodD, some (.fl [mD, mD, mD, tD, tD, tD]), x9, some (.int g), none, none] ∧ s = [T4]) ?_ ?_
  · simp only [rAll, rEnv, envOf, wipe, setsR, Kr, lineN, if_true, if_false, Int.cast_ofNat_Int, implies_true, Nat.reduceLeDiff, Nat.reduceAdd, Nat.reduceSub, Nat.reduceLT, Int.reduceEq, Int.reduceLT, Int.reduceLE, Int.reduceNeg, Int.reduceAdd, Int.reduceSub, Int.reduceMul, gl_MOST_TOLD_sheets, gl_MOST_TOLD_marks, q5, q6]
  rintro _ _ ⟨rfl, rfl⟩
  have s2 := fun st => sp__law_same 3 (d := .fl [mD, mD, mD, tD, tD, tD]) (k := 96) (fz := true) (st := st) (by decide) (by decide) (by decide) (by decide +kernel)
  have r3 : repL [mD] 3 = [mD, mD, mD] := rfl
  have r4 : repL [D.fl [.str ⟨#[116, 111, 108, 100]⟩]] 3 = [tD, tD, tD] := rfl
  refine sk_seq (fun e s => e = [some NS, some (.ref 0), some uD, some mD, some bd, some no, some goldD, some goodD, some (.fl [mD, mD, mD, tD, tD, tD]), x9, some (.int g), none, none] ∧ s = [T4]) ?_ ?_
  · simp only [rAll, rEnv, envOf, wipe, setsR, Kr, lineN, if_true, if_false, Int.cast_ofNat_Int, implies_true, Nat.reduceLeDiff, Nat.reduceAdd, Nat.reduceSub, Nat.reduceLT, Int.reduceEq, Int.reduceLT, Int.reduceLE, Int.reduceNeg, Int.reduceAdd, Int.reduceSub, Int.reduceMul, gl_MOST_TOLD_sheets, gl_MOST_TOLD_marks, r3, r4, s2]
    decide
  rintro _ _ ⟨rfl, rfl⟩
  obtain ⟨V, hV⟩ : ∃ V, V = dueL := ⟨_, rfl⟩
  have f0 := fun st => f_of rfl chk_f0 st
  have f1 := fun st => f_of rfl chk_f1 st
  have f2 := fun st => f_of rfl chk_f2 st
  have f3 := fun st => f_of rfl chk_f3 st
  have f4 := fun st => f_of rfl chk_f4 st
  have f5 := fun st => f_of rfl chk_f5 st
  have f6 := fun st => f_of rfl chk_f6 st
  have f7 := fun st => f_of rfl chk_f7 st
  have f8 := fun st => f_of rfl chk_f8 st
  have f9 := fun st => f_of rfl chk_f9 st
  have f10 := fun st => f_of rfl chk_f10 st
  have f11 := fun st => f_of rfl chk_f11 st
  have f12 := fun st => f_of rfl chk_f12 st
  refine sk_seq (fun e s => e = [some NS, some (.ref 0), some uD, some mD, some bd, some no, some goldD, some goodD, some (.fl (dueL.take 5)), x9, some (.int g), none, none] ∧ s = [T4]) ?_ ?_
  · simp only [rAll, rEnv, envOf, wipe, setsR, Kr, lineN, if_true, if_false, Int.cast_ofNat_Int, implies_true, Nat.reduceLeDiff, Nat.reduceAdd, Nat.reduceSub, Nat.reduceLT, Int.reduceEq, Int.reduceLT, Int.reduceLE, Int.reduceNeg, Int.reduceAdd, Int.reduceSub, Int.reduceMul, gl_MOST_TOLD_sheets, gl_MOST_TOLD_marks, f0, f1, f2, f3, f4]
    first | rfl | exact ⟨by decide, rfl⟩
  rintro _ _ ⟨rfl, rfl⟩
  refine sk_seq (fun e s => e = [some NS, some (.ref 0), some uD, some mD, some bd, some no, some goldD, some goodD, some (.fl (dueL.take 8)), x9, some (.int g), none, none] ∧ s = [T4]) ?_ ?_
  · simp only [rAll, rEnv, envOf, wipe, setsR, Kr, lineN, if_true, if_false, Int.cast_ofNat_Int, implies_true, Nat.reduceLeDiff, Nat.reduceAdd, Nat.reduceSub, Nat.reduceLT, Int.reduceEq, Int.reduceLT, Int.reduceLE, Int.reduceNeg, Int.reduceAdd, Int.reduceSub, Int.reduceMul, gl_MOST_TOLD_sheets, gl_MOST_TOLD_marks, f5, f6, f7]
    first | rfl | exact ⟨by decide, rfl⟩
  rintro _ _ ⟨rfl, rfl⟩
  refine sk_seq (fun e s => e = [some NS, some (.ref 0), some uD, some mD, some bd, some no, some goldD, some goodD, some (.fl (dueL.take 9)), x9, some (.int g), none, none] ∧ s = [T4]) ?_ ?_
  · simp only [rAll, rEnv, envOf, wipe, setsR, Kr, lineN, if_true, if_false, Int.cast_ofNat_Int, implies_true, Nat.reduceLeDiff, Nat.reduceAdd, Nat.reduceSub, Nat.reduceLT, Int.reduceEq, Int.reduceLT, Int.reduceLE, Int.reduceNeg, Int.reduceAdd, Int.reduceSub, Int.reduceMul, gl_MOST_TOLD_sheets, gl_MOST_TOLD_marks, f8]
    first | rfl | exact ⟨by decide, rfl⟩
  rintro _ _ ⟨rfl, rfl⟩
  refine sk_seq (fun e s => e = [some NS, some (.ref 0), some uD, some mD, some bd, some no, some goldD, some goodD, some (.fl (dueL.take 12)), x9, some (.int g), none, none] ∧ s = [T4]) ?_ ?_
  · simp only [rAll, rEnv, envOf, wipe, setsR, Kr, lineN, if_true, if_false, Int.cast_ofNat_Int, implies_true, Nat.reduceLeDiff, Nat.reduceAdd, Nat.reduceSub, Nat.reduceLT, Int.reduceEq, Int.reduceLT, Int.reduceLE, Int.reduceNeg, Int.reduceAdd, Int.reduceSub, Int.reduceMul, gl_MOST_TOLD_sheets, gl_MOST_TOLD_marks, f9, f10, f11]
    first | rfl | exact ⟨by decide, rfl⟩
  rintro _ _ ⟨rfl, rfl⟩
  refine sk_seq (fun e s => e = [some NS, some (.ref 0), some uD, some mD, some bd, some no, some goldD, some goodD, some (.fl dueL), x9, some (.int g), none, none] ∧ s = [T4]) ?_ ?_
  · simp only [rAll, rEnv, envOf, wipe, setsR, Kr, lineN, if_true, if_false, Int.cast_ofNat_Int, implies_true, Nat.reduceLeDiff, Nat.reduceAdd, Nat.reduceSub, Nat.reduceLT, Int.reduceEq, Int.reduceLT, Int.reduceLE, Int.reduceNeg, Int.reduceAdd, Int.reduceSub, Int.reduceMul, gl_MOST_TOLD_sheets, gl_MOST_TOLD_marks, f12]
    first | rfl | exact ⟨by decide, rfl⟩
  rintro _ _ ⟨rfl, rfl⟩
  refine sk_seq (fun e s => e = [some NS, some (.ref 0), some uD, some mD, some bd, some no, some goldD, some goodD, some (.fl dueL), x9, some (.int g), some (.fl dueL), none] ∧ s = [T4]) ?_ ?_
  · simp only [rAll, rEnv, envOf, wipe, setsR, Kr, lineN, if_true, if_false, Int.cast_ofNat_Int, implies_true, Nat.reduceLeDiff, Nat.reduceAdd, Nat.reduceSub, Nat.reduceLT, Int.reduceEq, Int.reduceLT, Int.reduceLE, Int.reduceNeg, Int.reduceAdd, Int.reduceSub, Int.reduceMul, gl_MOST_TOLD_sheets, gl_MOST_TOLD_marks]
    first | rfl | exact ⟨by decide, rfl⟩
  rintro _ _ ⟨rfl, rfl⟩
  have s3 := fun st => sp__law_same 5 (d := .fl dueL) (k := 94) (fz := true) (st := st) (by decide) (by decide) (by decide) (by decide +kernel)
  simp only [rAll, rEnv, envOf, wipe, setsR, Kr, lineN, if_true, if_false, Int.cast_ofNat_Int, implies_true, Nat.reduceLeDiff, Nat.reduceAdd, Nat.reduceSub, Nat.reduceLT, Int.reduceEq, Int.reduceLT, Int.reduceLE, Int.reduceNeg, Int.reduceAdd, Int.reduceSub, Int.reduceMul, gl_MOST_TOLD_sheets, gl_MOST_TOLD_marks, s3]
end
end Pk27

open PySem PySem.W PySem.Calls PyProof.Rows
theorem PySem.Challenge.cw_foldedstreets_k27_sheets_and_marks_refus_holds : PySem.Challenge.rw_foldedstreets_k27_sheets_and_marks_refus.Holds := by
  w_on; o_law
  refine HandSHeadRun.head_imp (r := OpenLaw.row PySem.Challenge.rw_foldedstreets_k27_sheets_and_marks_refus) (q := view (OpenLaw.row PySem.Challenge.rw_foldedstreets_k27_sheets_and_marks_refus).prog [0, 69]) (H := Pk27h.hook) (ob := Pk27h.ob) (M := 4000) (loose := Pk27h.names) (d := HandSHeadRun.topDef (OpenLaw.row PySem.Challenge.rw_foldedstreets_k27_sheets_and_marks_refus).prog 69) (kwd := []) Pk27h.ob_eq
    Pk27h.run (by kernel_rfl) (by kernel_rfl) (by kernel_rfl) (by rfl) (by first | assumption | decide +kernel) (by decide +kernel) ⟨rfl, rfl, rfl, rfl, rfl, by decide +kernel⟩ ?hw ?hc
  case hw => w_witness2
  case hc =>
    exact Mi.walk_mi (l := PySem.Challenge.rw_foldedstreets_k27_sheets_and_marks_refus) (n := 63) (lv := 100) (T := Pk27h.tx) (tp := Pk27h.top) (ix := Pk27h.ix) (fi := Pk27.i_law) (df := Pk27.d_law) (x := "script") ⟨by kernel_rfl, by kernel_rfl⟩ rfl (by decide) (by kernel_rfl) ⟨rfl, by decide, by decide⟩ Pk27h.text Pk27h.mtxt Pk27h.hb Pk27h.hk rfl (by decide +kernel) (by kernel_rfl) rfl (fun ns hl _ => Pk27.plain_law hl)
