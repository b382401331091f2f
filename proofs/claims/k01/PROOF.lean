import PyProof.Rows.All
import Wide.All
import OpenK.AllK
import Wide.FinOn
import PySem.Str
import HandS.Base
import HandS.Call
import HandS.List
import HandS.Comp
import HandS.Exc
import HandS.ExcOwn
import HandS.ExcInit
import HandS.TryMany
import HandS.Defaults
import HandS.IsInst
import HandS.Flow
import HandS.Style
import HandS.TupAny
import HandS.SortInts
import HandS.Conv
import HandS.Deep
import HandS.Dict
import HandS.Iter
import HandS.Zip
import HandS.Words
import HandS.WordsExc
import HandS.Ends
import HandS.HeadHook1
import HandS.HeadHook2
import HandS.SortOrd
import HandS.Rev
import HandS.RevTup
import HandS.ExcIs
import KE.KExcIs
import HandS.Head0
import HandS.Head1
import HandS.Head2
import HandS.HeadEnd
import PyProof.ExcBaseAll.ValueError
import PySem.Challenge.RW_scribehall_k01_numbers_and_members
set_option Elab.async false
set_option linter.all false
/-! IPy1: values as trees, a store, the instructions (E, S) and what they do. No heap, no program. -/
namespace IP
open PySem

inductive PV where
  | non | bl (b : Bool) | int (i : Int) | str (x : Str)
  | tup (xs : List PV) | lst (xs : List PV) | dct (ks vs : List PV)
  | ref (n : Nat) | exc (c : Nat) (xs : List PV)
/-- an object of the store -/
inductive SO where
  | lst (xs : List PV) | dct (ks vs : List PV) | ins (c : Nat) (ns : List Nat) (vs : List PV)
abbrev Store := List SO
abbrev Env := List (Option PV)

inductive Res (α : Type) where
  | ok (a : α) (S : Store)
  | exc (c : Nat) (xs : List PV) (S : Store)
  | bad
def Res.bnd {α β : Type} (r : Res α) (f : α → Store → Res β) : Res β :=
  match r with
  | .ok a S => f a S
  | .exc c xs S => .exc c xs S
  | .bad => .bad
@[simp] theorem Res.bnd_ok {α β : Type} (a : α) (S : Store) (f : α → Store → Res β) : (Res.ok a S).bnd f = f a S := rfl
@[simp] theorem Res.bnd_exc {α β : Type} (c : Nat) (xs : List PV) (S : Store) (f : α → Store → Res β) : (Res.exc c xs S : Res α).bnd f = .exc c xs S := rfl
@[simp] theorem Res.bnd_bad {α β : Type} (f : α → Store → Res β) : (Res.bad : Res α).bnd f = .bad := rfl

/-- what a statement does -/
inductive SR where
  | nx (σ : Env) (S : Store) | rt (v : PV) (S : Store) | bk (σ : Env) (S : Store) | ct (σ : Env) (S : Store)
  | exc (c : Nat) (xs : List PV) (σ : Env) (S : Store) | bad

/-! ### equality of trees, structural -/
mutual
def beqV : PV → PV → Bool
  | .non, .non => true
  | .bl a, .bl b => a == b
  | .int a, .int b => decide (a = b)
  | .str a, .str b => decide (a = b)
  | .tup a, .tup b => beqVs a b
  | .lst a, .lst b => beqVs a b
  | .dct a b, .dct c d => beqVs a c && beqVs b d
  | .ref a, .ref b => a == b
  | .exc a b, .exc c d => a == c && beqVs b d
  | _, _ => false
def beqVs : List PV → List PV → Bool
  | [], [] => true
  | a :: as, b :: bs => beqV a b && beqVs as bs
  | _, _ => false
end
mutual
theorem beqV_eq : ∀ (a b : PV), beqV a b = true → a = b
  | .non, b, h => by cases b <;> first | rfl | (simp [beqV] at h)
  | .bl a, b, h => by cases b <;> first | (simp [beqV] at h; done) | (simp [beqV] at h; rw [h])
  | .int a, b, h => by cases b <;> first | (simp [beqV] at h; done) | (simp [beqV] at h; rw [h])
  | .str a, b, h => by cases b <;> first | (simp [beqV] at h; done) | (simp [beqV] at h; rw [h])
  | .tup a, b, h => by cases b <;> first | (simp [beqV] at h; done) | (simp only [beqV] at h; rw [beqVs_eq _ _ h])
  | .lst a, b, h => by cases b <;> first | (simp [beqV] at h; done) | (simp only [beqV] at h; rw [beqVs_eq _ _ h])
  | .dct a b, c, h => by cases c <;> first | (simp [beqV] at h; done) | (simp only [beqV, Bool.and_eq_true] at h; rw [beqVs_eq _ _ h.1, beqVs_eq _ _ h.2])
  | .ref a, b, h => by cases b <;> first | (simp [beqV] at h; done) | (simp [beqV] at h; rw [h])
  | .exc a b, c, h => by cases c <;> first | (simp [beqV] at h; done) | (simp only [beqV, Bool.and_eq_true, beq_iff_eq] at h; rw [h.1, beqVs_eq _ _ h.2])
theorem beqVs_eq : ∀ (a b : List PV), beqVs a b = true → a = b
  | [], b, h => by cases b <;> first | rfl | (simp [beqVs] at h)
  | a :: as, b, h => by cases b <;> first | (simp [beqVs] at h; done) | (simp only [beqVs, Bool.and_eq_true] at h; rw [beqV_eq _ _ h.1, beqVs_eq _ _ h.2])
end
mutual
theorem beqV_self : ∀ a : PV, beqV a a = true
  | .non => by simp [beqV]
  | .bl a => by simp [beqV]
  | .int a => by simp [beqV]
  | .str a => by simp [beqV]
  | .tup a => by simp [beqV, beqVs_self a]
  | .lst a => by simp [beqV, beqVs_self a]
  | .dct a b => by simp [beqV, beqVs_self a, beqVs_self b]
  | .ref a => by simp [beqV]
  | .exc a b => by simp [beqV, beqVs_self b]
theorem beqVs_self : ∀ a : List PV, beqVs a a = true
  | [] => by simp [beqVs]
  | a :: as => by simp [beqVs, beqV_self a, beqVs_self as]
end
def beqO : SO → SO → Bool
  | .lst a, .lst b => beqVs a b
  | .dct a b, .dct c d => beqVs a c && beqVs b d
  | .ins c n a, .ins d m b => c == d && decide (n = m) && beqVs a b
  | _, _ => false
theorem beqO_eq : ∀ (a b : SO), beqO a b = true → a = b
  | .lst a, b, h => by cases b <;> first | (simp [beqO] at h; done) | (simp only [beqO] at h; rw [beqVs_eq _ _ h])
  | .dct a b, c, h => by cases c <;> first | (simp [beqO] at h; done) | (simp only [beqO, Bool.and_eq_true] at h; rw [beqVs_eq _ _ h.1, beqVs_eq _ _ h.2])
  | .ins a b c, d, h => by cases d <;> first | (simp [beqO] at h; done) | (simp only [beqO, Bool.and_eq_true, beq_iff_eq, decide_eq_true_eq] at h; rw [h.1.1, h.1.2, beqVs_eq _ _ h.2])
theorem beqO_self (a : SO) : beqO a a = true := by cases a <;> simp [beqO, beqVs_self]

/-! ### no reference from n on -/
mutual
def clV (n : Nat) : PV → Bool
  | .non => true | .bl _ => true | .int _ => true | .str _ => true
  | .tup xs => clVs n xs | .lst xs => clVs n xs
  | .dct ks vs => clVs n ks && clVs n vs
  | .ref k => decide (k < n)
  | .exc _ xs => clVs n xs
def clVs (n : Nat) : List PV → Bool
  | [] => true
  | x :: xs => clV n x && clVs n xs
end
def clO (n : Nat) : SO → Bool
  | .lst xs => clVs n xs
  | .dct ks vs => clVs n ks && clVs n vs
  | .ins _ _ vs => clVs n vs
/-- the objects of S, as they are in S', are as they were or lean on nothing newer -/
def kept (m : Nat) : Store → Store → Bool
  | [], _ => true
  | _ :: _, [] => false
  | a :: as, b :: bs => (beqO a b || clO m b) && kept m as bs
/-- a list that the call made, as a tree -/
def thaw (f : Bool) (S : Store) (S' : Store) : PV → PV
  | .ref n => if f = true ∧ S.length ≤ n then (match S'[n]? with
    | some (.lst xs) => .lst xs
    | some (.dct ks vs) => .dct ks vs
    | _ => .ref n) else .ref n
  | v => v
/-- what a call leaves: its own objects are let go where nothing leans on them -/
def leave (f : Bool) (S : Store) (v : PV) (S' : Store) : PV × Store := if clV S.length (thaw f S S' v) && kept S.length S S' then (thaw f S S' v, S'.take S.length) else (v, S')

/-! ### types -/
inductive Ty where
  | non | bool | int | str | tup | lst | dct | cls (c : Nat) | bi (n : Nat)
  deriving DecidableEq
def tyOf (S : Store) : PV → Option Ty
  | .non => some .non | .bl _ => some .bool | .int _ => some .int | .str _ => some .str
  | .tup _ => some .tup | .lst _ => some .lst | .dct _ _ => some .dct
  | .exc c _ => some (.cls c)
  | .ref n => match S[n]? with
    | some (.lst _) => some .lst
    | some (.dct _ _) => some .dct
    | some (.ins c _ _) => some (.cls c)
    | none => none

/-! ### sequences -/
def lim : Nat := 16777216
/-- the items of a list or a tuple -/
def seqOf (S : Store) : PV → Option (List PV)
  | .tup xs => some xs
  | .lst xs => some xs
  | .ref n => match S[n]? with
    | some (.lst xs) => some xs
    | _ => none
  | _ => none
def lstOf (S : Store) : PV → Option (List PV)
  | .lst xs => some xs
  | .ref n => match S[n]? with
    | some (.lst xs) => some xs
    | _ => none
  | _ => none
/-- a new list: frozen, or in the store -/
def mkL (m : Bool) (xs : List PV) (S : Store) : Res PV := match m with
  | true => .ok (.ref S.length) (S ++ [.lst xs])
  | false => .ok (.lst xs) S
def ixN (n : Nat) (i : Int) : Option Nat := if 0 ≤ i then (if i < n then some i.toNat else none) else if -(n : Int) ≤ i then some (i + n).toNat else none
def sIx (n d : Nat) : Option Int → Nat
  | none => d
  | some v => if v < 0 then (v + (n : Int)).toNat else min v.toNat n
def cut {α : Type} (xs : List α) (lo hi : Option Int) : List α := (xs.drop (sIx xs.length 0 lo)).take (sIx xs.length xs.length hi - sIx xs.length 0 lo)

/-! ### == -/
mutual
/-- data without dicts, objects, errors -/
def plV : PV → Bool
  | .non => true | .bl _ => true | .int _ => true | .str _ => true
  | .tup xs => plVs xs | .lst xs => plVs xs
  | _ => false
def plVs : List PV → Bool
  | [] => true
  | x :: xs => plV x && plVs xs
end
mutual
def dpV : PV → Nat
  | .tup xs => dpVs xs + 1 | .lst xs => dpVs xs + 1
  | _ => 0
def dpVs : List PV → Nat
  | [] => 0
  | x :: xs => max (dpV x) (dpVs xs)
end
mutual
/-- == of data -/
def eqB : PV → PV → Bool
  | .non, .non => true
  | .bl a, .bl b => a == b
  | .bl a, .int b => (if a then 1 else 0) == b
  | .int a, .bl b => a == (if b then 1 else 0)
  | .int a, .int b => a == b
  | .str a, .str b => a == b
  | .tup a, .tup b => eqBs a b
  | .lst a, .lst b => eqBs a b
  | _, _ => false
def eqBs : List PV → List PV → Bool
  | [], [] => true
  | a :: as, b :: bs => eqB a b && eqBs as bs
  | _, _ => false
end
/-- a list of the store, as a tree -/
def top (S : Store) : PV → PV
  | .ref n => match S[n]? with
    | some (.lst xs) => .lst xs
    | _ => .ref n
  | v => v
def eqP (S : Store) (x y : PV) : Option Bool := match plV (top S x) && plV (top S y) && decide (dpV (top S x) ≤ 60 ∨ dpV (top S y) ≤ 60) with
  | true => some (eqB (top S x) (top S y))
  | false => none

/-! ### the instructions -/
inductive IOp where
  | add | sub | mul | fdiv | mod | pow | shl | shr | band
  deriving DecidableEq
inductive ICmp where
  | eq | ne | lt | le | gt | ge | inn | nin | is | isn
  deriving DecidableEq
inductive BI where
  | len | list | tuple | sorted | mn | mx | all | any | abs | int | sum | lrange | trange | trev
  deriving DecidableEq
inductive BM where
  | append | extend | pop | popAt
  deriving DecidableEq
inductive IK where
  | seq | rng | enum | zip
  deriving DecidableEq
inductive Tg where
  | nm (i : Nat) | tp (ts : List Tg)
inductive E where
  | var (i : Nat) | cst (v : PV) | glo (x : Nat) (v : PV)
  | tup (es : List E) | lst (m : Bool) (es : List E) | dct0 (m : Bool)
  | bin (m : Bool) (op : IOp) (a b : E) | neg (a : E) | nt (a : E)
  | cmp (op : ICmp) (a b : E) | chn (op op' : ICmp) (a b c : E)
  | and (a b : E) | or (a b : E) | ite (c a b : E)
  | idx (a b : E) | slc (m : Bool) (a : E) (lo hi : List E)
  | attr (a : E) (f : Nat)
  | call (f : Nat) (es : List E) | make (c : Nat) (es : List E) | meth (a : E) (m : Nat) (es : List E)
  | bi (m : Bool) (b : BI) (es : List E) | bm (m : Bool) (b : BM) (a : E) (es : List E)
  | isi (a : E) (t : Ty)
  | comp (m : Bool) (own : List Nat) (tg : Tg) (ik : IK) (its : List E) (cond : List E) (elt : E)
inductive S where
  | asg (t : Tg) (e : E) | asgS (o i e : E) | asgA (o : E) (f : Nat) (e : E)
  | aug (i : Nat) (op : IOp) (e : E)
  | ex (e : E) | iff (c : E) (a b : List S)
  | for (t : Tg) (ik : IK) (its : List E) (body : List S) | whl (c : E) (body : List S)
  | tryS (body : List S) (cs : List (Nat × Option Nat)) (bs : List (List S))
  | rais (c : Nat) (es : List E) | ret (e : E) | ret0 | brk | cnt | pas
structure Fn where
  np : Nat
  ns : Nat
  frz : Bool
  body : List S
structure Tab where
  fn : Nat → Option Fn
  isi : Ty → Ty → Option Bool
  glo : Nat → PV → Bool := fun _ _ => false
  hasC : Nat → Bool := fun _ => false
  xc : Nat → Bool := fun _ => false
  rz : Nat → Bool := fun _ => false
  ic : Nat → Bool := fun _ => false
  gf : Nat → Bool := fun _ => false
  exm : Nat → Nat → Option Bool := fun _ _ => none
  meth : Nat → Nat → Option Nat := fun _ _ => none
  init : Nat → Option Nat := fun _ => none
  xfs : Nat → List Nat := fun _ => []

/-! ### operations -/
def bitA (i j : Int) : Int := (Nat.land i.toNat j.toNat : Nat)
def addP (m : Bool) (x y : PV) (S : Store) : Res PV := match x, y with
  | .int i, .int j => .ok (.int (i + j)) S
  | .str a, .str b => if a.length + b.length ≤ lim then .ok (.str (a ++ b)) S else .bad
  | .tup a, .tup b => if a.length + b.length ≤ lim then .ok (.tup (a ++ b)) S else .bad
  | x, y => match lstOf S x, lstOf S y with
    | some a, some b => if a.length + b.length ≤ lim then mkL m (a ++ b) S else .bad
    | _, _ => .bad
/-- two intsL -/
def iiP (c : Int → Int → Bool) (g : Int → Int → PV) (x y : PV) (S : Store) : Res PV := match x, y with
  | .int i, .int j => if c i j = true then .ok (g i j) S else .bad
  | _, _ => .bad
def binP (m : Bool) (op : IOp) (x y : PV) (S : Store) : Res PV := match op with
  | .add => addP m x y S
  | .sub => iiP (fun _ _ => true) (fun i j => .int (i - j)) x y S
  | .mul => iiP (fun i j => decide ((-(2 ^ 64) < i ∧ i < 2 ^ 64) ∨ (-(2 ^ 64) < j ∧ j < 2 ^ 64))) (fun i j => .int (i * j)) x y S
  | .fdiv => iiP (fun _ j => decide (0 < j ∧ j < 1073741824)) (fun i j => .int (i / j)) x y S
  | .mod => iiP (fun _ j => decide (0 < j)) (fun i j => .int (i % j)) x y S
  | .pow => iiP (fun i j => decide (0 ≤ j ∧ j ≤ 1000000 ∧ i.natAbs < 2 ^ 64)) (fun i j => .int (i ^ j.toNat)) x y S
  | .shl => iiP (fun i j => decide (0 ≤ j ∧ j ≤ 1000000 ∧ i.natAbs < 2 ^ 64)) (fun i j => .int (i * 2 ^ j.toNat)) x y S
  | .shr => iiP (fun _ j => decide (0 ≤ j)) (fun i j => .int (i / 2 ^ j.toNat)) x y S
  | .band => .bad
/-- x op= y, of intsL -/
def augP (op : IOp) (x y : PV) (S : Store) : Res PV := match op with
  | .add => iiP (fun _ _ => true) (fun i j => .int (i + j)) x y S
  | .sub => iiP (fun _ _ => true) (fun i j => .int (i - j)) x y S
  | _ => .bad
def truth (S : Store) : PV → Option Bool
  | .non => some false | .bl b => some b | .int i => some (i != 0) | .str x => if x.length ≤ lim then some ((x.length : Int) != 0) else none
  | .tup xs => some (!xs.isEmpty) | .lst xs => some (!xs.isEmpty) | .dct ks _ => some (!ks.isEmpty)
  | .ref n => match S[n]? with
    | some (.lst xs) => some (!xs.isEmpty)
    | some (.dct ks _) => some (!ks.isEmpty)
    | _ => none
  | .exc _ _ => none
def inP (x : PV) : List PV → Bool
  | [] => false
  | y :: ys => eqB y x || inP x ys
def eqQ (neg : Bool) (x y : PV) (S : Store) : Res PV := match eqP S x y with
  | some b => .ok (.bl (if neg then !b else b)) S
  | none => .bad
def inQ (neg : Bool) (x y : PV) (S : Store) : Res PV := match y with
  | .tup ys => if plV x && plVs ys && decide (dpV x = 0 ∧ dpVs ys = 0) then .ok (.bl (if neg then !inP x ys else inP x ys)) S else .bad
  | y => match lstOf S y with
    | some ys => if plV x && plVs ys && decide (dpV x ≤ 60 ∧ dpVs ys ≤ 60) then .ok (.bl (if neg then !inP x ys else inP x ys)) S else .bad
    | none => .bad
def isN : PV → Bool
  | .non => true
  | _ => false
def isQ (neg : Bool) (x y : PV) (S : Store) : Res PV := match y with
  | .non => .ok (.bl (if neg then !isN x else isN x)) S
  | .bl b => match x with
    | .bl a => .ok (.bl (if neg then !decide (a = b) else decide (a = b))) S
    | _ => .bad
  | _ => .bad
def cmpP (op : ICmp) (x y : PV) (S : Store) : Res PV := match op with
  | .eq => eqQ false x y S
  | .ne => eqQ true x y S
  | .lt => iiP (fun _ _ => true) (fun i j => .bl (decide (i < j))) x y S
  | .le => iiP (fun _ _ => true) (fun i j => .bl (decide (i ≤ j))) x y S
  | .gt => iiP (fun _ _ => true) (fun i j => .bl (decide (j < i))) x y S
  | .ge => iiP (fun _ _ => true) (fun i j => .bl (decide (j ≤ i))) x y S
  | .inn => inQ false x y S
  | .nin => inQ true x y S
  | .is => isQ false x y S
  | .isn => isQ true x y S
def idxP (x i : PV) (S : Store) : Res PV := match i with
  | .int i => match seqOf S x with
    | some xs => match ixN xs.length i with
      | some k => match xs[k]? with
        | some v => .ok v S
        | none => .bad
      | none => .bad
    | none => .bad
  | _ => .bad
def ptO : List PV → Option (Option Int)
  | [] => some none
  | [.int i] => some (some i)
  | _ => none
/-- a slice's part -/
def ptR (r : Res (List PV)) : Res (Option Int) := r.bnd fun l S => match ptO l with
  | some o => .ok o S
  | none => .bad
def slcP (m : Bool) (x : PV) (l h : Option Int) (S : Store) : Res PV := match x with
  | .tup xs => .ok (.tup (cut xs l h)) S
  | x => match lstOf S x with
    | some xs => mkL m (cut xs l h) S
    | none => .bad
def intsL : List PV → Option (List Int)
  | [] => some []
  | .int i :: r => (intsL r).map (i :: ·)
  | _ => none
def bls : List PV → Option (List Bool)
  | [] => some []
  | .bl i :: r => (bls r).map (i :: ·)
  | _ => none
def ins (i : Int) : List Int → List Int
  | [] => [i]
  | j :: r => if i ≤ j then i :: j :: r else j :: ins i r
def isort : List Int → List Int
  | [] => []
  | i :: r => ins i (isort r)
def rng (a b : Int) : List PV := (List.range (b - a).toNat).map fun k => .int (a + (k : Nat))
def mnL : Int → List Int → Int
  | m, [] => m
  | m, i :: r => mnL (if i < m then i else m) r
def mxL : Int → List Int → Int
  | m, [] => m
  | m, i :: r => mxL (if i > m then i else m) r
def on1 (xs : List PV) (f : PV → Res PV) : Res PV := match xs with
  | [x] => f x
  | _ => .bad
def on2 (xs : List PV) (f : PV → PV → Res PV) : Res PV := match xs with
  | [x, y] => f x y
  | _ => .bad
def lenP (S : Store) (x : PV) : Res PV := match x with
  | .str x => if x.length ≤ lim then .ok (.int x.length) S else .bad
  | x => match seqOf S x with
    | some xs => .ok (.int xs.length) S
    | none => .bad
def onSeq (S : Store) (x : PV) (f : List PV → Res PV) : Res PV := match seqOf S x with
  | some xs => f xs
  | none => .bad
def onInts (S : Store) (x : PV) (f : List Int → Res PV) : Res PV := match (lstOf S x).bind intsL with
  | some xs => f xs
  | none => .bad
def onIntsA (S : Store) (x : PV) (f : List Int → Res PV) : Res PV := match (seqOf S x).bind intsL with
  | some xs => f xs
  | none => .bad
def onBls (S : Store) (x : PV) (f : List Bool → Res PV) : Res PV := match (lstOf S x).bind bls with
  | some xs => f xs
  | none => .bad
def rngOk (a b : Int) : Bool := decide (-(2 ^ 62) ≤ a ∧ a < 2 ^ 62 ∧ -(2 ^ 62) ≤ b ∧ b < 2 ^ 62 ∧ b - a ≤ lim)
def mmP (S : Store) (g : Int → Int → Int) (h : Int → List Int → Int) (xs : List PV) : Res PV := match xs with
  | [x, y] => iiP (fun _ _ => true) (fun i j => .int (g i j)) x y S
  | [x] => onInts S x fun ns => match ns with
    | i :: r => .ok (.int (h i r)) S
    | [] => .bad
  | _ => .bad
def biP (m : Bool) (b : BI) (xs : List PV) (S : Store) : Res PV := match b with
  | .len => on1 xs (lenP S)
  | .list => on1 xs fun x => onSeq S x fun ys => mkL m ys S
  | .tuple => on1 xs fun x => onSeq S x fun ys => .ok (.tup ys) S
  | .sorted => on1 xs fun x => onIntsA S x fun ns => mkL m ((isort ns).map .int) S
  | .mn => mmP S (fun i j => if j < i then j else i) mnL xs
  | .mx => mmP S (fun i j => if j > i then j else i) mxL xs
  | .all => on1 xs fun x => onBls S x fun bs => .ok (.bl (bs.all id)) S
  | .any => on1 xs fun x => onBls S x fun bs => .ok (.bl (bs.any id)) S
  | .abs => on1 xs fun x => match x with
    | .int i => .ok (.int (if i < 0 then -i else i)) S
    | _ => .bad
  | .int => on1 xs fun x => match x with
    | .int i => .ok (.int i) S
    | .bl k => .ok (.int (if k then 1 else 0)) S
    | _ => .bad
  | .sum => on1 xs fun x => onInts S x fun ns => .ok (.int ns.sum) S
  | .lrange => on2 xs fun x y => match x, y with
    | .int a, .int b => if rngOk a b = true then mkL m (rng a b) S else .bad
    | _, _ => .bad
  | .trange => on2 xs fun x y => match x, y with
    | .int a, .int b => if rngOk a b = true then .ok (.tup (rng a b)) S else .bad
    | _, _ => .bad
  | .trev => on1 xs fun x => onSeq S x fun ys => .ok (.tup ys.reverse) S
def appP (n : Nat) (l : List PV) (y : PV) (S : Store) : Res PV := if l.length < lim then .ok .non (S.set n (.lst (l ++ [y]))) else .bad
def extP (n : Nat) (l : List PV) (y : PV) (S : Store) : Res PV := match lstOf S y with
  | some k => if l.length + k.length ≤ lim then .ok .non (S.set n (.lst (l ++ k))) else .bad
  | none => .bad
def popP (n : Nat) (l : List PV) (S : Store) : Res PV := match l[l.length - 1]? with
  | some y => .ok y (S.set n (.lst l.dropLast))
  | none => .bad
def popAtP (n : Nat) (l : List PV) (i : PV) (S : Store) : Res PV := match i with
  | .int i => match ixN l.length i with
    | some k => match l[k]? with
      | some y => .ok y (S.set n (.lst (l.eraseIdx k)))
      | none => .bad
    | none => .bad
  | _ => .bad
def bmP (m : Bool) (b : BM) (x : PV) (xs : List PV) (S : Store) : Res PV := match x with
  | .ref n => match S[n]? with
    | some (.lst l) => match b with
      | .append => on1 xs fun y => appP n l y S
      | .extend => on1 xs fun y => extP n l y S
      | .pop => match xs with
        | [] => popP n l S
        | _ => .bad
      | .popAt => on1 xs fun i => popAtP n l i S
    | _ => .bad
  | _ => .bad
/-- what a for or a comprehension goes over -/
def iterOf (ik : IK) (vs : List PV) (S : Store) : Option (List PV) := match ik with
  | .seq => match vs with
    | [x] => seqOf S x
    | _ => none
  | .rng => match vs with
    | [.int a, .int b] => if rngOk a b = true then some (rng a b) else none
    | _ => none
  | .enum => match vs with
    | [x] => (lstOf S x).map fun xs => xs.zipIdx.map fun p => .tup [.int (p.2 : Nat), p.1]
    | _ => none
  | .zip => match vs with
    | [x, y] => match lstOf S x, lstOf S y with
      | some xs, some ys => some ((xs.zip ys).map fun p => .tup [p.1, p.2])
      | _, _ => match x, y with
        | .tup xs, .tup ys => some ((xs.zip ys).map fun p => .tup [p.1, p.2])
        | _, _ => none
    | _ => none
/-- the lists that are gone over stand -/
def stays (vs : List PV) (S S' : Store) : Bool := vs.all fun v => match v with
  | .ref n => match S[n]?, S'[n]? with
    | some a, some b => beqO a b
    | _, _ => false
  | _ => true
def setO (σ : Env) (i : Nat) (v : Option PV) : Option Env := if i < σ.length then some (σ.set i v) else none
mutual
def bindT : Tg → PV → Env → Option Env
  | .nm i => fun v σ => setO σ i (some v)
  | .tp ts => fun v σ => match v with
    | .tup xs => bindTs ts xs σ
    | _ => none
def bindTs : List Tg → List PV → Env → Option Env
  | [] => fun xs σ => match xs with
    | [] => some σ
    | _ => none
  | t :: ts => fun xs σ => match xs with
    | x :: xs => match bindT t x σ with
      | some σ' => bindTs ts xs σ'
      | none => none
    | [] => none
end
def wipe (σ : Env) : List Nat → Env
  | [] => σ
  | v :: vs => (wipe σ vs).set v none
/-- a comprehension's turns; an error out of it isn't served -/
def compL (bd : PV → Env → Option Env) (own : List Nat) (cond elt : Env → Store → Res PV) (ck : Store → Bool) (σ : Env) : List PV → List PV → Store → Res (List PV)
  | [], acc, S => .ok acc S
  | x :: xs, acc, S => match bd x σ with
    | none => .bad
    | some σ1 => match cond σ1 S with
      | .ok c S1 => match truth S1 c with
        | some true => match elt σ1 S1 with
          | .ok v S2 => if ck S2 then compL bd own cond elt ck σ xs (acc ++ [v]) S2 else .bad
          | _ => .bad
        | some false => if ck S1 then compL bd own cond elt ck σ xs acc S1 else .bad
        | none => .bad
      | _ => .bad
def fldOf : List Nat → List PV → Nat → Option PV
  | n :: ns, v :: vs, f => if n = f then some v else fldOf ns vs f
  | _, _, _ => none
def putF : List Nat → List PV → Nat → PV → List Nat × List PV
  | n :: ns, v :: vs, f, y => if n = f then (n :: ns, y :: vs) else ((n :: (putF ns vs f y).1), (v :: (putF ns vs f y).2))
  | _, _, f, y => ([f], [y])
/-- the type of a value, of a known class where it is an object -/
def tyT (T : Tab) (S : Store) : PV → Option Ty
  | .exc c _ => if T.xc c = true then some (.cls c) else none
  | .ref n => match S[n]? with
    | some (.lst _) => some .lst
    | some (.dct _ _) => some .dct
    | some (.ins c _ _) => if T.ic c = true then some (.cls c) else none
    | none => none
  | v => tyOf S v
def attrP (T : Tab) (x : PV) (f : Nat) (S : Store) : Res PV := match x with
  | .exc c xs => match fldOf (T.xfs c) xs f with
    | some v => .ok v S
    | none => .bad
  | .ref n => match S[n]? with
    | some (.ins _ ns vs) => match fldOf ns vs f with
      | some v => .ok v S
      | none => .bad
    | _ => .bad
  | _ => .bad
section
variable (T : Tab) (cf : Nat → List PV → Store → Res PV)
mutual
def evE : E → Env → Store → Res PV
  | .var i => fun σ S => match σ[i]? with
    | some (some v) => .ok v S
    | _ => .bad
  | .cst v => fun _ S => .ok v S
  | .glo _ v => fun _ S => .ok v S
  | .tup es => fun σ S => (evEs es σ S).bnd fun vs S => .ok (.tup vs) S
  | .lst m es => fun σ S => (evEs es σ S).bnd fun vs S => mkL m vs S
  | .dct0 m => fun _ S => match m with
    | true => .ok (.ref S.length) (S ++ [.dct [] []])
    | false => .ok (.dct [] []) S
  | .bin m op a b => fun σ S => (evE a σ S).bnd fun x S => (evE b σ S).bnd fun y S => binP m op x y S
  | .neg a => fun σ S => (evE a σ S).bnd fun x S => match x with
    | .int i => .ok (.int (-i)) S
    | _ => .bad
  | .nt a => fun σ S => (evE a σ S).bnd fun x S => match truth S x with
    | some b => .ok (.bl !b) S
    | none => .bad
  | .cmp op a b => fun σ S => (evE a σ S).bnd fun x S => (evE b σ S).bnd fun y S => cmpP op x y S
  | .chn op op' a b c => fun σ S => (evE a σ S).bnd fun x S => (evE b σ S).bnd fun y S => (cmpP op x y S).bnd fun r S => match r with
    | .bl true => (evE c σ S).bnd fun z S => cmpP op' y z S
    | .bl false => .ok (.bl false) S
    | _ => .bad
  | .and a b => fun σ S => (evE a σ S).bnd fun x S => match truth S x with
    | some true => evE b σ S
    | some false => .ok x S
    | none => .bad
  | .or a b => fun σ S => (evE a σ S).bnd fun x S => match truth S x with
    | some true => .ok x S
    | some false => evE b σ S
    | none => .bad
  | .ite c a b => fun σ S => (evE c σ S).bnd fun x S => match truth S x with
    | some true => evE a σ S
    | some false => evE b σ S
    | none => .bad
  | .idx a b => fun σ S => (evE a σ S).bnd fun x S => (evE b σ S).bnd fun y S => idxP x y S
  | .slc m a lo hi => fun σ S => (evE a σ S).bnd fun x S => (ptR (evEs lo σ S)).bnd fun l S => (ptR (evEs hi σ S)).bnd fun h S => slcP m x l h S
  | .attr a f => fun σ S => (evE a σ S).bnd fun x S => attrP T x f S
  | .call f es => fun σ S => (evEs es σ S).bnd fun vs S => cf f vs S
  | .make c es => fun σ S => (evEs es σ S).bnd fun vs S => match T.init c with
    | some f => (cf f (.ref S.length :: vs) (S ++ [.ins c [] []])).bnd fun r S' => match r with
      | .non => .ok (.ref S.length) S'
      | _ => .bad
    | none => .bad
  | .meth a m es => fun σ S => (evE a σ S).bnd fun x S => match x with
    | .ref n => match S[n]? with
      | some (.ins c _ _) => match T.meth c m with
        | some f => (evEs es σ S).bnd fun vs S => cf f (x :: vs) S
        | none => .bad
      | _ => .bad
    | _ => .bad
  | .bi m b es => fun σ S => (evEs es σ S).bnd fun vs S => biP m b vs S
  | .bm m b a es => fun σ S => (evE a σ S).bnd fun x S => match x with
    | .ref n => match S[n]? with
      | some (.lst _) => (evEs es σ S).bnd fun vs S => bmP m b (.ref n) vs S
      | _ => .bad
    | _ => .bad
  | .isi a t => fun σ S => (evE a σ S).bnd fun x S => match tyT T S x with
    | some u => (match T.isi u t with
      | some b => .ok (.bl b) S
      | none => .bad)
    | none => .bad
  | .comp m own tg ik its cond elt => fun σ S => (evEs its σ S).bnd fun vs S => match iterOf ik vs S with
    | some xs => if xs.length ≤ lim then (compL (bindT tg) own (match cond with
        | [] => fun _ S => .ok (.bl true) S
        | c :: _ => evE c) (evE elt) (stays vs S) (wipe σ own) xs [] S).bnd fun ys S => mkL m ys S else .bad
    | none => .bad
def evEs : List E → Env → Store → Res (List PV)
  | [] => fun _ S => .ok [] S
  | e :: es => fun σ S => (evE e σ S).bnd fun v S => (evEs es σ S).bnd fun vs S => .ok (v :: vs) S
end
end

/-! ### statements -/
def liftE {α : Type} (σ : Env) (r : Res α) (f : α → Store → SR) : SR := match r with
  | .ok v S => f v S
  | .exc c xs S => .exc c xs σ S
  | .bad => .bad
@[simp] theorem liftE_ok {α : Type} (σ : Env) (a : α) (S : Store) (f : α → Store → SR) : liftE σ (.ok a S) f = f a S := rfl
@[simp] theorem liftE_exc {α : Type} (σ : Env) (c : Nat) (xs : List PV) (S : Store) (f : α → Store → SR) : liftE σ (.exc c xs S : Res α) f = .exc c xs σ S := rfl
@[simp] theorem liftE_bad {α : Type} (σ : Env) (f : α → Store → SR) : liftE σ (.bad : Res α) f = .bad := rfl
/-- a for's turns -/
def forL (bd : PV → Env → Option Env) (body : Env → Store → SR) (ck : Store → Bool) : List PV → Env → Store → SR
  | [], σ, S => .nx σ S
  | x :: xs, σ, S => match bd x σ with
    | none => .bad
    | some σ1 => match body σ1 S with
      | .nx σ2 S2 => if ck S2 then forL bd body ck xs σ2 S2 else .bad
      | .ct σ2 S2 => if ck S2 then forL bd body ck xs σ2 S2 else .bad
      | .bk σ2 S2 => .nx σ2 S2
      | .rt v S2 => .rt v S2
      | .exc c ys σ2 S2 => .exc c ys σ2 S2
      | .bad => .bad
def whlL (c : Env → Store → Res PV) (body : Env → Store → SR) : Nat → Env → Store → SR
  | 0, _, _ => .bad
  | n + 1, σ, S => liftE σ (c σ S) fun v S1 => match truth S1 v with
    | none => .bad
    | some false => .nx σ S1
    | some true => match body σ S1 with
      | .nx σ2 S2 => whlL c body n σ2 S2
      | .ct σ2 S2 => whlL c body n σ2 S2
      | .bk σ2 S2 => .nx σ2 S2
      | .rt v S2 => .rt v S2
      | .exc c ys σ2 S2 => .exc c ys σ2 S2
      | .bad => .bad
def whlMost : Nat := 1000000
def setIx (x i v : PV) (S : Store) : Option Store := match x, i with
  | .ref n, .int k => match S[n]? with
    | some (.lst xs) => match ixN xs.length k with
      | some j => some (S.set n (.lst (xs.set j v)))
      | none => none
    | _ => none
  | _, _ => none
def setAt (x : PV) (f : Nat) (v : PV) (S : Store) : Option Store := match x with
  | .ref n => match S[n]? with
    | some (.ins c ns vs) => if ns.length < 900 then some (S.set n (.ins c (putF ns vs f v).1 (putF ns vs f v).2)) else none
    | _ => none
  | _ => none
def nxO (σ : Env) : Option Store → SR
  | some S => .nx σ S
  | none => .bad
/-- behind a suite its name is no more -/
def gone (i : Option Nat) : SR → SR
  | .nx σ S => .nx (match i with | some i => σ.set i none | none => σ) S
  | .bk σ S => .bk (match i with | some i => σ.set i none | none => σ) S
  | .ct σ S => .ct (match i with | some i => σ.set i none | none => σ) S
  | r => r
section
variable (T : Tab) (cf : Nat → List PV → Store → Res PV)
mutual
def evS : S → Env → Store → SR
  | .asg t e => fun σ S => liftE σ (evE T cf e σ S) fun v S => match bindT t v σ with
    | some σ' => .nx σ' S
    | none => .bad
  | .asgS o i e => fun σ S => liftE σ (evE T cf e σ S) fun v S => liftE σ (evE T cf o σ S) fun x S => liftE σ (evE T cf i σ S) fun k S => nxO σ (setIx x k v S)
  | .asgA o f e => fun σ S => liftE σ (evE T cf e σ S) fun v S => liftE σ (evE T cf o σ S) fun x S => nxO σ (setAt x f v S)
  | .aug i op e => fun σ S => match σ[i]? with
    | some (some x) => liftE σ (evE T cf e σ S) fun v S => liftE σ (augP op x v S) fun y S => .nx (σ.set i (some y)) S
    | _ => .bad
  | .ex e => fun σ S => liftE σ (evE T cf e σ S) fun _ S => .nx σ S
  | .iff c a b => fun σ S => liftE σ (evE T cf c σ S) fun v S => match truth S v with
    | some true => evSs a σ S
    | some false => evSs b σ S
    | none => .bad
  | .for t ik its body => fun σ S => liftE σ (evEs T cf its σ S) fun vs S => match iterOf ik vs S with
    | some xs => forL (bindT t) (evSs body) (stays vs S) xs σ S
    | none => .bad
  | .whl c body => fun σ S => whlL (evE T cf c) (evSs body) whlMost σ S
  | .tryS body cs bs => fun σ S => match evSs body σ S with
    | .exc c xs σ S => evHs cs bs c xs σ S
    | r => r
  | .rais c es => fun σ S => liftE σ (evEs T cf es σ S) fun vs S => .exc c vs σ S
  | .ret e => fun σ S => liftE σ (evE T cf e σ S) fun v S => .rt v S
  | .ret0 => fun _ S => .rt .non S
  | .brk => fun σ S => .bk σ S
  | .cnt => fun σ S => .ct σ S
  | .pas => fun σ S => .nx σ S
def evSs : List S → Env → Store → SR
  | [] => fun σ S => .nx σ S
  | s :: ss => fun σ S => match evS s σ S with
    | .nx σ S => evSs ss σ S
    | r => r
def evHs (cs : List (Nat × Option Nat)) : List (List S) → Nat → List PV → Env → Store → SR
  | [] => fun c xs σ S => .exc c xs σ S
  | b :: bs => fun c xs σ S => match cs with
    | [] => .bad
    | (d, i) :: cs' => match T.exm c d with
      | some true => match i with
        | some i => (match setO σ i (some (.exc c xs)) with
          | some σ' => gone (some i) (evSs b σ' S)
          | none => .bad)
        | none => evSs b σ S
      | some false => evHs cs' bs c xs σ S
      | none => .bad
end
def start (d : Fn) (args : List PV) : Env := args.map some ++ List.replicate (d.ns - d.np) none
def runB (d : Fn) (args : List PV) (S : Store) : Res PV := if args.length = d.np then (match evSs T cf d.body (start d args) S with
    | .nx _ S' => .ok .non (leave false S .non S').2
    | .rt v S' => .ok (leave d.frz S v S').1 (leave d.frz S v S').2
    | .exc c xs _ S' => .exc c xs (leave false S (.tup xs) S').2
    | _ => .bad) else .bad
end
def callF (T : Tab) : Nat → Nat → List PV → Store → Res PV
  | 0, _, _, _ => .bad
  | n + 1, f, args, S => match T.fn f with
    | some d => runB T (callF T n) d args S
    | none => .bad
end IP

set_option Elab.async false
set_option linter.all false
set_option maxRecDepth 100000
set_option maxHeartbeats 2000000
/-! IPy2: what the heap has of the trees and of the store. -/
namespace IP
open PySem PySem.Spec PyProof.Rows L2
/-- the program's names: classes, attributes and module constants, functions -/
structure Nm where
  cn : Nat → Str
  gn : Nat → Str
  fq : Nat → Str
section
variable (K : PySem.W.Frag) (G : Nm)
abbrev cA (c : Nat) : Addr := He.ga K (G.cn c)
/-- a tuple, a list of the module -/
abbrev KT (K : PySem.W.Frag) (a : Addr) (xs : List V) : Prop := ∃ (o : Obj) (its : Array Value) (n : Nat), K.lookup a = some o ∧ o.cls = .type "tuple" ∧ o.data = .seq its n ∧ its.size ≤ sizeLine ∧ Vals xs its.toList
abbrev KL (K : PySem.W.Frag) (a : Addr) (xs : List V) : Prop := ∃ (o : Obj) (its : Array Value) (n : Nat), K.lookup a = some o ∧ o.cls = .type "list" ∧ o.dict = none ∧ o.data = .seq its n ∧ its.size ≤ sizeLine ∧ Vals xs its.toList
/-- an error's object -/
def excO (a C : Addr) (d : Option Addr) : HO := .ext fun h => ∃ o : Obj, h.get? a = some o ∧ o.cls = .ref C ∧ o.dict = d ∧ ∃ vs, o.data = .fields vs
mutual
inductive Den (H : Hp) (μ : List Addr) : PV → V → Prop
  | non : Den H μ .non .non
  | bl (b : Bool) : Den H μ (.bl b) (.bl b)
  | int (i : Int) : Den H μ (.int i) (.int i)
  | str (x : Str) (h : PyData.strOk x = true) : Den H μ (.str x) (.str x)
  | tup {a : Addr} {xs : List PV} {ys : List V} (h : SqT K H a ys) (n : a ∉ μ ∨ KT K a ys) (d : Dens H μ xs ys) : Den H μ (.tup xs) (.ref a)
  | lst {a : Addr} {xs : List PV} {ys : List V} (h : SqL K H a ys) (n : a ∉ μ ∨ KL K a ys) (d : Dens H μ xs ys) : Den H μ (.lst xs) (.ref a)
  | dct {a : Addr} {ks vs : List PV} {kvs : List (Key × V)} (h : H a = some (.dK kvs)) (n : a ∉ μ) (dk : Dens H μ ks (kvs.map fun p => kV p.1)) (dv : Dens H μ vs (kvs.map (·.2))) : Den H μ (.dct ks vs) (.ref a)
  | ref {n : Nat} {a : Addr} (h : μ[n]? = some a) : Den H μ (.ref n) (.ref a)
  | exc {a : Addr} {c : Nat} {xs : List PV} {d : Option Addr} (h : H a = some (excO a (cA K G c) d)) (n : a ∉ μ) (e : ExcD H μ xs d) : Den H μ (.exc c xs) (.ref a)
inductive Dens (H : Hp) (μ : List Addr) : List PV → List V → Prop
  | nil : Dens H μ [] []
  | cons {x : PV} {xs : List PV} {y : V} {ys : List V} (h : Den H μ x y) (t : Dens H μ xs ys) : Dens H μ (x :: xs) (y :: ys)
/-- an error's fields -/
inductive ExcD (H : Hp) (μ : List Addr) : List PV → Option Addr → Prop
  | none : ExcD H μ [] none
  | some {dd : Addr} {f : Str} {y : V} {x : PV} (h : H dd = some (.xd [(f, y)])) (n : dd ∉ μ) (d : Den H μ x y) : ExcD H μ [x] (some dd)
end
end
/-- what may have happened: objects of the store changed, new ones came -/
structure Stp (μ : List Addr) (H : Hp) (μ' : List Addr) (H' : Hp) : Prop where
  pre : ∃ e, μ' = μ ++ e ∧ ∀ b ∈ e, H b = none
  keep : ∀ b o, H b = some o → b ∉ μ → H' b = some o
  have_ : ∀ b o, H b = some o → ∃ o', H' b = some o'
theorem Stp.refl {μ : List Addr} {H : Hp} : Stp μ H μ H := ⟨⟨[], by simp, by simp⟩, fun _ _ h _ => h, fun _ o h => ⟨o, h⟩⟩
theorem Stp.trans {μ μ' μ'' : List Addr} {H H' H'' : Hp} (a : Stp μ H μ' H') (b : Stp μ' H' μ'' H'') : Stp μ H μ'' H'' := by
  obtain ⟨⟨e, rfl, he⟩, k, hv⟩ := a
  obtain ⟨⟨f, rfl, hf⟩, k', hv'⟩ := b
  have fr : ∀ b ∈ f, H b = none := fun b hb => by
    cases q : H b with
    | none => rfl
    | some o =>
      obtain ⟨o', z⟩ := hv b o q
      rw [hf b hb] at z; cases z
  refine ⟨⟨e ++ f, by rw [List.append_assoc], fun b hb => ?_⟩, fun b o h n => ?_, fun b o h => ?_⟩
  · rcases List.mem_append.mp hb with z | z
    · exact he b z
    · exact fr b z
  · refine k' b o (k b o h n) fun z => ?_
    rcases List.mem_append.mp z with z | z
    · exact n z
    · rw [he b z] at h; cases h
  · obtain ⟨o', z⟩ := hv b o h
    exact hv' b o' z
theorem Stp.nmem {μ μ' : List Addr} {H H' : Hp} (s : Stp μ H μ' H') {a : Addr} {o : HO} (h : H a = some o) (n : a ∉ μ) : a ∉ μ' := by
  obtain ⟨⟨e, rfl, he⟩, _, _⟩ := s
  intro z
  rcases List.mem_append.mp z with z | z
  · exact n z
  · rw [he a z] at h; cases h
theorem Stp.at {μ μ' : List Addr} {H H' : Hp} (s : Stp μ H μ' H') {n : Nat} {a : Addr} (h : μ[n]? = some a) : μ'[n]? = some a := by
  obtain ⟨⟨e, rfl, _⟩, _, _⟩ := s
  rw [List.getElem?_append_left (List.getElem?_eq_some_iff.mp h).1]; exact h
theorem Rd.stp {μ μ' : List Addr} {H H' : Hp} (s : Stp μ H μ' H') {a : Addr} {o : HO} (h : Rd H a o) (n : a ∉ μ) : Rd H' a o ∧ a ∉ μ' := by
  rcases h with h | ⟨ob, h⟩
  · exact ⟨.inl (s.keep a _ h n), s.nmem h n⟩
  · exact ⟨.inr ⟨ob, s.keep a _ h n⟩, s.nmem h n⟩
section
variable {K : PySem.W.Frag} {G : Nm} {H H' : Hp} {μ μ' : List Addr}
theorem SqT_stp (s : Stp μ H μ' H') {a : Addr} {ys : List V} (h : SqT K H a ys) (n : a ∉ μ ∨ KT K a ys) : SqT K H' a ys ∧ (a ∉ μ' ∨ KT K a ys) := by
  rcases n with n | n
  · rcases h with h | h
    · obtain ⟨h', n'⟩ := Rd.stp s h n
      exact ⟨.inl h', .inl n'⟩
    · exact ⟨.inr h, .inr h⟩
  · exact ⟨.inr n, .inr n⟩
theorem SqL_stp (s : Stp μ H μ' H') {a : Addr} {ys : List V} (h : SqL K H a ys) (n : a ∉ μ ∨ KL K a ys) : SqL K H' a ys ∧ (a ∉ μ' ∨ KL K a ys) := by
  rcases n with n | n
  · rcases h with h | h
    · obtain ⟨h', n'⟩ := Rd.stp s h n
      exact ⟨.inl h', .inl n'⟩
    · exact ⟨.inr h, .inr h⟩
  · exact ⟨.inr n, .inr n⟩
mutual
theorem Den.stp (s : Stp μ H μ' H') : ∀ {x : PV} {v : V}, Den K G H μ x v → Den K G H' μ' x v
  | _, _, .non => .non
  | _, _, .bl b => .bl b
  | _, _, .int i => .int i
  | _, _, .str x h => .str x h
  | _, _, .tup h n d => let ⟨h', n'⟩ := SqT_stp s h n; .tup h' n' (Dens.stp s d)
  | _, _, .lst h n d => let ⟨h', n'⟩ := SqL_stp s h n; .lst h' n' (Dens.stp s d)
  | _, _, .dct h n dk dv => .dct (s.keep _ _ h n) (s.nmem h n) (Dens.stp s dk) (Dens.stp s dv)
  | _, _, .ref h => .ref (s.at h)
  | _, _, .exc h n e => .exc (s.keep _ _ h n) (s.nmem h n) (ExcD.stp s e)
theorem Dens.stp (s : Stp μ H μ' H') : ∀ {xs : List PV} {vs : List V}, Dens K G H μ xs vs → Dens K G H' μ' xs vs
  | _, _, .nil => .nil
  | _, _, .cons h t => .cons (Den.stp s h) (Dens.stp s t)
theorem ExcD.stp (s : Stp μ H μ' H') : ∀ {xs : List PV} {d : Option Addr}, ExcD K G H μ xs d → ExcD K G H' μ' xs d
  | _, _, .none => .none
  | _, _, .some h n d => .some (s.keep _ _ h n) (s.nmem h n) (Den.stp s d)
end
theorem Dens.length : ∀ {xs : List PV} {vs : List V}, Dens K G H μ xs vs → xs.length = vs.length
  | _, _, .nil => rfl
  | _, _, .cons _ t => congrArg Nat.succ t.length
theorem Dens.get : ∀ {xs : List PV} {vs : List V} {i : Nat} {x : PV}, Dens K G H μ xs vs → xs[i]? = some x → ∃ v, vs[i]? = some v ∧ Den K G H μ x v
  | _, _, _, _, .nil, h => by simp at h
  | _, _, 0, _, .cons h t, e => by simp at e; subst e; exact ⟨_, rfl, h⟩
  | _, _, i + 1, _, .cons h t, e => by
    obtain ⟨v, h1, h2⟩ := Dens.get t (i := i) (by simpa using e)
    exact ⟨v, by simpa using h1, h2⟩
theorem Dens.getV : ∀ {xs : List PV} {vs : List V} {i : Nat} {v : V}, Dens K G H μ xs vs → vs[i]? = some v → ∃ x, xs[i]? = some x ∧ Den K G H μ x v
  | _, _, _, _, .nil, h => by simp at h
  | _, _, 0, _, .cons h t, e => by simp at e; subst e; exact ⟨_, rfl, h⟩
  | _, _, i + 1, _, .cons h t, e => by
    obtain ⟨v, h1, h2⟩ := Dens.getV t (i := i) (by simpa using e)
    exact ⟨v, by simpa using h1, h2⟩
theorem Dens.app : ∀ {xs ys : List PV} {vs ws : List V}, Dens K G H μ xs vs → Dens K G H μ ys ws → Dens K G H μ (xs ++ ys) (vs ++ ws)
  | _, _, _, _, .nil, s => s
  | _, _, _, _, .cons h t, s => .cons h (t.app s)
theorem Dens.take : ∀ {xs : List PV} {vs : List V} (n : Nat), Dens K G H μ xs vs → Dens K G H μ (xs.take n) (vs.take n)
  | _, _, 0, _ => by simp; exact .nil
  | _, _, _ + 1, .nil => .nil
  | _, _, n + 1, .cons h t => .cons h (t.take n)
theorem Dens.drop : ∀ {xs : List PV} {vs : List V} (n : Nat), Dens K G H μ xs vs → Dens K G H μ (xs.drop n) (vs.drop n)
  | _, _, 0, h => h
  | _, _, _ + 1, .nil => .nil
  | _, _, n + 1, .cons h t => t.drop n
theorem Dens.set : ∀ {xs : List PV} {vs : List V} (n : Nat) {x : PV} {v : V}, Dens K G H μ xs vs → Den K G H μ x v → Dens K G H μ (xs.set n x) (vs.set n v)
  | _, _, _, _, _, .nil, _ => .nil
  | _, _, 0, _, _, .cons _ t, d => .cons d t
  | _, _, n + 1, _, _, .cons h t, d => .cons h (t.set n d)
theorem Dens.erase : ∀ {xs : List PV} {vs : List V} (n : Nat), Dens K G H μ xs vs → Dens K G H μ (xs.eraseIdx n) (vs.eraseIdx n)
  | _, _, _, .nil => .nil
  | _, _, 0, .cons _ t => t
  | _, _, n + 1, .cons h t => .cons h (t.erase n)
theorem Dens.dropLast {xs : List PV} {vs : List V} (h : Dens K G H μ xs vs) : Dens K G H μ xs.dropLast vs.dropLast := by
  rw [List.dropLast_eq_take, List.dropLast_eq_take, h.length]
  exact h.take _
theorem Dens.rev : ∀ {xs : List PV} {vs : List V}, Dens K G H μ xs vs → Dens K G H μ xs.reverse vs.reverse
  | _, _, .nil => .nil
  | _, _, .cons h t => by
    rw [List.reverse_cons, List.reverse_cons]
    exact t.rev.app (.cons h .nil)
theorem Dens.intsL : ∀ {xs : List PV} {vs : List V} {ns : List Int}, Dens K G H μ xs vs → IP.intsL xs = some ns → xs = ns.map PV.int ∧ vs = ns.map V.int
  | _, _, _, .nil, e => by cases e; exact ⟨rfl, rfl⟩
  | _, _, _, .cons h t, e => by
    cases h <;> first | (simp [IP.intsL] at e; done) | skip
    rename_i i
    simp only [IP.intsL, Option.map_eq_some_iff] at e
    obtain ⟨ms, e1, rfl⟩ := e
    obtain ⟨h1, h2⟩ := t.intsL e1
    exact ⟨by rw [h1]; rfl, by rw [h2]; rfl⟩
theorem Dens.ofInts : ∀ (ns : List Int), Dens K G H μ (ns.map PV.int) (ns.map V.int)
  | [] => .nil
  | n :: r => .cons (.int n) (Dens.ofInts r)
theorem Dens.bls : ∀ {xs : List PV} {vs : List V} {ns : List Bool}, Dens K G H μ xs vs → IP.bls xs = some ns → vs = ns.map V.bl
  | _, _, _, .nil, e => by cases e; rfl
  | _, _, _, .cons h t, e => by
    cases h <;> first | (simp [IP.bls] at e; done) | skip
    rename_i i
    simp only [IP.bls, Option.map_eq_some_iff] at e
    obtain ⟨ms, e1, rfl⟩ := e
    rw [t.bls e1]; rfl
/-- the values behind references are known -/
theorem Den.inj_ref {n : Nat} {v : V} (d : Den K G H μ (.ref n) v) : ∃ a, v = .ref a ∧ μ[n]? = some a := by
  cases d with
  | ref h => exact ⟨_, rfl, h⟩
end
section
variable (K : PySem.W.Frag) (G : Nm)
/-- an object of the store, at its address -/
def ObD (H : Hp) (μ : List Addr) : SO → Addr → Prop
  | .lst xs, a => ∃ ys, H a = some (.lst ys) ∧ Dens K G H μ xs ys
  | .dct ks vs, a => ∃ kvs, H a = some (.dK kvs) ∧ Dens K G H μ ks (kvs.map fun p => kV p.1) ∧ Dens K G H μ vs (kvs.map (·.2))
  | .ins c ns vs, a => ∃ dx fs, H a = some (.ins (cA K G c) dx fs) ∧ fs.map (·.1) = ns.map G.gn ∧ Dens K G H μ vs (fs.map (·.2))
structure SOk (H : Hp) (μ : List Addr) (S : Store) : Prop where
  len : μ.length = S.length
  nd : μ.Nodup
  ob : ∀ (n : Nat) (o : SO) (a : Addr), S[n]? = some o → μ[n]? = some a → ObD K G H μ o a
def OptD (H : Hp) (μ : List Addr) : Option PV → Option V → Prop
  | some x, some v => Den K G H μ x v
  | none, _ => True
  | some _, none => False
abbrev EnvD (H : Hp) (μ : List Addr) (σp : IP.Env) (σ : L2.St) : Prop := Paired (OptD K G H μ) σp σ
end
section
variable {K : PySem.W.Frag} {G : Nm} {H H' : Hp} {μ μ' : List Addr} {S S' : Store}
theorem ObD.some {o : SO} {a : Addr} (h : ObD K G H μ o a) : ∃ u, H a = some u ∧ Mut (some u) := by
  cases o with
  | lst xs => obtain ⟨ys, h, _⟩ := h; exact ⟨_, h, trivial⟩
  | dct ks vs => obtain ⟨ys, h, _⟩ := h; exact ⟨_, h, trivial⟩
  | ins c ns vs => obtain ⟨dx, fs, h, _⟩ := h; exact ⟨_, h, trivial⟩
theorem ObD.stp {o : SO} {a : Addr} (s : Stp μ H μ' H') (e : H' a = H a) (h : ObD K G H μ o a) : ObD K G H' μ' o a := by
  cases o with
  | lst xs => obtain ⟨ys, h, d⟩ := h; exact ⟨ys, e.trans h, d.stp s⟩
  | dct ks vs => obtain ⟨ys, h, dk, dv⟩ := h; exact ⟨ys, e.trans h, dk.stp s, dv.stp s⟩
  | ins c ns vs => obtain ⟨dx, fs, h, n, d⟩ := h; exact ⟨dx, fs, e.trans h, n, d.stp s⟩
theorem SOk.at (h : SOk K G H μ S) {n : Nat} {o : SO} (e : S[n]? = some o) : ∃ a, μ[n]? = some a ∧ ObD K G H μ o a := by
  have hl : n < μ.length := by rw [h.len]; exact (List.getElem?_eq_some_iff.mp e).1
  exact ⟨μ[n], List.getElem?_eq_some_iff.mpr ⟨hl, rfl⟩, h.ob n o _ e (List.getElem?_eq_some_iff.mpr ⟨hl, rfl⟩)⟩
theorem SOk.of (h : SOk K G H μ S) {n : Nat} {a : Addr} (e : μ[n]? = some a) : ∃ o, S[n]? = some o ∧ ObD K G H μ o a := by
  have hl : n < S.length := by rw [← h.len]; exact (List.getElem?_eq_some_iff.mp e).1
  exact ⟨S[n], List.getElem?_eq_some_iff.mpr ⟨hl, rfl⟩, h.ob n _ a (List.getElem?_eq_some_iff.mpr ⟨hl, rfl⟩) e⟩
theorem SOk.has (h : SOk K G H μ S) {a : Addr} (e : a ∈ μ) : ∃ u, H a = some u ∧ Mut (some u) := by
  obtain ⟨n, hn⟩ := List.getElem?_of_mem e
  obtain ⟨o, _, d⟩ := h.of hn
  exact d.some
/-- a new object beside -/
theorem SOk.new {p : Addr} {o : HO} (h : SOk K G H μ S) (np : H p = none) : Stp μ H μ (upd H p o) ∧ SOk K G (upd H p o) μ S := by
  have s : Stp μ H μ (upd H p o) := ⟨⟨[], by simp, by simp⟩, fun b u e _ => by rw [upd_ne (ne_of_none e np)]; exact e, fun b u e => ⟨u, by rw [upd_ne (ne_of_none e np)]; exact e⟩⟩
  refine ⟨s, h.len, h.nd, fun n ob a e1 e2 => ?_⟩
  have d := h.ob n ob a e1 e2
  obtain ⟨u, hu, _⟩ := d.some
  exact d.stp s (upd_ne (ne_of_none hu np))
theorem SOk.nnew (h : SOk K G H μ S) {p : Addr} (np : H p = none) : p ∉ μ := fun z => by
  obtain ⟨u, hu, _⟩ := h.has z
  rw [np] at hu; cases hu
/-- a new object of the store: its address is the newest one's -/
theorem SOk.push {p : Addr} {o : HO} {so : SO} (h : SOk K G H μ S) (np : H p = none) (d : ObD K G (upd H p o) (μ ++ [p]) so p) :
    Stp μ H (μ ++ [p]) (upd H p o) ∧ SOk K G (upd H p o) (μ ++ [p]) (S ++ [so]) := by
  have s : Stp μ H (μ ++ [p]) (upd H p o) := ⟨⟨[p], rfl, fun b hb => by rw [List.mem_singleton.mp hb]; exact np⟩, fun b u e _ => by rw [upd_ne (ne_of_none e np)]; exact e, fun b u e => ⟨u, by rw [upd_ne (ne_of_none e np)]; exact e⟩⟩
  refine ⟨s, by rw [List.length_append, List.length_append, h.len]; rfl, ?_, fun n ob a e1 e2 => ?_⟩
  · rw [List.nodup_append]
    refine ⟨h.nd, by simp, fun a ha b hb => ?_⟩
    rw [List.mem_singleton.mp hb]
    rintro rfl
    exact h.nnew np ha
  · by_cases hn : n < μ.length
    · rw [List.getElem?_append_left hn] at e2
      rw [List.getElem?_append_left (by rw [← h.len]; exact hn)] at e1
      have q := h.ob n ob a e1 e2
      obtain ⟨u, hu, _⟩ := q.some
      exact q.stp s (upd_ne (ne_of_none hu np))
    · have hn2 : n = μ.length := by
        have := (List.getElem?_eq_some_iff.mp e2).1
        rw [List.length_append] at this
        simp at this; omega
      subst hn2
      rw [List.getElem?_append_right (Nat.le_refl _)] at e2
      rw [h.len, List.getElem?_append_right (Nat.le_refl _)] at e1
      simp at e1 e2
      subst e1 e2
      exact d
/-- an object of the store is written -/
theorem SOk.put {n : Nat} {a : Addr} {o : HO} {so : SO} (h : SOk K G H μ S) (e : μ[n]? = some a) (d : ObD K G (upd H a o) μ so a) (mu : ∃ u, H a = some u) : Stp μ H μ (upd H a o) ∧ SOk K G (upd H a o) μ (S.set n so) := by
  have ha : a ∈ μ := List.mem_of_getElem? e
  have s : Stp μ H μ (upd H a o) := ⟨⟨[], by simp, by simp⟩, fun b u q hb => by rw [upd_ne (fun z => hb (by rw [z]; exact ha))]; exact q, fun b u q => by
    by_cases hb : b = a
    · exact ⟨o, by rw [hb, upd_same]⟩
    · exact ⟨u, by rw [upd_ne hb]; exact q⟩⟩
  refine ⟨s, by rw [List.length_set]; exact h.len, h.nd, fun m ob b e1 e2 => ?_⟩
  by_cases hm : m = n
  · subst hm
    rw [e] at e2; cases e2
    rw [List.getElem?_set_self (by rw [← h.len]; exact (List.getElem?_eq_some_iff.mp e).1)] at e1
    cases e1
    exact d
  · rw [List.getElem?_set_ne (Ne.symm hm)] at e1
    have hb : b ≠ a := by
      rintro rfl
      obtain ⟨h1, e1'⟩ := List.getElem?_eq_some_iff.mp e
      obtain ⟨h2, e2'⟩ := List.getElem?_eq_some_iff.mp e2
      exact hm ((List.getElem_inj h.nd).mp (e2'.trans e1'.symm))
    exact (h.ob m ob b e1 e2).stp s (upd_ne hb)
theorem EnvD.stp {σp : IP.Env} {σ : L2.St} (s : Stp μ H μ' H') (h : EnvD K G H μ σp σ) : EnvD K G H' μ' σp σ := by
  refine Paired.mapP h fun a b r => ?_
  cases a with
  | none => trivial
  | some x => cases b with
    | none => exact r
    | some v => exact Den.stp s r
theorem EnvD.get {σp : IP.Env} {σ : L2.St} (h : EnvD K G H μ σp σ) {i : Nat} {x : PV} (e : σp[i]? = some (some x)) : ∃ v, σ[i]? = some (some v) ∧ Den K G H μ x v := by
  induction h generalizing i with
  | nil => simp at e
  | @cons a b as bs r t ih =>
    cases i with
    | zero =>
      simp at e; subst e
      cases b with
      | none => exact r.elim
      | some v => exact ⟨v, rfl, r⟩
    | succ i => exact ih (by simpa using e)
theorem EnvD.set {σp : IP.Env} {σ : L2.St} (h : EnvD K G H μ σp σ) (i : Nat) {x : Option PV} {v : Option V} (d : OptD K G H μ x v) : EnvD K G H μ (σp.set i x) (σ.set i v) := by
  induction h generalizing i with
  | nil => exact .nil
  | @cons a b as bs r t ih =>
    cases i with
    | zero => exact .cons d t
    | succ i => exact .cons r (ih i)
theorem EnvD.len {σp : IP.Env} {σ : L2.St} (h : EnvD K G H μ σp σ) : σp.length = σ.length := Paired.length h
end
end IP

set_option Elab.async false
set_option linter.all false
set_option maxRecDepth 100000
set_option maxHeartbeats 2000000
/-! IPy3: operations on values keep to the trees. -/
namespace IP
open PySem PySem.Spec PyProof.Rows L2
section
variable {K : PySem.W.Frag} {G : Nm}
/-- what is wanted of a result -/
def PostR {α β : Type} (K : PySem.W.Frag) (G : Nm) (D : Hp → List Addr → α → β → Prop) (W : WX) (σ : L2.St) (μ : List Addr) (H : Hp) (r : Res α) (Q : β → Hp → Prop) : Prop := match r with
  | .ok x S' => ∀ v H' μ', Stp μ H μ' H' → SOk K G H' μ' S' → D H' μ' x v → Q v H'
  | .exc c xs S' => ∀ d H' μ', Stp μ H μ' H' → SOk K G H' μ' S' → ExcD K G H' μ' xs d → W (.ref (cA K G c)) d σ H'
  | .bad => False
/-- the reading of what is evaluated -/
def rd {α β : Type} (K : PySem.W.Frag) (G : Nm) (D : Hp → List Addr → α → β → Prop) (W : WX) (ev : IP.Env → Store → Res α) : L2.St → Hp → (β → Hp → Prop) → Prop :=
  fun σ H Q => ∃ σp μ S, EnvD K G H μ σp σ ∧ SOk K G H μ S ∧ PostR K G D W σ μ H (ev σp S) Q
abbrev rE (K : PySem.W.Frag) (G : Nm) (W : WX) (ev : IP.Env → Store → Res PV) : TE := rd K G (Den K G) W ev
abbrev rEs (K : PySem.W.Frag) (G : Nm) (W : WX) (ev : IP.Env → Store → Res (List PV)) : TA := rd K G (Dens K G) W ev
def EqB (_ : Hp) (_ : List Addr) (a b : Bool) : Prop := a = b
/-- a test -/
def tst (ev : IP.Env → Store → Res PV) : IP.Env → Store → Res Bool := fun σ S => (ev σ S).bnd fun v S => match truth S v with
  | some b => .ok b S
  | none => .bad
abbrev rT (K : PySem.W.Frag) (G : Nm) (W : WX) (ev : IP.Env → Store → Res PV) : TT := rd K G EqB W (tst ev)
variable {α β γ δ : Type} {D : Hp → List Addr → α → β → Prop} {D2 : Hp → List Addr → γ → δ → Prop} {W : WX} {σ : L2.St} {μ μ' : List Addr} {H H' : Hp}
theorem PostR.weak {r : Res α} {Q : β → Hp → Prop} (p : PostR K G D W σ μ H r Q) (s : Stp μ H μ' H') : PostR K G D W σ μ' H' r Q := by
  cases r with
  | ok x S => exact fun v H2 μ2 s2 so d => p v H2 μ2 (s.trans s2) so d
  | exc c xs S => exact fun v H2 μ2 s2 so d => p v H2 μ2 (s.trans s2) so d
  | bad => exact p
theorem PostR.bnd {r : Res α} {g : α → Store → Res γ} {Q : δ → Hp → Prop} {k : β → Hp → Prop} (p : PostR K G D2 W σ μ H (r.bnd g) Q)
    (hk : ∀ x v S' H' μ', Stp μ H μ' H' → SOk K G H' μ' S' → D H' μ' x v → PostR K G D2 W σ μ' H' (g x S') Q → k v H') : PostR K G D W σ μ H r k := by
  cases r with
  | ok x S => exact fun v H2 μ2 s2 so d => hk x v S H2 μ2 s2 so d (PostR.weak (r := g x S) p s2)
  | exc c xs S => exact p
  | bad => exact p
/-- the value comes in a state as it was -/
theorem PostR.now {x : α} {S : Store} {v : β} {Q : β → Hp → Prop} (p : PostR K G D W σ μ H (.ok x S) Q) (so : SOk K G H μ S) (d : D H μ x v) : Q v H := p v H μ Stp.refl so d
/-- a new frozen object -/
theorem PostR.fresh {x : PV} {S : Store} {p : Addr} {o : HO} {Q : V → Hp → Prop} (q : PostR K G (Den K G) W σ μ H (.ok x S) Q) (so : SOk K G H μ S) (np : H p = none)
    (d : Den K G (upd H p o) μ x (.ref p)) : Q (.ref p) (upd H p o) := by
  obtain ⟨s1, s2⟩ := so.new (o := o) np
  exact q _ _ _ s1 s2 d
/-- a new tuple -/
theorem PostR.tup {xs : List PV} {ys : List V} {S : Store} {p : Addr} {Q : V → Hp → Prop} (q : PostR K G (Den K G) W σ μ H (.ok (.tup xs) S) Q) (so : SOk K G H μ S) (np : H p = none) (d : Dens K G H μ xs ys) : Q (.ref p) (upd H p (.tup ys)) :=
  q.fresh so np (.tup (.inl (.inl upd_same)) (.inl (so.nnew np)) (d.stp (so.new np).1))
/-- a new list -/
theorem PostR.lst {m : Bool} {xs : List PV} {ys : List V} {S : Store} {p : Addr} {Q : V → Hp → Prop} (q : PostR K G (Den K G) W σ μ H (mkL m xs S) Q) (so : SOk K G H μ S) (np : H p = none) (d : Dens K G H μ xs ys) : Q (.ref p) (upd H p (.lst ys)) := by
  cases m with
  | false => exact PostR.fresh q so np (.lst (.inl (.inl upd_same)) (.inl (so.nnew np)) (d.stp (so.new np).1))
  | true =>
    have s0 : Stp μ H (μ ++ [p]) (upd H p (.lst ys)) := ⟨⟨[p], rfl, fun b hb => by rw [List.mem_singleton.mp hb]; exact np⟩, fun b u e _ => by rw [upd_ne (ne_of_none e np)]; exact e, fun b u e => ⟨u, by rw [upd_ne (ne_of_none e np)]; exact e⟩⟩
    obtain ⟨s1, s2⟩ := so.push (so := .lst xs) (o := .lst ys) np ⟨ys, upd_same, d.stp s0⟩
    exact q _ _ _ s1 s2 (.ref (by rw [← so.len, List.getElem?_append_right (Nat.le_refl _)]; simp))
end
theorem lim_eq : lim = sizeLine := by rw [sizeLine_eq]; rfl
/-! ### sequences -/
section
variable {K : PySem.W.Frag} {G : Nm} {H : Hp} {μ : List Addr} {S : Store}
theorem lst_of (so : SOk K G H μ S) {x : PV} {v : V} (d : Den K G H μ x v) {xs : List PV} (e : lstOf S x = some xs) : ∃ a ys, v = .ref a ∧ SqL K H a ys ∧ Dens K G H μ xs ys := by
  cases d with
  | lst h n d => cases e; exact ⟨_, _, rfl, h, d⟩
  | ref h =>
    rename_i n a
    simp only [lstOf] at e
    split at e
    · rename_i zs q
      cases e
      obtain ⟨b, hb, d⟩ := so.at q
      rw [h] at hb; cases hb
      obtain ⟨ys, hy, dy⟩ := d
      exact ⟨_, ys, rfl, .inl (.inl hy), dy⟩
    · cases e
  | _ => simp [lstOf] at e
theorem seq_of (so : SOk K G H μ S) {x : PV} {v : V} (d : Den K G H μ x v) {xs : List PV} (e : seqOf S x = some xs) : ∃ a ys, v = .ref a ∧ (SqL K H a ys ∨ SqT K H a ys) ∧ Dens K G H μ xs ys := by
  cases d with
  | lst h n d => cases e; exact ⟨_, _, rfl, .inl h, d⟩
  | tup h n d => cases e; exact ⟨_, _, rfl, .inr h, d⟩
  | ref h =>
    rename_i n a
    simp only [seqOf] at e
    split at e
    · rename_i zs q
      cases e
      obtain ⟨b, hb, d⟩ := so.at q
      rw [h] at hb; cases hb
      obtain ⟨ys, hy, dy⟩ := d
      exact ⟨_, ys, rfl, .inl (.inl (.inl hy)), dy⟩
    · cases e
  | _ => simp [seqOf] at e
theorem sqL {a : Addr} {ys : List V} (h : SqL K H a ys) : SqL K H a ys := h
theorem sqT {a : Addr} {ys : List V} (h : SqT K H a ys) : SqT K H a ys := h
/-! ### == -/
mutual
def toD : PV → PyData
  | .non => .none | .bl b => .bool b | .int i => .int i | .str x => .str x
  | .tup xs => .tuple (toDs xs) | .lst xs => .list (toDs xs)
  | .dct _ _ => .none | .ref _ => .none | .exc _ _ => .none
def toDs : List PV → List PyData
  | [] => []
  | x :: xs => toD x :: toDs xs
end
mutual
theorem den_dp : ∀ {x : PV} {v : V}, plV x = true → Den K G H μ x v → Dp K H v (toD x) ∧ (toD x).canLay0 = true ∧ (toD x).depth ≤ dpV x
  | .non, _, _, d => by cases d; exact ⟨.non, rfl, by simp [toD, PyData.depth, dpV]⟩
  | .bl b, _, _, d => by cases d; exact ⟨.bl b, rfl, by simp [toD, PyData.depth, dpV]⟩
  | .int i, _, _, d => by cases d; exact ⟨.int i, rfl, by simp [toD, PyData.depth, dpV]⟩
  | .str x, _, _, d => by
    cases d with
    | str _ h => exact ⟨.str x, by simpa [toD, PyData.canLay0] using h, by simp [toD, PyData.depth, dpV]⟩
  | .tup xs, _, p, d => by
    cases d with
    | tup h n ds =>
      obtain ⟨q1, q2, q3⟩ := dens_dp (show plVs xs = true by simpa [plV] using p) ds
      exact ⟨.tup (sqT h) q1, by simpa [toD, PyData.canLay0] using q2, by simp only [toD, PyData.depth, dpV]; omega⟩
  | .lst xs, _, p, d => by
    cases d with
    | lst h n ds =>
      obtain ⟨q1, q2, q3⟩ := dens_dp (show plVs xs = true by simpa [plV] using p) ds
      exact ⟨.lst (sqL h) q1, by simpa [toD, PyData.canLay0] using q2, by simp only [toD, PyData.depth, dpV]; omega⟩
  | .dct _ _, _, p, _ => by simp [plV] at p
  | .ref _, _, p, _ => by simp [plV] at p
  | .exc _ _, _, p, _ => by simp [plV] at p
theorem dens_dp : ∀ {xs : List PV} {vs : List V}, plVs xs = true → Dens K G H μ xs vs → DpAll K H vs (toDs xs) ∧ PyData.canLayAll0 (toDs xs) = true ∧ PyData.depthAll (toDs xs) ≤ dpVs xs
  | [], _, _, d => by cases d; exact ⟨.nil, rfl, by simp [toDs, PyData.depthAll, dpVs]⟩
  | x :: xs, _, p, d => by
    simp only [plVs, Bool.and_eq_true] at p
    cases d with
    | cons h t =>
      obtain ⟨q1, q2, q3⟩ := den_dp p.1 h
      obtain ⟨r1, r2, r3⟩ := dens_dp p.2 t
      exact ⟨.cons q1 r1, by simp [toDs, PyData.canLayAll0, q2, r2], by simp only [toDs, PyData.depthAll, dpVs]; omega⟩
end
mutual
theorem eqv_eqB : ∀ (x y : PV), plV x = true → plV y = true → PyData.eqv (toD x) (toD y) = eqB x y
  | .non, y, _, h => by cases y <;> first | rfl | (simp [plV] at h; done) | (simp [toD, PyData.eqv, eqB])
  | .bl a, y, _, h => by cases y <;> first | rfl | (simp [plV] at h; done) | (simp [toD, PyData.eqv, eqB])
  | .int a, y, _, h => by cases y <;> first | rfl | (simp [plV] at h; done) | (simp [toD, PyData.eqv, eqB])
  | .str a, y, _, h => by cases y <;> first | rfl | (simp [plV] at h; done) | (simp [toD, PyData.eqv, eqB])
  | .tup a, y, g, h => by
    cases y <;> first | (simp [toD, PyData.eqv, eqB]; done) | (simp [plV] at h; done) | skip
    rename_i b
    simp only [toD, PyData.eqv, eqB]
    exact eqv_eqBs a b (by simpa [plV] using g) (by simpa [plV] using h)
  | .lst a, y, g, h => by
    cases y <;> first | (simp [toD, PyData.eqv, eqB]; done) | (simp [plV] at h; done) | skip
    rename_i b
    simp only [toD, PyData.eqv, eqB]
    exact eqv_eqBs a b (by simpa [plV] using g) (by simpa [plV] using h)
  | .dct _ _, _, p, _ => by simp [plV] at p
  | .ref _, _, p, _ => by simp [plV] at p
  | .exc _ _, _, p, _ => by simp [plV] at p
theorem eqv_eqBs : ∀ (x y : List PV), plVs x = true → plVs y = true → PyData.eqvAll (toDs x) (toDs y) = eqBs x y
  | [], [], _, _ => rfl
  | [], _ :: _, _, _ => rfl
  | _ :: _, [], _, _ => rfl
  | x :: xs, y :: ys, g, h => by
    simp only [plVs, Bool.and_eq_true] at g h
    simp only [toDs, PyData.eqvAll, eqBs]
    rw [eqv_eqB x y g.1 h.1, eqv_eqBs xs ys g.2 h.2]
end
/-- the tree with a list of the store seen through -/
theorem den_top (so : SOk K G H μ S) {x : PV} {v : V} (d : Den K G H μ x v) (p : plV (top S x) = true) : Dp K H v (toD (top S x)) ∧ (toD (top S x)).canLay0 = true ∧ (toD (top S x)).depth ≤ dpV (top S x) := by
  cases d with
  | ref h =>
    rename_i n a
    simp only [top] at p ⊢
    split at p
    · rename_i xs q
      obtain ⟨b, hb, d⟩ := so.at q
      rw [h] at hb; cases hb
      obtain ⟨ys, hy, dy⟩ := d
      obtain ⟨q1, q2, q3⟩ := dens_dp (show plVs xs = true by simpa [plV] using p) dy
      exact ⟨.lst (.inl (.inl hy)) q1, by simpa [toD, PyData.canLay0] using q2, by simp only [toD, PyData.depth, dpV]; omega⟩
    · simp [plV] at p
  | non => exact den_dp (G := G) (μ := μ) (x := .non) p .non
  | bl b => exact den_dp (G := G) (μ := μ) (x := .bl b) p (.bl b)
  | int b => exact den_dp (G := G) (μ := μ) (x := .int b) p (.int b)
  | str b h => exact den_dp (G := G) (μ := μ) (x := .str b) p (.str b h)
  | tup h n ds => exact den_dp (G := G) (μ := μ) (x := .tup _) p (.tup h n ds)
  | lst h n ds => exact den_dp (G := G) (μ := μ) (x := .lst _) p (.lst h n ds)
  | dct h n a b => simp [top, plV] at p
  | exc h n e => simp [top, plV] at p
theorem inP_any (x : PV) (hx : plV x = true) : ∀ ys : List PV, plVs ys = true → ((toDs ys).any fun z => PyData.eqv z (toD x)) = inP x ys
  | [], _ => rfl
  | y :: ys, h => by
    simp only [plVs, Bool.and_eq_true] at h
    simp only [toDs, List.any_cons, inP]
    rw [eqv_eqB y x h.1 hx, inP_any x hx ys h.2]
end
end IP

set_option Elab.async false
set_option linter.all false
set_option maxRecDepth 100000
set_option maxHeartbeats 2000000
namespace IP
open PySem PySem.Spec PyProof.Rows L2
def opA : IOp → Operator
  | .add => .Add | .sub => .Sub | .mul => .Mult | .fdiv => .FloorDiv | .mod => .Mod | .pow => .Pow | .shl => .LShift | .shr => .RShift | .band => .BitAnd
def cmA : ICmp → CmpOp
  | .eq => .Eq | .ne => .NotEq | .lt => .Lt | .le => .LtE | .gt => .Gt | .ge => .GtE | .inn => .In | .nin => .NotIn | .is => .Is | .isn => .IsNot
/-- a two-place operation, by trees -/
def RB (K : PySem.W.Frag) (G : Nm) (f : PV → PV → Store → Res PV) : R2 := fun v u H Q => ∃ W σ μ S x y, SOk K G H μ S ∧ Den K G H μ x v ∧ Den K G H μ y u ∧ PostR K G (Den K G) W σ μ H (f x y S) Q
/-- a call with values, by trees -/
def RC (K : PySem.W.Frag) (G : Nm) (f : List PV → Store → Res PV) : List V → Hp → VK → Prop := fun vs H Q => ∃ W σ μ S xs, SOk K G H μ S ∧ Dens K G H μ xs vs ∧ PostR K G (Den K G) W σ μ H (f xs S) Q
section
variable {X : Cx} {G : Nm}
theorem den_non {K : PySem.W.Frag} {H : Hp} {μ : List Addr} {x : PV} {v : V} (d : Den K G H μ x v) : decide (v = V.non) = isN x := by
  cases d <;> simp [isN]
theorem strOk_app {a b : Str} (ha : PyData.strOk a = true) (hb : PyData.strOk b = true) : PyData.strOk (a ++ b) = true := by
  unfold PyData.strOk at *
  have e : (a ++ b).cps = a.cps ++ b.cps := rfl
  rw [e, Array.all_append, ha, hb]; rfl
theorem cat_lists {prog : Program} {w : World} {A : Around} {E : Value → Shared → Prop} {s : Shared} {l b : Addr} {vs ws : List Value} {Q : Value → Shared → Prop}
    (hl : s.heap.IsList l vs.toArray) (hb : s.heap.IsList b ws.toArray) (hz : vs.length + ws.length ≤ sizeLine)
    (q : Q (.ref s.heap.objs.size) { s with heap := s.heap.push { cls := .type "list", data := .seq (vs ++ ws).toArray } }) : wpAny (model prog w) A (binaryOp .Add (.ref l) (.ref b)) Q E s := by
  obtain ⟨⟨c1, d1, t1, s1⟩, o1, k1, n1, e1⟩ := id hl
  obtain ⟨⟨c2, d2, t2, s2⟩, o2, k2, n2, e2⟩ := id hb
  cases k1; cases e1; cases k2; cases e2
  have ev : vs.toArray ++ ws.toArray = (vs ++ ws).toArray := by simp
  have hz' : vs.toArray.size + ws.toArray.size ≤ sizeLine := by simpa using hz
  refine concat_meets ⟨_, o1, rfl⟩ ⟨_, o2, rfl⟩ noFill_list_add seq_list_add PySem.F.slot_list_add PySem.F.entry_list_add (PySem.F.args_list_add_2 _ _)
    (list_addW l b vs.toArray ws.toArray n1 n2 d1 d2 s1 s2 hz') ⟨o1, o2, ?_⟩
  rw [ev]; exact q
/-- two intsL, by trees -/
theorem opr_ii {f : Value → Value → Sem Value} {c : Int → Int → Bool} {g : Int → Int → PV} {C : Int → Int → Prop} {gv : Int → Int → V} (o : OpR X f (rI C gv)) (hC : ∀ i j, c i j = true → C i j) (hg : ∀ i j K H μ, Den K G H μ (g i j) (gv i j)) : OpR X f (RB X.K G (iiP c g)) := by
  intro pins s σ H v u a b Q I ra rb q
  obtain ⟨W, σ', μ, S, x, y, so, dx, dy, p⟩ := q
  unfold iiP at p
  split at p
  · split at p
    · rename_i h
      cases dx; cases dy
      exact o pins s σ H _ _ a b Q I ra rb ⟨_, _, rfl, rfl, hC _ _ h, p.now so (hg _ _ _ _ _)⟩
    · exact p.elim
  · exact p.elim
theorem opr_ii0 {f : Value → Value → Sem Value} {g : Int → Int → PV} {gv : Int → Int → V} (o : OpR X f (rI0 gv)) (hg : ∀ i j K H μ, Den K G H μ (g i j) (gv i j)) : OpR X f (RB X.K G (iiP (fun _ _ => true) g)) :=
  opr_ii (C := fun _ _ => True) (fun pins s σ H v u a b Q I ra rb ⟨i, j, h1, h2, _, h⟩ => o pins s σ H v u a b Q I ra rb ⟨i, j, h1, h2, h⟩) (fun _ _ _ => trivial) hg
theorem opr_add (m : Bool) : OpR X (binaryOp .Add) (RB X.K G (addP m)) := by
  intro pins s σ H v u a b Q I ra rb q
  obtain ⟨W, σ', μ, S, x, y, so, dx, dy, p⟩ := q
  have hl := lim_eq
  have two : ∀ (r : R2), OpR X (binaryOp .Add) r → r v u H Q → wpAny (model X.prog X.w) X.A (binaryOp .Add a b) (EP X pins σ Q) X.xe s := fun r o h => o pins s σ H v u a b Q I ra rb h
  unfold addP at p
  split at p
  · cases dx; cases dy
    exact two _ op_add ⟨_, _, rfl, rfl, p.now so (.int _)⟩
  · split at p
    · rename_i hz
      cases dx with
      | str _ h1 =>
        cases dy with
        | str _ h2 => exact two _ op_add_str ⟨_, _, rfl, rfl, by omega, p.now so (.str _ (strOk_app h1 h2))⟩
    · exact p.elim
  · split at p
    · rename_i hz
      cases dx with
      | tup h1 n1 d1 =>
        cases dy with
        | tup h2 n2 d2 =>
          have l1 := d1.length
          have l2 := d2.length
          refine two _ op_catA ⟨_, _, _, _, rfl, rfl, sqT h1, sqT h2, by omega, fun e => ?_, fun _ e => ?_, fun _ _ q hq => p.tup so hq (d1.app d2)⟩
          · subst e; cases d1; exact p.now so (.tup h2 n2 d2)
          · subst e; cases d2
            rw [List.append_nil] at p
            exact p.now so (.tup h1 n1 d1)
    · exact p.elim
  · split at p
    · rename_i xs ys e1 e2
      split at p
      · rename_i hz
        obtain ⟨a1, zs, rfl, r1, d1⟩ := lst_of so dx e1
        obtain ⟨a2, ws, rfl, r2, d2⟩ := lst_of so dy e2
        have l1 := d1.length
        have l2 := d2.length
        cases ra; cases rb
        obtain ⟨i1, v1, p1, z1⟩ := I.list (sqL r1)
        obtain ⟨i2, v2, p2, z2⟩ := I.list (sqL r2)
        have m1 := v1.length
        have m2 := v2.length
        refine cat_lists p1.isList p2.isList (by omega) ⟨.ref _, _, I.lnew (t' := s.toks) (v1.append v2) (by rw [List.length_append]; omega), rfl, ?_⟩
        exact p.lst so I.fresh (d1.app d2)
      · exact p.elim
    · exact p.elim
theorem opr_bin (op : IOp) (m : Bool) : OpR X (binaryOp (opA op)) (RB X.K G (binP m op)) := by
  cases op with
  | add => exact opr_add m
  | sub => exact opr_ii0 op_sub fun _ _ _ _ _ => .int _
  | mul => exact opr_ii op_mul (fun _ _ h => by have h2 := of_decide_eq_true h; exact h2) fun _ _ _ _ _ => .int _
  | fdiv => exact opr_ii op_fdiv (fun _ _ h => by have h2 := of_decide_eq_true h; exact h2) fun _ _ _ _ _ => .int _
  | mod => exact opr_ii op_mod (fun _ _ h => by have h2 := of_decide_eq_true h; exact h2) fun _ _ _ _ _ => .int _
  | pow => exact opr_ii op_pow (fun _ _ h => by have h2 := of_decide_eq_true h; exact h2) fun _ _ _ _ _ => .int _
  | shl => exact opr_ii op_shl (fun _ _ h => by have h2 := of_decide_eq_true h; exact h2) fun _ _ _ _ _ => .int _
  | shr => exact opr_ii op_shr (fun _ _ h => by have h2 := of_decide_eq_true h; exact h2) fun _ _ _ _ _ => .int _
  | band =>
    intro pins s σ H v u a b Q I ra rb q
    obtain ⟨W, σ', μ, S, x, y, so, dx, dy, p⟩ := q
    exact p.elim
/-! ### comparisons -/
theorem eqv_of {pins : List (Addr × Obj)} {s : Shared} {σ : L2.St} {H : Hp} (I : Inv X pins σ H s) (hu : X.A.units + 64 < cLine) {μ : List Addr} {S : Store} (so : SOk X.K G H μ S) {x y : PV} {v u : V} {a b : Value} (dx : Den X.K G H μ x v) (dy : Den X.K G H μ y u)
    (ra : RelV v a) (rb : RelV u b) {k : Bool} (e : eqP S x y = some k) (neg : Bool) {Q : Value → Shared → Prop} {E : Value → Shared → Prop} (q : Q (.bool (if neg then !k else k)) s) :
    wpAny (model X.prog X.w) X.A (compareOp (if neg then .NotEq else .Eq) a b) Q E s := by
  unfold eqP at e
  split at e
  · rename_i c
    simp only [Bool.and_eq_true, decide_eq_true_eq] at c
    cases e
    obtain ⟨p1, p2, p3⟩ := den_top so dx c.1.1
    obtain ⟨q1, q2, q3⟩ := den_top so dy c.1.2
    obtain ⟨as, r1⟩ := Dp.reads I _ v a p1 ra
    obtain ⟨bs, r2⟩ := Dp.reads I _ u b q1 rb
    have ee := eqv_eqB _ _ c.1.1 c.1.2
    have hd : X.A.units + min (toD (top S x)).depth (toD (top S y)).depth < cLine := by
      have := c.2; omega
    cases neg with
    | false => exact SeqAt.compareEq_reads r1 r2 p2 q2 hd (by rw [ee]; exact q)
    | true => exact SeqAt.compareNe_reads r1 r2 p2 q2 hd (by rw [ee]; exact q)
  · cases e
theorem flat_dp : ∀ {x : PV} {K : PySem.W.Frag} {H : Hp} {μ : List Addr} {v : V}, plV x = true → dpV x = 0 → Den K G H μ x v → flatV v = true
  | .non, _, _, _, _, _, _, d => by cases d; rfl
  | .bl _, _, _, _, _, _, _, d => by cases d; rfl
  | .int _, _, _, _, _, _, _, d => by cases d; rfl
  | .str _, _, _, _, _, _, _, d => by cases d; rfl
  | .tup _, _, _, _, _, _, h, _ => by simp [dpV] at h
  | .lst _, _, _, _, _, _, h, _ => by simp [dpV] at h
  | .dct _ _, _, _, _, _, p, _, _ => by simp [plV] at p
  | .ref _, _, _, _, _, p, _, _ => by simp [plV] at p
  | .exc _ _, _, _, _, _, p, _, _ => by simp [plV] at p
theorem flats_dp {K : PySem.W.Frag} {H : Hp} {μ : List Addr} : ∀ {xs : List PV} {vs : List V}, plVs xs = true → dpVs xs = 0 → Dens K G H μ xs vs → vs.all flatV = true
  | [], _, _, _, d => by cases d; rfl
  | x :: xs, _, p, h, d => by
    cases d with
    | cons d t =>
      simp only [plVs, Bool.and_eq_true] at p
      simp only [dpVs] at h
      rw [List.all_cons, flat_dp p.1 (by omega) d, flats_dp p.2 (by omega) t]; rfl
theorem eqV_eqB {K : PySem.W.Frag} {H : Hp} {μ : List Addr} {x y : PV} {v u : V} (px : plV x = true) (hx : dpV x = 0) (py : plV y = true) (hy : dpV y = 0) (dx : Den K G H μ x v) (dy : Den K G H μ y u) : eqV v u = eqB x y := by
  cases dx <;> first | (simp [plV] at px; done) | (simp [dpV] at hx; done) | (cases dy <;> first | (simp [plV] at py; done) | (simp [dpV] at hy; done) | (simp [eqV, eqB]))
theorem inV_inP {K : PySem.W.Frag} {H : Hp} {μ : List Addr} {x : PV} {v : V} (px : plV x = true) (hx : dpV x = 0) (dx : Den K G H μ x v) : ∀ {ys : List PV} {us : List V}, plVs ys = true → dpVs ys = 0 → Dens K G H μ ys us → inV v us = inP x ys
  | [], _, _, _, d => by cases d; rfl
  | y :: ys, _, p, h, d => by
    cases d with
    | cons d t =>
      simp only [plVs, Bool.and_eq_true] at p
      simp only [dpVs] at h
      have ih := inV_inP px hx dx p.2 (by omega) t
      unfold inV at ih ⊢
      rw [List.any_cons, ih, eqV_eqB p.1 (by omega) px hx d dx]; rfl
theorem opr_eq (neg : Bool) (hu : X.A.units + 65 < cLine) : OpR X (compareOp (if neg then .NotEq else .Eq)) (RB X.K G (eqQ neg)) := by
  intro pins s σ H v u a b Q I ra rb q
  obtain ⟨W, σ', μ, S, x, y, so, dx, dy, p⟩ := q
  unfold eqQ at p
  split at p
  · rename_i k e
    exact eqv_of I (by omega) so dx dy ra rb e neg ⟨.bl (if neg then !k else k), H, I, rfl, p.now so (.bl _)⟩
  · exact p.elim
theorem opr_in (neg : Bool) (hu : X.A.units + 65 < cLine) : OpR X (compareOp (if neg then .NotIn else .In)) (RB X.K G (inQ neg)) := by
  intro pins s σ H v u a b Q I ra rb q
  obtain ⟨W, σ', μ, S, x, y, so, dx, dy, p⟩ := q
  have o1 : OpR X (compareOp (if neg then .NotIn else .In)) (rIn X.K neg) := by cases neg; exact op_in_seq; exact op_notIn_seq
  have o2 : OpR X (compareOp (if neg then .NotIn else .In)) (fun x y H Q => ∃ d ds, Dp X.K H x d ∧ Dp X.K H y (.list ds) ∧ SeqAt.shaped d = true ∧ SeqAt.shaped (.list ds) = true ∧ Q (.bl (if neg then !(ds.any fun z => PyData.eqv z d) else ds.any fun z => PyData.eqv z d)) H) := by
    cases neg
    · exact op_inD hu
    · exact op_notInD hu
  unfold inQ at p
  split at p
  · split at p
    · rename_i c
      simp only [Bool.and_eq_true, decide_eq_true_eq] at c
      cases dy with
      | tup h n d =>
        refine o1 pins s σ H _ _ a b Q I ra rb ⟨_, _, rfl, .inr (sqT h), flat_dp c.1.1 c.2.1 dx, flats_dp c.1.2 c.2.2 d, ?_⟩
        rw [inV_inP c.1.1 c.2.1 dx c.1.2 c.2.2 d]
        exact p.now so (.bl _)
    · exact p.elim
  · split at p
    · rename_i ys e
      split at p
      · rename_i c
        simp only [Bool.and_eq_true, decide_eq_true_eq] at c
        obtain ⟨al, zs, rfl, r1, d1⟩ := lst_of so dy e
        obtain ⟨q1, q2, q3⟩ := dens_dp c.1.2 d1
        obtain ⟨p1, p2, p3⟩ := den_dp c.1.1 dx
        refine o2 pins s σ H _ _ a b Q I ra rb ⟨_, _, p1, .lst (sqL r1) q1, ?_, ?_, ?_⟩
        · unfold SeqAt.shaped; rw [p2, Bool.true_and]; exact decide_eq_true (by omega)
        · unfold SeqAt.shaped
          rw [show (PyData.list (toDs ys)).canLay0 = true by simpa [PyData.canLay0] using q2, Bool.true_and]
          exact decide_eq_true (by simp only [PyData.depth]; omega)
        · rw [inP_any x c.1.1 ys c.1.2]
          exact p.now so (.bl _)
      · exact p.elim
    · exact p.elim
theorem opr_is (neg : Bool) : OpR X (compareOp (if neg then .IsNot else .Is)) (RB X.K G (isQ neg)) := by
  intro pins s σ H v u a b Q I ra rb q
  obtain ⟨W, σ', μ, S, x, y, so, dx, dy, p⟩ := q
  unfold isQ at p
  split at p
  · cases dy
    have e : decide (v = V.non) = isN x := den_non dx
    cases neg
    · exact op_isN pins s σ H _ _ a b Q I ra rb ⟨rfl, by rw [e]; exact p.now so (.bl _)⟩
    · exact op_notN pins s σ H _ _ a b Q I ra rb ⟨rfl, by rw [e]; exact p.now so (.bl _)⟩
  · split at p
    · cases dx; cases dy
      cases neg
      · exact op_isBl pins s σ H _ _ a b Q I ra rb ⟨_, _, rfl, rfl, p.now so (.bl _)⟩
      · exact op_notBl pins s σ H _ _ a b Q I ra rb ⟨_, _, rfl, rfl, p.now so (.bl _)⟩
    · exact p.elim
  · exact p.elim
theorem opr_cmp (op : ICmp) (hu : X.A.units + 65 < cLine) : OpR X (compareOp (cmA op)) (RB X.K G (cmpP op)) := by
  cases op with
  | eq => exact opr_eq false hu
  | ne => exact opr_eq true hu
  | lt => exact opr_ii0 op_lt fun _ _ _ _ _ => .bl _
  | le => exact opr_ii0 op_le fun _ _ _ _ _ => .bl _
  | gt => exact opr_ii0 op_gt fun _ _ _ _ _ => .bl _
  | ge => exact opr_ii0 op_ge fun _ _ _ _ _ => .bl _
  | inn => exact opr_in false hu
  | nin => exact opr_in true hu
  | is => exact opr_is false
  | isn => exact opr_is true
end
end IP

set_option Elab.async false
set_option linter.all false
set_option maxRecDepth 100000
set_option maxHeartbeats 4000000
/-! IPyT: sorted(t), tuple(reversed(t)) of a tuple. -/
namespace IP
open PySem PySem.Spec PyProof.Rows L2
section
variable {prog : Program} {w : World} {A : Around} {E : Value → Shared → Prop} {s : Shared}
theorem gather_tup {t : Addr} {vs : List Value} {Q : List Value → Shared → Prop} (ht : IsTup s.heap t vs.toArray) (hz : vs.length ≤ sizeLine)
    (q : Q vs { s with heap := (s.heap.push (seqObj "list" #[] 0)).update s.heap.objs.size (Obj.mapSeq (· ++ vs.toArray)) }) : wpAny (model prog w) A (collect (.ref t)) Q E s := by
  obtain ⟨ob, e1, e2, k, e3⟩ := id ht
  have new : (s.heap.push (seqObj "list" #[] 0)).get? s.heap.objs.size = some (seqObj "list" #[] 0) := Heap.get?_push_size _ rfl
  have old : (s.heap.push (seqObj "list" #[] 0)).get? t = some ob := Heap.get?_push_of_some _ e1
  unfold collect
  refine wpAny_bind (wpAny_runValue (codeAny_builtin entry_proto_collect' (show wpAny _ _ (do again (.builtin "list.__iadd__" ⟨[← newList [], .ref t], []⟩)) _ _ s from ?_)))
  refine wpAny_bind (wpAny_newList (wpAny_pure ⟨Code.quiet_builtin _ (by decide +kernel), codeAny_builtin entry_list_iadd' (show wpAny _ _ (Builtin.List.listExtendWith (.ref s.heap.objs.size) (.ref t) (.ref s.heap.objs.size)) _ _ { s with heap := s.heap.push (seqObj "list" #[] 0) } from ?_)⟩))
  unfold Builtin.List.listExtendWith
  refine wpAny_bind (wpAny_typeOf (T := "tuple") ⟨ob, old, e2⟩ ?_)
  have yes : (Value.type "tuple" == Value.type "tuple") = true := by rfl
  rw [if_pos (by rw [yes, Bool.or_true])]
  refine wpAny_bind (listItems_at old e3 (wpAny_bind (listItems_at (xs := #[]) (n := 0) new rfl ?_)))
  rw [if_neg (by simp)]
  have room : (#[] ++ vs.toArray).size ≤ sizeLine + 1 := by
    simp only [Array.size_append, List.size_toArray, List.length_nil]; omega
  refine wpAny_bind (listUpdate_at (xs := #[]) (n := 0) new rfl (wpAny_pure ?_) (Nat.zero_le _) room)
  show wpAny _ _ (do
      let o ← load s.heap.objs.size
      match o.data with
      | .seq xs _ => pure xs.toList
      | _ => unsupported "internal:collect") Q E { s with heap := (s.heap.push (seqObj "list" #[] 0)).update s.heap.objs.size (Obj.mapSeq (· ++ vs.toArray)) }
  refine wpAny_bind (wpAny_load (get?_update_seq new _) (show wpAny _ _ (pure ((#[] : Array Value) ++ vs.toArray).toList) Q E _ from ?_))
  rw [show ((#[] : Array Value) ++ vs.toArray).toList = vs by simp]
  exact wpAny_pure q
theorem sorted_tup {t : Addr} {vs : List Value} {ltv : Value → Value → Bool} {Q : Value → Shared → Prop} (O : SrtO.Swo ltv) (ht : IsTup s.heap t vs.toArray) (hz : vs.length ≤ sizeLine)
    (hS : 2 ≤ vs.length → ∀ (h₁ : Heap) (a : Addr), SrtO.SortableO prog w A.in1.in1 { s with heap := h₁ } a vs ltv)
    (q : ∀ out : List Value, SrtO.Srtd ltv out → SrtO.Stb ltv out vs → Q (.ref (s.heap.objs.size + 1)) { s with heap := sortedAll s.heap vs out.toArray }) :
    wpAny (model prog w) A (call (.builtin "sorted") [.ref t]) Q E s := by
  refine Calls.call_function_entry kind_sorted plain_sorted entry_sorted (args_sorted1 _) ?_
  unfold Builtin.«sorted»
  refine wpAny_bind (m := checkCount "sorted" 1 1 _) (wpAny_pure (wpAny_bind (gather_tup ht hz (wpAny_bind (wpAny_newList ?_ hz)))))
  have e : ((s.heap.push (seqObj "list" #[] 0)).update s.heap.objs.size (Obj.mapSeq (· ++ vs.toArray))).objs.size = s.heap.objs.size + 1 := by rw [Heap.size_update]; exact Heap.size_push _ _
  have new : (((s.heap.push (seqObj "list" #[] 0)).update s.heap.objs.size (Obj.mapSeq (· ++ vs.toArray))).push (seqObj "list" vs.toArray 0)).get? (s.heap.objs.size + 1) = some (seqObj "list" vs.toArray 0) := by
    rw [← e]; exact Heap.get?_push_size _ rfl
  show wpAny _ _ _ _ _ { s with heap := ((s.heap.push (seqObj "list" #[] 0)).update s.heap.objs.size (Obj.mapSeq (· ++ vs.toArray))).push (seqObj "list" vs.toArray 0) }
  rw [e]
  exact wpAny_bind (wpAny_holding (wpAny_call_entry slot_list_sort ⟨_, new, rfl⟩ entry_list_sort (SrtO.list_sort_ord O new hz (fun h2 => hS h2 _ _) fun out h1 h2 => ⟨_, rfl, wpAny_pure ⟨_, rfl, q out h1 h2⟩⟩) (args_list_sort _)))
end
section
variable {X : Cx}
/-- sorted of a list or a tuple of intsL -/
def rSortedA (K : PySem.W.Frag) : List V → Hp → VK → Prop := fun vs H Q => ∃ (a : Addr) (ns : List Int), vs = [V.ref a] ∧ (SqL K H a (ns.map V.int) ∨ SqT K H a (ns.map V.int)) ∧
  ∀ (ns' : List Int) (p : Addr), ns'.Perm ns → ns'.Pairwise (· ≤ ·) → H p = none → Q (.ref p) (upd H p (.lst (ns'.map V.int)))
theorem cr_sortedA : CallR X (.builtin "sorted") (rSortedA X.K) := by
  intro pins s σ H vs us Q I r ⟨a, ns, e, hs, q⟩
  rcases hs with hs | hs
  · exact cr_sortedI pins s σ H vs us Q I r ⟨a, ns, e, hs, q⟩
  · subst e
    obtain ⟨its, rv, ht, hz⟩ := I.tuple hs
    rw [Vals.ref1 r]
    have hi := rv.ints
    have hl := rv.length
    refine sorted_tup SrtO.swo_int ht (by omega) (fun h2 _ _ => SrtO.ints_sortable hi h2) fun out h1 h2 => ?_
    obtain ⟨k1, k2, k3⟩ := SrtO.ints_out hi h1 h2
    obtain ⟨ep, he⟩ := sortedAll_at s.heap its out.toArray
    have hn : ((out.map SrtO.iv).map V.int).length ≤ sizeLine := by
      have := k2.length_eq
      simp only [List.length_map] at this hz ⊢
      omega
    exact ⟨.ref _, upd H (s.heap.objs.size + 1) (.lst ((out.map SrtO.iv).map V.int)), I.laid (t' := s.toks) (fun _ _ => sortedAll_old) (Nat.le_succ _) ⟨hn, out, ep, vals_of_ints k1, he⟩, rfl, q _ _ k2 k3 (I.hok.fresh (Nat.le_succ _))⟩
end
end IP

set_option Elab.async false
set_option linter.all false
set_option maxRecDepth 100000
set_option maxHeartbeats 2000000
/-! IPy5: items, slices, truth, built-in functions and methods, isinstance. -/
namespace IP
open PySem PySem.Spec PyProof.Rows L2
section
variable {X : Cx} {G : Nm}
theorem ixN_lt {n : Nat} {i : Int} {k : Nat} (h : ixN n i = some k) : k < n := by
  unfold ixN at h
  split at h
  · split at h
    · cases h; omega
    · cases h
  · split at h
    · cases h; omega
    · cases h
theorem ixr_idx : IxR X (RB X.K G idxP) := by
  intro va sl pins s σ H v u a b Q I ra rb q hs
  obtain ⟨W, σ', μ, S, x, y, so, dx, dy, p⟩ := q
  unfold idxP at p
  split at p
  · rename_i i
    split at p
    · rename_i xs e
      split at p
      · rename_i k ek
        split at p
        · rename_i z ez
          cases dy
          obtain ⟨al, ys, rfl, rr, d⟩ := seq_of so dx e
          obtain ⟨vz, h1, h2⟩ := d.get ez
          have hat : L2.atI ys i = some vz := by
            unfold L2.atI
            rw [← d.length]
            rw [show L2.ixN xs.length i = some k from ek]
            exact h1
          rcases rr with rr | rr
          · exact ix_list va sl pins s σ H _ _ a b Q I ra rb ⟨_, _, _, _, rfl, rfl, sqL rr, hat, p.now so h2⟩ hs
          · exact ix_tup va sl pins s σ H _ _ a b Q I ra rb ⟨_, _, _, _, rfl, rfl, sqT rr, hat, p.now so h2⟩ hs
        · exact p.elim
      · exact p.elim
    · exact p.elim
  · exact p.elim
/-- a slice by trees -/
def RSl (K : PySem.W.Frag) (G : Nm) (m : Bool) : V → Option Int → Option Int → Hp → VK → Prop := fun v lo hi H Q => ∃ W σ μ S x, SOk K G H μ S ∧ Den K G H μ x v ∧
  PostR K G (Den K G) W σ μ H (match x with
    | .tup xs => .ok (.tup (cut xs lo hi)) S
    | x => match lstOf S x with
      | some xs => mkL m (cut xs lo hi) S
      | none => .bad) Q
theorem Dens.cut {K : PySem.W.Frag} {H : Hp} {μ : List Addr} {xs : List PV} {ys : List V} (d : Dens K G H μ xs ys) (lo hi : Option Int) : Dens K G H μ (IP.cut xs lo hi) (cutV ys lo hi) := by
  unfold IP.cut cutV
  rw [← d.length]
  exact (d.drop _).take _
theorem slr_slc (m : Bool) : SlR X (RSl X.K G m) := by
  intro pins s σ H v a vl vu lo hi sl Q I rx hs pl pu q
  obtain ⟨W, σ', μ, S, x, so, dx, p⟩ := q
  split at p
  · rename_i xs
    cases dx with
    | @tup al _ ys h n d =>
      have dc := d.cut lo hi
      refine sl_tupA pins s σ H _ a vl vu lo hi sl Q I rx hs pl pu ⟨_, _, rfl, sqT h, fun w => ?_, fun _ p' hp => p.tup so hp dc⟩
      have e : IP.cut xs lo hi = xs := by
        have w1 : IP.sIx xs.length 0 lo = 0 := by rw [d.length]; exact w.1
        have w2 : IP.sIx xs.length xs.length hi = xs.length := by rw [d.length]; exact w.2
        unfold IP.cut
        rw [w1, w2]; simp
      rw [e] at p
      exact p.now so (.tup h n d)
  · split at p
    · rename_i xs e
      obtain ⟨al, ys, rfl, rr, d⟩ := lst_of so dx e
      exact sl_list pins s σ H _ a vl vu lo hi sl Q I rx hs pl pu ⟨_, _, rfl, sqL rr, fun p' hp => p.lst so hp (d.cut lo hi)⟩
    · exact p.elim
/-! ### truth -/
theorem isEmpty_dens {K : PySem.W.Frag} {H : Hp} {μ : List Addr} {xs : List PV} {ys : List V} (d : Dens K G H μ xs ys) : xs.isEmpty = ys.isEmpty := by cases d <;> rfl
theorem truV_of {K : PySem.W.Frag} {H : Hp} {μ : List Addr} {S : Store} (so : SOk K G H μ S) {x : PV} {v : V} (d : Den K G H μ x v) {k : Bool} (e : truth S x = some k) : TruV K v H k := by
  have hl := lim_eq
  cases d with
  | non => cases e; rfl
  | bl b => cases e; rfl
  | int i => cases e; rfl
  | str x h =>
    simp only [truth] at e
    split at e
    · cases e; exact ⟨by omega, rfl⟩
    · cases e
  | tup h n d => cases e; exact .inr (.inl ⟨_, sqT h, by rw [isEmpty_dens d]⟩)
  | lst h n d => cases e; exact .inl ⟨_, sqL h, by rw [isEmpty_dens d]⟩
  | dct h n dk dv =>
    cases e
    refine .inr (.inr ⟨_, h, ?_⟩)
    rw [isEmpty_dens dk]; rw [List.isEmpty_map]
  | ref h =>
    rename_i n a
    simp only [truth] at e
    split at e
    · rename_i xs q
      cases e
      obtain ⟨b, hb, d⟩ := so.at q
      rw [h] at hb; cases hb
      obtain ⟨ys, hy, dy⟩ := d
      exact .inl ⟨_, .inl (.inl hy), by rw [isEmpty_dens dy]⟩
    · rename_i ks vs q
      cases e
      obtain ⟨b, hb, d⟩ := so.at q
      rw [h] at hb; cases hb
      obtain ⟨kvs, hy, dk, dv⟩ := d
      refine .inr (.inr ⟨_, hy, ?_⟩)
      rw [isEmpty_dens dk, List.isEmpty_map]
    · cases e
  | exc h n e' => cases e
/-! ### built-in functions -/
theorem on1_ok {xs : List PV} {f : PV → Res PV} {K : PySem.W.Frag} {W : WX} {σ : L2.St} {μ : List Addr} {H : Hp} {Q : V → Hp → Prop} {vs : List V} (p : PostR K G (Den K G) W σ μ H (on1 xs f) Q) (d : Dens K G H μ xs vs) :
    ∃ x v, vs = [v] ∧ Den K G H μ x v ∧ PostR K G (Den K G) W σ μ H (f x) Q := by
  unfold on1 at p
  split at p
  · cases d with
    | cons h t => cases t; exact ⟨_, _, rfl, h, p⟩
  · exact p.elim
theorem on2_ok {xs : List PV} {f : PV → PV → Res PV} {K : PySem.W.Frag} {W : WX} {σ : L2.St} {μ : List Addr} {H : Hp} {Q : V → Hp → Prop} {vs : List V} (p : PostR K G (Den K G) W σ μ H (on2 xs f) Q) (d : Dens K G H μ xs vs) :
    ∃ x y v u, vs = [v, u] ∧ Den K G H μ x v ∧ Den K G H μ y u ∧ PostR K G (Den K G) W σ μ H (f x y) Q := by
  unfold on2 at p
  split at p
  · cases d with
    | cons h t => cases t with
      | cons h2 t2 => cases t2; exact ⟨_, _, _, _, rfl, h, h2, p⟩
  · exact p.elim
theorem onSeq_ok {x : PV} {f : List PV → Res PV} {K : PySem.W.Frag} {W : WX} {σ : L2.St} {μ : List Addr} {S : Store} {H : Hp} {Q : V → Hp → Prop} {v : V} (p : PostR K G (Den K G) W σ μ H (onSeq S x f) Q) (so : SOk K G H μ S) (d : Den K G H μ x v) :
    ∃ xs a ys, seqOf S x = some xs ∧ v = .ref a ∧ (SqL K H a ys ∨ SqT K H a ys) ∧ Dens K G H μ xs ys ∧ PostR K G (Den K G) W σ μ H (f xs) Q := by
  unfold onSeq at p
  split at p
  · rename_i xs e
    obtain ⟨a, ys, e1, e2, e3⟩ := seq_of so d e
    exact ⟨xs, a, ys, e, e1, e2, e3, p⟩
  · exact p.elim
theorem onInts_ok {x : PV} {f : List Int → Res PV} {K : PySem.W.Frag} {W : WX} {σ : L2.St} {μ : List Addr} {S : Store} {H : Hp} {Q : V → Hp → Prop} {v : V} (p : PostR K G (Den K G) W σ μ H (onInts S x f) Q) (so : SOk K G H μ S) (d : Den K G H μ x v) :
    ∃ ns a, v = .ref a ∧ SqL K H a (ns.map V.int) ∧ PostR K G (Den K G) W σ μ H (f ns) Q := by
  unfold onInts at p
  split at p
  · rename_i ns e
    obtain ⟨xs, e1, e2⟩ := Option.bind_eq_some_iff.mp e
    obtain ⟨a, ys, q1, q2, q3⟩ := lst_of so d e1
    obtain ⟨_, rfl⟩ := q3.intsL e2
    exact ⟨ns, a, q1, q2, p⟩
  · exact p.elim
theorem onBls_ok {x : PV} {f : List Bool → Res PV} {K : PySem.W.Frag} {W : WX} {σ : L2.St} {μ : List Addr} {S : Store} {H : Hp} {Q : V → Hp → Prop} {v : V} (p : PostR K G (Den K G) W σ μ H (onBls S x f) Q) (so : SOk K G H μ S) (d : Den K G H μ x v) :
    ∃ ns a, v = .ref a ∧ SqL K H a (ns.map V.bl) ∧ PostR K G (Den K G) W σ μ H (f ns) Q := by
  unfold onBls at p
  split at p
  · rename_i ns e
    obtain ⟨xs, e1, e2⟩ := Option.bind_eq_some_iff.mp e
    obtain ⟨a, ys, q1, q2, q3⟩ := lst_of so d e1
    have := q3.bls e2
    subst this
    exact ⟨ns, a, q1, q2, p⟩
  · exact p.elim
theorem ins_perm (i : Int) : ∀ l : List Int, (ins i l).Perm (i :: l)
  | [] => .refl _
  | j :: r => by
    unfold ins
    split
    · exact .refl _
    · exact ((ins_perm i r).cons j).trans (List.Perm.swap i j r)
theorem isort_perm : ∀ l : List Int, (isort l).Perm l
  | [] => .refl _
  | i :: r => (ins_perm i (isort r)).trans ((isort_perm r).cons i)
theorem ins_pw (i : Int) : ∀ {l : List Int}, l.Pairwise (· ≤ ·) → (ins i l).Pairwise (· ≤ ·)
  | [], _ => by simp [ins]
  | j :: r, h => by
    obtain ⟨h1, h2⟩ := List.pairwise_cons.mp h
    unfold ins
    split
    · rename_i hij
      refine List.pairwise_cons.mpr ⟨fun k hk => ?_, h⟩
      rcases List.mem_cons.mp hk with rfl | hk
      · exact hij
      · exact Int.le_trans hij (h1 k hk)
    · rename_i hij
      refine List.pairwise_cons.mpr ⟨fun k hk => ?_, ins_pw i h2⟩
      rcases List.mem_cons.mp ((ins_perm i r).mem_iff.mp hk) with rfl | hk
      · omega
      · exact h1 k hk
theorem isort_pw : ∀ l : List Int, (isort l).Pairwise (· ≤ ·)
  | [] => .nil
  | i :: r => ins_pw i (isort_pw r)
theorem sorted_uniq : ∀ {l l' : List Int}, l.Perm l' → l.Pairwise (· ≤ ·) → l'.Pairwise (· ≤ ·) → l = l'
  | [], l', p, _, _ => by rw [List.nil_perm.mp p]
  | a :: l, [], p, _, _ => by simpa using p.length_eq
  | a :: l, b :: l', p, h, h' => by
    obtain ⟨h1, h2⟩ := List.pairwise_cons.mp h
    obtain ⟨k1, k2⟩ := List.pairwise_cons.mp h'
    have e : a = b := by
      have ma : a ∈ b :: l' := p.mem_iff.mp List.mem_cons_self
      have mb : b ∈ a :: l := p.mem_iff.mpr List.mem_cons_self
      rcases List.mem_cons.mp ma with q | q
      · exact q
      · rcases List.mem_cons.mp mb with q2 | q2
        · exact q2.symm
        · have := h1 b q2
          have := k1 a q
          omega
    subst e
    rw [sorted_uniq (List.Perm.cons_inv p) h2 k2]
theorem isort_of {l ns : List Int} (p : l.Perm ns) (s : l.Pairwise (· ≤ ·)) : l = isort ns := sorted_uniq (p.trans (isort_perm ns).symm) s (isort_pw ns)
theorem mnL_min : ∀ (r : List Int) (m : Int), (mnL m r = m ∨ mnL m r ∈ r) ∧ mnL m r ≤ m ∧ ∀ y ∈ r, mnL m r ≤ y
  | [], m => ⟨.inl rfl, Int.le_refl _, fun _ h => by cases h⟩
  | i :: r, m => by
    unfold mnL
    obtain ⟨h1, h2, h3⟩ := mnL_min r (if i < m then i else m)
    by_cases c : i < m
    · rw [if_pos c] at h1 h2 h3 ⊢
      refine ⟨.inr ?_, by omega, fun y hy => ?_⟩
      · rcases h1 with h | h
        · rw [h]; exact List.mem_cons_self
        · exact List.mem_cons_of_mem _ h
      · rcases List.mem_cons.mp hy with rfl | hy
        · exact h2
        · exact h3 y hy
    · rw [if_neg c] at h1 h2 h3 ⊢
      refine ⟨?_, h2, fun y hy => ?_⟩
      · rcases h1 with h | h
        · exact .inl h
        · exact .inr (List.mem_cons_of_mem _ h)
      · rcases List.mem_cons.mp hy with rfl | hy
        · omega
        · exact h3 y hy
theorem mxL_max : ∀ (r : List Int) (m : Int), (mxL m r = m ∨ mxL m r ∈ r) ∧ m ≤ mxL m r ∧ ∀ y ∈ r, y ≤ mxL m r
  | [], m => ⟨.inl rfl, Int.le_refl _, fun _ h => by cases h⟩
  | i :: r, m => by
    unfold mxL
    obtain ⟨h1, h2, h3⟩ := mxL_max r (if i > m then i else m)
    by_cases c : i > m
    · rw [if_pos c] at h1 h2 h3 ⊢
      refine ⟨.inr ?_, by omega, fun y hy => ?_⟩
      · rcases h1 with h | h
        · rw [h]; exact List.mem_cons_self
        · exact List.mem_cons_of_mem _ h
      · rcases List.mem_cons.mp hy with rfl | hy
        · exact h2
        · exact h3 y hy
    · rw [if_neg c] at h1 h2 h3 ⊢
      refine ⟨?_, h2, fun y hy => ?_⟩
      · rcases h1 with h | h
        · exact .inl h
        · exact .inr (List.mem_cons_of_mem _ h)
      · rcases List.mem_cons.mp hy with rfl | hy
        · omega
        · exact h3 y hy
theorem mnL_of {i : Int} {r : List Int} {m : Int} (h1 : m ∈ i :: r) (h2 : ∀ y ∈ i :: r, m ≤ y) : m = mnL i r := by
  obtain ⟨a, b, c⟩ := mnL_min r i
  have h3 : mnL i r ∈ i :: r := by
    rcases a with a | a
    · rw [a]; exact List.mem_cons_self
    · exact List.mem_cons_of_mem _ a
  have := h2 _ h3
  rcases List.mem_cons.mp h1 with rfl | h
  · omega
  · have := c m h; omega
theorem mxL_of {i : Int} {r : List Int} {m : Int} (h1 : m ∈ i :: r) (h2 : ∀ y ∈ i :: r, y ≤ m) : m = mxL i r := by
  obtain ⟨a, b, c⟩ := mxL_max r i
  have h3 : mxL i r ∈ i :: r := by
    rcases a with a | a
    · rw [a]; exact List.mem_cons_self
    · exact List.mem_cons_of_mem _ a
  have := h2 _ h3
  rcases List.mem_cons.mp h1 with rfl | h
  · omega
  · have := c m h; omega
/-- the built-ins that are plain calls -/
def biV : BI → Option Value
  | .len => some (.builtin "len") | .list => some (.type "list") | .tuple => some (.type "tuple") | .sorted => some (.builtin "sorted") | .mn => some (.builtin "min") | .mx => some (.builtin "max")
  | .all => some (.builtin "all") | .any => some (.builtin "any") | .abs => some (.builtin "abs") | .int => some (.type "int") | .sum => some (.builtin "sum")
  | _ => none
theorem clr_bi (hc : X.calm = true) (m : Bool) (b : BI) (f : Value) (hf : biV b = some f) : CallR X f (RC X.K G (biP m b)) := by
  intro pins s σ H vs us Q I r q
  obtain ⟨W, σ', μ, S, xs, so, d, p⟩ := q
  have hl := lim_eq
  have two : ∀ (rr : List V → Hp → VK → Prop), CallR X f rr → rr vs H Q → wpAny (model X.prog X.w) X.A (call f us) (EP X pins σ Q) X.xe s := fun rr o h => o pins s σ H vs us Q I r h
  cases b with
  | len =>
    cases hf
    obtain ⟨x, v, rfl, d1, p⟩ := on1_ok p d
    unfold lenP at p
    split at p
    · split at p
      · cases d1
        exact two _ call_len ⟨_, _, rfl, ⟨by omega, rfl⟩, p.now so (.int _)⟩
      · exact p.elim
    · split at p
      · rename_i ys e
        obtain ⟨a, zs, rfl, h2, h3⟩ := seq_of so d1 e
        refine two _ call_len_seq ⟨_, zs, rfl, h2.imp sqL sqT, ?_⟩
        rw [← h3.length]; exact p.now so (.int _)
      · exact p.elim
  | list =>
    cases hf
    obtain ⟨x, v, rfl, d1, p⟩ := on1_ok p d
    obtain ⟨ys, a, zs, _, rfl, h2, h3, p⟩ := onSeq_ok p so d1
    exact two _ call_list_of ⟨_, zs, rfl, h2.imp sqL sqT, fun l hp => p.lst so hp h3⟩
  | tuple =>
    cases hf
    obtain ⟨x, v, rfl, d1, p⟩ := on1_ok p d
    unfold onSeq at p
    cases d1 with
    | @tup a xs ys h n dd => exact two _ call_tuple_of ⟨_, ys, rfl, .inr ⟨sqT h, p.now so (.tup h n dd)⟩⟩
    | @lst a xs ys h n dd => exact two _ call_tuple_of ⟨_, ys, rfl, .inl ⟨sqL h, fun l hp => p.tup so hp dd⟩⟩
    | @ref n a h =>
      simp only [seqOf] at p
      split at p
      · rename_i zs e
        split at e
        · rename_i ws q
          cases e
          obtain ⟨b, hb, dd⟩ := so.at q
          rw [h] at hb; cases hb
          obtain ⟨ys, hy, dy⟩ := dd
          exact two _ call_tuple_of ⟨_, ys, rfl, .inl ⟨sqL (.inl (.inl hy)), fun l hp => p.tup so hp dy⟩⟩
        · cases e
      · exact p.elim
    | _ => exact p.elim
  | sorted =>
    cases hf
    obtain ⟨x, v, rfl, d1, p⟩ := on1_ok p d
    unfold onIntsA at p
    split at p
    · rename_i ns e
      obtain ⟨ys, e1, e2⟩ := Option.bind_eq_some_iff.mp e
      obtain ⟨a, zs, rfl, h2, h3⟩ := seq_of so d1 e1
      obtain ⟨_, rfl⟩ := h3.intsL e2
      refine two _ cr_sortedA ⟨_, ns, rfl, h2.imp sqL sqT, fun ns' p' hp hs hn => ?_⟩
      rw [isort_of hp hs]
      exact p.lst so hn (Dens.ofInts _)
    · exact p.elim
  | mn =>
    cases hf
    simp only [biP] at p
    unfold mmP at p
    split at p
    · cases d with
      | cons d1 t => cases t with
        | cons d2 t2 =>
          cases t2
          unfold iiP at p
          split at p
          · rw [if_pos rfl] at p
            cases d1; cases d2
            exact two _ (call_min2 hc) ⟨_, _, rfl, p.now so (.int _)⟩
          · exact p.elim
    · cases d with
      | cons d1 t =>
        cases t
        obtain ⟨ns, a, rfl, h2, p⟩ := onInts_ok p so d1
        split at p
        · rename_i i r
          exact two _ (cr_min hc) ⟨a, i :: r, rfl, sqL h2, by simp, fun k h3 h4 => by rw [mnL_of h3 h4]; exact p.now so (.int _)⟩
        · exact p.elim
    · exact p.elim
  | mx =>
    cases hf
    simp only [biP] at p
    unfold mmP at p
    split at p
    · cases d with
      | cons d1 t => cases t with
        | cons d2 t2 =>
          cases t2
          unfold iiP at p
          split at p
          · rw [if_pos rfl] at p
            cases d1; cases d2
            exact two _ (call_max2 hc) ⟨_, _, rfl, p.now so (.int _)⟩
          · exact p.elim
    · cases d with
      | cons d1 t =>
        cases t
        obtain ⟨ns, a, rfl, h2, p⟩ := onInts_ok p so d1
        split at p
        · rename_i i r
          exact two _ (cr_max hc) ⟨a, i :: r, rfl, sqL h2, by simp, fun k h3 h4 => by rw [mxL_of h3 h4]; exact p.now so (.int _)⟩
        · exact p.elim
    · exact p.elim
  | all =>
    cases hf
    obtain ⟨x, v, rfl, d1, p⟩ := on1_ok p d
    obtain ⟨bs, a, rfl, h2, p⟩ := onBls_ok p so d1
    exact two _ (cr_all hc) ⟨a, bs, rfl, sqL h2, p.now so (.bl _)⟩
  | any =>
    cases hf
    obtain ⟨x, v, rfl, d1, p⟩ := on1_ok p d
    obtain ⟨bs, a, rfl, h2, p⟩ := onBls_ok p so d1
    exact two _ (cr_any hc) ⟨a, bs, rfl, sqL h2, p.now so (.bl _)⟩
  | abs =>
    cases hf
    obtain ⟨x, v, rfl, d1, p⟩ := on1_ok p d
    split at p
    · cases d1
      exact two _ call_abs ⟨_, rfl, p.now so (.int _)⟩
    · exact p.elim
  | int =>
    cases hf
    obtain ⟨x, v, rfl, d1, p⟩ := on1_ok p d
    split at p
    · cases d1
      exact two _ call_int1 (.inl ⟨_, rfl, p.now so (.int _)⟩)
    · cases d1
      exact two _ call_int1 (.inr ⟨_, rfl, p.now so (.int _)⟩)
    · exact p.elim
  | sum =>
    cases hf
    obtain ⟨x, v, rfl, d1, p⟩ := on1_ok p d
    obtain ⟨bs, a, rfl, h2, p⟩ := onInts_ok p so d1
    exact two _ (cr_sum hc) ⟨a, bs, rfl, sqL h2, p.now so (.int _)⟩
  | lrange => cases hf
  | trange => cases hf
  | trev => cases hf
end
end IP

set_option Elab.async false
set_option linter.all false
set_option maxRecDepth 100000
set_option maxHeartbeats 2000000
/-! IPyX: methods of lists, isinstance. -/
namespace IP
open PySem PySem.Spec PyProof.Rows L2
theorem ext_meets (l : Addr) (items : Array Value) (n : Nat) (b : Addr) (items2 : Array Value) (n2 : Nat) (d2 : Option Addr) (sl2 : Array (Option Value)) (c0 : ¬(!items.isEmpty && Builtin.List.listTooLong (items.size + items2.size)) = true) (c1 : items.size ≤ sizeLine) (c2 : items.size + items2.size ≤ sizeLine + 1) :
    Meets (Builtin.«list.extend» ⟨[.ref l, .ref b], []⟩) (fun _ R s => s.heap.get? l = some { cls := .type "list", dict := none, data := .seq items n, slots := #[] } ∧ s.heap.get? b = some { cls := .type "list", dict := d2, data := .seq items2 n2, slots := sl2 } ∧ R (.ok (.ret Value.none)) { s with heap := s.heap.update l (Obj.mapSeq fun x => x ++ items2), toks := s.toks }) :=
  .of_wp fun prog w A R s h => by
    obtain ⟨hp, g, d, tk, os⟩ := s
    obtain ⟨h1, h2, h⟩ := h
    have f1 := AutoSeq1.idx_int
    have f2 := AutoSeq1.sub_tuple_tuple
    have f3 := AutoSeq1.sub_list_list
    have f4 := AutoSeq1.sub_tuple_list
    have f5 := AutoSeq1.sub_list_tuple
    have c3 : (items ++ items2).size ≤ sizeLine + 1 := by rw [Array.size_append]; exact c2
    wp_walk using (wpAny_updateSeq h1 rfl (hz := c1) (_hz' := c3)), wpAny_loadPart' h1, wpAny_loadPart' h2
    exact ⟨_, rfl, h⟩
section
variable {X : Cx} {G : Nm}
/-- l.extend(any list) -/
def rExtA (K : PySem.W.Frag) : V → List V → Hp → VK → Prop := fun x vs H Q => ∃ l b xs zs, x = .ref l ∧ vs = [.ref b] ∧ H l = some (.lst xs) ∧ SqL K H b zs ∧ xs.length + zs.length ≤ sizeLine ∧ Q .non (upd H l (.lst (xs ++ zs)))
theorem mt_extA : MtR X "list.extend" (rExtA X.K) := by
  intro pins s σ H x vs v us Q I rx rv ⟨l, b, xs, zs, e1, e2, hH, hB, hz, q⟩
  subst e1 e2
  cases rx
  obtain ⟨u, rfl, ru⟩ := rv.one
  cases ru
  obtain ⟨z, its, n, r, hl, e⟩ := I.lstM hH
  obtain ⟨its2, r2, ⟨⟨oc, od, odt, osl⟩, n2, e2, k1, k2, k3⟩, z2⟩ := I.list hB
  cases k1; cases k3
  have l2 := r2.length
  have sz : its.toArray.size + its2.toArray.size ≤ sizeLine := by simp only [List.size_toArray]; omega
  have lng : ¬ (!its.toArray.isEmpty && Builtin.List.listTooLong (its.toArray.size + its2.toArray.size)) = true := by
    rw [notLongL sz, Bool.and_false]; exact Bool.false_ne_true
  refine PySem.call_meets PySem.F.slot_list_extend ⟨_, e, rfl⟩ PySem.F.entry_list_extend (PySem.F.args_list_extend_2 _ _) (ext_meets l its.toArray n b its2.toArray n2 _ _ lng (by simp only [List.size_toArray]; omega) (by omega)) ⟨e, e2, ?_⟩
  exact ⟨.non, _, I.lset (its' := its ++ its2) hH e (by simp) (r.append r2) (by rw [List.length_append]; omega), rfl, q⟩
/-- a method by trees -/
def RM (K : PySem.W.Frag) (G : Nm) (f : PV → List PV → Store → Res PV) : V → List V → Hp → VK → Prop := fun v vs H Q => ∃ W σ μ S x xs, SOk K G H μ S ∧ Den K G H μ x v ∧ Dens K G H μ xs vs ∧ PostR K G (Den K G) W σ μ H (f x xs S) Q
def bmId : BM → String
  | .append => "list.append" | .extend => "list.extend" | .pop => "list.pop" | .popAt => "list.pop"
theorem PostR.put {W : WX} {σ : L2.St} {μ : List Addr} {H : Hp} {K : PySem.W.Frag} {x : PV} {v : V} {S : Store} {n : Nat} {a : Addr} {ys : List PV} {zs : List V} {Q : V → Hp → Prop} (p : PostR K G (Den K G) W σ μ H (.ok x (S.set n (.lst ys))) Q) (so : SOk K G H μ S) (e : μ[n]? = some a) (mu : ∃ u, H a = some u)
    (d : Dens K G H μ ys zs) (dx : Den K G H μ x v) : Q v (upd H a (.lst zs)) := by
  have s0 : Stp μ H μ (upd H a (.lst zs)) := ⟨⟨[], by simp, by simp⟩, fun b u q hb => by rw [upd_ne (fun z => hb (by rw [z]; exact List.mem_of_getElem? e))]; exact q, fun b u q => by
    by_cases hb : b = a
    · exact ⟨_, by rw [hb, upd_same]⟩
    · exact ⟨u, by rw [upd_ne hb]; exact q⟩⟩
  obtain ⟨s1, s2⟩ := so.put (so := .lst ys) (o := .lst zs) e ⟨zs, upd_same, d.stp s0⟩ mu
  exact p _ _ _ s1 s2 (dx.stp s1)
theorem seqIx_of {n : Nat} {i : Int} {k : Nat} (h : ixN n i = some k) : seqIndex? i n = some k ∧ k < n ∧ -(n : Int) ≤ i ∧ i < n := L2.ixN_seq (n := n) (i := i) (j := k) h
theorem mtr_bm (m : Bool) (b : BM) : MtR X (bmId b) (RM X.K G (bmP m b)) := by
  intro pins s σ H v vs a us Q I ra rs q
  obtain ⟨W, σ', μ, S, x, xs, so, dx, d, p⟩ := q
  have hl := lim_eq
  have hs : sizeLine = 16777216 := sizeLine_eq
  have two : ∀ (r : V → List V → Hp → VK → Prop) (id : String), MtR X id r → r v vs H Q → wpAny (model X.prog X.w) X.A (call (.builtin id) (a :: us)) (EP X pins σ Q) X.xe s := fun r id o h => o pins s σ H v vs a us Q I ra rs h
  unfold bmP at p
  split at p
  · rename_i n
    split at p
    · rename_i l el
      cases dx with
      | @ref _ al hal =>
      obtain ⟨al', hal', ys, hy, dy⟩ := so.at el
      rw [hal] at hal'; cases hal'
      have ly := dy.length
      have zy := (I.lstM hy).1
      cases b with
      | append =>
        simp only at p
        obtain ⟨y, u, rfl, d1, p⟩ := on1_ok p d
        unfold appP at p
        split at p
        · rename_i hz
          exact two _ _ mt_append ⟨al, ys, u, rfl, rfl, hy, by omega, p.put so hal ⟨_, hy⟩ (dy.app (.cons d1 .nil)) .non⟩
        · exact p.elim
      | extend =>
        simp only at p
        obtain ⟨y, u, rfl, d1, p⟩ := on1_ok p d
        unfold extP at p
        split at p
        · rename_i k ek
          split at p
          · rename_i hz
            obtain ⟨bl, zs, rfl, r2, d2⟩ := lst_of so d1 ek
            have l2 := d2.length
            exact two _ _ mt_extA ⟨al, bl, ys, zs, rfl, rfl, hy, sqL r2, by omega, p.put so hal ⟨_, hy⟩ (dy.app d2) .non⟩
          · exact p.elim
        · exact p.elim
      | pop =>
        simp only at p
        split at p
        · cases d
          unfold popP at p
          split at p
          · rename_i y ey
            obtain ⟨u, eu, du⟩ := dy.get ey
            refine two _ _ mt_pop ⟨al, ys, u, rfl, rfl, hy, by rw [← ly]; exact eu, p.put so hal ⟨_, hy⟩ dy.dropLast du⟩
          · exact p.elim
        · exact p.elim
      | popAt =>
        simp only at p
        obtain ⟨y, u, rfl, d1, p⟩ := on1_ok p d
        unfold popAtP at p
        split at p
        · rename_i i
          split at p
          · rename_i k ek
            split at p
            · rename_i y ey
              cases d1
              obtain ⟨u, eu, du⟩ := dy.get ey
              obtain ⟨q1, q2, q3, q4⟩ := seqIx_of ek
              exact two _ _ mt_popAt ⟨al, ys, i, k, u, rfl, rfl, hy, by omega, by omega, by rw [← ly]; exact q1, eu, p.put so hal ⟨_, hy⟩ (dy.erase k) du⟩
            · exact p.elim
          · exact p.elim
        · exact p.elim
    · exact p.elim
  · exact p.elim
/-! ### isinstance -/
def tyVal (K : PySem.W.Frag) (G : Nm) : Ty → Value
  | .non => .type "NoneType" | .bool => .type "bool" | .int => .type "int" | .str => .type "str" | .tup => .type "tuple" | .lst => .type "list" | .dct => .type "dict"
  | .cls c => .ref (cA K G c)
  | .bi _ => .type "ValueError"
def tyV' (K : PySem.W.Frag) (G : Nm) : Ty → V
  | .non => .ty "NoneType" | .bool => .ty "bool" | .int => .ty "int" | .str => .ty "str" | .tup => .ty "tuple" | .lst => .ty "list" | .dct => .ty "dict"
  | .cls c => .ref (cA K G c)
  | .bi _ => .ty "ValueError"
theorem clsV_ty (K : PySem.W.Frag) (t : Ty) : ClsV (tyV' K G t) (tyVal K G t) := by cases t <;> first | exact .ty _ | exact .own _
/-- what an own error class has, for isinstance -/
structure XC (K : PySem.W.Frag) (C : Addr) : Prop where
  ex : ExcC K C
  cl : (PySem.W.clsIn K C).isSome = true
/-- an own error class that is raised with a text -/
structure RzC (K : PySem.W.Frag) (C : Addr) : Prop where
  mkx : ∃ B newId initId bmB, ExcBaseFacts B newId initId bmB ∧ PySem.W.excIn K C bmB newId = true
  kp : PySem.W.keepIn K (.ref C) = true
  sub : PySem.W.subIn K (.ref C) (.type "BaseException") = some true
  ty : PySem.W.typeIn K (.ref C) = some (.type "type")
/-- the class of an instance, for isinstance -/
structure IC (K : PySem.W.Frag) (C : Addr) : Prop where
  cl : Cls K C
  ha : PySem.W.findIn K (.ref C) "__class__" = some (some (.builtin "object.__class__"))
  hn : PySem.W.specialIn K (.builtin "object.__class__") "__get__" = some (some (.builtin "getset_descriptor.__get__"))
  ht : PySem.W.takesIn K (.builtin "object.__class__") = some true
  hm : PySem.W.mroIn K C (.type "object") = some true
theorem inst_exc {h : Heap} {a C : Addr} {o : Obj} {vs : Array Value} {d : Option Addr} (e : h.get? a = some o) (e1 : o.cls = .ref C) (e2 : o.dict = d) (e3 : o.data = .fields vs) : True := trivial
end
end IP

set_option Elab.async false
set_option linter.all false
set_option maxRecDepth 100000
set_option maxHeartbeats 2000000
/-! IPyH: the length that a reversed tuple tells. -/
namespace IP
open PySem PySem.Spec PyProof.Rows L2 RT
theorem rv_nolen : typeLookup (.type "reversed") "__len__" = pure none := by
  rw [typeLookup_type]
  rw [builtinLookup_eq_fast]
  kernel_rfl
theorem rv_hint : typeLookup (.type "reversed") "__length_hint__" = pure (some (.builtin "reversed.__length_hint__")) := by
  rw [typeLookup_type]
  rw [builtinLookup_eq_fast]
  kernel_rfl
theorem rv_slot : Slot "reversed" "__length_hint__" "reversed.__length_hint__" :=
  .of (owner := "reversed") (n := "__length_hint__") rv_hint (by decide +kernel) (by decide +kernel) (by decide +kernel) (by first | exact .inl (by decide +kernel) | exact .inr (by decide +kernel))
    (by rw [isSubtype_type]; kernel_rfl)
theorem rv_entry : entryFor table "reversed.__length_hint__" = some Builtin.«reversed.__length_hint__» := entryFor_of_tree (by kernel_rfl)
theorem rv_args (a : Value) : argsOk "reversed.__length_hint__" ⟨[a], []⟩ := by
  unfold argsOk
  rw [signature?_of (id := "reversed.__length_hint__") (n := ['_', '_', 't', 'n', 'i', 'h', '_', 'h', 't', 'g', 'n', 'e', 'l', '_', '_']) (o := ['d', 'e', 's', 'r', 'e', 'v', 'e', 'r']) (by kernel_rfl) owner_rt]
  kernel_rfl
section
variable {prog : Program} {w : World} {A : Around} {E : Value → Shared → Prop} {s : Shared}
/-- the call of the hint -/
theorem call_rv_hint {ri tu : Addr} {vs : Array Value} {Q : Value → Shared → Prop} (hr : IsRt s.heap ri tu ((vs.size : Int) - 1)) (ht : IsTup s.heap tu vs) (hz : vs.size ≤ sizeLine)
    (hQ : ∀ t tk, Q (.int (vs.size : Nat) t) { s with toks := tk }) : wpAny (model prog w) A (call (.builtin "reversed.__length_hint__") [.ref ri]) Q E s := by
  obtain ⟨o, ho, hc, hd⟩ := id hr
  have hl := line63
  refine wpAny_call_entry rv_slot hr.typeIs rv_entry ?_ (rv_args _)
  unfold Builtin.«reversed.__length_hint__»
  refine wpAny_bind (wpAny_of_eq (a := Value.ref ri) rfl ?_)
  refine wpAny_bind (wpAny_field ho hd (x := .ref tu) rfl ?_)
  try dsimp only
  refine wpAny_bind ?_
  refine len_tuple ht (by omega) ?_
  refine wpAny_bind (wpAny_of_eq (a := some ((vs.size : Nat) : Int)) rfl ?_)
  try dsimp only
  refine wpAny_bind (wpAny_field (s := { s with toks := s.toks + 1 + 1 }) ho hd (x := rawInt ((vs.size : Int) - 1)) rfl ?_)
  show wpAny _ _ (if ((vs.size : Nat) : Int) < (vs.size : Int) - 1 + 1 then _ else _) _ _ _
  rw [if_neg (by omega)]
  show wpAny _ _ (mkInt ((vs.size : Int) - 1 + 1) >>= ret) _ _ _
  refine wpAny_bind (wpAny_mkInt ?_)
  have e : (vs.size : Int) - 1 + 1 = ((vs.size : Nat) : Int) := by omega
  rw [e]
  exact wpAny_pure ⟨_, rfl, hQ _ _⟩
end
end IP

set_option Elab.async false
set_option linter.all false
set_option maxRecDepth 100000
set_option maxHeartbeats 2000000
/-! IPyR: tuple(reversed(x)), x a list or a tuple. -/
namespace IP
open PySem PySem.Spec PyProof.Rows L2 RT
section
variable {prog : Program} {w : World} {A : Around} {E : Value → Shared → Prop} {s : Shared}
theorem walks_rt (hh : A.handled = none) (ri tu : Addr) (ne : tu ≠ ri) (vs : Array Value) (hz : vs.size ≤ sizeLine) :
    Walks prog w A ri [ri, tu] [ri] vs.size (fun i v => vs[vs.size - 1 - i]? = some v) (fun i h => i ≤ vs.size ∧ IsRt h ri tu ((vs.size : Int) - 1 - (i : Int)) ∧ IsTup h tu vs) where
  sub := fun b hb => by
    have e : b = ri := by simpa using hb
    rw [e]; simp
  frame := fun _ h h' x hk => ⟨x.1, x.2.1.at fun o e => hk ri (by simp) o e, let ⟨o, e, r⟩ := x.2.2; ⟨o, hk tu (by simp) o e, r⟩⟩
  item := fun i s Q E hi x hQ => by
    obtain ⟨h1, h2, h3⟩ := x
    have e : (vs.size : Int) - 1 - (i : Int) = ((vs.size - 1 - i : Nat) : Int) := by omega
    rw [e] at h2
    have hx : vs[vs.size - 1 - i]? = some (vs[vs.size - 1 - i]'(by omega)) := Array.getElem?_eq_getElem (by omega)
    refine next_rt_item h2 h3 hx hz fun h' k1 k2 => ?_
    have e2 : ((vs.size - 1 - i : Nat) : Int) - 1 = (vs.size : Int) - 1 - ((i + 1 : Nat) : Int) := by omega
    rw [e2] at k1
    exact hQ _ h' (s.toks + 1) hx ⟨hi, k1, let ⟨o, e, r⟩ := h3; ⟨o, (k2.2 tu ne).trans e, r⟩⟩ fun b o hb eo => (k2.2 b (fun z => hb (by rw [z]; simp))).trans eo
  done := fun s Q E x hQ => by
    obtain ⟨h1, h2, h3⟩ := x
    have e : (vs.size : Int) - 1 - (vs.size : Int) = -1 := by omega
    rw [e] at h2
    exact next_rt_end hh h2 fun h' he => hQ h' s.toks fun b o hb eo => he b o (fun z => hb (by rw [z]; simp)) eo
  self := fun _ _ _ _ x hQ => iter_rt x.2.1 hQ
theorem collect_rt {ri tu : Addr} {vs : Array Value} {Q : List Value → Shared → Prop} (hh : A.handled = none) (hr : IsRt s.heap ri tu ((vs.size : Int) - 1)) (ht : IsTup s.heap tu vs) (ne : tu ≠ ri) (hz : vs.size ≤ sizeLine)
    (hQ : ∀ (h' : Heap) (tk : Nat) (acc : Array Value), (∀ b o, b ≠ ri → s.heap.get? b = some o → h'.get? b = some o) → ItemsOf (fun i v => vs[vs.size - 1 - i]? = some v) acc vs.size → Q acc.toList { s with heap := h', toks := tk }) :
    wpAny (model prog w) A (collect (.ref ri)) Q E s := by
  have W := (walks_rt (prog := prog) (w := w) (A := A.in1) hh ri tu ne vs hz).toS
  obtain ⟨oi, hoi, _⟩ := id hr
  obtain ⟨ol, hol, _⟩ := id ht
  have n1 : s.heap.objs.size ≠ ri := Nat.ne_of_gt (Heap.lt_size hoi)
  have n2 : s.heap.objs.size ≠ tu := Nat.ne_of_gt (Heap.lt_size hol)
  have n3 : s.heap.objs.size ∉ [ri, tu] := fun z => by
    rcases List.mem_cons.mp z with z | z
    · exact n1 z
    · exact n2 (List.mem_singleton.mp z)
  unfold collect
  refine wpAny_bind (wpAny_runValue (codeAny_builtin F.entry_proto_collect ?_))
  rw [Around.under_plainId F.plain_proto_collect _]
  show wpAny _ A.in1 (newList [] >>= fun z => again (.builtin "list.__iadd__" ⟨[z, .ref ri], []⟩)) _ _ s
  refine wpAny_bind (wpAny_newObj_type ?_)
  refine wpAny_pure ⟨plainId_quiet F.plain_list_iadd _, codeAny_builtin F.entry_list_iadd ?_⟩
  rw [Around.under_plainId F.plain_list_iadd _]
  have g0 : (s.heap.push { cls := .type "list", data := .seq ([] : List Value).toArray }).get? s.heap.objs.size = some { cls := .type "list", data := .seq ([] : List Value).toArray } := Heap.get?_push_size _ rfl
  have kp : ∀ b o, s.heap.get? b = some o → (s.heap.push { cls := .type "list", data := .seq ([] : List Value).toArray }).get? b = some o := fun b o e => Heap.get?_push_of_some _ e
  have r1 : IsRt (s.heap.push { cls := .type "list", data := .seq ([] : List Value).toArray }) ri tu ((vs.size : Int) - 1) := hr.at fun o e => kp _ _ e
  have t1 : IsTup (s.heap.push { cls := .type "list", data := .seq ([] : List Value).toArray }) tu vs := let ⟨o, e, r⟩ := ht; ⟨o, kp _ _ e, r⟩
  have hT : ({ s with heap := s.heap.push { cls := .type "list", data := .seq ([] : List Value).toArray } } : Shared).TypeIs (.ref ri) "reversed" := IsRt.typeIs (s := { s with heap := s.heap.push { cls := .type "list", data := .seq ([] : List Value).toArray } }) r1
  have ns : Builtin.List.listSameRef (.ref s.heap.objs.size) (.ref ri) = false := by simp [Builtin.List.listSameRef, n1]
  show wpAny _ A.in1 (Builtin.List.listExtendWith (.ref s.heap.objs.size) (.ref ri) (.ref s.heap.objs.size)) _ _ _
  unfold Builtin.List.listExtendWith
  refine wpAny_bind (wpAny_typeOf hT ?_)
  rw [if_neg (by rw [ns]; decide)]
  refine wpAny_bind (iter_rt (s := { s with heap := s.heap.push { cls := .type "list", data := .seq ([] : List Value).toArray } }) r1 ?_)
  refine wpAny_bind (wpAny_holding ?_)
  unfold Builtin.List.listLengthHint
  refine wpAny_bind (wpAny_specialOf hT rv_nolen ?_)
  show wpAny _ A.in1 (specialOf (Value.ref ri) (Str.ofString "__length_hint__") >>= _) _ _ _
  refine wpAny_bind (wpAny_specialOf hT rv_hint ?_)
  generalize hid : ("reversed.__length_hint__" : String) = id0
  wp_delta
  rw [show splitId id0 = some ("reversed", "__length_hint__") from by subst hid; decide +kernel]
  subst hid
  refine wpAny_bind (wpAny_isInstance (b := true) hT (by rw [isSubtype_type]; kernel_rfl) ?_)
  rw [if_neg (by decide)]
  show wpAny _ A.in1 (if _ = true then _ else _) _ _ _
  rw [if_neg (by first | decide +kernel | (intro h; cases h))]
  refine wpAny_bind (wpAny_rule ?_)
  refine wpAny_bind (wpAny_of_eq (rv_slot.bind (.ref ri)) ?_)
  try dsimp only
  refine wpAny_bind (wpAny_attempt (call_rv_hint (s := { s with heap := s.heap.push { cls := .type "list", data := .seq ([] : List Value).toArray } }) r1 t1 hz fun t tk => ?_))
  generalize hz3 : ((vs.size : Nat) : Int) = z3
  refine wpAny_bind (m := asInt? (Value.int z3 t)) (wpAny_pure ?_)
  subst hz3
  have hz2 : vs.size ≤ 16777216 := by rw [← sizeLine_eq]; exact hz
  have hf : Builtin.List.listFitsIndex ((vs.size : Nat) : Int) = true := by
    unfold Builtin.List.listFitsIndex
    rw [Bool.and_eq_true, decide_eq_true_eq, decide_eq_true_eq]
    omega
  have hg : Builtin.List.listTooLong ((vs.size : Nat) : Int).toNat = false := by
    unfold Builtin.List.listTooLong
    rw [Int.toNat_natCast]
    exact decide_eq_false (Nat.not_lt.mpr hz)
  try dsimp only
  rw [hf, if_neg (by decide), if_neg (by omega), hg, if_neg Bool.false_ne_true]
  refine wpAny_pure ?_
  have st0 : (fun i (s : Shared) => i ≤ vs.size ∧ IsRt s.heap ri tu ((vs.size : Int) - 1 - (i : Int)) ∧ IsTup s.heap tu vs) 0 ({ s with heap := s.heap.push { cls := .type "list", data := .seq ([] : List Value).toArray } } : Shared) := ⟨Nat.zero_le _, by
    have e : (vs.size : Int) - 1 - ((0 : Nat) : Int) = (vs.size : Int) - 1 := by omega
    rw [e]; exact r1, t1⟩
  by_cases hm0 : vs.size = 0
  · rw [if_neg (by rw [hm0]; decide +kernel)]
    refine wpAny_pure ⟨plainId_quiet F.plain_extend_loop _, codeAny_extend_loopS W hz _ n3 _ vs.size 0 _ _ _ rfl (Nat.zero_le _)
      st0 g0 (ItemsOf.nil _) fun s' acc' c' hm hS' hacc => ?_⟩
    show wpAny _ A (load s.heap.objs.size >>= _) _ _ s'
    refine wpAny_bind (wpAny_load hS' ?_)
    have hs : s' = { s with heap := s'.heap, toks := s'.toks } := by
      have h1 : s'.gens = s.gens := hm.gens
      have h2 := hm.drawn
      have h3 := hm.os
      cases s'; simp_all
    rw [hs]
    refine wpAny_pure (hQ s'.heap s'.toks acc' (fun b o hb eo => hm.heap b o (fun z => ?_) (kp _ _ eo)) hacc)
    rcases List.mem_cons.mp z with z | z
    · exact Nat.lt_irrefl _ (z ▸ Heap.lt_size eo)
    · exact hb (List.mem_singleton.mp z)
  · have hne : (((vs.size : Nat) : Int) != 0) = true := bne_iff_ne.mpr (by omega)
    rw [hne, if_pos (by rw [Bool.true_or])]
    have zz : ([] : List Value).toArray.size ≤ sizeLine := Nat.zero_le _
    have zz1 : (([] : List Value).toArray.push Value.none).size ≤ sizeLine + 1 := by rw [Array.size_push]; exact Nat.succ_le_succ (Nat.zero_le _)
    have zz2 : (([] : List Value).toArray.push Value.none).size ≤ sizeLine := by rw [Array.size_push]; rw [sizeLine_eq]; exact Nat.le_of_ble_eq_true rfl
    have zz3 : ((([] : List Value).toArray.push Value.none).pop).size ≤ sizeLine + 1 := by rw [Array.size_pop, Array.size_push]; exact Nat.zero_le _
    refine wpAny_bind (wpAny_rule ?_)
    refine wpAny_bind ?_
    show wpAny _ A.in1 (updateSeq s.heap.objs.size (·.push .none) >>= fun _ => updateSeq s.heap.objs.size (·.pop)) _ _ _
    refine wpAny_bind (wpAny_updateSeq g0 rfl ?_ zz zz1)
    have hS₂ := Heap.get?_update_self (Obj.mapSeq (·.push Value.none)) g0 rfl
    refine wpAny_updateSeq hS₂ rfl ?_ zz2 zz3
    have hS₃ := Heap.get?_update_self (Obj.mapSeq (·.pop)) hS₂ rfl
    have oth : ∀ b o, b ≠ s.heap.objs.size → (s.heap.push { cls := .type "list", data := .seq ([] : List Value).toArray }).get? b = some o →
        (((s.heap.push { cls := .type "list", data := .seq ([] : List Value).toArray }).update s.heap.objs.size (Obj.mapSeq (·.push Value.none))).update s.heap.objs.size (Obj.mapSeq (·.pop))).get? b = some o :=
      fun b o hb e => (Heap.get?_update_other _ _ (Ne.symm hb)).trans ((Heap.get?_update_other _ _ (Ne.symm hb)).trans e)
    refine wpAny_pure ⟨plainId_quiet F.plain_extend_loop _, codeAny_extend_loopS W hz _ n3 _ vs.size 0 _ _ _ rfl (Nat.zero_le _)
      ⟨st0.1, st0.2.1.at fun o e => oth _ _ (fun z => n1 z.symm) e, let ⟨o, e, r⟩ := st0.2.2; ⟨o, oth _ _ (fun z => n2 z.symm) e, r⟩⟩ hS₃ (ItemsOf.nil _) fun s' acc' c' hm hS' hacc => ?_⟩
    show wpAny _ A (load s.heap.objs.size >>= _) _ _ s'
    refine wpAny_bind (wpAny_load hS' ?_)
    have hs : s' = { s with heap := s'.heap, toks := s'.toks } := by
      have h1 : s'.gens = s.gens := hm.gens
      have h2 := hm.drawn
      have h3 := hm.os
      cases s'; simp_all
    rw [hs]
    refine wpAny_pure (hQ s'.heap s'.toks acc' (fun b o hb eo => hm.heap b o (fun z => ?_) (oth b o (fun z => Nat.lt_irrefl _ (z ▸ Heap.lt_size eo)) (kp _ _ eo))) hacc)
    rcases List.mem_cons.mp z with z | z
    · exact Nat.lt_irrefl _ (z ▸ Heap.lt_size eo)
    · exact hb (List.mem_singleton.mp z)
theorem new_tuple_rt {ri tu : Addr} {vs : Array Value} {Q₁ : Value → Shared → Prop} (hh : A.handled = none) (hr : IsRt s.heap ri tu ((vs.size : Int) - 1)) (ht : IsTup s.heap tu vs) (ne : tu ≠ ri) (hz : vs.size ≤ sizeLine)
    (k : ∀ (h' : Heap) (tk : Nat) (acc : Array Value), (∀ b o, b ≠ ri → s.heap.get? b = some o → h'.get? b = some o) → ItemsOf (fun i v => vs[vs.size - 1 - i]? = some v) acc vs.size →
      Q₁ (.ref h'.objs.size) { s with heap := h'.push { cls := .type "tuple", data := .seq acc }, toks := tk }) :
    codeAny (model prog w) A (.call (.builtin "tuple.__new__") ⟨[.type "tuple", .ref ri], []⟩) (wants Q₁ E) s := by
  refine codeAny_of_tree ?_
  show wpAny _ A.in1 (do checkBuiltinCall "tuple.__new__" ⟨[.type "tuple", .ref ri], []⟩; again (.builtin "tuple.__new__" ⟨[.type "tuple", .ref ri], []⟩)) _ _ s
  refine wpAny_bind (wpAny_of_eq (F.newCall_tuple_1 _) (wpAny_pure ⟨plainId_quiet F.plain_tuple_new _, codeAny_builtin F.entry_tuple_new ?_⟩))
  rw [Around.under_plainId F.plain_tuple_new _]
  have hsub := sub_tuple_self
  have hinit := init_tuple_lookup
  have hmh := madeHere_tuple
  have ty : s.TypeIs (.ref ri) "reversed" := hr.typeIs
  have hh1 : A.in1.handled = none := hh
  wp_walk using wpAny_typeOf ty, collect_rt (A := A.in1) hh1 hr ht ne hz
  intro h' tk acc hk hacc
  show wpAny _ _ (Builtin.Tuple.tupleExact acc.toList.toArray >>= fun z => ret z) _ _ _
  unfold Builtin.Tuple.tupleExact
  refine wpAny_bind (wpAny_newObj_type ?_ (by show acc.toList.toArray.size ≤ sizeLine; simp only [Array.toArray_toList]; rw [hacc.1]; exact hz))
  refine wpAny_pure ?_
  have e : acc.toList.toArray = acc := by simp
  rw [e]
  exact k h' tk acc hk hacc
theorem call_tuple_rt {ri tu : Addr} {vs : Array Value} {Q : Value → Shared → Prop} (hh : A.handled = none) (hr : IsRt s.heap ri tu ((vs.size : Int) - 1)) (ht : IsTup s.heap tu vs) (ne : tu ≠ ri) (hz : vs.size ≤ sizeLine)
    (k : ∀ (h' : Heap) (tk : Nat) (acc : Array Value), (∀ b o, b ≠ ri → s.heap.get? b = some o → h'.get? b = some o) → ItemsOf (fun i v => vs[vs.size - 1 - i]? = some v) acc vs.size →
      Q (.ref h'.objs.size) { s with heap := h'.push { cls := .type "tuple", data := .seq acc }, toks := tk }) : wpAny (model prog w) A (call (.type "tuple") [.ref ri]) Q E s := by
  refine callType_codes (Q₁ := fun obj t => t.TypeIs obj "tuple" ∧ Q obj t) F.called_tuple (F.typeCall_tuple_1 _) F.entry_object_init
    (new_tuple_rt (A := A.in1) hh hr ht ne hz fun h' tk acc hk hacc => ⟨⟨_, Heap.get?_push_size _ rfl, rfl⟩, k h' tk acc hk hacc⟩) fun obj t ht => ?_
  exact ⟨ht.1, F.args_object_init_2 obj _, object_init_meets F.called_tuple.init.lookup F.called_tuple.made (by decide) prog w A.in1 _ t ⟨ht.1, rfl, ht.2⟩⟩
end
section
variable {X : Cx}
def tTupRv (K : PySem.W.Frag) (te : TE) : TE := fun σ H Q => te σ H fun v H1 => ∃ (a : Addr) (xs : List V), v = .ref a ∧ (SqL K H1 a xs ∨ SqT K H1 a xs) ∧ ∀ q, H1 q = none → Q (.ref q) (upd H1 q (.tup xs.reverse))
theorem pe_tupRv {e : Expr} {te : TE} {p p2 pos pos2 : Pos} (hc : X.calm = true) (hg : Gl X "tuple") (hm : X.mg "tuple" = none) (hg2 : Gl X "reversed") (hm2 : X.mg "reversed" = none) (he : PE X e te)
    (hs : starEach [e] X.env = (false, eval e X.env) :: starEach [] X.env) : PE X (.Call (.Name "tuple" p) [.Call (.Name "reversed" p2) [e] [] pos2] [] pos) (tTupRv X.K te) := by
  refine ⟨fun pins s σ H Q I h => ?_⟩
  refine Call_ (ld_blt I hg hm boot_tuple (PyProof.Rows.callWith_type1 (args_cons (Call_ (ld_blt I hg2 hm2 PyProof.Rows.boot_reversed (PyProof.Rows.callWith_type1 (args_cons (thn (he.run pins s σ H _ I h) fun u t w => args_nil ?_) hs) hs rfl))) rfl) rfl rfl))
  obtain ⟨v, H1, I1, r1, a, xs, ev, hq, q⟩ := w
  subst ev
  obtain rfl : u = Value.ref a := r1
  rcases hq with hq | hq
  · obtain ⟨its, rv, pl, hz⟩ := I1.list hq
    refine call_reversed_list pl.isList (args_nil ?_)
    have I2 : Inv X pins σ H1 { t with heap := t.heap.push (revObj a ((its.toArray.size : Int) - 1)) } := I1.kept (t' := t.toks) fun b o e => Heap.get?_push_of_some _ e
    obtain ⟨f0, f1, f2, f3, f4, f5⟩ := I1.fpOk (H' := H1) (b := t.heap.objs.size) (Nat.le_refl _) (I1.hok.fresh (Nat.le_refl _))
    have hl := pl.isList
    obtain ⟨ol, hol, _⟩ := id hl
    have ne : a ≠ t.heap.objs.size := Nat.ne_of_lt (Heap.lt_size hol)
    have hn : its.toArray.size ≤ sizeLine := by rw [List.size_toArray, ← rv.length]; exact hz
    refine call_tuple_rev (s := { t with heap := t.heap.push (revObj a ((its.toArray.size : Int) - 1)) }) (I1.ok.hd hc) ⟨_, Heap.get?_push_size _ rfl, rfl, rfl⟩ (hl.push _) ne hn fun h' tk acc hk hi => ?_
    have I3 : Inv X pins σ H1 { t with heap := h', toks := tk } := I2.turned (t' := tk) (fun b o hb e => hk b o hb e) f0 f1 f3 f4 f5
    refine ⟨.ref h'.objs.size, _, I3.laid (t' := tk) (a := h'.objs.size) (o := .tup xs.reverse) (fun c o e => Heap.get?_push_of_some _ e) (Nat.le_refl _) ⟨by rw [List.length_reverse]; exact hz, acc.toList, vals_rev rv hi, ?_⟩, rfl, q _ (I3.hok.fresh (Nat.le_refl _))⟩
    rw [Array.toArray_toList]
    exact IsTup.new _ _
  · obtain ⟨its, rv, pl, hz⟩ := I1.tuple hq
    have hn : its.toArray.size ≤ sizeLine := by rw [List.size_toArray, ← rv.length]; exact hz
    have hl := line63
    refine call_reversed_tup pl (fun A E Q k => len_tuple pl (by simp only [List.size_toArray] at hn ⊢ <;> omega) k) (args_nil ?_)
    have I2 : Inv X pins σ H1 { t with heap := t.heap.push (rtObj a ((its.toArray.size : Int) - 1)), toks := t.toks + 1 + 1 } := I1.kept (t' := t.toks + 1 + 1) fun b o e => Heap.get?_push_of_some _ e
    obtain ⟨f0, f1, f2, f3, f4, f5⟩ := I1.fpOk (H' := H1) (b := t.heap.objs.size) (Nat.le_refl _) (I1.hok.fresh (Nat.le_refl _))
    obtain ⟨ol, hol, rest⟩ := id pl
    have ne : a ≠ t.heap.objs.size := Nat.ne_of_lt (Heap.lt_size hol)
    refine call_tuple_rt (s := { t with heap := t.heap.push (rtObj a ((its.toArray.size : Int) - 1)), toks := t.toks + 1 + 1 }) (I1.ok.hd hc) ⟨_, Heap.get?_push_size _ rfl, rfl, rfl⟩ ⟨ol, Heap.get?_push_of_some _ hol, rest⟩ ne hn fun h' tk acc hk hi => ?_
    have I3 : Inv X pins σ H1 { t with heap := h', toks := tk } := I2.turned (t' := tk) (fun b o hb e => hk b o hb e) f0 f1 f3 f4 f5
    refine ⟨.ref h'.objs.size, _, I3.laid (t' := tk) (a := h'.objs.size) (o := .tup xs.reverse) (fun c o e => Heap.get?_push_of_some _ e) (Nat.le_refl _) ⟨by rw [List.length_reverse]; exact hz, acc.toList, vals_rev rv hi, ?_⟩, rfl, q _ (I3.hok.fresh (Nat.le_refl _))⟩
    rw [Array.toArray_toList]
    exact IsTup.new _ _
end
end IP

set_option Elab.async false
set_option linter.all false
set_option maxRecDepth 100000
set_option maxHeartbeats 2000000
/-! IPy6: the checker of instructions against the text; expressions. -/
namespace IP
open PySem PySem.Spec PyProof.Rows L2
/-- where a piece of text stands: the slots' names, the scope, whether it is the def's own body -/
structure Ck where
  N : List Str
  sc : Scope
  fb : Bool
def visB (sc : Scope) (x : Str) : Bool := match sc.names.lookup x with
  | some .local => true | some .cell => true | some .free => true | _ => false
def locB (c : Ck) (x : Str) : Bool := match c.sc.names.lookup x with
  | some .local => true | some .cell => c.fb | _ => false
def glB (sc : Scope) (x : Str) : Bool := match sc.names.lookup x with
  | some .globalImplicit => true | _ => false
def okNm (x : Str) : Bool := !(x == ("__debug__" : Str)) && (!(x == ("__classdict__" : Str)) && decide (x ≠ "__name__"))
def cstB : PV → Const → Bool
  | .int i, .int j => decide (i = j)
  | .bl a, .bool b => a == b
  | .non, .none => true
  | .str x, .str y => decide (x = y) && PyData.strOk x
  | _, _ => false
def opB : IOp → Operator → Bool
  | .add, .Add => true | .sub, .Sub => true | .mul, .Mult => true | .fdiv, .FloorDiv => true | .mod, .Mod => true | .pow, .Pow => true | .shl, .LShift => true | .shr, .RShift => true | .band, .BitAnd => true
  | _, _ => false
theorem opB_ok {a : IOp} {b : Operator} (h : opB a b = true) : b = opA a := by cases a <;> cases b <;> first | rfl | cases h
def cmB : ICmp → CmpOp → Bool
  | .eq, .Eq => true | .ne, .NotEq => true | .lt, .Lt => true | .le, .LtE => true | .gt, .Gt => true | .ge, .GtE => true | .inn, .In => true | .nin, .NotIn => true | .is, .Is => true | .isn, .IsNot => true
  | _, _ => false
theorem cmB_ok {a : ICmp} {b : CmpOp} (h : cmB a b = true) : b = cmA a := by cases a <;> cases b <;> first | rfl | cases h
def plainIxB : Expr → Bool
  | .Slice .. => false
  | _ => true
theorem plainIx_ok {e : Expr} (h : plainIxB e = true) : PlainIx e := by
  intro o i
  cases e <;> first | rfl | cases h
def biN : BI → Str
  | .len => "len" | .list => "list" | .tuple => "tuple" | .sorted => "sorted" | .mn => "min" | .mx => "max" | .all => "all" | .any => "any" | .abs => "abs" | .int => "int" | .sum => "sum"
  | .lrange => "list" | .trange => "tuple" | .trev => "tuple"
def bmN : BM → Str
  | .append => "append" | .extend => "extend" | .pop => "pop" | .popAt => "pop"
def tyN (G : Nm) : Ty → Option Str
  | .int => some "int" | .bool => some "bool" | .str => some "str" | .tup => some "tuple" | .lst => some "list" | .dct => some "dict" | .cls c => some (G.cn c) | .bi _ => some "ValueError"
  | .non => none
/-- an expression whose test is its value's truth -/
def plT : Expr → Bool
  | .Name .. => true | .Call .. => true | .Subscript .. => true | .Attribute .. => true | .Constant .. => true | .BinOp .. => true | .List .. => true | .Tuple .. => true | .ListComp .. => true
  | _ => false
theorem plT_ok {e : Expr} (h : plT e = true) (env : PySem.Env) : ∀ whole, isTrue e env whole = (do let v ← whole; standAt e.pos; holding [v] (truthy v)) := by
  intro whole
  cases e <;> first | rfl | cases h
def noSet : Expr → Bool
  | .Set .. => false
  | _ => true
mutual
def tgB : Tg → Ck → Expr → Bool
  | .nm i => fun c e => match e with
    | .Name x _ => decide (c.N[i]? = some x) && locB c x
    | _ => false
  | .tp ts => fun c e => match e with
    | .Tuple es _ _ => tgsB ts c es
    | _ => false
def tgsB : List Tg → Ck → List Expr → Bool
  | [] => fun _ es => match es with
    | [] => true
    | _ => false
  | t :: ts => fun c es => match es with
    | e :: es => tgB t c e && tgsB ts c es
    | [] => false
end
/-- no call of super -/
def noSup : Expr → Bool
  | .Call (.Name ..) [] [] _ => false
  | _ => true
mutual
/-- a target's slots are the comprehension's own -/
def tgOwn (own : List Nat) : Tg → Bool
  | .nm i => own.contains i
  | .tp ts => tgsOwn own ts
def tgsOwn (own : List Nat) : List Tg → Bool
  | [] => true
  | t :: ts => tgOwn own t && tgsOwn own ts
end
section
variable (T : Tab) (G : Nm)
mutual
def chk : E → Ck → Bool → Expr → Bool
  | .var i => fun c t e => match e with
    | .Name x _ => decide (c.N[i]? = some x) && (visB c.sc x && okNm x)
    | _ => false
  | .cst v => fun c t e => match e with
    | .Constant k _ _ => cstB v k
    | _ => false
  | .glo x v => fun c t e => match e with
    | .Name y _ => decide (G.gn x = y) && (glB c.sc y && (T.glo x v && okNm y))
    | _ => false
  | .tup es => fun c t e => match e with
    | .Tuple xs _ _ => decide (xs.length ≤ 1000) && chks es c xs
    | _ => false
  | .lst m es => fun c t e => match e with
    | .List xs _ => decide (xs.length ≤ 1000) && chks es c xs
    | _ => false
  | .dct0 m => fun c t e => match e with
    | .Dict [] [] _ => !t
    | _ => false
  | .bin m op a b => fun c t e => match e with
    | .BinOp x o y _ => opB op o && (chk a c false x && chk b c false y)
    | _ => false
  | .neg a => fun c t e => match e with
    | .UnaryOp .USub x _ => !t && chk a c false x
    | _ => false
  | .nt a => fun c t e => match e with
    | .UnaryOp .Not x _ => chk a c t x
    | _ => false
  | .cmp op a b => fun c t e => match e with
    | .Compare x [o] [y] _ => cmB op o && (!behindInMarks o y && (chk a c false x && chk b c false y))
    | _ => false
  | .chn op op' a b d => fun c t e => match e with
    | .Compare x [o, o'] [y, z] _ => cmB op o && (cmB op' o' && (!lastMarks [o, o'] [y, z] && (chk a c false x && (chk b c false y && chk d c false z))))
    | _ => false
  | .and a b => fun c t e => match e with
    | .BoolOp .And (x :: y :: r) p => chk a c t x && (match r with
      | [] => chk b c t y
      | z :: r' => chk b c t (.BoolOp .And (y :: z :: r') p))
    | _ => false
  | .or a b => fun c t e => match e with
    | .BoolOp .Or (x :: y :: r) p => chk a c t x && (match r with
      | [] => chk b c t y
      | z :: r' => chk b c t (.BoolOp .Or (y :: z :: r') p))
    | _ => false
  | .ite d a b => fun c t e => match e with
    | .IfExp z x y _ => !t && (chk d c true z && (chk a c false x && chk b c false y))
    | _ => false
  | .idx a b => fun c t e => match e with
    | .Subscript x y _ => plainIxB y && (chk a c false x && chk b c false y)
    | _ => false
  | .slc m a lo hi => fun c t e => match e with
    | .Subscript x (.Slice l h none _) _ => chk a c false x && (chkO lo c l && chkO hi c h)
    | _ => false
  | .call f es => fun c t e => match e with
    | .Call (.Name x _) (y :: ys) [] _ => decide (G.fq f = x) && (glB c.sc x && (okNm x && (T.gf f && chks es c (y :: ys))))
    | _ => false
  | .bi m b es => fun c t e => match b with
    | .lrange => (match e with
      | .Call (.Name x _) [.Call (.Name y _) ys [] _] [] _ => decide (x = "list") && (glB c.sc x && (decide (y = "range") && (glB c.sc y && chkR es c ys)))
      | _ => false)
    | .trange => (match e with
      | .Call (.Name x _) [.Call (.Name y _) ys [] _] [] _ => decide (x = "tuple") && (glB c.sc x && (decide (y = "range") && (glB c.sc y && chkR es c ys)))
      | _ => false)
    | .trev => (match e with
      | .Call (.Name x _) [.Call (.Name y _) [z] [] _] [] _ => decide (x = "tuple") && (glB c.sc x && (decide (y = "reversed") && (glB c.sc y && chks es c [z])))
      | _ => false)
    | b => (match e with
      | .Call (.Name x _) (y :: ys) [] _ => decide (x = biN b) && (glB c.sc x && chks es c (y :: ys))
      | _ => false)
  | .bm m b a es => fun c t e => match e with
    | .Call (.Attribute o n ap) xs [] cp => decide (n = bmN b) && (decide (ap.endLine = cp.line) && (noSup o && (chk a c false o && (decide (xs.length ≤ 3) && chks es c xs))))
    | _ => false
  | .isi a u => fun c t e => match e with
    | .Call (.Name f _) [x, .Name y _] [] _ => decide (f = "isinstance") && (glB c.sc f && (glB c.sc y && (okNm y && (decide (tyN G u = some y) && ((match u with | .cls d => T.hasC d | _ => true) && chk a c false x)))))
    | _ => false
  | .comp m own tg ik its cond elt => fun c t e => match e with
    | .ListComp el [⟨tx, ix, ifs, 0⟩] scope _ => blkC c.N c.sc scope (own.map fun i => ((c.N[i]?).getD "", i)) && (chkI ik its c tx ix &&
        (tgB tg ⟨c.N, relS scope c.sc, false⟩ tx && (tgOwn own tg && (chkC cond ⟨c.N, relS scope c.sc, false⟩ ifs && chk elt ⟨c.N, relS scope c.sc, false⟩ false el))))
    | _ => false
  | _ => fun _ _ _ => false
def chks : List E → Ck → List Expr → Bool
  | [] => fun _ xs => match xs with
    | [] => true
    | _ => false
  | a :: as => fun c xs => match xs with
    | x :: xs => chk a c false x && chks as c xs
    | [] => false
/-- a slice's part -/
def chkO : List E → Ck → Option Expr → Bool
  | [] => fun _ o => match o with
    | none => true
    | _ => false
  | a :: as => fun c o => match o with
    | some x => chk a c false x && (match as with | [] => true | _ => false)
    | none => false
/-- a range's arguments: one (with 0 ahead), or two -/
def chkR : List E → Ck → List Expr → Bool
  | [] => fun _ _ => false
  | a :: as => fun c xs => match xs with
    | [x] => (match a with | .cst (.int 0) => true | _ => false) && chks as c [x]
    | [x, y] => chk a c false x && chks as c [y]
    | _ => false
/-- a comprehension's test -/
def chkC : List E → Ck → List Expr → Bool
  | [] => fun _ xs => match xs with
    | [] => true
    | _ => false
  | a :: as => fun c xs => match xs with
    | [x] => chk a c true x && (match as with | [] => true | _ => false)
    | _ => false
/-- what is gone over -/
def chkI (ik : IK) : List E → Ck → Expr → Expr → Bool
  | [] => fun _ _ _ => false
  | a :: as => fun c tx e => match ik with
    | .seq => chk a c false e && (noSet e && (match as with | [] => true | _ => false))
    | .rng => (match e with
      | .Call (.Name y _) [x] [] _ => decide (y = "range") && (glB c.sc y && ((match a with | .cst (.int 0) => true | _ => false) && chks as c [x]))
      | .Call (.Name y _) [x, z] [] _ => decide (y = "range") && (glB c.sc y && (chk a c false x && chks as c [z]))
      | _ => false)
    | .enum => (match e, tx with
      | .Call (.Name y _) [x] [] _, .Tuple .. => decide (y = "enumerate") && (glB c.sc y && (chk a c false x && (match as with | [] => true | _ => false)))
      | _, _ => false)
    | .zip => (match e, tx with
      | .Call (.Name y _) [x, z] [] _, .Tuple .. => decide (y = "zip") && (glB c.sc y && (chk a c false x && chks as c [z]))
      | _, _ => false)
end
end
end IP

set_option Elab.async false
set_option linter.all false
set_option maxRecDepth 100000
set_option maxHeartbeats 2000000
/-! IPy7: expressions do what their instructions say. -/
namespace IP
open PySem PySem.Spec PyProof.Rows L2
def bnames : List Str := ["len", "list", "tuple", "sorted", "min", "max", "all", "any", "abs", "int", "sum", "range", "reversed", "isinstance", "enumerate", "zip", "bool", "str", "dict", "ValueError"]
/-- a def's promise -/
def spF (K : PySem.W.Frag) (G : Nm) (n : Nat) (r : List PV → Store → Res PV) : Sp := fun vs H Q E => vs.length = n ∧ ∃ μ S xs, SOk K G H μ S ∧ Dens K G H μ xs vs ∧ PostR K G (Den K G) (fun c d _ H => E c d H) [] μ H (r xs S) Q
/-- what is known where a piece of text stands -/
structure Fx (T : Tab) (G : Nm) (X : Cx) (cf : Nat → List PV → Store → Res PV) (k : Nat) : Prop where
  calm : X.calm = true
  nd : X.N.Nodup
  room : Room k X.A
  free : ∀ x ∈ bnames, X.mg x = none
  glo : ∀ x v, T.glo x v = true → ∃ u val, X.mg (G.gn x) = some val ∧ RelV u val ∧ ∀ H μ, Den X.K G H μ v u
  isi : ∀ u t b, T.isi u t = some b → PySem.W.kitOne X.K (tyVal X.K G u) (tyVal X.K G t) = some b
  cls : ∀ c, T.hasC c = true → X.mg (G.cn c) = some (.ref (cA X.K G c))
  xc : ∀ c, T.xc c = true → XC X.K (cA X.K G c)
  ic : ∀ c, T.ic c = true → IC X.K (cA X.K G c)
  rz : ∀ c, T.rz c = true → RzC X.K (cA X.K G c) ∧ T.hasC c = true
  exm : ∀ c d b, T.exm c d = some b → PySem.W.exmOne X.K (.ref (cA X.K G c)) (.ref (cA X.K G d)) = some b
  fns : ∀ f, T.gf f = true → ∃ fa fd ps, X.mg (G.fq f) = some (.ref fa) ∧ PySem.W.keepIn X.K (.ref fa) = true ∧ Binds X.K fd ps [] ∧ FnOk X.prog X.w X.K X.mg X.base (L2.CX X.prog X.w) k fa fd ps (spF X.K G ps.length (cf f)) ∧ ∀ xs S, xs.length ≠ ps.length → cf f xs S = .bad
section
variable {T : Tab} {G : Nm} {X : Cx} {cf : Nat → List PV → Store → Res PV} {k : Nat} {W : WX}
theorem Fx.u65 (F : Fx T G X cf k) : X.A.units + 65 < cLine := by have := F.room.un; omega
theorem Fx.blk (F : Fx T G X cf k) (s : Shared) (H : Hp) (scope : Scope) (cenv : PySem.Env) (fp : List Addr) : Fx T G (X.blk s H scope cenv fp) cf k :=
  ⟨F.calm, F.nd, F.room, F.free, F.glo, F.isi, F.cls, F.xc, F.ic, F.rz, F.exm, F.fns⟩
theorem PEw {e : Expr} {t t' : TE} (h : PE X e t) (w : ∀ σ H Q, t' σ H Q → t σ H Q) : PE X e t' := ⟨fun pins s σ H Q I q => h.run pins s σ H Q I (w σ H Q q)⟩
theorem PTw' {e : Expr} {t t' : TT} (h : PT X e t) (w : ∀ σ H Q, t' σ H Q → t σ H Q) : PT X e t' := ⟨fun pins s σ H Q I q => h.run pins s σ H Q I (w σ H Q q)⟩
theorem PAw {es : List Expr} {t t' : TA} (h : PA X es t) (w : ∀ σ H Q, t' σ H Q → t σ H Q) : PA X es t' := ⟨fun pos pins s σ H Q I q => h.run pos pins s σ H Q I (w σ H Q q)⟩
/-- a test from a value -/
theorem pt_of_pe {e : Expr} {ev : IP.Env → Store → Res PV} (h : PE X e (rE X.K G W ev)) (he : plT e = true) : PT X e (rT X.K G W ev) :=
  PTw' (pt_truth h (plT_ok he X.env)) fun σ H Q ⟨σp, μ, S, en, so, p⟩ => ⟨σp, μ, S, en, so, PostR.bnd p fun x v S' H' μ' st so' d p' => by
    split at p'
    · rename_i b hb
      exact ⟨b, truV_of so' d hb, PostR.now p' so' rfl⟩
    · exact p'.elim⟩
/-- what is said of an instruction -/
def Snd (T : Tab) (G : Nm) (cf : Nat → List PV → Store → Res PV) (ir : E) : Prop :=
  ∀ (k : Nat) (X : Cx) (W : WX) (c : Ck) (e : Expr), Fx T G X cf k → Takes X W → X.N = c.N → X.env.scope = c.sc →
    (chk T G ir c false e = true → PE X e (rE X.K G W (evE T cf ir))) ∧ (chk T G ir c true e = true → PT X e (rT X.K G W (evE T cf ir)))
def SndL (T : Tab) (G : Nm) (cf : Nat → List PV → Store → Res PV) (irs : List E) : Prop :=
  ∀ (k : Nat) (X : Cx) (W : WX) (c : Ck) (es : List Expr), Fx T G X cf k → Takes X W → X.N = c.N → X.env.scope = c.sc → chks T G irs c es = true → PA X es (rEs X.K G W (evEs T cf irs))
/-- where the checker asks nothing of the place -/
theorem snd_of {ir : E} (h : ∀ (k : Nat) (X : Cx) (W : WX) (c : Ck) (t : Bool) (e : Expr), Fx T G X cf k → Takes X W → X.N = c.N → X.env.scope = c.sc → chk T G ir c t e = true → PE X e (rE X.K G W (evE T cf ir)) ∧ (t = true → plT e = true)) : Snd T G cf ir :=
  fun k X W c e F tk h1 h2 => ⟨fun q => (h k X W c false e F tk h1 h2 q).1, fun q => let ⟨a, b⟩ := h k X W c true e F tk h1 h2 q; pt_of_pe a (b rfl)⟩
theorem chk_nostar {ir : E} {c : Ck} {t : Bool} {e : Expr} {p : Pos} (h : chk T G ir c t (.Starred e p) = true) : False := by
  cases ir
  case bi m b es => cases b <;> cases h
  all_goals cases h
theorem star_of {ir : E} {c : Ck} {t : Bool} {e : Expr} {es : List Expr} {env : PySem.Env} (h : chk T G ir c t e = true) : starEach (e :: es) env = (false, eval e env) :: starEach es env := by
  cases e <;> first | rfl | exact (chk_nostar h).elim
theorem stars_of {env : PySem.Env} {pos : Pos} : ∀ {irs : List E} {c : Ck} {es : List Expr}, chks T G irs c es = true → (backTo pos (starEach es env)).any (·.1) = false
  | [], _, [], _ => rfl
  | [], _, _ :: _, h => by cases h
  | _ :: _, _, [], h => by cases h
  | a :: as, c, e :: es, h => by
    have h' : (chk T G a c false e && chks T G as c es) = true := h
    rw [Bool.and_eq_true] at h'
    rw [star_of h'.1]
    show (false || (backTo pos (starEach es env)).any (·.1)) = false
    rw [stars_of h'.2]; rfl
theorem okNm_ok {x : Str} (h : okNm x = true) : (x == ("__debug__" : Str)) = false ∧ (x == ("__classdict__" : Str)) = false ∧ x ≠ "__name__" := by
  unfold okNm at h
  simp only [Bool.and_eq_true, decide_eq_true_eq, Bool.not_eq_true'] at h
  exact ⟨h.1, h.2.1, h.2.2⟩
theorem vis_of {sc : Scope} {x : Str} (h : visB sc x = true) : Vis sc x := by
  unfold visB at h
  split at h
  · exact .inl (by assumption)
  · exact .inr (.inl (by assumption))
  · exact .inr (.inr (by assumption))
  · cases h
theorem gl_of {c : Ck} {x : Str} (hs : X.env.scope = c.sc) (h : glB c.sc x = true) : Gl X x := by
  unfold glB at h
  split at h
  · show X.env.scope.names.lookup x = _
    rw [hs]; assumption
  · cases h
/-! ### leaves -/
theorem snd_var (i : Nat) : Snd T G cf (.var i) := snd_of fun k X W c t e F tk hN hs h => by
  cases e <;> try cases h
  rename_i x p
  simp only [chk, Bool.and_eq_true, decide_eq_true_eq] at h
  obtain ⟨h1, h2, h3⟩ := h
  obtain ⟨d1, d2, _⟩ := okNm_ok h3
  refine ⟨PEw (pe_var (i := i) (by rw [hN]; exact h1) (vis_of (by rw [hs]; exact h2)) d1 d2) fun σ H Q ⟨σp, μ, S, en, so, p⟩ => ?_, fun _ => rfl⟩
  simp only [evE] at p
  split at p
  · rename_i v hv
    obtain ⟨u, hu, du⟩ := en.get hv
    exact ⟨u, hu, p.now so du⟩
  · exact p.elim
theorem snd_cst (v : PV) : Snd T G cf (.cst v) := snd_of fun k X W c t e F tk hN hs h => by
  cases e <;> try cases h
  rename_i q kd p
  simp only [chk] at h
  refine ⟨?_, fun _ => rfl⟩
  unfold cstB at h
  split at h
  · have := of_decide_eq_true h; subst this
    exact PEw pe_int fun σ H Q ⟨σp, μ, S, en, so, p⟩ => PostR.now p so (.int _)
  · have := eq_of_beq h; subst this
    exact PEw pe_bl fun σ H Q ⟨σp, μ, S, en, so, p⟩ => PostR.now p so (.bl _)
  · exact PEw pe_non fun σ H Q ⟨σp, μ, S, en, so, p⟩ => PostR.now p so .non
  · rw [Bool.and_eq_true, decide_eq_true_eq] at h
    obtain ⟨h1, h2⟩ := h
    subst h1
    exact PEw pe_str fun σ H Q ⟨σp, μ, S, en, so, p⟩ => PostR.now p so (.str _ h2)
  · cases h
theorem snd_glo (x : Nat) (v : PV) : Snd T G cf (.glo x v) := snd_of fun k X W c t e F tk hN hs h => by
  cases e <;> try cases h
  rename_i y p
  simp only [chk, Bool.and_eq_true, decide_eq_true_eq] at h
  obtain ⟨h1, h2, h3, h4⟩ := h
  subst h1
  obtain ⟨d1, d2, d3⟩ := okNm_ok h4
  have g := gl_of hs h2
  refine ⟨?_, fun _ => rfl⟩
  obtain ⟨u, val, m, r, dn⟩ := F.glo x v h3
  exact PEw (pe_glob g m r d1) fun σ H Q ⟨σp, μ, S, en, so, p⟩ => PostR.now p so (dn H μ)
/-! ### argument lists -/
theorem sndl_nil : SndL T G cf [] := fun k X W c es F tk hN hs h => by
  cases es with
  | nil => exact PAw pa_nil fun σ H Q ⟨σp, μ, S, en, so, p⟩ => PostR.now p so .nil
  | cons => cases h
theorem sndl_cons {a : E} {as : List E} (ha : Snd T G cf a) (hr : SndL T G cf as) : SndL T G cf (a :: as) := fun k X W c es F tk hN hs h => by
  cases es with
  | nil => cases h
  | cons e es =>
    have h' : (chk T G a c false e && chks T G as c es) = true := h
    rw [Bool.and_eq_true] at h'
    refine PAw (pa_cons ((ha k X W c e F tk hN hs).1 h'.1) (hr k X W c es F tk hN hs h'.2) (star_of h'.1)) fun σ H Q ⟨σp, μ, S, en, so, p⟩ => ?_
    refine ⟨σp, μ, S, en, so, PostR.bnd p fun x v S1 H1 μ1 st1 so1 d1 p1 => ⟨σp, μ1, S1, en.stp st1, so1, PostR.bnd p1 fun xs vs S2 H2 μ2 st2 so2 d2 p2 => ?_⟩⟩
    exact PostR.now p2 so2 (.cons (d1.stp st2) d2)
theorem PostR.bndE {α β γ δ : Type} {K : PySem.W.Frag} {G : Nm} {D : Hp → List Addr → α → β → Prop} {D2 : Hp → List Addr → γ → δ → Prop} {W : WX} {σ : L2.St} {μ : List Addr} {H : Hp} {r : Res α} {g : α → Store → Res γ} {Q : δ → Hp → Prop} {k : β → Hp → Prop} (p : PostR K G D2 W σ μ H (r.bnd g) Q)
    (hk : ∀ x v S' H' μ', r = .ok x S' → Stp μ H μ' H' → SOk K G H' μ' S' → D H' μ' x v → PostR K G D2 W σ μ' H' (g x S') Q → k v H') : PostR K G D W σ μ H r k := by
  cases r with
  | ok x S => exact fun v H2 μ2 s2 so d => hk x v S H2 μ2 rfl s2 so d (PostR.weak (r := g x S) p s2)
  | exc c xs S => exact p
  | bad => exact p
theorem evEs_len : ∀ {es : List E} {σ : IP.Env} {S S' : Store} {xs : List PV}, evEs T cf es σ S = .ok xs S' → xs.length = es.length
  | [], _, _, _, _, h => by simp only [evEs] at h; cases h; rfl
  | e :: es, σ, S, S', xs, h => by
    simp only [evEs] at h
    cases h1 : evE T cf e σ S with
    | ok v S1 =>
      rw [h1, Res.bnd_ok] at h
      cases h2 : evEs T cf es σ S1 with
      | ok vs S2 =>
        rw [h2, Res.bnd_ok] at h
        cases h
        rw [List.length_cons, List.length_cons, evEs_len h2]
      | exc c ys S2 => rw [h2] at h; cases h
      | bad => rw [h2] at h; cases h
    | exc c ys S1 => rw [h1] at h; cases h
    | bad => rw [h1] at h; cases h
theorem chks_len : ∀ {irs : List E} {c : Ck} {es : List Expr}, chks T G irs c es = true → irs.length = es.length
  | [], _, [], _ => rfl
  | [], _, _ :: _, h => by cases h
  | _ :: _, _, [], h => by cases h
  | a :: as, c, e :: es, h => by
    have h' : (chk T G a c false e && chks T G as c es) = true := h
    rw [Bool.and_eq_true] at h'
    rw [List.length_cons, List.length_cons, chks_len h'.2]
theorem snd_tup {es : List E} (h0 : SndL T G cf es) : Snd T G cf (.tup es) := snd_of fun k X W c t e F tk hN hs h => by
  cases e <;> try cases h
  rename_i xs q p
  simp only [chk, Bool.and_eq_true, decide_eq_true_eq] at h
  refine ⟨PEw (pe_tup (h0 k X W c xs F tk hN hs h.2)) fun σ H Q ⟨σp, μ, S, en, so, p⟩ => ⟨σp, μ, S, en, so, PostR.bndE p fun ys vs S1 H1 μ1 er st1 so1 d1 p1 => ⟨?_, fun q nq => p1.tup so1 nq d1⟩⟩, fun _ => rfl⟩
  rw [← d1.length, evEs_len er, chks_len h.2, ← lim_eq, lim]; omega
theorem snd_lst {m : Bool} {es : List E} (h0 : SndL T G cf es) : Snd T G cf (.lst m es) := snd_of fun k X W c t e F tk hN hs h => by
  cases e <;> try cases h
  rename_i xs p
  simp only [chk, Bool.and_eq_true, decide_eq_true_eq] at h
  refine ⟨PEw (pe_lst (h0 k X W c xs F tk hN hs h.2)) fun σ H Q ⟨σp, μ, S, en, so, p⟩ => ⟨σp, μ, S, en, so, PostR.bndE p fun ys vs S1 H1 μ1 er st1 so1 d1 p1 => ⟨?_, fun q nq => p1.lst so1 nq d1⟩⟩, fun _ => rfl⟩
  rw [← d1.length, evEs_len er, chks_len h.2, ← lim_eq, lim]; omega
end
end IP

set_option Elab.async false
set_option linter.all false
set_option maxRecDepth 100000
set_option maxHeartbeats 2000000
/-! IPy8: operations in the text. -/
namespace IP
open PySem PySem.Spec PyProof.Rows L2
section
variable {T : Tab} {G : Nm} {X : Cx} {cf : Nat → List PV → Store → Res PV} {k : Nat} {W : WX}
theorem snd_bin {m : Bool} {op : IOp} {a b : E} (ha : Snd T G cf a) (hb : Snd T G cf b) : Snd T G cf (.bin m op a b) := snd_of fun k X W c t e F tk hN hs h => by
  cases e <;> try cases h
  rename_i x o y p
  simp only [chk, Bool.and_eq_true, decide_eq_true_eq] at h
  obtain ⟨h1, h2, h3⟩ := h
  have := opB_ok h1; subst this
  refine ⟨PEw (pe_op (opr_bin (G := G) op m) ((ha k X W c x F tk hN hs).1 h2) ((hb k X W c y F tk hN hs).1 h3)) fun σ H Q ⟨σp, μ, S, en, so, p⟩ => ?_, fun _ => rfl⟩
  exact ⟨σp, μ, S, en, so, PostR.bnd p fun x v S1 H1 μ1 st1 so1 d1 p1 => ⟨σp, μ1, S1, en.stp st1, so1, PostR.bnd p1 fun y u S2 H2 μ2 st2 so2 d2 p2 => ⟨W, σ, μ2, S2, x, y, so2, d1.stp st2, d2, p2⟩⟩⟩
theorem snd_neg {a : E} (ha : Snd T G cf a) : Snd T G cf (.neg a) := fun k X W c e F tk hN hs => by
  refine ⟨fun h => ?_, fun h => ?_⟩
  · cases e <;> try cases h
    rename_i o x p
    cases o <;> try cases h
    simp only [chk, Bool.and_eq_true] at h
    refine PEw (pe_un un_neg ((ha k X W c x F tk hN hs).1 h.2)) fun σ H Q ⟨σp, μ, S, en, so, p⟩ => ⟨σp, μ, S, en, so, PostR.bnd p fun x v S1 H1 μ1 st1 so1 d1 p1 => ?_⟩
    split at p1
    · cases d1
      exact ⟨_, rfl, p1.now so1 (.int _)⟩
    · exact p1.elim
  · cases e <;> try cases h
    rename_i o x p
    cases o <;> cases h
theorem snd_nt {a : E} (ha : Snd T G cf a) : Snd T G cf (.nt a) := fun k X W c e F tk hN hs => by
  refine ⟨fun h => ?_, fun h => ?_⟩
  · cases e <;> try cases h
    rename_i o x p
    cases o <;> try cases h
    refine PEw (pe_notT ((ha k X W c x F tk hN hs).1 h)) fun σ H Q ⟨σp, μ, S, en, so, p⟩ => ⟨σp, μ, S, en, so, PostR.bnd p fun x v S1 H1 μ1 st1 so1 d1 p1 => ?_⟩
    split at p1
    · rename_i k ek
      exact ⟨_, truV_of so1 d1 ek, p1.now so1 (.bl _)⟩
    · exact p1.elim
  · cases e <;> try cases h
    rename_i o x p
    cases o <;> try cases h
    refine PTw' (pt_not ((ha k X W c x F tk hN hs).2 h)) fun σ H Q ⟨σp, μ, S, en, so, p⟩ => ⟨σp, μ, S, en, so, ?_⟩
    have e : tst (evE T cf (.nt a)) σp S = (tst (evE T cf a) σp S).bnd fun b S => .ok (!b) S := by
      simp only [tst, evE]
      cases evE T cf a σp S with
      | ok x S1 =>
        simp only [Res.bnd_ok]
        cases truth S1 x <;> rfl
      | exc => rfl
      | bad => rfl
    rw [e] at p
    exact PostR.bnd p fun b v S1 H1 μ1 st1 so1 d1 p1 => by
      cases d1
      exact p1.now so1 rfl
theorem bool_cmp {op : ICmp} {x y v : PV} {S S' : Store} (h : cmpP op x y S = .ok v S') : ∃ b, v = .bl b := by
  cases op <;> simp only [cmpP, eqQ, inQ, isQ, iiP] at h <;> (repeat' split at h) <;> first | (cases h; done) | (cases h; exact ⟨_, rfl⟩)
theorem snd_cmp {op : ICmp} {a b : E} (ha : Snd T G cf a) (hb : Snd T G cf b) : Snd T G cf (.cmp op a b) := fun k X W c e F tk hN hs => by
  have key : ∀ {x y : Expr}, (chk T G a c false x = true) → (chk T G b c false y = true) → PE X x (rE X.K G W (evE T cf a)) ∧ PE X y (rE X.K G W (evE T cf b)) := fun h1 h2 => ⟨(ha k X W c _ F tk hN hs).1 h1, (hb k X W c _ F tk hN hs).1 h2⟩
  refine ⟨fun h => ?_, fun h => ?_⟩
  · cases e <;> try cases h
    rename_i x os ys p
    cases os with
    | nil => cases h
    | cons o os => cases os with
      | cons => cases h
      | nil => cases ys with
        | nil => cases h
        | cons y ys => cases ys with
          | cons => cases h
          | nil =>
            simp only [chk, Bool.and_eq_true, Bool.not_eq_true'] at h
            obtain ⟨h1, h2, h3, h4⟩ := h
            have := cmB_ok h1; subst this
            obtain ⟨pa, pb⟩ := key h3 h4
            refine PEw (pe_cmpR (opr_cmp (G := G) op F.u65) pa pb h2) fun σ H Q ⟨σp, μ, S, en, so, p⟩ => ?_
            exact ⟨σp, μ, S, en, so, PostR.bnd p fun x v S1 H1 μ1 st1 so1 d1 p1 => ⟨σp, μ1, S1, en.stp st1, so1, PostR.bnd p1 fun y u S2 H2 μ2 st2 so2 d2 p2 => ⟨W, σ, μ2, S2, x, y, so2, d1.stp st2, d2, p2⟩⟩⟩
  · cases e <;> try cases h
    rename_i x os ys p
    cases os with
    | nil => cases h
    | cons o os => cases os with
      | cons => cases h
      | nil => cases ys with
        | nil => cases h
        | cons y ys => cases ys with
          | cons => cases h
          | nil =>
            simp only [chk, Bool.and_eq_true, Bool.not_eq_true'] at h
            obtain ⟨h1, h2, h3, h4⟩ := h
            have := cmB_ok h1; subst this
            obtain ⟨pa, pb⟩ := key h3 h4
            refine PTw' (pt_cmpR (opr_cmp (G := G) op F.u65) pa pb h2) fun σ H Q ⟨σp, μ, S, en, so, p⟩ => ?_
            have as : tst (evE T cf (.cmp op a b)) σp S = (evE T cf a σp S).bnd fun x S => (evE T cf b σp S).bnd fun y S => (cmpP op x y S).bnd fun v S => match truth S v with
                | some b => .ok b S
                | none => .bad := by
              simp only [tst, evE]
              cases evE T cf a σp S with
              | ok x S1 =>
                simp only [Res.bnd_ok]
                cases evE T cf b σp S1 <;> rfl
              | exc => rfl
              | bad => rfl
            rw [as] at p
            exact ⟨σp, μ, S, en, so, PostR.bnd p fun x v S1 H1 μ1 st1 so1 d1 p1 => ⟨σp, μ1, S1, en.stp st1, so1, PostR.bnd p1 fun y u S2 H2 μ2 st2 so2 d2 p2 => ⟨W, σ, μ2, S2, x, y, so2, d1.stp st2, d2, PostR.bndE p2 fun z w S3 H3 μ3 er st3 so3 d3 p3 => by
              obtain ⟨b, rfl⟩ := bool_cmp er
              cases d3
              exact ⟨b, rfl, p3.now so3 rfl⟩⟩⟩⟩
theorem snd_idx {a b : E} (ha : Snd T G cf a) (hb : Snd T G cf b) : Snd T G cf (.idx a b) := snd_of fun k X W c t e F tk hN hs h => by
  cases e <;> try cases h
  rename_i x y p
  simp only [chk, Bool.and_eq_true, decide_eq_true_eq] at h
  obtain ⟨h1, h2, h3⟩ := h
  refine ⟨PEw (pe_ix (ixr_idx (G := G)) ((ha k X W c x F tk hN hs).1 h2) ((hb k X W c y F tk hN hs).1 h3) (plainIx_ok h1)) fun σ H Q ⟨σp, μ, S, en, so, p⟩ => ?_, fun _ => rfl⟩
  exact ⟨σp, μ, S, en, so, PostR.bnd p fun x v S1 H1 μ1 st1 so1 d1 p1 => ⟨σp, μ1, S1, en.stp st1, so1, PostR.bnd p1 fun y u S2 H2 μ2 st2 so2 d2 p2 => ⟨W, σ, μ2, S2, x, y, so2, d1.stp st2, d2, p2⟩⟩⟩
theorem snd_ite {d a b : E} (hd : Snd T G cf d) (ha : Snd T G cf a) (hb : Snd T G cf b) : Snd T G cf (.ite d a b) := fun k X W c e F tk hN hs => by
  refine ⟨fun h => ?_, fun h => ?_⟩
  · cases e <;> try cases h
    rename_i z x y p
    simp only [chk, Bool.and_eq_true] at h
    obtain ⟨_, h1, h2, h3⟩ := h
    refine PEw (pe_ifExp ((hd k X W c z F tk hN hs).2 h1) ((ha k X W c x F tk hN hs).1 h2) ((hb k X W c y F tk hN hs).1 h3)) fun σ H Q ⟨σp, μ, S, en, so, p⟩ => ⟨σp, μ, S, en, so, ?_⟩
    have e : evE T cf (.ite d a b) σp S = (tst (evE T cf d) σp S).bnd fun q S => if q = true then evE T cf a σp S else evE T cf b σp S := by
      simp only [tst, evE]
      cases evE T cf d σp S with
      | ok x S1 =>
        simp only [Res.bnd_ok]
        cases truth S1 x with
        | none => rfl
        | some q => cases q <;> rfl
      | exc => rfl
      | bad => rfl
    rw [e] at p
    exact PostR.bnd p fun q v S1 H1 μ1 st1 so1 d1 p1 => by
      cases d1
      cases q with
      | true => exact ⟨σp, μ1, S1, en.stp st1, so1, p1⟩
      | false => exact ⟨σp, μ1, S1, en.stp st1, so1, p1⟩
  · cases e <;> try cases h
theorem pw_bool {op : BoolOp} {es : List Expr} {p : Pos} {t : TT} (h : PT X (.BoolOp op es p) t) : PW X (.BoolOp op es p) t := ⟨fun wh pins s σ H Q I q => h.run pins s σ H Q I q⟩
theorem snd_and {a b : E} (ha : Snd T G cf a) (hb : Snd T G cf b) : Snd T G cf (.and a b) := fun k X W c e F tk hN hs => by
  refine ⟨fun h => ?_, fun h => ?_⟩
  · cases e <;> try cases h
    rename_i o es p
    cases o <;> try cases h
    cases es with
    | nil => cases h
    | cons x es => cases es with
      | nil => cases h
      | cons y r =>
        simp only [chk, Bool.and_eq_true] at h
        have hb2 : PE X (.BoolOp .And (y :: r) p) (rE X.K G W (evE T cf b)) := by
          cases r with
          | nil => exact pe_one ((hb k X W c y F tk hN hs).1 h.2)
          | cons z r' => exact (hb k X W c _ F tk hN hs).1 h.2
        refine PEw (pe_andT ((ha k X W c x F tk hN hs).1 h.1) hb2) fun σ H Q ⟨σp, μ, S, en, so, p⟩ => ⟨σp, μ, S, en, so, PostR.bnd p fun x v S1 H1 μ1 st1 so1 d1 p1 => ?_⟩
        split at p1
        · rename_i e1; exact ⟨true, truV_of so1 d1 e1, σp, μ1, S1, en.stp st1, so1, p1⟩
        · rename_i e1; exact ⟨false, truV_of so1 d1 e1, p1.now so1 d1⟩
        · exact p1.elim
  · cases e <;> try cases h
    rename_i o es p
    cases o <;> try cases h
    cases es with
    | nil => cases h
    | cons x es => cases es with
      | nil => cases h
      | cons y r =>
        simp only [chk, Bool.and_eq_true] at h
        have hb2 : PW X (.BoolOp .And (y :: r) p) (rT X.K G W (evE T cf b)) := by
          cases r with
          | nil => exact pw_and1 ((hb k X W c y F tk hN hs).2 h.2)
          | cons z r' => exact pw_bool ((hb k X W c _ F tk hN hs).2 h.2)
        refine PTw' (pw_and ((ha k X W c x F tk hN hs).2 h.1) hb2).pt fun σ H Q ⟨σp, μ, S, en, so, p⟩ => ⟨σp, μ, S, en, so, ?_⟩
        have e : tst (evE T cf (.and a b)) σp S = (tst (evE T cf a) σp S).bnd fun q S => if q = true then tst (evE T cf b) σp S else .ok false S := by
          simp only [tst, evE]
          cases evE T cf a σp S with
          | ok x S1 =>
            simp only [Res.bnd_ok]
            cases e1 : truth S1 x with
            | none => rfl
            | some q => cases q with
              | true => rfl
              | false => simp only [Res.bnd_ok, e1]; rfl
          | exc => rfl
          | bad => rfl
        rw [e] at p
        exact PostR.bnd p fun q v S1 H1 μ1 st1 so1 d1 p1 => by
          cases d1
          cases q with
          | true => exact ⟨σp, μ1, S1, en.stp st1, so1, p1⟩
          | false => exact p1.now so1 rfl
theorem snd_or {a b : E} (ha : Snd T G cf a) (hb : Snd T G cf b) : Snd T G cf (.or a b) := fun k X W c e F tk hN hs => by
  refine ⟨fun h => ?_, fun h => ?_⟩
  · cases e <;> try cases h
    rename_i o es p
    cases o <;> try cases h
    cases es with
    | nil => cases h
    | cons x es => cases es with
      | nil => cases h
      | cons y r =>
        simp only [chk, Bool.and_eq_true] at h
        have hb2 : PE X (.BoolOp .Or (y :: r) p) (rE X.K G W (evE T cf b)) := by
          cases r with
          | nil => exact pe_one ((hb k X W c y F tk hN hs).1 h.2)
          | cons z r' => exact (hb k X W c _ F tk hN hs).1 h.2
        refine PEw (pe_orT ((ha k X W c x F tk hN hs).1 h.1) hb2) fun σ H Q ⟨σp, μ, S, en, so, p⟩ => ⟨σp, μ, S, en, so, PostR.bnd p fun x v S1 H1 μ1 st1 so1 d1 p1 => ?_⟩
        split at p1
        · rename_i e1; exact ⟨true, truV_of so1 d1 e1, p1.now so1 d1⟩
        · rename_i e1; exact ⟨false, truV_of so1 d1 e1, σp, μ1, S1, en.stp st1, so1, p1⟩
        · exact p1.elim
  · cases e <;> try cases h
    rename_i o es p
    cases o <;> try cases h
    cases es with
    | nil => cases h
    | cons x es => cases es with
      | nil => cases h
      | cons y r =>
        simp only [chk, Bool.and_eq_true] at h
        have hb2 : PW X (.BoolOp .Or (y :: r) p) (rT X.K G W (evE T cf b)) := by
          cases r with
          | nil => exact pw_or1 ((hb k X W c y F tk hN hs).2 h.2)
          | cons z r' => exact pw_bool ((hb k X W c _ F tk hN hs).2 h.2)
        refine PTw' (pw_or ((ha k X W c x F tk hN hs).2 h.1) hb2).pt fun σ H Q ⟨σp, μ, S, en, so, p⟩ => ⟨σp, μ, S, en, so, ?_⟩
        have e : tst (evE T cf (.or a b)) σp S = (tst (evE T cf a) σp S).bnd fun q S => if q = true then .ok true S else tst (evE T cf b) σp S := by
          simp only [tst, evE]
          cases evE T cf a σp S with
          | ok x S1 =>
            simp only [Res.bnd_ok]
            cases e1 : truth S1 x with
            | none => rfl
            | some q => cases q with
              | true => simp only [Res.bnd_ok, e1]; rfl
              | false => rfl
          | exc => rfl
          | bad => rfl
        rw [e] at p
        exact PostR.bnd p fun q v S1 H1 μ1 st1 so1 d1 p1 => by
          cases d1
          cases q with
          | true => exact p1.now so1 rfl
          | false => exact ⟨σp, μ1, S1, en.stp st1, so1, p1⟩
theorem snd_chn {op op' : ICmp} {a b d : E} (ha : Snd T G cf a) (hb : Snd T G cf b) (hd : Snd T G cf d) : Snd T G cf (.chn op op' a b d) := fun k X W c e F tk hN hs => by
  have key : ∀ {t : Bool}, chk T G (.chn op op' a b d) c t e = true → ∃ x y z p, e = .Compare x [cmA op, cmA op'] [y, z] p ∧ lastMarks [cmA op, cmA op'] [y, z] = false ∧ PE X x (rE X.K G W (evE T cf a)) ∧ PE X y (rE X.K G W (evE T cf b)) ∧ PE X z (rE X.K G W (evE T cf d)) := fun {t} h => by
    cases e <;> try cases h
    rename_i x os ys p
    cases os with
    | nil => cases h
    | cons o os => cases os with
      | nil => cases h
      | cons o' os => cases os with
        | cons => cases h
        | nil => cases ys with
          | nil => cases h
          | cons y ys => cases ys with
            | nil => cases h
            | cons z ys => cases ys with
              | cons => cases h
              | nil =>
                simp only [chk, Bool.and_eq_true, Bool.not_eq_true'] at h
                obtain ⟨h1, h2, h3, h4, h5, h6⟩ := h
                have := cmB_ok h1; subst this
                have := cmB_ok h2; subst this
                exact ⟨x, y, z, p, rfl, h3, (ha k X W c x F tk hN hs).1 h4, (hb k X W c y F tk hN hs).1 h5, (hd k X W c z F tk hN hs).1 h6⟩
  refine ⟨fun h => ?_, fun h => ?_⟩
  · obtain ⟨x, y, z, p, rfl, hm, pa, pb, pd⟩ := key h
    refine PEw (pe_chain (opr_cmp (G := G) op F.u65) (opr_cmp (G := G) op' F.u65) pa pb pd hm) fun σ H Q ⟨σp, μ, S, en, so, p⟩ => ?_
    refine ⟨σp, μ, S, en, so, PostR.bnd p fun x v S1 H1 μ1 st1 so1 d1 p1 => ⟨σp, μ1, S1, en.stp st1, so1, PostR.bnd p1 fun y u S2 H2 μ2 st2 so2 d2 p2 => ⟨W, σ, μ2, S2, x, y, so2, d1.stp st2, d2, PostR.bndE p2 fun r w S3 H3 μ3 er st3 so3 d3 p3 => ?_⟩⟩⟩
    obtain ⟨q, rfl⟩ := bool_cmp er
    cases d3
    refine ⟨q, rfl, ?_⟩
    cases q with
    | false => exact p3.now so3 (.bl _)
    | true =>
      refine ⟨σp, μ3, S3, ((en.stp st1).stp st2).stp st3, so3, PostR.bnd p3 fun z w S4 H4 μ4 st4 so4 d4 p4 => ⟨W, σ, μ4, S4, y, z, so4, (d2.stp st3).stp st4, d4, p4⟩⟩
  · obtain ⟨x, y, z, p, rfl, hm, pa, pb, pd⟩ := key h
    refine PTw' (pt_chain (opr_cmp (G := G) op F.u65) (opr_cmp (G := G) op' F.u65) pa pb pd hm) fun σ H Q ⟨σp, μ, S, en, so, p⟩ => ?_
    have as : tst (evE T cf (.chn op op' a b d)) σp S = (evE T cf a σp S).bnd fun x S => (evE T cf b σp S).bnd fun y S => (cmpP op x y S).bnd fun r S => match r with
        | .bl true => (evE T cf d σp S).bnd fun z S => (cmpP op' y z S).bnd fun v S => match truth S v with
          | some b => .ok b S
          | none => .bad
        | .bl false => .ok false S
        | _ => .bad := by
      simp only [tst, evE]
      cases evE T cf a σp S with
      | ok x S1 =>
        simp only [Res.bnd_ok]
        cases evE T cf b σp S1 with
        | ok y S2 =>
          simp only [Res.bnd_ok]
          cases cmpP op x y S2 with
          | ok r S3 =>
            simp only [Res.bnd_ok]
            cases r with
            | bl q => cases q with
              | true => cases evE T cf d σp S3 <;> rfl
              | false => rfl
            | _ => rfl
          | exc => rfl
          | bad => rfl
        | exc => rfl
        | bad => rfl
      | exc => rfl
      | bad => rfl
    rw [as] at p
    refine ⟨σp, μ, S, en, so, PostR.bnd p fun x v S1 H1 μ1 st1 so1 d1 p1 => ⟨σp, μ1, S1, en.stp st1, so1, PostR.bnd p1 fun y u S2 H2 μ2 st2 so2 d2 p2 => ⟨W, σ, μ2, S2, x, y, so2, d1.stp st2, d2, PostR.bndE p2 fun r w S3 H3 μ3 er st3 so3 d3 p3 => ?_⟩⟩⟩
    obtain ⟨q, rfl⟩ := bool_cmp er
    cases d3
    refine ⟨q, rfl, ?_⟩
    cases q with
    | false => exact ⟨false, rfl, p3.now so3 rfl⟩
    | true =>
      refine ⟨σp, μ3, S3, ((en.stp st1).stp st2).stp st3, so3, PostR.bnd p3 fun z w S4 H4 μ4 st4 so4 d4 p4 => ⟨W, σ, μ4, S4, y, z, so4, (d2.stp st3).stp st4, d4, PostR.bndE p4 fun r' w' S5 H5 μ5 er' st5 so5 d5 p5 => ?_⟩⟩
      obtain ⟨q', rfl⟩ := bool_cmp er'
      cases d5
      exact ⟨q', rfl, p5.now so5 rfl⟩
def EqO (_ : Hp) (_ : List Addr) (a b : Option Int) : Prop := a = b
/-- a slice's parts -/
theorem po_of {es : List E} (h0 : SndL T G cf es) (h1 : ∀ a ∈ es, Snd T G cf a) {c : Ck} {o : Option Expr} (F : Fx T G X cf k) (tk : Takes X W) (hN : X.N = c.N) (hs : X.env.scope = c.sc) (h : chkO T G es c o = true) :
    PO X o (rd X.K G EqO W (fun σ S => ptR (evEs T cf es σ S))) := by
  cases es with
  | nil => cases o with
    | none => exact ⟨fun pins s σ H Q I ⟨σp, μ, S, en, so, p⟩ => po_none.run pins s σ H Q I (PostR.now p so rfl)⟩
    | some => cases h
  | cons a as => cases o with
    | none => cases h
    | some e => cases as with
      | cons => simp [chkO] at h
      | nil =>
        simp only [chkO, Bool.and_eq_true] at h
        refine ⟨fun pins s σ H Q I ⟨σp, μ, S, en, so, p⟩ => (po_some ((h1 a (by simp) k X W c e F tk hN hs).1 h.1)).run pins s σ H Q I ⟨σp, μ, S, en, so, ?_⟩⟩
        have as : ptR (evEs T cf [a] σp S) = (evE T cf a σp S).bnd fun x S => match x with
          | .int i => .ok (some i) S
          | _ => .bad := by
          simp only [ptR, evEs]
          cases evE T cf a σp S with
          | ok x S1 => simp only [Res.bnd_ok]; cases x <;> rfl
          | exc => rfl
          | bad => rfl
        simp only [as] at p
        refine PostR.bnd p fun x v S1 H1 μ1 st1 so1 d1 p1 => ?_
        split at p1
        · cases d1
          exact ⟨_, rfl, p1.now so1 rfl⟩
        · exact p1.elim
theorem snd_slc {m : Bool} {a : E} {lo hi : List E} (ha : Snd T G cf a) (hl : SndL T G cf lo) (hl1 : ∀ a ∈ lo, Snd T G cf a) (hh : SndL T G cf hi) (hh1 : ∀ a ∈ hi, Snd T G cf a) : Snd T G cf (.slc m a lo hi) := snd_of fun k X W c t e F tk hN hs h => by
  cases e <;> try cases h
  rename_i x y p
  cases y <;> try cases h
  rename_i l u st p2
  cases st with
  | some => cases h
  | none =>
    simp only [chk, Bool.and_eq_true] at h
    obtain ⟨h1, h2, h3⟩ := h
    refine ⟨PEw (pe_slice (slr_slc (G := G) m) ((ha k X W c x F tk hN hs).1 h1) (po_of hl hl1 F tk hN hs h2) (po_of hh hh1 F tk hN hs h3)) fun σ H Q ⟨σp, μ, S, en, so, p⟩ => ?_, fun _ => rfl⟩
    refine ⟨σp, μ, S, en, so, PostR.bnd p fun x v S1 H1 μ1 st1 so1 d1 p1 => ⟨σp, μ1, S1, en.stp st1, so1, PostR.bnd p1 fun y u S2 H2 μ2 st2 so2 d2 p2 => ⟨σp, μ2, S2, (en.stp st1).stp st2, so2, PostR.bnd p2 fun z w S3 H3 μ3 st3 so3 d3 p3 => ?_⟩⟩⟩
    cases d2; cases d3
    exact ⟨W, σ, μ3, S3, x, so3, (d1.stp st2).stp st3, p3⟩
theorem snd_dct0 {m : Bool} : Snd T G cf (.dct0 m) := fun k X W c e F tk hN hs => by
  refine ⟨fun h => ?_, fun h => ?_⟩
  · cases e <;> try cases h
    rename_i ks vs p
    cases ks <;> cases vs <;> try cases h
    refine PEw pe_dnewK fun σ H Q ⟨σp, μ, S, en, so, p⟩ q nq => ?_
    cases m with
    | false => exact PostR.fresh p so nq (.dct upd_same (so.nnew nq) .nil .nil)
    | true =>
      obtain ⟨s1, s2⟩ := so.push (so := .dct [] []) (o := .dK []) nq ⟨[], upd_same, .nil, .nil⟩
      exact p _ _ _ s1 s2 (.ref (by rw [← so.len, List.getElem?_append_right (Nat.le_refl _)]; simp))
  · cases e <;> try cases h
    rename_i ks vs p
    cases ks <;> cases vs <;> cases h
theorem snd_call {f : Nat} {es : List E} (h0 : SndL T G cf es) : Snd T G cf (.call f es) := snd_of fun k X W c t e F tk hN hs h => by
  cases e <;> try cases h
  rename_i g xs ks p
  cases g <;> try cases h
  rename_i x p2
  cases xs with
  | nil => cases h
  | cons y ys => cases ks with
    | cons => cases h
    | nil =>
      simp only [chk, Bool.and_eq_true, decide_eq_true_eq] at h
      obtain ⟨h1, h2, h3, h4, h5⟩ := h
      subst h1
      obtain ⟨fa, fd, ps, m1, m2, m3, m4, m5⟩ := F.fns f h4
      have hst : starEach (y :: ys) X.env = (false, eval y X.env) :: starEach ys X.env := by
        cases es with
        | nil => cases h5
        | cons a as =>
          have h5' : (chk T G a c false y && chks T G as c ys) = true := h5
          rw [Bool.and_eq_true] at h5'
          exact star_of h5'.1
      have hpl : (backTo p (starEach ys X.env)).any (·.1) = false := by
        cases es with
        | nil => cases h5
        | cons a as =>
          have h5' : (chk T G a c false y && chks T G as c ys) = true := h5
          rw [Bool.and_eq_true] at h5'
          exact stars_of h5'.2
      refine ⟨PEw (pe_callS m4 F.room (gl_of hs h2) m1 m2 m3 (fun σ => passAt tk σ) (h0 k X W c (y :: ys) F tk hN hs h5) (okNm_ok h3).1 hst hpl) fun σ H Q ⟨σp, μ, S, en, so, p⟩ => ?_, fun _ => rfl⟩
      refine ⟨σp, μ, S, en, so, PostR.bnd p fun xs vs S1 H1 μ1 st1 so1 d1 p1 => ?_⟩
      have hl : vs.length = ps.length := by
        rw [← d1.length]
        by_cases q : xs.length = ps.length
        · exact q
        · rw [m5 xs S1 q] at p1; exact p1.elim
      refine ⟨hl, μ1, S1, xs, so1, d1, ?_⟩
      cases hr : cf f xs S1 with
      | ok r S2 => rw [hr] at p1; exact p1
      | exc c ys S2 => rw [hr] at p1; exact p1
      | bad => rw [hr] at p1; exact p1
end
end IP

set_option Elab.async false
set_option linter.all false
set_option maxRecDepth 100000
set_option maxHeartbeats 2000000
/-! IPy9: built-ins, methods of lists, isinstance. -/
namespace IP
open PySem PySem.Spec PyProof.Rows L2
section
variable {T : Tab} {G : Nm} {X : Cx} {cf : Nat → List PV → Store → Res PV} {k : Nat} {W : WX}
theorem bt_all : ∀ b f, biV b = some f → bootBuiltins (biN b) = some f ∧ biN b ∈ bnames ∧ (biN b == ("__debug__" : Str)) = false ∧ biN b ≠ "__name__" := by
  intro b f h
  cases b <;> (try cases h) <;> refine ⟨?_, ?_, ?_, ?_⟩ <;> decide +kernel
theorem chks_star {es : List E} {c : Ck} {y : Expr} {ys : List Expr} {env : PySem.Env} {p : Pos} (h : chks T G es c (y :: ys) = true) : starEach (y :: ys) env = (false, eval y env) :: starEach ys env ∧ (backTo p (starEach ys env)).any (·.1) = false := by
  cases es with
  | nil => cases h
  | cons a as =>
    have h5 : (chk T G a c false y && chks T G as c ys) = true := h
    rw [Bool.and_eq_true] at h5
    exact ⟨star_of h5.1, stars_of h5.2⟩
/-- a built-in called with values -/
theorem pe_bi {b : BI} {m : Bool} {es : List E} {f : Value} (hf : biV b = some f) (h0 : SndL T G cf es) {c : Ck} {y : Expr} {ys : List Expr} {p p2 : Pos} (F : Fx T G X cf k) (tk : Takes X W) (hN : X.N = c.N) (hs : X.env.scope = c.sc)
    (hg : glB c.sc (biN b) = true) (h : chks T G es c (y :: ys) = true) : PE X (.Call (.Name (biN b) p2) (y :: ys) [] p) (rE X.K G W (evE T cf (.bi m b es))) := by
  obtain ⟨b1, b2, b3, b4⟩ := bt_all b f hf
  obtain ⟨s1, s2⟩ := chks_star (env := X.env) (p := p) h
  have key : PE X (.Call (.Name (biN b) p2) (y :: ys) [] p) (tCB (RC X.K G (biP m b)) (rEs X.K G W (evEs T cf es))) := by
    have hc := clr_bi (X := X) (G := G) F.calm m b f hf
    have hx : (∃ n, f = .builtin n) ∨ ∃ n, f = .type n := by
      cases b <;> cases hf <;> first | exact .inl ⟨_, rfl⟩ | exact .inr ⟨_, rfl⟩
    rcases hx with ⟨n, rfl⟩ | ⟨n, rfl⟩
    · exact pe_callB hc (gl_of hs hg) (F.free _ b2) b1 (h0 k X W c _ F tk hN hs h) b4 b3 s1 s2
    · exact pe_callTy hc (gl_of hs hg) (F.free _ b2) b1 (h0 k X W c _ F tk hN hs h) b4 b3 s1 s2
  exact PEw key fun σ H Q ⟨σp, μ, S, en, so, p⟩ => ⟨σp, μ, S, en, so, PostR.bnd p fun xs vs S1 H1 μ1 st1 so1 d1 p1 => ⟨W, σ, μ1, S1, xs, so1, d1, p1⟩⟩
/-! ### range(..) -/
def evR (r : Res (List PV)) : Res (Int × Int) := r.bnd fun vs S => match vs with
  | [.int i, .int j] => .ok (i, j) S
  | _ => .bad
def EqI (_ : Hp) (_ : List Addr) (a b : Int × Int) : Prop := a = b
theorem prg_of {es : List E} (h0 : SndL T G cf es) (h1 : ∀ a ∈ es, Snd T G cf a) {c : Ck} {ys : List Expr} {p p2 : Pos} (F : Fx T G X cf k) (tk : Takes X W) (hN : X.N = c.N) (hs : X.env.scope = c.sc)
    (hg : glB c.sc "range" = true) (h : chkR T G es c ys = true) : PRg X (.Call (.Name "range" p2) ys [] p) (fun σ H Q => rd X.K G EqI W (fun σ S => evR (evEs T cf es σ S)) σ H (fun q H => Q q.1 q.2 H)) := by
  have hm : X.mg "range" = none := F.free _ (by decide +kernel)
  cases es with
  | nil => cases h
  | cons a as => cases ys with
    | nil => cases h
    | cons x ys => cases ys with
      | nil =>
        simp only [chkR, Bool.and_eq_true] at h
        obtain ⟨ha, h⟩ := h
        cases as with
        | nil => cases h
        | cons b as => cases as with
          | cons d as => simp [chks] at h
          | nil =>
            have h' : (chk T G b c false x && true) = true := h
            rw [Bool.and_true] at h'
            split at ha
            · intro pins s σ H Q I ⟨σp, μ, S, en, so, p⟩
              refine prg_1 (gl_of hs hg) hm ((h1 b (by simp) k X W c x F tk hN hs).1 h') (star_of h') pins s σ H Q I ⟨σp, μ, S, en, so, ?_⟩
              have as : evR (evEs T cf [.cst (.int 0), b] σp S) = (evE T cf b σp S).bnd fun y S => match y with
                | .int j => .ok ((0 : Int), j) S
                | _ => .bad := by
                simp only [evR, evEs, evE, Res.bnd_ok]
                cases evE T cf b σp S with
                | ok x S1 => simp only [Res.bnd_ok]; cases x <;> rfl
                | exc => rfl
                | bad => rfl
              simp only [as] at p
              refine PostR.bnd p fun x v S1 H1 μ1 st1 so1 d1 p1 => ?_
              split at p1
              · cases d1
                exact ⟨_, rfl, PostR.now (D := EqI) p1 so1 rfl⟩
              · exact p1.elim
            · cases ha
      | cons y ys => cases ys with
        | cons => cases h
        | nil =>
          simp only [chkR, Bool.and_eq_true] at h
          obtain ⟨ha, h⟩ := h
          cases as with
          | nil => cases h
          | cons b as => cases as with
            | cons d as => simp [chks] at h
            | nil =>
              have h' : (chk T G b c false y && true) = true := h
              rw [Bool.and_true] at h'
              intro pins s σ H Q I ⟨σp, μ, S, en, so, p⟩
              refine prg_2 (gl_of hs hg) hm ((h1 a (by simp) k X W c x F tk hN hs).1 ha) ((h1 b (by simp) k X W c y F tk hN hs).1 h') (star_of ha) (star_of h') (stars_of (irs := [b]) (c := c) (by show (chk T G b c false y && true) = true; rw [h']; rfl)) pins s σ H Q I ⟨σp, μ, S, en, so, ?_⟩
              have as : evR (evEs T cf [a, b] σp S) = (evE T cf a σp S).bnd fun x S => (evE T cf b σp S).bnd fun y S => match x, y with
                | .int i, .int j => .ok (i, j) S
                | _, _ => .bad := by
                simp only [evR, evEs]
                cases evE T cf a σp S with
                | ok x S1 =>
                  simp only [Res.bnd_ok]
                  cases evE T cf b σp S1 with
                  | ok y S2 => simp only [Res.bnd_ok]; cases x <;> first | rfl | (cases y <;> rfl)
                  | exc => rfl
                  | bad => rfl
                | exc => rfl
                | bad => rfl
              simp only [as] at p
              refine PostR.bnd p fun x v S1 H1 μ1 st1 so1 d1 p1 => ⟨σp, μ1, S1, en.stp st1, so1, PostR.bnd p1 fun y u S2 H2 μ2 st2 so2 d2 p2 => ?_⟩
              split at p2
              · cases d1; cases d2
                exact ⟨_, _, rfl, rfl, PostR.now (D := EqI) p2 so2 rfl⟩
              · exact p2.elim
theorem rgOk_of {a b : Int} (h : rngOk a b = true) : RgOk a b := by
  have := of_decide_eq_true h
  unfold lim at this
  unfold RgOk
  omega
theorem dens_rg {K : PySem.W.Frag} {H : Hp} {μ : List Addr} (a b : Int) : Dens K G H μ (rng a b) (rgV a b) := by
  have e1 : rng a b = ((List.range (b - a).toNat).map fun k => a + ((k : Nat) : Int)).map PV.int := by unfold rng; rw [List.map_map]; rfl
  have e2 : rgV a b = ((List.range (b - a).toNat).map fun k => a + ((k : Nat) : Int)).map V.int := by unfold rgV; rw [List.map_map]; rfl
  rw [e1, e2]
  exact Dens.ofInts _
theorem snd_bi {m : Bool} {b : BI} {es : List E} (h0 : SndL T G cf es) (h1 : ∀ a ∈ es, Snd T G cf a) : Snd T G cf (.bi m b es) := snd_of fun k X W c t e F tk hN hs h => by
  cases b with
  | trev =>
    cases e <;> try cases h
    rename_i g xs ks p
    cases g <;> try cases h
    rename_i x p2
    cases xs with
    | nil => cases h
    | cons z zs => cases zs with
      | cons => simp [chk] at h
      | nil => cases ks with
        | cons => simp [chk] at h
        | nil =>
          cases z <;> try cases h
          rename_i g2 ys ks2 p3
          cases g2 <;> try cases h
          rename_i y p4
          cases ys with
          | nil => cases h
          | cons z zs => cases zs with
            | cons => simp [chk] at h
            | nil => cases ks2 with
              | cons => cases h
              | nil =>
                simp only [chk, Bool.and_eq_true, decide_eq_true_eq] at h
                obtain ⟨rfl, h2, rfl, h3, h4⟩ := h
                cases es with
                | nil => cases h4
                | cons a as => cases as with
                  | cons => simp [chks] at h4
                  | nil =>
                    have ha : chk T G a c false z = true := by
                      have h5 : (chk T G a c false z && chks T G [] c []) = true := h4
                      rw [Bool.and_eq_true] at h5
                      exact h5.1
                    refine ⟨PEw (pe_tupRv F.calm (gl_of hs h2) (F.free _ (by decide +kernel)) (gl_of hs h3) (F.free _ (by decide +kernel)) ((h1 a (by simp) k X W c z F tk hN hs).1 ha) (star_of ha)) fun σ H Q ⟨σp, μ, S, en, so, p⟩ => ?_, fun _ => rfl⟩
                    refine ⟨σp, μ, S, en, so, ?_⟩
                    have as : evE T cf (.bi m .trev [a]) σp S = (evE T cf a σp S).bnd fun x S => onSeq S x fun ys => .ok (.tup ys.reverse) S := by
                      simp only [evE, evEs]
                      cases evE T cf a σp S <;> rfl
                    rw [as] at p
                    refine PostR.bnd p fun x v S1 H1 μ1 st1 so1 d1 p1 => ?_
                    obtain ⟨ys, q, zs, _, rfl, hq, dz, p1⟩ := onSeq_ok p1 so1 d1
                    exact ⟨q, zs, rfl, hq.imp sqL sqT, fun r nr => p1.tup so1 nr (Dens.rev dz)⟩
  | lrange =>
    cases e <;> try cases h
    rename_i g xs ks p
    cases g <;> try cases h
    rename_i x p2
    cases xs with
    | nil => cases h
    | cons z zs => cases zs with
      | cons => simp [chk] at h
      | nil => cases ks with
        | cons => simp [chk] at h
        | nil =>
          cases z <;> try cases h
          rename_i g2 ys ks2 p3
          cases g2 <;> try cases h
          rename_i y p4
          cases ks2 with
          | cons => cases h
          | nil =>
            simp only [chk, Bool.and_eq_true, decide_eq_true_eq] at h
            obtain ⟨rfl, h2, rfl, h3, h4⟩ := h
            refine ⟨PEw (pe_listRg F.calm (gl_of hs h2) (F.free _ (by decide +kernel)) (prg_of h0 h1 F tk hN hs h3 h4) rfl) fun σ H Q ⟨σp, μ, S, en, so, p⟩ => ?_, fun _ => rfl⟩
            refine ⟨σp, μ, S, en, so, ?_⟩
            have as : evE T cf (.bi m .lrange es) σp S = (evR (evEs T cf es σp S)).bnd fun q S => if rngOk q.1 q.2 = true then mkL m (rng q.1 q.2) S else .bad := by
              simp only [evE, evR]
              cases evEs T cf es σp S with
              | ok xs S1 =>
                simp only [Res.bnd_ok, biP, on2]
                (repeat' split) <;> simp_all
              | exc => rfl
              | bad => rfl
            rw [as] at p
            refine PostR.bnd p fun q v S1 H1 μ1 st1 so1 d1 p1 => ?_
            cases d1
            split at p1
            · rename_i hr
              exact ⟨rgOk_of hr, fun r nr => p1.lst so1 nr (dens_rg _ _)⟩
            · exact p1.elim
  | trange =>
    cases e <;> try cases h
    rename_i g xs ks p
    cases g <;> try cases h
    rename_i x p2
    cases xs with
    | nil => cases h
    | cons z zs => cases zs with
      | cons => simp [chk] at h
      | nil => cases ks with
        | cons => simp [chk] at h
        | nil =>
          cases z <;> try cases h
          rename_i g2 ys ks2 p3
          cases g2 <;> try cases h
          rename_i y p4
          cases ks2 with
          | cons => cases h
          | nil =>
            simp only [chk, Bool.and_eq_true, decide_eq_true_eq] at h
            obtain ⟨rfl, h2, rfl, h3, h4⟩ := h
            refine ⟨PEw (pe_tupRg F.calm (gl_of hs h2) (F.free _ (by decide +kernel)) (prg_of h0 h1 F tk hN hs h3 h4) rfl) fun σ H Q ⟨σp, μ, S, en, so, p⟩ => ?_, fun _ => rfl⟩
            refine ⟨σp, μ, S, en, so, ?_⟩
            have as : evE T cf (.bi m .trange es) σp S = (evR (evEs T cf es σp S)).bnd fun q S => if rngOk q.1 q.2 = true then .ok (.tup (rng q.1 q.2)) S else .bad := by
              simp only [evE, evR]
              cases evEs T cf es σp S with
              | ok xs S1 =>
                simp only [Res.bnd_ok, biP, on2]
                (repeat' split) <;> simp_all
              | exc => rfl
              | bad => rfl
            rw [as] at p
            refine PostR.bnd p fun q v S1 H1 μ1 st1 so1 d1 p1 => ?_
            cases d1
            split at p1
            · rename_i hr
              exact ⟨rgOk_of hr, fun r nr => p1.tup so1 nr (dens_rg _ _)⟩
            · exact p1.elim
  | _ =>
    cases e <;> try cases h
    rename_i g xs ks p
    cases g <;> try cases h
    rename_i x p2
    cases xs with
    | nil => cases h
    | cons y ys => cases ks with
      | cons => cases h
      | nil =>
        simp only [chk, Bool.and_eq_true, decide_eq_true_eq] at h
        obtain ⟨h2, h3, h4⟩ := h
        subst h2
        exact ⟨pe_bi rfl h0 F tk hN hs h3 h4, fun _ => rfl⟩
/-! ### methods of lists -/
theorem noSup_ok {o : Expr} {n : Str} {env : PySem.Env} {v : Sem Value} (h : noSup o = true) : attributeBase o n env v = v := by
  unfold attributeBase
  split
  · cases h
  · rfl
theorem bm_all (b : BM) : Slot "list" (bmN b) (bmId b) ∧ typeOf (.builtin (bmId b)) = pure (.type "method_descriptor") := by
  cases b with
  | append => exact ⟨slot_list_append, type_list_append⟩
  | extend => exact ⟨PySem.F.slot_list_extend, PySem.F.type_list_extend⟩
  | pop => exact ⟨PySem.F.slot_list_pop, PySem.F.type_list_pop⟩
  | popAt => exact ⟨PySem.F.slot_list_pop, PySem.F.type_list_pop⟩
theorem snd_bm {m : Bool} {b : BM} {a : E} {es : List E} (ha : Snd T G cf a) (h0 : SndL T G cf es) : Snd T G cf (.bm m b a es) := snd_of fun k X W c t e F tk hN hs h => by
  cases e <;> try cases h
  rename_i g xs ks p
  cases g <;> try cases h
  rename_i o n ap
  cases ks with
  | cons => cases h
  | nil =>
    simp only [chk, Bool.and_eq_true, decide_eq_true_eq] at h
    obtain ⟨rfl, h2, h3, h4, h5, h6⟩ := h
    obtain ⟨sl, ty⟩ := bm_all b
    have hline : (ap.endLine == p.line) = true := by rw [h2]; exact beq_self_eq_true _
    have hty : ∀ {x : PV} {v : V} {S : Store} {H : Hp} {μ : List Addr}, SOk X.K G H μ S → Den X.K G H μ x v → (∃ n l, x = .ref n ∧ S[n]? = some (.lst l)) → tyV X.K "list" v H := by
      rintro x v S H μ so d ⟨n, l, rfl, e⟩
      obtain ⟨a, ys, rfl, h, _⟩ := lst_of so d (xs := l) (by simp only [lstOf, e])
      exact .inl ⟨rfl, ys, sqL h⟩
    refine ⟨?_, fun _ => rfl⟩
    have fin : ∀ {σ : L2.St} {H : Hp} {Q : VK}, rE X.K G W (evE T cf (.bm m b a es)) σ H Q → rE X.K G W (evE T cf a) σ H (fun v H1 => tyV X.K "list" v H1 ∧ rEs X.K G W (evEs T cf es) σ H1 (fun vs H2 => RM X.K G (bmP m b) v vs H2 Q)) := by
      rintro σ H Q ⟨σp, μ, S, en, so, p⟩
      refine ⟨σp, μ, S, en, so, PostR.bnd p fun x v S1 H1 μ1 st1 so1 d1 p1 => ?_⟩
      split at p1
      · rename_i n
        split at p1
        · rename_i l el
          exact ⟨hty so1 d1 ⟨n, l, rfl, el⟩, σp, μ1, S1, en.stp st1, so1, PostR.bnd p1 fun ys vs S2 H2 μ2 st2 so2 d2 p2 => ⟨W, σ, μ2, S2, _, ys, so2, d1.stp st2, d2, p2⟩⟩
        · exact p1.elim
      · exact p1.elim
    cases xs with
    | nil =>
      have he : evEs T cf es = fun _ S => .ok [] S := by
        cases es with
        | nil => rfl
        | cons => cases h6
      refine PEw (pe_bm0 PySem.F.plainAttrs_list sl ty (mtr_bm (G := G) m b) ((ha k X W c o F tk hN hs).1 h4) (noSup_ok h3) hline) fun σ H Q q => ?_
      obtain ⟨σp, μ, S, en, so, p⟩ := fin q
      refine ⟨σp, μ, S, en, so, ?_⟩
      revert p
      cases evE T cf a σp S with
      | ok x S1 =>
        intro p v H1 μ1 st so1 d1
        obtain ⟨t1, σp', μ', S', en', so', q'⟩ := p v H1 μ1 st so1 d1
        rw [he] at q'
        exact ⟨t1, PostR.now q' so' .nil⟩
      | exc => exact fun p => p
      | bad => exact fun p => p
    | cons y ys =>
      obtain ⟨s1, s2⟩ := chks_star (env := X.env) (p := p) h6
      have hfew : ((backTo p (starEach (y :: ys) X.env)).all (fun x => !x.1) && (backToKw p (keywordEach [] X.env)).all (fun x => x.1.isSome)
        && decide ((y :: ys).length + ([] : List Keyword).length + (if ([] : List Keyword).isEmpty then 0 else 1) < 30)) = true := by
        have e1 : (backTo p (starEach (y :: ys) X.env)).all (fun x => !x.1) = true := by
          have := stars_of (env := X.env) (pos := p) h6
          rw [← Bool.not_eq_true', ← List.not_any_eq_all_not] at *
          simpa using this
        rw [e1]
        have e2 : (backToKw p (keywordEach [] X.env)).all (fun x => x.1.isSome) = true := rfl
        rw [e2]
        simp only [Bool.true_and, decide_eq_true_eq]
        simp only [List.length_cons, List.length_nil, List.isEmpty_nil, if_true] at h5 ⊢
        omega
      exact PEw (pe_bm PySem.F.plainAttrs_list sl ty (mtr_bm (G := G) m b) ((ha k X W c o F tk hN hs).1 h4) (h0 k X W c _ F tk hN hs h6) (noSup_ok h3) hfew hline s1 s2) fun σ H Q q => fin q
/-! ### isinstance -/
def rIsiP (T : Tab) (K : PySem.W.Frag) (G : Nm) : List V → Hp → VK → Prop := fun vs H Q => ∃ (μ : List Addr) (S : Store) (x : PV) (v c : V) (t u : Ty) (b : Bool), vs = [v, c] ∧ ClsV c (tyVal K G u) ∧ SOk K G H μ S ∧ Den K G H μ x v ∧ tyT T S x = some t ∧ T.isi t u = some b ∧ Q (.bl b) H
theorem cr_isiP (F : Fx T G X cf k) : CallR X (.builtin "isinstance") (rIsiP T X.K G) := by
  intro pins s σ H vs us Q I r ⟨μ, S, x, v, c, t, u, b, e, hc, so, d, ht, hi, q⟩
  subst e
  have e := F.isi _ _ _ hi
  have base : ∀ {tv : Value}, TyX X.K H v tv → tv = tyVal X.K G t → wpAny (model X.prog X.w) X.A (call (.builtin "isinstance") us) (EP X pins σ Q) X.xe s := fun ty et => by
    subst et
    exact call_isi pins s σ H [v, c] us Q I r ⟨v, c, _, _, b, rfl, hc, ty, e, q⟩
  cases d with
  | non => cases ht; exact base (.base .non) rfl
  | bl y => cases ht; exact base (.base (.bl y)) rfl
  | int i => cases ht; exact base (.base (.int i)) rfl
  | str y hy => cases ht; exact base (.base (.str y)) rfl
  | tup h n dd =>
    cases ht
    rcases h with (h | ⟨o, h⟩) | ⟨o, its, n', hk, hc', _⟩
    · exact base (.base (.tup h)) rfl
    · exact base (.fTuple h) rfl
    · exact base (.kTuple hk hc') rfl
  | lst h n dd =>
    cases ht
    rcases h with (h | ⟨o, h⟩) | ⟨o, its, n', hk, hc', _⟩
    · exact base (.base (.lst h)) rfl
    · exact base (.base (.frz h)) rfl
    · exact base (.kList hk hc') rfl
  | dct h n dk dv => cases ht; exact base (.base (.dK h)) rfl
  | ref h =>
    rename_i n a
    simp only [tyT] at ht
    split at ht
    · rename_i l el
      cases ht
      obtain ⟨a', h1, ys, h2, _⟩ := so.at el
      rw [h] at h1; cases h1
      exact base (.base (.lst h2)) rfl
    · rename_i ks vs el
      cases ht
      obtain ⟨a', h1, ys, h2, _⟩ := so.at el
      rw [h] at h1; cases h1
      exact base (.base (.dK h2)) rfl
    · rename_i cc ns vs el
      split at ht
      · rename_i hic
        cases ht
        obtain ⟨a', h1, dx, fs, h2, _⟩ := so.at el
        rw [h] at h1; cases h1
        have C := F.ic _ hic
        exact base (.base (.ins h2 C.cl C.ha C.hn C.ht C.hm)) rfl
      · cases ht
    · cases ht
  | exc h n ed =>
    rename_i a cc xs dd
    simp only [tyT] at ht
    split at ht
    · rename_i hxc
      cases ht
      have C := F.xc _ hxc
      obtain ⟨u1, u2, rfl, r1, r2⟩ := vals2 r
      have e2 := hc.eq r2
      subst e2
      cases (show u1 = Value.ref a from r1)
      obtain ⟨⟨o, ho, oc, od, ws, ow⟩, _, _⟩ := (show ObjOk X.prog X.w H s.heap a (excO a (cA X.K G cc) dd) from I.hok a _ h)
      have J : ∃ od, PySem.W.InstAt s.heap a o (cA X.K G cc) od := by
        cases ed with
        | none => exact ⟨none, ho, oc, by unfold PySem.W.notCls; rw [ow], by rw [od]; trivial⟩
        | some hx _ _ =>
          obtain ⟨mA, hN, _⟩ := (show ObjOk X.prog X.w H s.heap _ (.xd _) from I.hok _ _ hx)
          obtain ⟨o2, _, _, h2, _⟩ := hN
          exact ⟨some o2, ho, oc, by unfold PySem.W.notCls; rw [ow], by rw [od]; exact h2⟩
      obtain ⟨od', J⟩ := J
      exact PySem.W.kia_one (PySem.W.kitx_exc C.cl C.ex.hg C.ex.hk C.ex.hs C.ex.ha C.ex.hn C.ex.ht C.ex.hm) I.kIn J e (fun z => nomatch z) fun tk => ⟨.bl b, H, I.tok tk, rfl, q⟩
    · cases ht
theorem snd_isi {a : E} {u : Ty} (ha : Snd T G cf a) : Snd T G cf (.isi a u) := snd_of fun k X W c t e F tk hN hs h => by
  cases e <;> try cases h
  rename_i g xs ks p
  cases g <;> try cases h
  rename_i f p2
  cases xs with
  | nil => cases h
  | cons x xs => cases xs with
    | nil => cases h
    | cons z xs => cases z <;> try cases h
                   rename_i y p3
                   cases xs with
      | cons => cases h
      | nil => cases ks with
        | cons => cases h
        | nil =>
          simp only [chk, Bool.and_eq_true, decide_eq_true_eq] at h
          obtain ⟨rfl, h2, h3, h4, h5, h6, h7⟩ := h
          obtain ⟨d1, d2, d3⟩ := okNm_ok h4
          have gy := gl_of hs h3
          have hC : PE X (.Name y p3) (tC (tyV' X.K G u)) := by
            cases u with
            | cls d =>
              cases h5
              exact pe_glob gy (F.cls d h6) rfl d1
            | non => cases h5
            | _ => cases h5; exact pe_bltn gy (F.free _ (by decide +kernel)) (by decide +kernel) rfl d3 d1
          have s1 : starEach [x, .Name y p3] X.env = (false, eval x X.env) :: starEach [.Name y p3] X.env := star_of h7
          refine ⟨PEw (pe_callB (cr_isiP F) (gl_of hs h2) (F.free _ (by decide +kernel)) PyProof.Rows.boot_isinstance (pa_cons ((ha k X W c x F tk hN hs).1 h7) (pa_cons hC pa_nil rfl) s1) (by decide) (by decide) s1 rfl) fun σ H Q ⟨σp, μ, S, en, so, p⟩ => ⟨σp, μ, S, en, so, PostR.bnd p fun x v S1 H1 μ1 st1 so1 d1 p1 => ?_⟩, fun _ => rfl⟩
          split at p1
          · rename_i t et
            split at p1
            · rename_i b eb
              exact ⟨μ1, S1, x, v, _, t, u, b, rfl, clsV_ty _ _, so1, d1, et, eb, p1.now so1 (.bl _)⟩
            · exact p1.elim
          · exact p1.elim
end
end IP

set_option Elab.async false
set_option linter.all false
set_option maxRecDepth 100000
set_option maxHeartbeats 2000000
/-! IPyA: a list that nobody sees; what is gone over; targets; comprehensions. -/
namespace IP
open PySem PySem.Spec PyProof.Rows L2 RZ
/-- the heap without D -/
def del (H : Hp) (D : Addr) : Hp := fun b => if b = D then none else H b
theorem del_same {H : Hp} {D : Addr} : del H D D = none := by unfold del; rw [if_pos rfl]
theorem del_ne {H : Hp} {D b : Addr} (h : b ≠ D) : del H D b = H b := by unfold del; rw [if_neg h]
theorem del_some {H : Hp} {D b : Addr} {o : HO} (h : del H D b = some o) : b ≠ D ∧ H b = some o := by
  by_cases q : b = D
  · subst q; rw [del_same] at h; cases h
  · rw [del_ne q] at h; exact ⟨q, h⟩
section
variable {X : Cx} {pins : List (Addr × Obj)} {σ : L2.St} {H : Hp} {s : Shared} {D : Addr} {xs : List V}
theorem hide (I : Inv X pins σ H s) (hD : H D = some (.lst xs)) : ∃ od, s.heap.get? D = some od ∧ (∃ its n, Vals xs its ∧ od = { cls := .type "list", data := .seq its.toArray n }) ∧ xs.length ≤ sizeLine ∧ Inv X ((D, od) :: pins) σ (del H D) s := by
  obtain ⟨z, its, n, r, e⟩ := (show ObjOk X.prog X.w H s.heap D (.lst xs) from I.hok D _ hD)
  have nD : ∀ {b : Addr}, H b = none → b ≠ D := fun h q => by rw [q, hD] at h; cases h
  have own : ∀ {b a : Addr}, H b = some (.own a) → del H D b = some (.own a) := fun h => by
    rw [del_ne (fun q => by rw [q, hD] at h; cases h)]; exact h
  have tup : ∀ {b : Addr} {ys : List V}, H b = some (.tup ys) → del H D b = some (.tup ys) := fun h => by
    rw [del_ne (fun q => by rw [q, hD] at h; cases h)]; exact h
  have non : ∀ {b : Addr}, H b = none → del H D b = none := fun h => by rw [del_ne (nD h)]; exact h
  have B := I.base
  refine ⟨_, e, ⟨its, n, r, rfl⟩, z, ⟨I.ok, I.os, I.bare, ⟨B.keep, B.slot, fun b o q n x => non (B.free b o q n x), B.there, fun b ys q => tup (B.tups b ys q), fun b o u q => ?_, fun b ps q => ?_⟩, I.loc, I.cell, non I.free, fun x c q => non (I.freeC x c q), fun p hp => ?_, fun a o ha => ?_, I.len⟩⟩
  · have := B.frzs b o u q
    rw [del_ne (fun z => by rw [z, hD] at this; cases this)]; exact this
  · obtain ⟨more, this⟩ := B.tbls b ps q
    exact ⟨more, by rw [del_ne (fun z => by rw [z, hD] at this; cases this)]; exact this⟩
  · have old : p ∈ X.pn ++ pins → s.heap.get? p.1 = some p.2 ∧ del H D p.1 = none ∧ p.1 ≠ X.env.locals ∧ p.1 ∉ X.fs ∧ ∀ v, p.2.data ≠ .cell v := fun h =>
      let ⟨a, b, c⟩ := I.pin p h; ⟨a, non b, c⟩
    rcases List.mem_append.mp hp with h | h
    · exact old (List.mem_append_left _ h)
    · rcases List.mem_cons.mp h with h | h
      · subst h
        refine ⟨e, del_same, fun q => (nD I.free) q.symm, fun hb => ?_, fun v q => by cases q⟩
        by_cases hx : D ∈ X.ex
        · exact I.ok.exfs D hx hb
        · obtain ⟨_, o, ho, _⟩ := I.ok.funs.mem hb
          exact nD (B.free D o ho (I.ok.frf D hb) hx) rfl
      · exact old (List.mem_append_right _ h)
  · obtain ⟨h1, h2⟩ := del_some ha
    exact (I.hok a o h2).stay (fun b u _ q => q) (fun b q => own q) fun b ys q => tup q
theorem unhide {σ' : L2.St} {H' : Hp} {s' : Shared} {od : Obj} (I : Inv X pins σ H s) (hD : H D = some (.lst xs)) (ho : ∃ its n, Vals xs its ∧ od = { cls := .type "list", data := .seq its.toArray n }) (z : xs.length ≤ sizeLine)
    (J : Inv X ((D, od) :: pins) σ' H' s') : H' D = none ∧ Inv X pins σ' (upd H' D (.lst xs)) s' := by
  obtain ⟨p1, p2, p3, p4, p5⟩ := J.pin (D, od) (List.mem_append_right _ List.mem_cons_self)
  have p2 : H' D = none := p2
  refine ⟨p2, ?_⟩
  have nD : ∀ {b : Addr} {o : HO}, H' b = some o → upd H' D (.lst xs) b = some o := fun h => by
    rw [upd_ne (ne_of_none h p2)]; exact h
  have non : ∀ {b : Addr}, b ≠ D → H' b = none → upd H' D (.lst xs) b = none := fun q h => by rw [upd_ne q]; exact h
  have nI : ∀ {b : Addr}, H b = none → b ≠ D := fun h q => by rw [q, hD] at h; cases h
  have B := J.base
  refine ⟨J.ok, J.os, J.bare, ⟨B.keep, B.slot, fun b o q n x => non (nI (I.base.free b o q n x)) (B.free b o q n x), B.there, fun b ys q => nD (B.tups b ys q), fun b o u q => nD (B.frzs b o u q), fun b ps q => let ⟨m, e⟩ := B.tbls b ps q; ⟨m, nD e⟩⟩, J.loc, J.cell, non (nI I.free) J.free, fun x c q => non (nI (I.freeC x c q)) (J.freeC x c q), fun p hp => ?_, fun a o ha => ?_, J.len⟩
  · obtain ⟨a, b, c⟩ := J.pin p (by
      rcases List.mem_append.mp hp with h | h
      · exact List.mem_append_left _ h
      · exact List.mem_append_right _ (List.mem_cons_of_mem _ h))
    exact ⟨a, non (nI (I.pin p hp).2.1) b, c⟩
  · by_cases q : a = D
    · subst q
      rw [upd_same] at ha; cases ha
      obtain ⟨its, n, r, e⟩ := ho
      refine ⟨z, its, n, r, ?_⟩
      rw [← e]; exact p1
    · rw [upd_ne q] at ha
      exact (J.hok a o ha).stay (fun b u _ q => q) (fun b q => nD q) fun b ys q => nD q
/-- a step that doesn't see D -/
def tHid {α : Type} (t : L2.St → Hp → (α → Hp → Prop) → Prop) (D : Addr) (xs : List V) : L2.St → Hp → (α → Hp → Prop) → Prop := fun σ H Q => H D = some (.lst xs) ∧ t σ (del H D) fun v H' => H' D = none → Q v (upd H' D (.lst xs))
def tHidE {α : Type} (t : L2.St → Hp → (α → Hp → Prop) → Prop) : L2.St → Hp → (α → Hp → Prop) → Prop := fun σ H Q => ∃ D xs, tHid t D xs σ H Q
theorem pe_hide {e : Expr} {t : TE} (h : PE X e t) : PE X e (tHidE t) := ⟨fun pins s σ H Q I ⟨D, xs, hD, q⟩ => by
  obtain ⟨od, h1, h2, h3, J⟩ := hide I hD
  refine thn (h.run _ s σ _ _ J q) fun v s1 w => ?_
  obtain ⟨x, H1, I1, r1, q1⟩ := w
  obtain ⟨n1, K1⟩ := unhide I hD h2 h3 I1
  exact ⟨x, _, K1, r1, q1 n1⟩⟩
theorem pt_hide {e : Expr} {t : TT} (h : PT X e t) : PT X e (tHidE t) := ⟨fun pins s σ H Q I ⟨D, xs, hD, q⟩ => by
  obtain ⟨od, h1, h2, h3, J⟩ := hide I hD
  refine thn (h.run _ s σ _ _ J q) fun v s1 w => ?_
  obtain ⟨H1, I1, q1⟩ := w
  obtain ⟨n1, K1⟩ := unhide I hD h2 h3 I1
  exact ⟨_, K1, q1 n1⟩⟩
end
/-! ### what is gone over -/
section
variable {K : PySem.W.Frag} {G : Nm}
abbrev Sub (H H' : Hp) : Prop := ∀ b o, H b = some o → H' b = some o
/-- J gives the items xs, wherever the lists vs are as they were in S₀ -/
def Src (K : PySem.W.Frag) (G : Nm) (J : It) (vs xs : List PV) (S0 : Store) (H0 : Hp) (μ0 : List Addr) : Prop := ∀ (i : Nat) (H : Hp) (μ : List Addr) (S : Store) (H1 : Hp), Stp μ0 H0 μ H → SOk K G H μ S → stays vs S0 S = true → Sub H H1 →
  (∀ x, xs[i]? = some x → J.go i H1 ∧ ∀ v H', J.yld i H1 v H' → (H' = H1 ∧ Den K G H μ x v) ∨ ∃ T us ys, H1 T = none ∧ v = .ref T ∧ H' = upd H1 T (.tup us) ∧ x = .tup ys ∧ Dens K G H μ ys us) ∧ (xs.length ≤ i → J.stop i H1)
theorem stays_mem {vs : List PV} {S0 S : Store} (h : stays vs S0 S = true) {n : Nat} (hm : PV.ref n ∈ vs) : ∃ o, S0[n]? = some o ∧ S[n]? = some o := by
  have := List.all_eq_true.mp h _ hm
  simp only at this
  split at this
  · rename_i a b e1 e2
    exact ⟨a, e1, by rw [e2, beqO_eq _ _ this]⟩
  · cases this
theorem stays_lst {vs : List PV} {S0 S : Store} (h : stays vs S0 S = true) {x : PV} (hm : x ∈ vs) : lstOf S x = lstOf S0 x := by
  cases x with
  | ref n =>
    obtain ⟨o, e1, e2⟩ := stays_mem h hm
    simp only [lstOf, e1, e2]
  | _ => rfl
theorem stays_seq {vs : List PV} {S0 S : Store} (h : stays vs S0 S = true) {x : PV} (hm : x ∈ vs) : seqOf S x = seqOf S0 x := by
  cases x with
  | ref n =>
    obtain ⟨o, e1, e2⟩ := stays_mem h hm
    simp only [seqOf, e1, e2]
  | _ => rfl
theorem Sub.rd {H H' : Hp} (s : Sub H H') {a : Addr} {o : HO} (h : Rd H a o) : Rd H' a o := by
  rcases h with h | ⟨ob, h⟩
  · exact .inl (s _ _ h)
  · exact .inr ⟨ob, s _ _ h⟩
theorem Sub.sql {H H' : Hp} (s : Sub H H') {a : Addr} {ys : List V} (h : SqL K H a ys) : SqL K H' a ys := h.elim (fun h => .inl (s.rd h)) .inr
theorem Sub.sqt {H H' : Hp} (s : Sub H H') {a : Addr} {ys : List V} (h : SqT K H a ys) : SqT K H' a ys := h.elim (fun h => .inl (s.rd h)) .inr
/-- a result that is gone over -/
def ItD (K : PySem.W.Frag) (G : Nm) : Hp → List Addr → (List PV × List PV × Store) → It → Prop := fun H μ q J => Src K G J q.1 q.2.1 q.2.2 H μ ∧ ∃ us, Dens K G H μ q.1 us
def evI (ik : IK) (r : Res (List PV)) : Res (List PV × List PV × Store) := r.bnd fun vs S => match iterOf ik vs S with
  | some xs => .ok (vs, xs, S) S
  | none => .bad
/-- what tells the items of a list at an address -/
theorem src_list {x : PV} {a : Addr} {vs xs : List PV} {S0 : Store} {H0 : Hp} {μ0 : List Addr} (d : Den K G H0 μ0 x (.ref a)) (hm : x ∈ vs) (e : lstOf S0 x = some xs) {H : Hp} {μ : List Addr} {S : Store} (st : Stp μ0 H0 μ H) (so : SOk K G H μ S) (sy : stays vs S0 S = true) {H1 : Hp} (sb : Sub H H1) :
    ∃ ys, SqL K H1 a ys ∧ Dens K G H μ xs ys := by
  have e2 := (stays_lst sy hm).trans e
  obtain ⟨b, ys, hb, h, dd⟩ := lst_of so (d.stp st) e2
  cases hb
  exact ⟨ys, sb.sql h, dd⟩
theorem src_l {x : PV} {a : Addr} {vs xs : List PV} {S0 : Store} {H0 : Hp} {μ0 : List Addr} (d : Den K G H0 μ0 x (.ref a)) (hm : x ∈ vs) (e : lstOf S0 x = some xs) : Src K G (Itl K a) vs xs S0 H0 μ0 := fun i H μ S H1 st so sy sb => by
  obtain ⟨ys, h1, h2⟩ := src_list d hm e st so sy sb
  refine ⟨fun x hx => ?_, fun hl => ⟨ys, h1, by rw [← h2.length]; exact hl⟩⟩
  obtain ⟨u, hu, du⟩ := h2.get hx
  refine ⟨⟨ys, u, h1, hu⟩, fun v H' ⟨e1, e2⟩ => .inl ⟨e1, ?_⟩⟩
  have := e2 ys h1
  rw [hu] at this; cases this; exact du
theorem src_t {a : Addr} {vs xs : List PV} {S0 : Store} {H0 : Hp} {μ0 : List Addr} (d : Den K G H0 μ0 (.tup xs) (.ref a)) : Src K G (Itt K a) vs xs S0 H0 μ0 := fun i H μ S H1 st so sy sb => by
  cases d.stp st with
  | tup h n h2 =>
    rename_i ys
    have h1 : SqT K H1 a ys := sb.sqt h
    refine ⟨fun x hx => ?_, fun hl => ⟨ys, h1, by rw [← h2.length]; exact hl⟩⟩
    obtain ⟨u, hu, du⟩ := h2.get hx
    refine ⟨⟨ys, u, h1, hu⟩, fun v H' ⟨e1, e2⟩ => .inl ⟨e1, ?_⟩⟩
    have := e2 ys h1
    rw [hu] at this; cases this; exact du
theorem rng_get {a b : Int} {i : Nat} {x : PV} (h : (rng a b)[i]? = some x) : i < (b - a).toNat ∧ x = .int (a + (i : Nat)) := by
  unfold rng at h
  rw [List.getElem?_map] at h
  obtain ⟨k, hk, rfl⟩ := Option.map_eq_some_iff.mp h
  obtain ⟨h1, h2⟩ := List.getElem?_eq_some_iff.mp hk
  rw [List.length_range] at h1
  rw [List.getElem_range] at h2
  subst h2
  exact ⟨h1, rfl⟩
theorem src_r {a b : Int} {vs : List PV} {S0 : Store} {H0 : Hp} {μ0 : List Addr} : Src K G (Itr a (b - a).toNat) vs (rng a b) S0 H0 μ0 := fun i H μ S H1 st so sy sb => by
  refine ⟨fun x hx => ?_, fun hl => ?_⟩
  · obtain ⟨h1, rfl⟩ := rng_get hx
    exact ⟨h1, fun v H' ⟨e1, e2⟩ => .inl ⟨e1, by rw [e2]; exact .int _⟩⟩
  · show (b - a).toNat ≤ i
    have : (rng a b).length = (b - a).toNat := by unfold rng; rw [List.length_map, List.length_range]
    omega
theorem src_e {x : PV} {a : Addr} {vs xs : List PV} {S0 : Store} {H0 : Hp} {μ0 : List Addr} (d : Den K G H0 μ0 x (.ref a)) (hm : x ∈ vs) (e : lstOf S0 x = some xs) : Src K G (Ite K a) vs (xs.zipIdx.map fun p => .tup [.int (p.2 : Nat), p.1]) S0 H0 μ0 := fun i H μ S H1 st so sy sb => by
  obtain ⟨ys, h1, h2⟩ := src_list d hm e st so sy sb
  refine ⟨fun x hx => ?_, fun hl => ⟨ys, h1, ?_⟩⟩
  · rw [List.getElem?_map] at hx
    obtain ⟨p, hp, rfl⟩ := Option.map_eq_some_iff.mp hx
    rw [List.getElem?_zipIdx] at hp
    obtain ⟨y, hy, rfl⟩ := Option.map_eq_some_iff.mp hp
    obtain ⟨u, hu, du⟩ := h2.get hy
    refine ⟨⟨ys, u, h1, hu⟩, fun v H' ⟨T, z, e1, e2, e3, e4⟩ => .inr ⟨T, _, _, e2, e1, e3, rfl, ?_⟩⟩
    have := e4 ys h1
    rw [hu] at this; cases this
    have e0 : 0 + i = i := Nat.zero_add i
    simp only [e0]
    exact .cons (.int _) (.cons du .nil)
  · rw [List.length_map, List.length_zipIdx, h2.length] at hl; exact hl
theorem zip_get {xs ys : List PV} {i : Nat} {x : PV} (h : ((xs.zip ys).map fun p => PV.tup [p.1, p.2])[i]? = some x) : ∃ a b, xs[i]? = some a ∧ ys[i]? = some b ∧ x = .tup [a, b] := by
  rw [List.getElem?_map] at h
  obtain ⟨p, hp, rfl⟩ := Option.map_eq_some_iff.mp h
  obtain ⟨h1, h2⟩ := List.getElem?_zip_eq_some.mp hp
  exact ⟨_, _, h1, h2, rfl⟩
theorem src_z {x y : PV} {a b : Addr} {vs xs ys : List PV} {S0 : Store} {H0 : Hp} {μ0 : List Addr} (d : Den K G H0 μ0 x (.ref a)) (hm : x ∈ vs) (e : lstOf S0 x = some xs) (d' : Den K G H0 μ0 y (.ref b)) (hm' : y ∈ vs) (e' : lstOf S0 y = some ys) :
    Src K G (Itz K a b) vs ((xs.zip ys).map fun p => .tup [p.1, p.2]) S0 H0 μ0 := fun i H μ S H1 st so sy sb => by
  obtain ⟨us, h1, h2⟩ := src_list d hm e st so sy sb
  obtain ⟨ws, h1', h2'⟩ := src_list d' hm' e' st so sy sb
  refine ⟨fun x hx => ?_, fun hl => ⟨us, ws, h1, h1', ?_⟩⟩
  · obtain ⟨p, q, hp, hq, rfl⟩ := zip_get hx
    obtain ⟨u, hu, du⟩ := h2.get hp
    obtain ⟨w, hw, dw⟩ := h2'.get hq
    refine ⟨⟨us, ws, u, w, h1, h1', hu, hw⟩, fun v H' ⟨T, z, z', e1, e2, e3, e4, e5⟩ => .inr ⟨T, _, _, e2, e1, e3, rfl, ?_⟩⟩
    have q1 := e4 us h1
    have q2 := e5 ws h1'
    rw [hu] at q1; rw [hw] at q2
    cases q1; cases q2
    exact .cons du (.cons dw .nil)
  · rw [List.length_map, List.length_zip, h2.length, h2'.length] at hl
    omega
theorem src_zt {a b : Addr} {vs xs ys : List PV} {S0 : Store} {H0 : Hp} {μ0 : List Addr} (d : Den K G H0 μ0 (.tup xs) (.ref a)) (d' : Den K G H0 μ0 (.tup ys) (.ref b)) :
    Src K G (ItzT K a b) vs ((xs.zip ys).map fun p => .tup [p.1, p.2]) S0 H0 μ0 := fun i H μ S H1 st so sy sb => by
  cases d.stp st with
  | tup h n h2 =>
    rename_i us
    cases d'.stp st with
    | tup h' n' h2' =>
      rename_i ws
      have h1 : SqT K H1 a us := sb.sqt h
      have h1' : SqT K H1 b ws := sb.sqt h'
      refine ⟨fun x hx => ?_, fun hl => ⟨us, ws, h1, h1', ?_⟩⟩
      · obtain ⟨p, q, hp, hq, rfl⟩ := zip_get hx
        obtain ⟨u, hu, du⟩ := h2.get hp
        obtain ⟨w, hw, dw⟩ := h2'.get hq
        refine ⟨⟨us, ws, u, w, h1, h1', hu, hw⟩, fun v H' ⟨T, z, z', e1, e2, e3, e4, e5⟩ => .inr ⟨T, _, _, e2, e1, e3, rfl, ?_⟩⟩
        have q1 := e4 us h1
        have q2 := e5 ws h1'
        rw [hu] at q1; rw [hw] at q2
        cases q1; cases q2
        exact .cons du (.cons dw .nil)
      · rw [List.length_map, List.length_zip, h2.length, h2'.length] at hl
        omega
end
section
variable {T : Tab} {G : Nm} {X : Cx} {cf : Nat → List PV → Store → Res PV} {k : Nat} {W : WX}
/-- over a list or a tuple -/
theorem pi_sq {tx e : Expr} {ev : IP.Env → Store → Res PV} (he : PE X e (rE X.K G W ev)) : PI X tx e (rd X.K G (ItD X.K G) W (fun σ S => evI .seq ((ev σ S).bnd fun x S => .ok [x] S))) := by
  refine ⟨fun pins s σ H R I ⟨σp, μ, S, en, so, p⟩ => ?_⟩
  have q : rE X.K G W ev σ H (fun v H1 => ∃ a, v = .ref a ∧ (((∃ ys, SqL X.K H1 a ys) ∧ R (Itl X.K a) H1) ∨ ((∃ ys, SqT X.K H1 a ys) ∧ R (Itt X.K a) H1))) := by
    have as : evI .seq ((ev σp S).bnd fun x S => .ok [x] S) = (ev σp S).bnd fun x S => match seqOf S x with
      | some xs => .ok ([x], xs, S) S
      | none => .bad := by
      unfold evI
      cases ev σp S <;> rfl
    simp only [as] at p
    refine ⟨σp, μ, S, en, so, PostR.bnd p fun x v S1 H1 μ1 st1 so1 d1 p1 => ?_⟩
    split at p1
    · rename_i xs ex
      have list : lstOf S1 x = some xs → ∃ a, v = .ref a ∧ (((∃ ys, SqL X.K H1 a ys) ∧ R (Itl X.K a) H1) ∨ ((∃ ys, SqT X.K H1 a ys) ∧ R (Itt X.K a) H1)) := fun e => by
        obtain ⟨a, ys, rfl, h, dd⟩ := lst_of so1 d1 e
        exact ⟨a, rfl, .inl ⟨⟨ys, sqL h⟩, p1.now so1 ⟨src_l d1 (by simp) e, _, .cons d1 .nil⟩⟩⟩
      cases x with
      | tup us =>
        cases ex
        have d1' := d1
        cases d1 with
        | tup h n dd => exact ⟨_, rfl, .inr ⟨⟨_, sqT h⟩, p1.now so1 ⟨src_t d1', _, .cons d1' .nil⟩⟩⟩
      | lst us => exact list ex
      | ref n =>
        refine list ?_
        simp only [seqOf] at ex
        simp only [lstOf]
        exact ex
      | _ => cases ex
    · exact p1.elim
  refine thn (he.run pins s σ H _ I q) fun v s1 w => ?_
  obtain ⟨x, H1, I1, r1, a, e1, q1⟩ := w
  subst e1
  obtain rfl : v = Value.ref a := r1
  rcases q1 with ⟨⟨ys, hq⟩, q1⟩ | ⟨⟨ys, hq⟩, q1⟩
  · obtain ⟨its, rv, pl, hz⟩ := I1.list hq
    exact wpAny_pyIter_list pl.isList (pi_one (tk := s1.toks) I1 _ (turn_list a _) ⟨_, Heap.get?_push_size _ rfl, rfl, rfl⟩ q1)
  · obtain ⟨its, rv, pl, hz⟩ := I1.tuple hq
    exact wpAny_pyIter_tuple (show s1.heap.IsTuple a its.toArray from pl) (pi_one (tk := s1.toks) I1 _ (turn_tuple a _) ⟨_, Heap.get?_push_size _ rfl, rfl, rfl⟩ q1)
theorem PIw {tx e : Expr} {t t' : TI} (h : PI X tx e t) (w : ∀ σ H R, t' σ H R → t σ H R) : PI X tx e t' := ⟨fun pins s σ H R I q => h.run pins s σ H R I (w σ H R q)⟩
/-- what a for, a comprehension goes over -/
theorem pi_of {ik : IK} {its : List E} (h0 : SndL T G cf its) (h1 : ∀ a ∈ its, Snd T G cf a) {c : Ck} {tx ix : Expr} (F : Fx T G X cf k) (tk : Takes X W) (hN : X.N = c.N) (hs : X.env.scope = c.sc) (h : chkI T G ik its c tx ix = true) :
    PI X tx ix (rd X.K G (ItD X.K G) W (fun σ S => evI ik (evEs T cf its σ S))) := by
  cases its with
  | nil => cases h
  | cons a as => cases ik with
    | seq =>
      simp only [chkI, Bool.and_eq_true] at h
      obtain ⟨h2, h3, h4⟩ := h
      cases as with
      | cons => cases h4
      | nil =>
        have := pi_sq (tx := tx) ((h1 a (by simp) k X W c ix F tk hN hs).1 h2)
        refine PIw this fun σ H R q => ?_
        simpa only [evEs, Res.bnd_ok] using q
    | rng =>
      simp only [chkI] at h
      split at h
      · rename_i y p2 x p
        simp only [Bool.and_eq_true, decide_eq_true_eq] at h
        obtain ⟨rfl, h2, h3, h4⟩ := h
        cases as with
        | nil => cases h4
        | cons b as => cases as with
          | cons d as => simp [chks] at h4
          | nil =>
            split at h3
            · have h4' : (chk T G b c false x && true) = true := h4
              rw [Bool.and_true] at h4'
              have hx := (h1 b (by simp) k X W c x F tk hN hs).1 h4'
              have s1 : starEach [x] X.env = [(false, eval x X.env)] := star_of h4'
              refine PIw (pi_range1 (gl_of hs h2) (F.free _ (by decide +kernel)) (pa_cons hx pa_nil s1) s1) fun σ H R ⟨σp, μ, S, en, so, p⟩ => ?_
              refine ⟨σp, μ, S, en, so, ?_⟩
              have as : evI .rng (evEs T cf [.cst (.int 0), b] σp S) = (evE T cf b σp S).bnd fun y S => match iterOf .rng [.int 0, y] S with
                | some xs => .ok ([.int 0, y], xs, S) S
                | none => .bad := by
                simp only [evI, evEs, evE, Res.bnd_ok]
                cases evE T cf b σp S <;> rfl
              simp only [as] at p
              refine PostR.bnd p fun y v S1 H1 μ1 st1 so1 d1 p1 => ?_
              show ∃ j : Int, [v] = [V.int j] ∧ _
              split at p1
              · rename_i xs ex
                simp only [iterOf] at ex
                split at ex
                · rename_i i j e1
                  cases e1
                  split at ex
                  · rename_i hr
                    cases ex
                    cases d1
                    have := rgOk_of hr
                    refine ⟨j, rfl, this.2.2.1, this.2.2.2.1, ?_⟩
                    have e2 : (j - 0).toNat = j.toNat := by rw [Int.sub_zero]
                    exact PostR.now (D := ItD X.K G) p1 so1 ⟨by rw [← e2]; exact src_r, _, .cons (.int _) (.cons (.int _) .nil)⟩
                  · cases ex
                · cases ex
              · exact p1.elim
            · cases h3
      · rename_i y p2 x z p
        simp only [Bool.and_eq_true, decide_eq_true_eq] at h
        obtain ⟨rfl, h2, h3, h4⟩ := h
        cases as with
        | nil => cases h4
        | cons b as => cases as with
          | cons d as => simp [chks] at h4
          | nil =>
            have h4' : (chk T G b c false z && true) = true := h4
            rw [Bool.and_true] at h4'
            have h5 : chks T G [a, b] c [x, z] = true := by
              show (chk T G a c false x && (chk T G b c false z && true)) = true
              rw [h3, h4']; rfl
            have s1 : starEach [x, z] X.env = [(false, eval x X.env), (false, eval z X.env)] := by
              rw [star_of h3, star_of h4']; rfl
            have s2 : starEach [z] X.env = [(false, eval z X.env)] := star_of h4'
            refine PIw (pi_range2 (gl_of hs h2) (F.free _ (by decide +kernel)) (h0 k X W c _ F tk hN hs h5) s1 s2) fun σ H R ⟨σp, μ, S, en, so, p⟩ => ?_
            refine ⟨σp, μ, S, en, so, PostR.bnd p fun ys v S1 H1 μ1 st1 so1 d1 p1 => ?_⟩
            split at p1
            · rename_i xs ex
              simp only [iterOf] at ex
              split at ex
              · rename_i i j
                split at ex
                · rename_i hr
                  cases ex
                  cases d1 with
                  | cons d1 d2 => cases d2 with
                    | cons d2 d3 =>
                      cases d1; cases d2; cases d3
                      have := rgOk_of hr
                      exact ⟨i, j, rfl, ⟨this.1, this.2.1, this.2.2.1, this.2.2.2.1⟩, PostR.now (D := ItD X.K G) p1 so1 ⟨src_r, _, .cons (.int _) (.cons (.int _) .nil)⟩⟩
                · cases ex
              · cases ex
            · exact p1.elim
      · cases h
    | enum =>
      simp only [chkI] at h
      split at h
      · rename_i y p2 x p elts kk tp
        simp only [Bool.and_eq_true, decide_eq_true_eq] at h
        obtain ⟨rfl, h2, h3, h4⟩ := h
        cases as with
        | cons => cases h4
        | nil =>
          have h5 : chks T G [a] c [x] = true := by
            show (chk T G a c false x && true) = true
            rw [h3]; rfl
          have s1 : starEach [x] X.env = [(false, eval x X.env)] := star_of h3
          refine PIw (pi_enum (gl_of hs h2) (F.free _ (by decide +kernel)) (h0 k X W c _ F tk hN hs h5) s1) fun σ H R ⟨σp, μ, S, en, so, p⟩ => ?_
          refine ⟨σp, μ, S, en, so, PostR.bnd p fun ys v S1 H1 μ1 st1 so1 d1 p1 => ?_⟩
          split at p1
          · rename_i xs ex
            simp only [iterOf] at ex
            split at ex
            · rename_i y
              obtain ⟨zs, e1, rfl⟩ := Option.map_eq_some_iff.mp ex
              cases d1 with
              | cons d1 d2 =>
                cases d2
                obtain ⟨b, ws, rfl, h, dd⟩ := lst_of so1 d1 e1
                exact ⟨b, ws, rfl, sqL h, PostR.now (D := ItD X.K G) p1 so1 ⟨src_e d1 (by simp) e1, _, .cons d1 .nil⟩⟩
            · cases ex
          · exact p1.elim
      · cases h
    | zip =>
      simp only [chkI] at h
      split at h
      · rename_i y p2 x z p elts kk tp
        simp only [Bool.and_eq_true, decide_eq_true_eq] at h
        obtain ⟨rfl, h2, h3, h4⟩ := h
        cases as with
        | nil => cases h4
        | cons b as => cases as with
          | cons d as => simp [chks] at h4
          | nil =>
            have h4' : (chk T G b c false z && true) = true := h4
            have h5 : chks T G [a, b] c [x, z] = true := by
              show (chk T G a c false x && (chk T G b c false z && true)) = true
              rw [h3, h4']; rfl
            rw [Bool.and_true] at h4'
            refine PIw (pi_zipA (gl_of hs h2) (F.free _ (by decide +kernel)) (h0 k X W c _ F tk hN hs h5) (star_of h3) (stars_of (irs := [b]) (c := c) h4)) fun σ H R ⟨σp, μ, S, en, so, p⟩ => ?_
            refine ⟨σp, μ, S, en, so, PostR.bnd p fun ys v S1 H1 μ1 st1 so1 d1 p1 => ?_⟩
            split at p1
            · rename_i xs ex
              simp only [iterOf] at ex
              split at ex
              · rename_i u w
                cases d1 with
                | cons d1 d2 => cases d2 with
                  | cons d2 d3 =>
                    cases d3
                    split at ex
                    · rename_i us ws e1 e2
                      cases ex
                      obtain ⟨a1, vs1, rfl, g1, dd1⟩ := lst_of so1 d1 e1
                      obtain ⟨a2, vs2, rfl, g2, dd2⟩ := lst_of so1 d2 e2
                      exact ⟨a1, a2, vs1, vs2, rfl, .inl ⟨sqL g1, sqL g2, PostR.now (D := ItD X.K G) p1 so1 ⟨src_z d1 (by simp) e1 d2 (by simp) e2, _, .cons d1 (.cons d2 .nil)⟩⟩⟩
                    · split at ex
                      · rename_i us ws _
                        cases ex
                        have d1' := d1
                        have d2' := d2
                        cases d1 with
                        | tup g1 n1 dd1 => cases d2 with
                          | tup g2 n2 dd2 => exact ⟨_, _, _, _, rfl, .inr ⟨sqT g1, sqT g2, PostR.now (D := ItD X.K G) p1 so1 ⟨src_zt d1' d2', _, .cons d1' (.cons d2' .nil)⟩⟩⟩
                      · cases ex
              · cases ex
            · exact p1.elim
      · cases h
end
end IP

set_option Elab.async false
set_option linter.all false
set_option maxRecDepth 100000
set_option maxHeartbeats 2000000
/-! IPyB: targets, comprehensions. -/
namespace IP
open PySem PySem.Spec PyProof.Rows L2 RZ
theorem wipe_get {σ : L2.St} {i : Nat} : ∀ {vs : List Nat}, (L2.wipe σ vs)[i]? = if i ∈ vs then (σ[i]?).map (fun _ => none) else σ[i]?
  | [] => by simp [L2.wipe]
  | v :: vs => by
    unfold L2.wipe
    rw [List.getElem?_set]
    by_cases h : v = i
    · subst h
      rw [if_pos rfl, L2.wipe_length, if_pos List.mem_cons_self]
      by_cases q : v < σ.length
      · rw [if_pos q, List.getElem?_eq_getElem q]; rfl
      · rw [if_neg q, List.getElem?_eq_none (by omega)]; rfl
    · rw [if_neg h, wipe_get]
      have : (i ∈ v :: vs) ↔ i ∈ vs := by
        rw [List.mem_cons]
        exact ⟨fun q => q.elim (fun z => absurd z.symm h) id, .inr⟩
      by_cases q : i ∈ vs
      · rw [if_pos q, if_pos (this.mpr q)]
      · rw [if_neg q, if_neg (fun z => q (this.mp z))]
theorem wipe_set {σ : L2.St} {i : Nat} {v : Option V} {vs : List Nat} (h : i ∈ vs) : L2.wipe (σ.set i v) vs = L2.wipe σ vs := by
  apply List.ext_getElem?
  intro j
  rw [wipe_get, wipe_get, List.getElem?_set]
  by_cases q : j ∈ vs
  · rw [if_pos q, if_pos q]
    by_cases z : i = j
    · subst z
      rw [if_pos rfl]
      by_cases y : i < σ.length
      · rw [if_pos y, List.getElem?_eq_getElem y]; rfl
      · rw [if_neg y, List.getElem?_eq_none (by omega)]
    · rw [if_neg z]
  · rw [if_neg q, if_neg q, if_neg (fun z => q (by rw [← z]; exact h))]
section
variable {K : PySem.W.Frag} {G : Nm}
theorem EnvD.wipe {H : Hp} {μ : List Addr} {σp : IP.Env} {σ : L2.St} (h : EnvD K G H μ σp σ) : ∀ vs : List Nat, EnvD K G H μ (IP.wipe σp vs) (L2.wipe σ vs)
  | [] => h
  | v :: vs => (h.wipe vs).set v trivial
def rG (K : PySem.W.Frag) (G : Nm) (tg : Tg) : TG := fun v σ H Q => ∃ Hs μ S x σp σp', Sub Hs H ∧ EnvD K G Hs μ σp σ ∧ SOk K G Hs μ S ∧ Den K G Hs μ x v ∧ bindT tg x σp = some σp' ∧
  ∀ σ', EnvD K G Hs μ σp' σ' → (∀ own, tgOwn own tg = true → L2.wipe σ' own = L2.wipe σ own) → Q σ' H
def rGs (K : PySem.W.Frag) (G : Nm) (ts : List Tg) : TGs := fun vs σ H Q => ∃ Hs μ S xs σp σp', Sub Hs H ∧ EnvD K G Hs μ σp σ ∧ SOk K G Hs μ S ∧ Dens K G Hs μ xs vs ∧ bindTs ts xs σp = some σp' ∧
  ∀ σ', EnvD K G Hs μ σp' σ' → (∀ own, tgsOwn own ts = true → L2.wipe σ' own = L2.wipe σ own) → Q σ' H
end
section
variable {T : Tab} {G : Nm} {X : Cx} {cf : Nat → List PV → Store → Res PV} {k : Nat} {W : WX}
theorem asg_star {tg : Tg} {c : Ck} {e : Expr} {es : List Expr} {env : PySem.Env} (h : tgB tg c e = true) : assignEach (e :: es) env = (false, assign e env) :: assignEach es env := by
  cases tg <;> cases e <;> first | rfl | cases h
theorem asg_len {env : PySem.Env} : ∀ {ts : List Tg} {c : Ck} {es : List Expr}, tgsB ts c es = true → (assignEach es env).length = es.length ∧ (assignEach es env).findIdx? (·.1) = none ∧ ts.length = es.length
  | [], _, [], _ => ⟨rfl, rfl, rfl⟩
  | [], _, _ :: _, h => by cases h
  | _ :: _, _, [], h => by cases h
  | t :: ts, c, e :: es, h => by
    have h' : (tgB t c e && tgsB ts c es) = true := h
    rw [Bool.and_eq_true] at h'
    obtain ⟨a, b, d⟩ := asg_len (env := env) h'.2
    rw [asg_star h'.1]
    refine ⟨by rw [List.length_cons, List.length_cons, a], ?_, by rw [List.length_cons, List.length_cons, d]⟩
    rw [List.findIdx?_cons, b]; rfl
theorem PGw {e : Expr} {t t' : TG} (h : PG X e t) (w : ∀ v σ H Q, t' v σ H Q → t v σ H Q) : PG X e t' := ⟨fun pins s σ H v u Q I r q => h.run pins s σ H v u Q I r (w v σ H Q q)⟩
theorem PGsw {es : List Expr} {t t' : TGs} (h : PGs X es t) (w : ∀ v σ H Q, t' v σ H Q → t v σ H Q) : PGs X es t' := ⟨fun pins s σ H v u Q I r q => h.run pins s σ H v u Q I r (w v σ H Q q)⟩
theorem bindTs_len : ∀ {ts : List Tg} {xs : List PV} {σ σ' : IP.Env}, bindTs ts xs σ = some σ' → xs.length = ts.length
  | [], [], _, _, _ => rfl
  | [], _ :: _, _, _, h => by cases h
  | _ :: _, [], _, _, h => by cases h
  | t :: ts, x :: xs, σ, σ', h => by
    simp only [bindTs] at h
    split at h
    · rw [List.length_cons, List.length_cons, bindTs_len h]
    · cases h
mutual
theorem pg_tg (hc : X.calm = true) (nd : X.N.Nodup) : ∀ {tg : Tg} {c : Ck} {e : Expr}, X.N = c.N → X.env.scope = c.sc → (c.fb = true → ∀ x, X.env.scope.names.lookup x = some .cell → X.fn x = true) → tgB tg c e = true → PG X e (rG X.K G tg)
  | .nm i, c, e, hN, hs, hf, h => by
    cases e <;> try cases h
    rename_i x p
    simp only [tgB, Bool.and_eq_true, decide_eq_true_eq] at h
    obtain ⟨h1, h2⟩ := h
    have hl : Loc X.env.scope x ∧ (X.fn x = true ∨ X.env.scope.names.lookup x = some .local) := by
      unfold locB at h2
      rw [← hs] at h2
      split at h2
      · rename_i e; exact ⟨.inl e, .inr e⟩
      · rename_i e; exact ⟨.inr e, .inl (hf h2 _ e)⟩
      · cases h2
    refine PGw (pg_name (i := i) nd (by rw [hN]; exact h1) hl.1 hl.2) fun v σ H Q ⟨Hs, μ, S, x, σp, σp', sb, en, so, d, hb, q⟩ => ?_
    simp only [bindT, setO] at hb
    split at hb
    · cases hb
      refine q _ (en.set i (x := some x) (v := some v) d) fun own ho => wipe_set ?_
      unfold tgOwn at ho
      exact List.contains_iff_mem.mp ho
    · cases hb
  | .tp ts, c, e, hN, hs, hf, h => by
    cases e <;> try cases h
    rename_i es k p
    have h' : tgsB ts c es = true := h
    obtain ⟨l1, l2, l3⟩ := asg_len (env := X.env) h'
    refine PGw (pg_tup (n := es.length) hc (pgs_tg hc nd hN hs hf h') l1 l2) fun v σ H Q ⟨Hs, μ, S, x, σp, σp', sb, en, so, d, hb, q⟩ => ?_
    cases x with
    | tup xs =>
      cases d with
      | tup g n dd =>
        have hb' : bindTs ts xs σp = some σp' := hb
        exact ⟨_, _, rfl, sb.sqt g, by rw [← dd.length, bindTs_len hb', l3], Hs, μ, S, xs, σp, σp', sb, en, so, dd, hb', q⟩
    | _ => cases hb
theorem pgs_tg (hc : X.calm = true) (nd : X.N.Nodup) : ∀ {ts : List Tg} {c : Ck} {es : List Expr}, X.N = c.N → X.env.scope = c.sc → (c.fb = true → ∀ x, X.env.scope.names.lookup x = some .cell → X.fn x = true) → tgsB ts c es = true → PGs X es (rGs X.K G ts)
  | [], c, es, hN, hs, hf, h => by
    cases es with
    | cons => cases h
    | nil =>
      refine PGsw pgs_nil fun v σ H Q ⟨Hs, μ, S, xs, σp, σp', sb, en, so, d, hb, q⟩ => ?_
      cases d with
      | cons => cases hb
      | nil => cases hb; exact ⟨rfl, q σ en fun _ _ => rfl⟩
  | t :: ts, c, es, hN, hs, hf, h => by
    cases es with
    | nil => cases h
    | cons e es =>
      have h' : (tgB t c e && tgsB ts c es) = true := h
      rw [Bool.and_eq_true] at h'
      refine PGsw (pgs_cons (pg_tg hc nd hN hs hf h'.1) (pgs_tg hc nd hN hs hf h'.2) (by rw [asg_star h'.1]; rfl)) fun v σ H Q ⟨Hs, μ, S, xs, σp, σp', sb, en, so, d, hb, q⟩ => ?_
      cases d with
      | nil => cases hb
      | cons d dr =>
        rename_i x xs y ys
        simp only [bindTs] at hb
        split at hb
        · rename_i σ1 e1
          refine ⟨_, _, rfl, Hs, μ, S, _, σp, σ1, sb, en, so, d, e1, fun σ' en' w' => ⟨Hs, μ, S, _, σ1, σp', sb, en', so, dr, hb, fun σ'' en'' w'' => q σ'' en'' fun own ho => ?_⟩⟩
          have ho' : (tgOwn own t && tgsOwn own ts) = true := ho
          rw [Bool.and_eq_true] at ho'
          rw [w'' own ho'.2, w' own ho'.1]
        · cases hb
end
/-! ### comprehensions -/
theorem Stp.upd {μ μ' : List Addr} {H H' : Hp} {D : Addr} {o : HO} (s : Stp μ H μ' (del H' D)) (hD : H D = none) : Stp μ H μ' (L2.upd H' D o) := ⟨s.pre, fun b u h n => by
    have := s.keep b u h n
    obtain ⟨q1, q2⟩ := del_some this
    rw [upd_ne q1]; exact q2, fun b u h => by
    obtain ⟨u', q⟩ := s.have_ b u h
    obtain ⟨q1, q2⟩ := del_some q
    exact ⟨u', by rw [upd_ne q1]; exact q2⟩⟩
theorem del_upd {H : Hp} {D : Addr} {o : HO} (h : H D = none) : del (L2.upd H D o) D = H := by
  funext b
  by_cases q : b = D
  · subst q; rw [del_same, h]
  · rw [del_ne q, upd_ne q]
theorem sub_upd {H : Hp} {D : Addr} {o : HO} (h : H D = none) : Sub H (L2.upd H D o) := fun b u e => by rw [upd_ne (ne_of_none e h)]; exact e
theorem stp_upd {μ : List Addr} {H : Hp} {D : Addr} {o : HO} (h : H D = none) : Stp μ H μ (L2.upd H D o) := ⟨⟨[], by simp, by simp⟩, fun b u e _ => sub_upd h b u e, fun b u e => ⟨u, sub_upd h b u e⟩⟩
theorem upd_upd {H : Hp} {D : Addr} {o o' : HO} : L2.upd (L2.upd H D o) D o' = L2.upd H D o' := by
  funext b
  by_cases q : b = D
  · subst q; rw [upd_same, upd_same]
  · rw [upd_ne q, upd_ne q, upd_ne q]
theorem stays_self {vs : List PV} {S : Store} (h : ∀ n, PV.ref n ∈ vs → n < S.length) : stays vs S S = true := by
  unfold stays
  rw [List.all_eq_true]
  intro x hx
  cases x with
  | ref n =>
    have := h n hx
    simp only [List.getElem?_eq_getElem this]
    exact beqO_self _
  | _ => rfl
theorem dens_lt {K : PySem.W.Frag} {H : Hp} {μ : List Addr} {S : Store} (so : SOk K G H μ S) : ∀ {vs : List PV} {us : List V}, Dens K G H μ vs us → ∀ n, PV.ref n ∈ vs → n < S.length
  | _, _, .nil, n, h => by cases h
  | _, _, .cons d t, n, h => by
    rcases List.mem_cons.mp h with h | h
    · subst h
      cases d with
      | ref q => rw [← so.len]; exact (List.getElem?_eq_some_iff.mp q).1
    · exact dens_lt so t n h
theorem evI_ok {ik : IK} {r : Res (List PV)} {vs xs : List PV} {S0 S1 : Store} (h : evI ik r = .ok (vs, xs, S0) S1) : S0 = S1 ∧ r = .ok vs S1 ∧ iterOf ik vs S1 = some xs := by
  unfold evI at h
  cases r with
  | ok us S2 =>
    rw [Res.bnd_ok] at h
    split at h
    · rename_i e
      cases h; exact ⟨rfl, rfl, e⟩
    · cases h
  | exc c ys S2 => cases h
  | bad => cases h
theorem take_none {X : Cx} : Takes X (fun _ _ _ _ => False) := fun u s' ⟨a, B, sI, pins, σ, H, cls, d, e, I, nb, up, sky, na, os, ag, w⟩ => w.elim
theorem upd_comm {H : Hp} {a b : Addr} {o u : HO} (h : a ≠ b) : L2.upd (L2.upd H a o) b u = L2.upd (L2.upd H b u) a o := by
  funext c
  by_cases q : c = b
  · subst q; rw [upd_same, upd_ne (Ne.symm h), upd_same]
  · rw [upd_ne q]
    by_cases z : c = a
    · subst z; rw [upd_same, upd_same]
    · rw [upd_ne z, upd_ne z, upd_ne q]
def condT (K : PySem.W.Frag) (G : Nm) (T : Tab) (cf : Nat → List PV → Store → Res PV) : List E → TT
  | [] => tYes
  | a :: _ => tHidE (rT K G (fun _ _ _ _ => False) (evE T cf a))
def condE (T : Tab) (cf : Nat → List PV → Store → Res PV) : List E → IP.Env → Store → Res PV
  | [] => fun _ S => .ok (.bl true) S
  | c :: _ => evE T cf c
/-- the test, the list at D not seen -/
theorem cond_ok {K : PySem.W.Frag} {G : Nm} {cond : List E} {σ1 : IP.Env} {σ2 : L2.St} {Hs : Hp} {μ : List Addr} {S S1 : Store} {c : PV} {b : Bool} {D : Addr} {ys : List V} {R : Bool → Hp → Prop} (en : EnvD K G Hs μ σ1 σ2) (so : SOk K G Hs μ S) (hD : Hs D = none)
    (e1 : condE T cf cond σ1 S = .ok c S1) (e2 : truth S1 c = some b) (q : ∀ H' μ', Stp μ Hs μ' H' → SOk K G H' μ' S1 → H' D = none → R b (L2.upd H' D (.lst ys))) : condT K G T cf cond σ2 (L2.upd Hs D (.lst ys)) R := by
  cases cond with
  | nil => cases e1; cases e2; exact q Hs μ Stp.refl so hD
  | cons a as =>
    have e1 : evE T cf a σ1 S = .ok c S1 := e1
    refine ⟨D, ys, upd_same, ?_⟩
    rw [del_upd hD]
    refine ⟨σ1, μ, S, en, so, ?_⟩
    have et : tst (evE T cf a) σ1 S = .ok b S1 := by
      unfold tst
      rw [e1, Res.bnd_ok, e2]
    rw [et]
    intro v H' μ' st so' d
    cases d
    exact q H' μ' st so'
theorem comp_ok {K : PySem.W.Frag} {G : Nm} {W : WX} {m : Bool} {own : List Nat} {tg : Tg} {cond : List E} {elt : E} {vs xs : List PV} {S0 : Store} {H1 : Hp} {μ1 : List Addr} {J : It} {σp : IP.Env} {σ : L2.St} {Q : VK} {D : Addr}
    (en : EnvD K G H1 μ1 σp σ) (so : SOk K G H1 μ1 S0) (sy : stays vs S0 S0 = true) (src : Src K G J vs xs S0 H1 μ1) (how : tgOwn own tg = true) (hl : xs.length ≤ lim) (hD : H1 D = none)
    (p : PostR K G (Den K G) W σ μ1 H1 ((compL (bindT tg) own (condE T cf cond) (evE T cf elt) (stays vs S0) (IP.wipe σp own) xs [] S0).bnd fun ys S => mkL m ys S) Q) :
    ∃ V : Nat → Nat → Hp → Prop, (∃ m, V 0 m (L2.upd H1 D (.lst []))) ∧ ∀ i m H, V i m H →
      (J.stop i H ∧ Q (.ref D) H) ∨ (J.go i H ∧ ∃ Nx : Hp → Prop, (∀ H', Nx H' → ∃ m', m' < m ∧ V (i + 1) m' H') ∧ ∀ x H', J.yld i H x H' → rG K G tg x (L2.wipe σ own) H' fun σ2 H2 => L2.wipe σ2 own = L2.wipe σ own ∧ condT K G T cf cond σ2 H2 fun b H3 =>
        if b = true then tHidE (rE K G (fun _ _ _ _ => False) (evE T cf elt)) σ2 H3 fun y H4 => ∃ acc, H4 D = some (.lst acc) ∧ acc.length < sizeLine ∧ Nx (L2.upd H4 D (.lst (acc ++ [y]))) else Nx H3) := by
  let V : Nat → Nat → Hp → Prop := fun i n H => n = xs.length - i ∧ i ≤ xs.length ∧ ∃ (Hh : Hp) (μ : List Addr) (S : Store) (acc : List PV) (ys : List V), H = L2.upd Hh D (.lst ys) ∧ Hh D = none ∧ Stp μ1 H1 μ Hh ∧ SOk K G Hh μ S ∧ stays vs S0 S = true ∧ Dens K G Hh μ acc ys ∧ acc.length ≤ i ∧
    PostR K G (Den K G) W σ μ Hh ((compL (bindT tg) own (condE T cf cond) (evE T cf elt) (stays vs S0) (IP.wipe σp own) (xs.drop i) acc S).bnd fun ys S => mkL m ys S) Q
  refine ⟨V, ⟨_, rfl, Nat.zero_le _, H1, μ1, S0, [], [], rfl, hD, Stp.refl, so, sy, .nil, Nat.le_refl _, p⟩, ?_⟩
  rintro i n H ⟨rfl, hi, Hh, μ, S, acc, ys, rfl, nD, st, so, sy, da, la, p⟩
  obtain ⟨g1, g2⟩ := src i Hh μ S _ st so sy (sub_upd (o := .lst ys) nD)
  by_cases hlt : i < xs.length
  · have hx : xs[i]? = some xs[i] := List.getElem?_eq_getElem hlt
    rw [List.drop_eq_getElem_cons hlt] at p
    generalize xs[i] = x at hx p
    obtain ⟨k1, k2⟩ := g1 x hx
    refine .inr ⟨k1, fun H' => V (i + 1) (xs.length - (i + 1)) H', fun H' h => ⟨_, by omega, h⟩, fun v H' hy => ?_⟩
    have cl : ∃ Hs, Hs D = none ∧ H' = L2.upd Hs D (.lst ys) ∧ Stp μ Hh μ Hs ∧ SOk K G Hs μ S ∧ Den K G Hs μ x v := by
      rcases k2 v H' hy with ⟨e, d⟩ | ⟨T', us, zs, e1, e2, e3, e4, d⟩
      · exact ⟨Hh, nD, e, Stp.refl, so, d⟩
      · have hne : D ≠ T' := fun z => by subst z; rw [upd_same] at e1; cases e1
        have hT : Hh T' = none := by rw [upd_ne (Ne.symm hne)] at e1; exact e1
        obtain ⟨s1, s2⟩ := so.new (o := .tup us) hT
        refine ⟨L2.upd Hh T' (.tup us), by rw [upd_ne hne]; exact nD, by rw [e3]; exact upd_comm hne, s1, s2, ?_⟩
        subst e2 e4
        exact .tup (.inl (.inl upd_same)) (.inl (so.nnew hT)) (d.stp s1)
    obtain ⟨Hs, nS, rfl, st2, so2, dx⟩ := cl
    have en0 : EnvD K G Hs μ (IP.wipe σp own) (L2.wipe σ own) := ((en.wipe own).stp st).stp st2
    simp only [compL] at p
    split at p
    · exact p.elim
    · rename_i σ1 hb
      split at p
      · rename_i c S1 e1
        refine ⟨Hs, μ, S, x, _, σ1, sub_upd nS, en0, so2, dx, hb, fun σ2 en2 w2 => ⟨?_, ?_⟩⟩
        · rw [w2 own how]
          apply List.ext_getElem?
          intro j
          rw [wipe_get, wipe_get]
          by_cases q : j ∈ own
          · rw [if_pos q, if_pos q]; cases σ[j]? <;> rfl
          · rw [if_neg q, if_neg q]
        · split at p
          · rename_i e2
            split at p
            · rename_i z S2 e3
              split at p
              · rename_i sy2
                refine cond_ok en2 so2 nS e1 e2 fun H3 μ3 st3 so3 n3 => ?_
                rw [if_pos rfl]
                refine ⟨D, ys, upd_same, ?_⟩
                rw [del_upd n3]
                refine ⟨σ1, μ3, S1, en2.stp st3, so3, ?_⟩
                rw [e3]
                intro y H4 μ4 st4 so4 d4 n4
                refine ⟨ys, upd_same, by rw [← da.length, ← lim_eq]; omega, ?_⟩
                rw [upd_upd]
                have sa := (st2.trans st3).trans st4
                refine ⟨rfl, hlt, H4, μ4, S2, acc ++ [z], ys ++ [y], rfl, n4, st.trans sa, so4, sy2, (da.stp sa).app (.cons d4 .nil), by rw [List.length_append]; simp; exact la, p.weak sa⟩
              · exact p.elim
            · exact p.elim
          · rename_i e2
            split at p
            · rename_i sy2
              refine cond_ok en2 so2 nS e1 e2 fun H3 μ3 st3 so3 n3 => ?_
              rw [if_neg Bool.false_ne_true]
              have sa := st2.trans st3
              exact ⟨rfl, hlt, H3, μ3, S1, acc, ys, rfl, n3, st.trans sa, so3, sy2, da.stp sa, by omega, p.weak sa⟩
            · exact p.elim
          · exact p.elim
      · exact p.elim
  · have hi' : i = xs.length := by omega
    subst hi'
    refine .inl ⟨g2 (Nat.le_refl _), ?_⟩
    rw [List.drop_length] at p
    exact PostR.lst p so nD da
theorem noSet_ok {e : Expr} {env : PySem.Env} (h : noSet e = true) : ∀ x, foldedSetIterable e env x = pure x := by
  intro x
  cases e <;> first | rfl | cases h
theorem chkI_noSet {ik : IK} {its : List E} {c : Ck} {tx ix : Expr} (h : chkI T G ik its c tx ix = true) : noSet ix = true := by
  cases its with
  | nil => cases h
  | cons a as => cases ik with
    | seq => simp only [chkI, Bool.and_eq_true] at h; exact h.2.1
    | rng => cases ix <;> first | rfl | cases h
    | enum => cases ix <;> first | rfl | cases h
    | zip => cases ix <;> first | rfl | cases h
/-- the parts of a comprehension -/
structure LcP (X : Cx) (tE : TE) (el tx ix : Expr) (ifs : List Expr) (scope : Scope) : Prop where
  ex : ∃ (own : List (Str × Nat)) (wi : TI) (g : TG) (tt : TT) (te : TE), PI X tx ix wi ∧ BlkOk X.N X.env.scope scope own ∧
    (∀ (s : Shared) (H : Hp) (C : Addr) (cl : List (Str × Addr)) (fp : List Addr), PG (X.blk s H scope (compEnvC scope cl C X.env) fp) tx g) ∧
    (∀ (s : Shared) (H : Hp) (C : Addr) (cl : List (Str × Addr)) (fp : List Addr), PTs (X.blk s H scope (compEnvC scope cl C X.env) fp) ifs tt) ∧
    (∀ (s : Shared) (H : Hp) (C : Addr) (cl : List (Str × Addr)) (fp : List Addr), PE (X.blk s H scope (compEnvC scope cl C X.env) fp) el te) ∧
    (∀ x, foldedSetIterable ix X.env x = pure x) ∧ ∀ σ H Q, tE σ H Q → tLc wi g tt te (own.map (·.2)) σ H Q
theorem comp_parts {m : Bool} {own : List Nat} {tg : Tg} {ik : IK} {its cond : List E} {elt : E} (h0 : SndL T G cf its) (h1 : ∀ a ∈ its, Snd T G cf a) (hc : ∀ a ∈ cond, Snd T G cf a) (he : Snd T G cf elt)
    (k : Nat) (X : Cx) (W : WX) (c : Ck) (t : Bool) (e : Expr) (F : Fx T G X cf k) (tk : Takes X W) (hN : X.N = c.N) (hs : X.env.scope = c.sc) (h : chk T G (.comp m own tg ik its cond elt) c t e = true) :
    ∃ el tx ix ifs scope p, e = .ListComp el [⟨tx, ix, ifs, 0⟩] scope p ∧ LcP X (rE X.K G W (evE T cf (.comp m own tg ik its cond elt))) el tx ix ifs scope := by
  simp only [chk] at h
  split at h
  · rename_i el tx ix ifs scope p
    simp only [Bool.and_eq_true] at h
    obtain ⟨b1, b2, b3, b4, b5, b6⟩ := h
    refine ⟨el, tx, ix, ifs, scope, p, rfl, ⟨?_⟩⟩
    have ok := blkOk_by (N := X.N) (sc := X.env.scope) (scope := scope) (by rw [hN, hs]; exact b1)
    have eo : (own.map fun (i : Nat) => ((c.N[i]?).getD ("" : Str), i)).map (·.2) = own := by rw [List.map_map]; exact List.map_id _
    have hsc : relS scope X.env.scope = relS scope c.sc := by rw [hs]
    refine ⟨_, _, rG X.K G tg, condT X.K G T cf cond, tHidE (rE X.K G (fun _ _ _ _ => False) (evE T cf elt)), pi_of h0 h1 F tk hN hs b2, ok,
      (fun s H C cl fp => pg_tg (G := G) (X := X.blk s H scope (compEnvC scope cl C X.env) fp) F.calm F.nd (c := ⟨c.N, relS scope c.sc, false⟩) hN hsc (fun z => by cases z) b3),
      (fun s H C cl fp => ?_), (fun s H C cl fp => ?_), (noSet_ok (chkI_noSet b2)), fun σ H Q ⟨σp, μ, S, en, so, p⟩ => ?_⟩
    · have F' := F.blk s H scope (compEnvC scope cl C X.env) fp
      cases cond with
      | nil => cases ifs with
        | nil => exact pts_nil
        | cons => cases b5
      | cons a as => cases ifs with
        | nil => cases b5
        | cons x xs => cases xs with
          | cons => cases b5
          | nil =>
            simp only [chkC, Bool.and_eq_true] at b5
            exact pts_one (pt_hide ((hc a (by simp) k _ _ ⟨c.N, relS scope c.sc, false⟩ x F' take_none hN hsc).2 b5.1))
    · have F' := F.blk s H scope (compEnvC scope cl C X.env) fp
      exact pe_hide ((he k _ _ ⟨c.N, relS scope c.sc, false⟩ el F' take_none hN hsc).1 b6)
    · rw [eo]
      refine ⟨σp, μ, S, en, so, ?_⟩
      have as : evE T cf (.comp m own tg ik its cond elt) σp S = (evI ik (evEs T cf its σp S)).bnd fun q S' => if q.2.1.length ≤ lim then (compL (bindT tg) own (condE T cf cond) (evE T cf elt) (stays q.1 q.2.2) (IP.wipe σp own) q.2.1 [] S').bnd fun ys S => mkL m ys S else .bad := by
        cases cond <;> (simp only [evE, evI]; cases evEs T cf its σp S <;> first | rfl | (rename_i vs S1; simp only [Res.bnd_ok]; cases iterOf ik vs S1 <;> rfl))
      rw [as] at p
      refine PostR.bndE p fun q J S1 H1 μ1 er st1 so1 d1 p1 D hD => ?_
      obtain ⟨vs, xs, S0⟩ := q
      obtain ⟨rfl, _, _⟩ := evI_ok er
      obtain ⟨d1, us', dv⟩ := d1
      split at p1
      · rename_i hlen
        exact comp_ok (en.stp st1) so1 (stays_self (dens_lt so1 dv)) d1 b4 hlen hD p1
      · exact p1.elim
  · cases h
theorem snd_comp {m : Bool} {own : List Nat} {tg : Tg} {ik : IK} {its cond : List E} {elt : E} (h0 : SndL T G cf its) (h1 : ∀ a ∈ its, Snd T G cf a) (hc : ∀ a ∈ cond, Snd T G cf a) (he : Snd T G cf elt) : Snd T G cf (.comp m own tg ik its cond elt) := snd_of fun k X W c t e F tk hN hs h => by
  obtain ⟨el, tx, ix, ifs, scope, p, rfl, ⟨own', wi, g, tt, te, q1, q2, q3, q4, q5, q6, q7⟩⟩ := comp_parts h0 h1 hc he k X W c t e F tk hN hs h
  exact ⟨PEw (pe_lc F.calm F.nd q1 q2 q3 q4 q5 q6) q7, fun _ => rfl⟩
/-! ### all expressions -/
theorem snd_no {ir : E} (h : ∀ c t e, chk T G ir c t e = true → False) : Snd T G cf ir := fun k X W c e F tk hN hs => ⟨fun q => (h _ _ _ q).elim, fun q => (h _ _ _ q).elim⟩
mutual
theorem snd : ∀ ir : E, Snd T G cf ir
  | .var i => snd_var i
  | .cst v => snd_cst v
  | .glo x v => snd_glo x v
  | .tup es => snd_tup (snds es).1
  | .lst m es => snd_lst (snds es).1
  | .dct0 m => snd_dct0
  | .bin m op a b => snd_bin (snd a) (snd b)
  | .neg a => snd_neg (snd a)
  | .nt a => snd_nt (snd a)
  | .cmp op a b => snd_cmp (snd a) (snd b)
  | .chn op op' a b c => snd_chn (snd a) (snd b) (snd c)
  | .and a b => snd_and (snd a) (snd b)
  | .or a b => snd_or (snd a) (snd b)
  | .ite c a b => snd_ite (snd c) (snd a) (snd b)
  | .idx a b => snd_idx (snd a) (snd b)
  | .slc m a lo hi => snd_slc (snd a) (snds lo).1 (snds lo).2 (snds hi).1 (snds hi).2
  | .attr a f => snd_no fun c t e h => by simp [chk] at h
  | .call f es => snd_call (snds es).1
  | .make c es => snd_no fun c t e h => by simp [chk] at h
  | .meth a m es => snd_no fun c t e h => by simp [chk] at h
  | .bi m b es => snd_bi (snds es).1 (snds es).2
  | .bm m b a es => snd_bm (snd a) (snds es).1
  | .isi a t => snd_isi (snd a)
  | .comp m own tg ik its cond elt => snd_comp (snds its).1 (snds its).2 (snds cond).2 (snd elt)
theorem snds : ∀ irs : List E, SndL T G cf irs ∧ ∀ a ∈ irs, Snd T G cf a
  | [] => ⟨sndl_nil, fun _ h => by cases h⟩
  | a :: as => ⟨sndl_cons (snd a) (snds as).1, fun b h => by
    rcases List.mem_cons.mp h with h | h
    · rw [h]; exact snd a
    · exact (snds as).2 b h⟩
end
end
end IP

set_option Elab.async false
set_option linter.all false
set_option maxRecDepth 100000
set_option maxHeartbeats 2000000
/-! IPyC: statements. -/
namespace IP
open PySem PySem.Spec PyProof.Rows L2
section
variable {K : PySem.W.Frag} {G : Nm}
/-- what is wanted behind a statement -/
def PostS (K : PySem.W.Frag) (G : Nm) (W : WX) (μ : List Addr) (H : Hp) (r : SR) (D : Ends) : Prop := match r with
  | .nx σp S => ∀ σ' H' μ', Stp μ H μ' H' → SOk K G H' μ' S → EnvD K G H' μ' σp σ' → D.nx σ' H'
  | .bk σp S => ∀ σ' H' μ', Stp μ H μ' H' → SOk K G H' μ' S → EnvD K G H' μ' σp σ' → D.bk σ' H'
  | .ct σp S => ∀ σ' H' μ', Stp μ H μ' H' → SOk K G H' μ' S → EnvD K G H' μ' σp σ' → D.ct σ' H'
  | .rt v S => ∀ u H' μ', Stp μ H μ' H' → SOk K G H' μ' S → Den K G H' μ' v u → D.rt u H'
  | .exc c xs σp S => ∀ d σ' H' μ', Stp μ H μ' H' → SOk K G H' μ' S → EnvD K G H' μ' σp σ' → ExcD K G H' μ' xs d → W (.ref (cA K G c)) d σ' H'
  | .bad => False
def rS (K : PySem.W.Frag) (G : Nm) (W : WX) (ev : IP.Env → Store → SR) : TS := fun D σ H => ∃ σp μ S, EnvD K G H μ σp σ ∧ SOk K G H μ S ∧ PostS K G W μ H (ev σp S) D
variable {α β : Type} {DD : Hp → List Addr → α → β → Prop} {W : WX} {σ : L2.St} {σp : IP.Env} {μ μ' : List Addr} {H H' : Hp} {D : Ends}
theorem PostS.weak {r : SR} (p : PostS K G W μ H r D) (s : Stp μ H μ' H') : PostS K G W μ' H' r D := by
  cases r with
  | nx σ1 S => exact fun σ2 H2 μ2 s2 => p σ2 H2 μ2 (s.trans s2)
  | bk σ1 S => exact fun σ2 H2 μ2 s2 => p σ2 H2 μ2 (s.trans s2)
  | ct σ1 S => exact fun σ2 H2 μ2 s2 => p σ2 H2 μ2 (s.trans s2)
  | rt v S => exact fun σ2 H2 μ2 s2 => p σ2 H2 μ2 (s.trans s2)
  | exc c xs σ1 S => exact fun d σ2 H2 μ2 s2 => p d σ2 H2 μ2 (s.trans s2)
  | bad => exact p
theorem PostS.lift {r : Res α} {f : α → Store → SR} {k : β → Hp → Prop} (p : PostS K G W μ H (liftE σp r f) D) (en : EnvD K G H μ σp σ)
    (hk : ∀ x v S' H' μ', r = .ok x S' → Stp μ H μ' H' → SOk K G H' μ' S' → DD H' μ' x v → PostS K G W μ' H' (f x S') D → k v H') : PostR K G DD W σ μ H r k := by
  cases r with
  | ok x S => exact fun v H2 μ2 s2 so d => hk x v S H2 μ2 rfl s2 so d (PostS.weak (r := f x S) p s2)
  | exc c xs S => exact fun d H2 μ2 s2 so e => p d σ H2 μ2 s2 so (en.stp s2) e
  | bad => exact p
end
theorem PSw {X : Cx} {st : Stmt} {t t' : TS} (h : PS X st t) (w : ∀ D σ H, t' D σ H → t D σ H) : PS X st t' := ⟨fun pins s σ H D I q => h.run pins s σ H D I (w D σ H q)⟩
theorem PSsw {X : Cx} {st : List Stmt} {t t' : TS} (h : PSs X st t) (w : ∀ D σ H, t' D σ H → t D σ H) : PSs X st t' := ⟨fun pins s σ H D I q => h.run pins s σ H D I (w D σ H q)⟩
/-- the place of a statement: a def's body -/
structure Sx (X : Cx) (c : Ck) : Prop where
  fn : c.fb = true → ∀ x, X.env.scope.names.lookup x = some .cell → X.fn x = true
  po : PassesOwn (model X.prog X.w) X.A X.env X.xe
  stk : X.stack = X.env :: X.outer
  fr : X.env.frame = some X.env.locals
  kd : X.env.scope.kind = .function
/-- no comprehension -/
def noLc : Expr → Bool
  | .ListComp .. => false | .SetComp .. => false | .DictComp .. => false
  | _ => true
theorem noLc_sw {e : Expr} (h : noLc e = true) (t : Option Expr) (l : Nat) (env : PySem.Env) : swapsWith e t l env = pure false := by
  cases e <;> first | rfl | cases h
/-- a target and a value that are stored as they come -/
def asgB (sc : Scope) : Expr → Expr → Bool
  | .Name y py, .ListComp _ _ scope p => (match sc.names.lookup y with | some .local => true | _ => false) && ((py.line == p.line) && !(scope.names.any fun (n, k) => n == y && (k == .local || k == .cell)))
  | .Tuple .., .Tuple .. => false
  | _, e => noLc e
def slcNo : Expr → Bool
  | .Slice .. => false | .Tuple .. => false
  | _ => true
section
variable (T : Tab) (G : Nm)
mutual
def chkS : S → Ck → Stmt → Bool
  | .asg t e => fun c st => match st with
    | .Assign [tx] ex _ => tgB t c tx && (chk T G e c false ex && asgB c.sc tx ex)
    | _ => false
  | .asgS o i e => fun c st => match st with
    | .Assign [.Subscript ox ix _] ex _ => slcNo ix && (noLc ex && (chk T G e c false ex && (chk T G o c false ox && chk T G i c false ix)))
    | _ => false
  | .aug i op e => fun c st => match st with
    | .AugAssign (.Name x _) o ex _ => decide (c.N[i]? = some x) && (locB c x && (opB op o && chk T G e c false ex))
    | _ => false
  | .ex e => fun c st => match st with
    | .Expr ex _ => noLc ex && chk T G e c false ex
    | _ => false
  | .iff d a b => fun c st => match st with
    | .If dx as bs _ => chk T G d c true dx && (chkSs a c as && chkSs b c bs)
    | _ => false
  | .for t ik its body => fun c st => match st with
    | .For tx ix bs [] _ => tgB t c tx && (chkI T G ik its c tx ix && chkSs body c bs)
    | _ => false
  | .whl d body => fun c st => match st with
    | .While dx bs [] _ => chk T G d c true dx && chkSs body c bs
    | _ => false
  | .rais d es => fun c st => match es, st with
    | [], .Raise (some (.Call (.Name x _) [.Constant (.str _) _ _] [] _)) none _ => decide (G.cn d = x) && (glB c.sc x && (okNm x && T.rz d))
    | _, _ => false
  | .ret e => fun c st => match st with
    | .Return (some ex) _ => chk T G e c false ex
    | _ => false
  | .ret0 => fun _ st => match st with
    | .Return none _ => true
    | _ => false
  | .brk => fun _ st => match st with
    | .Break _ => true
    | _ => false
  | .cnt => fun _ st => match st with
    | .Continue _ => true
    | _ => false
  | .pas => fun _ st => match st with
    | .Pass _ => true
    | .Expr (.Constant (.str _) _ _) _ => true
    | _ => false
  | .tryS body cs bs => fun c st => match cs, bs, st with
    | [(d, some i)], [[.asg (.nm j) (.var i')]], .Try ss [.ExceptHandler (some (.Name x _)) (some n) [.Assign [.Name y _] (.Name n' _) _] _] [] [] _ =>
      decide (i' = i ∧ n' = n ∧ G.cn d = x ∧ c.N[i]? = some n ∧ c.N[j]? = some y) && (glB c.sc x && (okNm x && (T.hasC d && ((match c.sc.names.lookup n with | some .local => true | _ => false) && (okNm n && (locB c y && chkSs body c ss))))))
    | _, _, _ => false
  | _ => fun _ _ => false
def chkSs : List S → Ck → List Stmt → Bool
  | [] => fun _ ss => match ss with
    | [] => true
    | _ => false
  | s :: r => fun c ss => match ss with
    | x :: xs => chkS s c x && chkSs r c xs
    | [] => false
end
end
section
variable {T : Tab} {G : Nm} {X : Cx} {cf : Nat → List PV → Store → Res PV} {k : Nat} {W : WX}
def SndS (T : Tab) (G : Nm) (cf : Nat → List PV → Store → Res PV) (ir : S) : Prop :=
  ∀ (k : Nat) (X : Cx) (W : WX) (c : Ck) (st : Stmt), Fx T G X cf k → Takes X W → X.N = c.N → X.env.scope = c.sc → Sx X c → chkS T G ir c st = true → PS X st (rS X.K G W (evS T cf ir))
def SndSs (T : Tab) (G : Nm) (cf : Nat → List PV → Store → Res PV) (ir : List S) : Prop :=
  ∀ (k : Nat) (X : Cx) (W : WX) (c : Ck) (st : List Stmt), Fx T G X cf k → Takes X W → X.N = c.N → X.env.scope = c.sc → Sx X c → chkSs T G ir c st = true → PSs X st (rS X.K G W (evSs T cf ir))
theorem loc_of {c : Ck} {x : Str} (hs : X.env.scope = c.sc) (hf : Sx X c) (h : locB c x = true) : Loc X.env.scope x ∧ (X.fn x = true ∨ X.env.scope.names.lookup x = some .local) := by
  unfold locB at h
  rw [← hs] at h
  split at h
  · rename_i e; exact ⟨.inl e, .inr e⟩
  · rename_i e; exact ⟨.inr e, .inl (hf.fn h _ e)⟩
  · cases h
theorem chk_lc {ir : E} {c : Ck} {t : Bool} {el : Expr} {gs : List Comprehension} {sc : Scope} {p : Pos} (h : chk T G ir c t (.ListComp el gs sc p) = true) : ∃ m own tg ik its cond elt, ir = .comp m own tg ik its cond elt := by
  cases ir
  case comp m own tg ik its cond elt => exact ⟨_, _, _, _, _, _, _, rfl⟩
  case bi m b es => cases b <;> cases h
  all_goals cases h
/-- a value stored to a target -/
theorem asg_post {t : Tg} {e : E} {D : Ends} {σ : L2.St} {H : Hp} (q : rS X.K G W (evS T cf (.asg t e)) D σ H) : rE X.K G W (evE T cf e) σ H (fun v H1 => rG X.K G t v σ H1 D.nx) := by
  obtain ⟨σp, μ, S, en, so, p⟩ := q
  simp only [evS] at p
  refine ⟨σp, μ, S, en, so, PostS.lift p en fun x v S1 H1 μ1 er st1 so1 d1 p1 => ?_⟩
  split at p1
  · rename_i σ' hb
    exact ⟨H1, μ1, S1, x, σp, σ', fun _ _ q => q, en.stp st1, so1, d1, hb, fun σ2 en2 _ => p1 σ2 H1 μ1 Stp.refl so1 en2⟩
  · exact p1.elim
theorem snds_asg {t : Tg} {e : E} : SndS T G cf (.asg t e) := fun k X W c st F tk hN hs sx h => by
  cases st <;> try cases h
  rename_i ts ex p
  cases ts with
  | nil => cases h
  | cons tx ts => cases ts with
    | cons => cases h
    | nil =>
      simp only [chkS, Bool.and_eq_true] at h
      obtain ⟨h1, h2, h3⟩ := h
      have pg := pg_tg (G := G) F.calm F.nd hN hs sx.fn h1
      have pe := (snd e k X W c ex F tk hN hs).1 h2
      have as1 : (assignEach [tx] X.env).map (·.2) = [assign tx X.env] := by rw [asg_star h1]; rfl
      unfold asgB at h3
      split at h3
      · rename_i y py el gs scope p2
        obtain ⟨m, own, tg, ik, its, cond, elt, rfl⟩ := chk_lc h2
        obtain ⟨el', tx', ix, ifs, scope', p', e1, ⟨own', wi, g, tt, te, q1, q2, q3, q4, q5, q6, q7⟩⟩ := comp_parts (snds its).1 (snds its).2 (snds cond).2 (snd elt) k X W c false _ F tk hN hs h2
        cases e1
        simp only [Bool.and_eq_true, Bool.not_eq_true'] at h3
        obtain ⟨h3, h4, h5⟩ := h3
        have hl : X.env.scope.names.lookup y = some .local := by
          rw [← hs] at h3
          split at h3
          · assumption
          · cases h3
        cases t with
        | tp ts => cases h1
        | nm i =>
          simp only [tgB, Bool.and_eq_true, decide_eq_true_eq] at h1
          have hk := sx.kd
          refine PSw (ps_setLc (i := i) F.calm F.nd (by rw [hN]; exact h1.1) hl (sw_true hk hl h4 h5) q1 q2 q3 q4 q5 q6) fun D σ H q => ?_
          refine q7 _ _ _ ?_
          obtain ⟨σp, μ, S, en, so, p⟩ := q
          simp only [evS] at p
          refine ⟨σp, μ, S, en, so, PostS.lift p en fun x v S1 H1 μ1 er st1 so1 d1 p1 => ?_⟩
          simp only [bindT, setO] at p1
          split at p1
          · rename_i σ' hb
            split at hb
            · cases hb
              exact p1 _ H1 μ1 Stp.refl so1 ((en.stp st1).set i (x := some x) (v := some v) d1)
            · cases hb
          · exact p1.elim
      · cases h3
      · rename_i hA hB
        refine PSw (ps_asg pe pg (noLc_sw h3 _ _ _) ?_ as1) fun D σ H q => asg_post q
        cases t with
        | nm i => cases tx <;> first | rfl | cases h1
        | tp ts => cases tx <;> first | (cases h1; done) | (cases ex <;> first | rfl | exact (hB _ _ _ _ _ _ rfl rfl).elim)
theorem snds_asgS {o i e : E} : SndS T G cf (.asgS o i e) := fun k X W c st F tk hN hs sx h => by
  cases st <;> try cases h
  rename_i ts ex p
  cases ts with
  | nil => cases h
  | cons tx ts => cases tx <;> try (cases h; done)
                  rename_i ox ix p2
                  cases ts with
    | cons => cases h
    | nil =>
      simp only [chkS, Bool.and_eq_true] at h
      obtain ⟨h1, h2, h3, h4, h5⟩ := h
      have pg := pg_sub (pos := p2) ((snd o k X W c ox F tk hN hs).1 h4) ((snd i k X W c ix F tk hN hs).1 h5) set_list (by intro v; cases ix <;> first | rfl | cases h1)
      refine PSw (ps_asg ((snd e k X W c ex F tk hN hs).1 h3) pg (by cases ex <;> first | rfl | cases h2) (by cases ex <;> rfl) rfl) fun D σ H ⟨σp, μ, S, en, so, p⟩ => ?_
      simp only [evS] at p
      refine ⟨σp, μ, S, en, so, PostS.lift p en fun x v S1 H1 μ1 er st1 so1 d1 p1 => ⟨σp, μ1, S1, en.stp st1, so1, PostS.lift p1 (en.stp st1) fun y u S2 H2 μ2 er2 st2 so2 d2 p2 => ⟨σp, μ2, S2, (en.stp st1).stp st2, so2, PostS.lift p2 ((en.stp st1).stp st2) fun z w S3 H3 μ3 er3 st3 so3 d3 p3 => ?_⟩⟩⟩
      cases hx : setIx y z x S3 with
      | none => rw [hx] at p3; exact p3.elim
      | some S4 =>
        rw [hx] at p3
        unfold setIx at hx
        split at hx
        · rename_i n q
          split at hx
          · rename_i xs hn
            split at hx
            · rename_i j hj
              cases hx
              cases d3
              obtain ⟨a, rfl, ha⟩ := Den.inj_ref (d2.stp st3)
              obtain ⟨a', ha', ys, hy, dy⟩ := so3.at hn
              rw [ha] at ha'; cases ha'
              refine ⟨a, ys, q, j, rfl, rfl, hy, by rw [← dy.length]; exact hj, ?_⟩
              have dx : Den X.K G H3 μ3 x v := (d1.stp st2).stp st3
              have s0 : Stp μ3 H3 μ3 (L2.upd H3 a (.lst (ys.set j v))) := ⟨⟨[], by simp, by simp⟩, fun b u e hb => by rw [upd_ne (fun z => hb (by rw [z]; exact List.mem_of_getElem? ha))]; exact e, fun b u e => by
                by_cases hb : b = a
                · subst hb; exact ⟨_, upd_same⟩
                · exact ⟨u, by rw [upd_ne hb]; exact e⟩⟩
              obtain ⟨t1, t2⟩ := so3.put (so := .lst (xs.set j x)) (o := .lst (ys.set j v)) ha ⟨_, upd_same, (dy.set j dx).stp s0⟩ ⟨_, hy⟩
              exact p3 σ _ μ3 t1 t2 ((((en.stp st1).stp st2).stp st3).stp t1)
            · cases hx
          · cases hx
        · cases hx
end
end IP

set_option Elab.async false
set_option linter.all false
set_option maxRecDepth 100000
set_option maxHeartbeats 2000000
/-! IPyY: try: .. except C as n: x = n. -/
namespace IP
open PySem PySem.Spec PyProof.Rows L2
section
variable {X : Cx} {pins : List (Addr × Obj)} {σ : L2.St} {H : Hp} {s : Shared}
/-- an error's object comes into the abstract heap -/
theorem add_exc {a C : Addr} {oe : Obj} {d : Option Addr} {vs : Array Value} (I : Inv X pins σ H s) (ha : s.heap.get? a = some oe) (hc : oe.cls = .ref C) (hd : oe.dict = d) (hv : oe.data = .fields vs) (na : H a = none) (nL : a ≠ X.env.locals)
    (n0 : ∀ o, X.s_0.heap.get? a = some o → a ∈ X.ex) (np : ∀ p ∈ X.pn ++ pins, p.1 ≠ a) : Inv X pins σ (L2.upd H a (excO a C d)) s := by
  have B := I.base
  have ne : ∀ {b : Addr} {o : HO}, H b = some o → L2.upd H a (excO a C d) b = some o := fun h => by rw [upd_ne (ne_of_none h na)]; exact h
  have no : ∀ {b : Addr}, b ≠ a → H b = none → L2.upd H a (excO a C d) b = none := fun q h => by rw [upd_ne q]; exact h
  refine ⟨I.ok, I.os, I.bare, ⟨B.keep, B.slot, fun b o q n x => no (fun z => ?_) (B.free b o q n x), B.there, fun b ys q => ne (B.tups b ys q), fun b o u q => ne (B.frzs b o u q), fun b ps q => ?_⟩, I.loc, I.cell, no (fun z => nL z.symm) I.free, fun x c q => no (fun z => ?_) (I.freeC x c q), fun p hp => ?_, fun b o h => ?_, I.len⟩
  · subst z; exact x (n0 o q)
  · obtain ⟨m, e⟩ := B.tbls b ps q
    exact ⟨m, ne e⟩
  · subst z
    obtain ⟨v, oc, hoc, hdc⟩ := I.cell x c q
    rw [ha] at hoc; cases hoc
    rw [hv] at hdc; cases hdc
  · obtain ⟨e1, e2, e3⟩ := I.pin p hp
    exact ⟨e1, no (np p hp) e2, e3⟩
  · by_cases q : b = a
    · subst q
      rw [upd_same] at h; cases h
      refine ⟨⟨oe, ha, hc, hd, vs, hv⟩, ⟨oe, ha⟩, fun h1 h2 ⟨o, k1, k2⟩ k => ⟨o, k o k1, k2⟩⟩
    · rw [upd_ne q] at h
      exact (I.hok b o h).stay (fun c u _ r => r) (fun c r => ne r) fun c ys r => ne r
end
/-- behind the suite of an error that is kept -/
def endsE (a C : Addr) (d : Option Addr) (i : Nat) (D : Ends) : Ends :=
  { nx := fun σ' H' => H' a = none → D.nx (σ'.set i none) (L2.upd H' a (excO a C d)), rt := fun v H' => H' a = none → D.rt v (L2.upd H' a (excO a C d)),
    bk := fun σ' H' => H' a = none → D.bk (σ'.set i none) (L2.upd H' a (excO a C d)), ct := fun σ' H' => H' a = none → D.ct (σ'.set i none) (L2.upd H' a (excO a C d)) }
/-- what the clause wishes of an error of an own class -/
def wE (K : PySem.W.Frag) (c : Value) (i : Nat) (ts : Addr → TS) (Wout : WX) (D : Ends) : WX := fun cls d σ H =>
  ∃ b, PySem.W.exmOne K cls c = some b ∧ (b = true → ∃ C, cls = .ref C ∧ ∀ a, H a = none → ts a (endsE a C d i D) (σ.set i (some (.ref a))) H) ∧ (b = false → Wout cls d σ H)
section
variable {X : Cx} {x n : Str} {c : Value} {i : Nat} {body suite : List Stmt} {b0 : Stmt} {np pos pos' : Pos} {tb : WX → TS} {ts : Addr → TS} {Wout : WX}
theorem ps_tryE (stk : X.stack = X.env :: X.outer) (fr : X.env.frame = some X.env.locals) (nd : X.N.Nodup) (ix : X.N[i]? = some n) (loc : X.env.kindOf n = some .local) (nm : Names X x c) (tk : Takes X Wout)
    (hbody : ∀ (W : WX) (pn : List (Addr × Obj)) (xe : Value → Shared → Prop), Takes (X.tr pn xe) W → PassesOwn (model X.prog X.w) X.A X.env xe → PSs (X.tr pn xe) body (tb W))
    (hsuite : ∀ (a : Addr) (oe : Obj) (pn : List (Addr × Obj)), PSs (X.suite a ((a, oe) :: pn)) (b0 :: suite) (ts a)) :
    PS X (.Try body [.ExceptHandler (some (.Name x np)) (some n) (b0 :: suite) pos'] [] [] pos) (fun D σ H => tb (wE X.K c i ts Wout D) D σ H) := by
  refine ⟨fun pins st σ H D I hw => ?_⟩
  have ok := I.ok
  have ef : X.A.frames = some (X.env :: X.outer) := by rw [ok.frames, stk]
  refine wpAny_Try_except ?_
  refine wpAny_mono ((hbody (wE X.K c i ts Wout D) (X.pn ++ pins) (fun e t1 => wpAny (model X.prog X.w) X.A (noteFrame e X.env) (fun _ t2 => wpAny (model X.prog X.w) X.A (setFlight e none) (fun _ t3 =>
    wpAny (model X.prog X.w) X.A (handleBy e X.env [.ExceptHandler (some (.Name x np)) (some n) (b0 :: suite) pos']) (SP X pins D) X.xe t3) X.xe t2) X.xe t1) (fun u t' q => ?_) PassesOwn.looking).run [] st σ H D (I.toTry _) hw) (fun f t1 q => ?_) (fun e t1 q => q)
  · obtain ⟨a, B, sI, pj, σj, Hj, cls, d, rfl, JT, nb, up, sky, na, os, ag, b, hm, yes, no⟩ := q
    have J : Inv X pins σj Hj sI := JT.ofTry ok
    have sk : Sky B (X.env :: X.outer) a (Zc cls d) X.env.locals t'.heap := by rw [← stk]; exact sky
    show wpAny (model X.prog X.w) X.A (noteFrame (.ref a) X.env) _ _ _
    refine Sky.land Zc.steady ef fr sk fun h3 fl3 up3 => ?_
    have J3 : Inv X pins σj Hj { t' with heap := h3 } := J.landed nb fl3.1 (up.trans up3) os ag
    obtain ⟨o3, v3, g3, z3, f3⟩ := fl3.there
    have nfr : a ∉ frs (X.env :: X.outer) := fun hm => by
      obtain ⟨_, o', e', hnf⟩ := fl3.2.2.1.mem hm
      rw [g3] at e'; cases e'
      exact hnf _ f3
    have nL : a ≠ X.env.locals := fun z => nfr (List.mem_filterMap.mpr ⟨X.env, by simp, by rw [fr, z]⟩)
    have nF : a ∉ X.fs := fun hm => by
      obtain ⟨e, he, q⟩ := List.mem_filterMap.mp hm
      exact nfr (List.mem_filterMap.mpr ⟨e, by simp [he], q⟩)
    have gone0 : sI.heap.get? a = none := by
      cases q : sI.heap.get? a with
      | none => rfl
      | some o =>
        have := nb a o q (by rw [stk]; exact nfr)
        rw [fl3.2.1] at this; cases this
    have n0 : ∀ o, X.s_0.heap.get? a = some o → a ∈ X.ex := fun o e => by
      by_cases hx : a ∈ X.ex
      · exact hx
      · obtain ⟨o', e'⟩ := J.base.there a o e hx
        rw [gone0] at e'; cases e'
    have np' : ∀ p ∈ X.pn ++ pins, p.1 ≠ a := fun p hp z => by
      have := (J.pin p hp).1
      rw [z, gone0] at this; cases this
    have S3 := J3.suite g3 f3 na nL nF
    refine wpAny_handleBy_cons (codeAny_handlers_test ?_) (by intro q; cases q)
    have looks : PySem.W.Looks (model X.prog X.w) h3 (typeOf (.ref a)) cls := fun A Q E s k q => wpAny_typeOf_ref (k _ _ g3) (by rw [z3.1]; exact q)
    have answer := PySem.W.exm_one (M := model X.prog X.w) (J3.kIn) looks hm
    have test : ∀ {Q : Value → Shared → Prop} {E : Value → Shared → Prop}, Q c { t' with heap := h3 } → wpAny (model X.prog X.w) (X.A.mark (some (.ref a))) (eval (.Name x np) X.env) Q E { t' with heap := h3 } := fun {Q E} q => by
      obtain ⟨hg, hdb, k | ⟨k1, k2, k3⟩⟩ := nm
      · exact ld_glob (X := X.suite a ((a, o3) :: (X.pn ++ pins))) S3 hg k q hdb
      · exact ld_blt (X := X.suite a ((a, o3) :: (X.pn ++ pins))) S3 hg k1 k2 q k3 hdb
    refine test (answer.here ?_)
    cases b with
    | true =>
      refine codeAny_handlers_suite_as ?_
      refine HandSPX.lands_againZ fl3 fun h4 fl4 up4 => ?_
      have J4 : Inv X pins σj Hj { t' with heap := h4 } := J.landed nb fl4.1 ((up.trans up3).trans up4) os ag
      obtain ⟨o4, v4, g4, z4, f4⟩ := fl4.there
      have S4 := J4.suite g4 f4 na nL nF
      obtain ⟨C, rfl, go⟩ := yes rfl
      refine store_ok (X := X.suite a ((a, o4) :: (X.pn ++ pins))) (v := .ref a) S4 nd ix (.inl loc) rfl (fun s5 S5 => ?_) (.inr loc)
      refine wpAny_mono ((hsuite a o4 (X.pn ++ pins)).run [] s5 _ Hj _ S5 (go a na)) (fun f s6 q6 => ?_) (fun _ _ z => False.elim z)
      have fin : ∀ {σ6 : L2.St} {H6 : Hp} {Q : Shared → Prop}, Inv (X.suite a ((a, o4) :: (X.pn ++ pins))) [] σ6 H6 s6 → (∀ s7, Inv X pins (σ6.set i none) (L2.upd H6 a (excO a C d)) s7 → H6 a = none → Q s7) →
          wpAny (model X.prog X.w) X.A (do bindName X.env n .none; unbindBehindTheSuite X.env n pos') (fun _ s7 => Q s7) X.xe s6 := fun {σ6 H6 Q} S6 hq => by
        obtain ⟨p1, p2, _⟩ := S6.pin (a, o4) (by simp)
        have K6 := add_exc (S6.unsuite ok) p1 z4.1 z4.2 f4 p2 nL n0 np'
        exact gone_ok K6 nd ix loc fun s7 J7 => hq s7 J7 p2
      cases f with
      | next =>
        obtain ⟨σ6, H6, S6, r6⟩ := q6
        exact fin S6 fun s7 J7 e => ⟨_, _, J7, r6 e⟩
      | brk =>
        obtain ⟨σ6, H6, S6, r6⟩ := q6
        exact fin S6 fun s7 J7 e => ⟨_, _, J7, r6 e⟩
      | cont =>
        obtain ⟨σ6, H6, S6, r6⟩ := q6
        exact fin S6 fun s7 J7 e => ⟨_, _, J7, r6 e⟩
      | ret u =>
        obtain ⟨v6, σ6, H6, S6, l6, r6⟩ := q6
        exact fin S6 fun s7 J7 e => ⟨_, _, _, J7, l6, r6 e⟩
    | false =>
      show wpAny _ X.A (handleBy (.ref a) X.env []) _ _ _
      refine wpAny_handleBy_nil ?_
      obtain ⟨k1, k2, k3, oe, vs, T', oT, ts', he, hz, hd, h1, hr⟩ := id fl3
      unfold PySem.passOn
      refine wpAny_bind (wpAny_field he hd h1 ?_)
      rw [if_neg (show ¬ ((Value.ref T' == Value.none) = true) from by simp)]
      have out : wpAny (model X.prog X.w) X.A (setFlight (.ref a) X.env.frame) (fun _ s4 => wpAny (model X.prog X.w) X.A (throw (.ref a) : Sem Flow) (SP X pins D) X.xe s4) X.xe { t' with heap := h3 } := by
        rw [fr]
        refine HandSPX.setFlight_upZ fl3 fun h4 hh4 up4 => wpAny_throw (tk _ _ ?_)
        exact ⟨a, B, sI, pins, σj, Hj, cls, d, rfl, J, nb, (up.trans up3).trans up4, .inr (.inr (by rw [stk]; exact hh4)), na, os, ag, no rfl⟩
      first
        | exact wpAny_bind (wpAny_pure (wpAny_bind out))
        | exact wpAny_bind out
  · cases f with
    | next =>
      obtain ⟨σ', H', J', r⟩ := q
      exact wpAny_execs_nil ⟨σ', H', J'.ofTry ok, r⟩
    | brk =>
      obtain ⟨σ', H', J', r⟩ := q
      exact ⟨σ', H', J'.ofTry ok, r⟩
    | cont =>
      obtain ⟨σ', H', J', r⟩ := q
      exact ⟨σ', H', J'.ofTry ok, r⟩
    | ret u =>
      obtain ⟨v, σ', H', J', l, r⟩ := q
      exact ⟨v, σ', H', J'.ofTry ok, l, r⟩
end
section
variable {T : Tab} {G : Nm} {X : Cx} {cf : Nat → List PV → Store → Res PV} {k : Nat} {W : WX}
/-- x = n -/
theorem pss_keep {i j : Nat} {n y : Str} {p1 p2 p3 : Pos} (nd : X.N.Nodup) (hi : X.N[i]? = some n) (hj : X.N[j]? = some y) (hn : X.env.scope.names.lookup n = some .local) (hd : okNm n = true) (hy : Loc X.env.scope y) (hf : X.fn y = true ∨ X.env.scope.names.lookup y = some .local) :
    PSs X [.Assign [.Name y p1] (.Name n p2) p3] (fun D σ H => ∃ v, σ[i]? = some (some v) ∧ D.nx (σ.set j (some v)) H) :=
  pss_one (ps_set nd hj hy (pe_var (i := i) hi (.inl hn) (okNm_ok hd).1 (okNm_ok hd).2.1) rfl hf)
theorem snds_try {body : List S} {cs : List (Nat × Option Nat)} {bs : List (List S)} (hb : SndSs T G cf body) : SndS T G cf (.tryS body cs bs) := fun k X W c st F tk hN hs sx h => by
  simp only [chkS] at h
  split at h
  · rename_i d i j i' ss x px n y py n' pn pa ph pt
    simp only [Bool.and_eq_true, decide_eq_true_eq] at h
    obtain ⟨⟨rfl, rfl, rfl, hi, hj⟩, h2, h3, h4, h5, h6, h7, h8⟩ := h
    obtain ⟨l1, l2⟩ := loc_of hs sx h7
    have hn : X.env.scope.names.lookup n' = some .local := by
      rw [← hs] at h5
      split at h5
      · assumption
      · cases h5
    have nm : Names X (G.cn d) (.ref (cA X.K G d)) := ⟨gl_of hs h2, (okNm_ok h3).1, .inl (F.cls d h4)⟩
    refine PSw (ps_tryE (i := i') (tb := fun W' => rS X.K G W' (evSs T cf body)) sx.stk sx.fr F.nd (by rw [hN]; exact hi) hn nm tk
      (fun W' pn' xe tk' po' => hb k (X.tr pn' xe) W' c ss ⟨F.calm, F.nd, F.room, F.free, F.glo, F.isi, F.cls, F.xc, F.ic, F.rz, F.exm, F.fns⟩ tk' hN hs ⟨sx.fn, po', sx.stk, sx.fr, sx.kd⟩ h8)
      (fun a oe pn' => pss_keep (X := X.suite a ((a, oe) :: pn')) (i := i') (j := j) F.nd (by show X.N[i']? = _; rw [hN]; exact hi) (by show X.N[j]? = _; rw [hN]; exact hj) hn h6 l1 l2)) fun D σ H ⟨σp, μ, S, en, so, p⟩ => ?_
    refine ⟨σp, μ, S, en, so, ?_⟩
    simp only [evS] at p
    cases hr : evSs T cf body σp S with
    | nx σ1 S1 => rw [hr] at p; exact p
    | bk σ1 S1 => rw [hr] at p; exact p
    | ct σ1 S1 => rw [hr] at p; exact p
    | rt v S1 => rw [hr] at p; exact p
    | bad => rw [hr] at p; exact p
    | exc e xs σ1 S1 =>
      rw [hr] at p
      simp only [evHs] at p
      intro dd σ' H' μ' st' so' en' ed
      split at p
      · rename_i q
        simp only [setO] at p
        split at p
        · rename_i σ2 e2
          split at e2
          · rename_i hlen
            cases e2
            have hlen' : i' < σ'.length := by rw [← en'.len]; exact hlen
            refine ⟨true, F.exm _ _ _ q, fun _ => ⟨_, rfl, fun a na => ?_⟩, fun z => nomatch z⟩
            refine ⟨.ref a, List.getElem?_set_self hlen', fun nb => ?_⟩
            have e3 : evSs T cf [.asg (.nm j) (.var i')] (σ1.set i' (some (.exc e xs))) S1 = if j < (σ1.set i' (some (.exc e xs))).length then .nx ((σ1.set i' (some (.exc e xs))).set j (some (.exc e xs))) S1 else .bad := by
              simp only [evSs, evS, evE, List.getElem?_set_self hlen, liftE_ok, bindT, setO]
              by_cases hj : j < (σ1.set i' (some (.exc e xs))).length
              · rw [if_pos hj, if_pos hj]
              · rw [if_neg hj, if_neg hj]
            rw [e3] at p
            split at p
            · obtain ⟨s1, s2⟩ := so'.new (o := excO a (cA X.K G e) dd) na
              have dx : Den X.K G (L2.upd H' a (excO a (cA X.K G e) dd)) μ' (.exc e xs) (.ref a) := .exc upd_same (so'.nnew na) (ed.stp s1)
              exact p _ _ μ' (st'.trans s1) s2 ((((en'.stp s1).set i' (x := some _) (v := some _) dx).set j (x := some _) (v := some _) dx).set i' trivial)
            · exact p.elim
          · cases e2
        · exact p.elim
      · rename_i q
        exact ⟨false, F.exm _ _ _ q, (fun z => nomatch z), fun _ => p dd σ' H' μ' st' so' en' ed⟩
      · exact p.elim
  · cases h
end
end IP

set_option Elab.async false
set_option linter.all false
set_option maxRecDepth 100000
set_option maxHeartbeats 2000000
/-! IPyD: statements, on. -/
namespace IP
open PySem PySem.Spec PyProof.Rows L2
section
variable {T : Tab} {G : Nm} {X : Cx} {cf : Nat → List PV → Store → Res PV} {k : Nat} {W : WX}
theorem snds_aug {i : Nat} {op : IOp} {e : E} : SndS T G cf (.aug i op e) := fun k X W c st F tk hN hs sx h => by
  cases st <;> try cases h
  rename_i tx o ex p
  cases tx <;> try cases h
  rename_i x p2
  simp only [chkS, Bool.and_eq_true, decide_eq_true_eq] at h
  obtain ⟨h1, h2, h3, h4⟩ := h
  obtain ⟨l1, l2⟩ := loc_of hs sx h2
  have := opB_ok h3; subst this
  have go : ∀ (f : Int → Int → Int), (∀ x y S, augP op x y S = iiP (fun _ _ => true) (fun i j => .int (f i j)) x y S) → PIp X (opA op) (ipI f) → PS X (.AugAssign (.Name x p2) (opA op) ex p) (rS X.K G W (evS T cf (.aug i op e))) := fun f hf ip => by
    refine PSw (ps_aug (i := i) F.nd (by rw [hN]; exact h1) l1 ((snd e k X W c ex F tk hN hs).1 h4) ip l2) fun D σ H ⟨σp, μ, S, en, so, p⟩ => ?_
    simp only [evS] at p
    split at p
    · rename_i v hv
      obtain ⟨u, hu, du⟩ := en.get hv
      refine ⟨u, hu, σp, μ, S, en, so, PostS.lift p en fun y w S1 H1 μ1 er st1 so1 d1 p1 => ?_⟩
      rw [hf] at p1
      unfold iiP at p1
      split at p1
      · cases d1; cases du
        rename_i a b
        exact ⟨a, b, rfl, rfl, p1 _ H1 μ1 Stp.refl so1 ((en.stp st1).set i (x := some _) (v := some _) (.int _))⟩
      · exact p1.elim
    · exact p.elim
  have no : (∀ x y S, augP op x y S = .bad) → PS X (.AugAssign (.Name x p2) (opA op) ex p) (rS X.K G W (evS T cf (.aug i op e))) := fun hb => by
    have wr : ∀ D σ H, rS X.K G W (evS T cf (.aug i op e)) D σ H → ∃ x, σ[i]? = some (some x) ∧ rE X.K G W (evE T cf e) σ H (fun _ _ => False) := fun D σ H ⟨σp, μ, S, en, so, p⟩ => by
      simp only [evS] at p
      split at p
      · rename_i v hv
        obtain ⟨u, hu, du⟩ := en.get hv
        refine ⟨u, hu, σp, μ, S, en, so, PostS.lift p en fun y w S1 H1 μ1 er st1 so1 d1 p1 => ?_⟩
        rw [hb] at p1; exact p1
      · exact p.elim
    refine PSw (ps_aug (ti := fun _ _ _ _ => False) (i := i) F.nd (by rw [hN]; exact h1) l1 ((snd e k X W c ex F tk hN hs).1 h4) (fun _ _ _ _ _ _ _ _ _ _ _ _ q => q.elim) l2) wr
  cases op with
  | add => exact go (fun i j => i + j) (fun _ _ _ => rfl) ip_add
  | sub => exact go (fun i j => i - j) (fun _ _ _ => rfl) ip_sub
  | _ => exact no fun _ _ _ => rfl
theorem snds_ex {e : E} : SndS T G cf (.ex e) := fun k X W c st F tk hN hs sx h => by
  cases st <;> try cases h
  rename_i ex p
  simp only [chkS, Bool.and_eq_true] at h
  refine PSw (ps_expr ((snd e k X W c ex F tk hN hs).1 h.2) (noLc_sw h.1 _ _ _)) fun D σ H ⟨σp, μ, S, en, so, p⟩ => ?_
  simp only [evS] at p
  exact ⟨σp, μ, S, en, so, PostS.lift p en fun x v S1 H1 μ1 er st1 so1 d1 p1 => p1 σ H1 μ1 Stp.refl so1 (en.stp st1)⟩
theorem snds_ret {e : E} : SndS T G cf (.ret e) := fun k X W c st F tk hN hs sx h => by
  cases st <;> try cases h
  rename_i oe p
  cases oe with
  | none => cases h
  | some ex =>
    refine PSw (ps_ret ((snd e k X W c ex F tk hN hs).1 h)) fun D σ H ⟨σp, μ, S, en, so, p⟩ => ?_
    simp only [evS] at p
    exact ⟨σp, μ, S, en, so, PostS.lift p en fun x v S1 H1 μ1 er st1 so1 d1 p1 => p1 v H1 μ1 Stp.refl so1 d1⟩
theorem snds_ret0 : SndS T G cf .ret0 := fun k X W c st F tk hN hs sx h => by
  cases st <;> try cases h
  rename_i oe p
  cases oe with
  | some => cases h
  | none => exact PSw ps_retN fun D σ H ⟨σp, μ, S, en, so, p⟩ => p .non H μ Stp.refl so .non
theorem snds_brk : SndS T G cf .brk := fun k X W c st F tk hN hs sx h => by
  cases st <;> try cases h
  exact PSw ps_break fun D σ H ⟨σp, μ, S, en, so, p⟩ => p σ H μ Stp.refl so en
theorem snds_cnt : SndS T G cf .cnt := fun k X W c st F tk hN hs sx h => by
  cases st <;> try cases h
  exact PSw ps_continue fun D σ H ⟨σp, μ, S, en, so, p⟩ => p σ H μ Stp.refl so en
theorem snds_pas : SndS T G cf .pas := fun k X W c st F tk hN hs sx h => by
  simp only [chkS] at h
  split at h
  · exact PSw ps_pass fun D σ H ⟨σp, μ, S, en, so, p⟩ => p σ H μ Stp.refl so en
  · exact PSw ps_doc fun D σ H ⟨σp, μ, S, en, so, p⟩ => p σ H μ Stp.refl so en
  · cases h
/-- a test ahead of what it chooses -/
theorem tst_of {d : E} {f : Bool → Store → SR} {D : Ends} {σ : L2.St} {H : Hp} {σp : IP.Env} {μ : List Addr} {S : Store} {Q : Bool → Hp → Prop} (en : EnvD X.K G H μ σp σ) (so : SOk X.K G H μ S)
    (p : PostS X.K G W μ H (liftE σp (evE T cf d σp S) fun v S => match truth S v with
      | some b => f b S
      | none => .bad) D) (hk : ∀ b S' H' μ', Stp μ H μ' H' → SOk X.K G H' μ' S' → PostS X.K G W μ' H' (f b S') D → Q b H') : rT X.K G W (evE T cf d) σ H Q := by
  refine ⟨σp, μ, S, en, so, ?_⟩
  have e : (liftE σp (evE T cf d σp S) fun v S => match truth S v with
      | some b => f b S
      | none => .bad) = liftE σp (tst (evE T cf d) σp S) f := by
    unfold tst
    cases evE T cf d σp S with
    | ok x S1 =>
      simp only [liftE_ok, Res.bnd_ok]
      cases truth S1 x <;> rfl
    | exc => rfl
    | bad => rfl
  rw [e] at p
  exact PostS.lift p en fun b v S1 H1 μ1 er st1 so1 d1 p1 => by
    cases d1
    exact hk b S1 H1 μ1 st1 so1 p1
theorem snds_iff {d : E} {a b : List S} (ha : SndSs T G cf a) (hb : SndSs T G cf b) : SndS T G cf (.iff d a b) := fun k X W c st F tk hN hs sx h => by
  cases st <;> try cases h
  rename_i dx as bs p
  simp only [chkS, Bool.and_eq_true] at h
  obtain ⟨h1, h2, h3⟩ := h
  refine PSw (ps_if ((snd d k X W c dx F tk hN hs).2 h1) (ha k X W c as F tk hN hs sx h2) (hb k X W c bs F tk hN hs sx h3)) fun D σ H ⟨σp, μ, S, en, so, p⟩ => ?_
  have e : evS T cf (.iff d a b) σp S = liftE σp (evE T cf d σp S) fun v S => match truth S v with
      | some b' => (fun (q : Bool) S => if q = true then evSs T cf a σp S else evSs T cf b σp S) b' S
      | none => .bad := by
    simp only [evS]
    cases evE T cf d σp S with
    | ok x S1 =>
      simp only [liftE_ok]
      cases truth S1 x with
      | none => rfl
      | some q => cases q <;> rfl
    | exc => rfl
    | bad => rfl
  rw [e] at p
  refine tst_of en so p fun q S1 H1 μ1 st1 so1 p1 => ?_
  cases q with
  | true => exact ⟨σp, μ1, S1, en.stp st1, so1, p1⟩
  | false => exact ⟨σp, μ1, S1, en.stp st1, so1, p1⟩
theorem snds_whl {d : E} {body : List S} (hb : SndSs T G cf body) : SndS T G cf (.whl d body) := fun k X W c st F tk hN hs sx h => by
  cases st <;> try cases h
  rename_i dx bs os p
  cases os with
  | cons => cases h
  | nil =>
    simp only [chkS, Bool.and_eq_true] at h
    refine PSw (ps_while sx.po ((snd d k X W c dx F tk hN hs).2 h.1) (hb k X W c bs F tk hN hs sx h.2)) fun D σ H ⟨σp, μ, S, en, so, p⟩ => ?_
    simp only [evS] at p
    refine ⟨fun m σ H => ∃ σp μ S, EnvD X.K G H μ σp σ ∧ SOk X.K G H μ S ∧ PostS X.K G W μ H (whlL (evE T cf d) (evSs T cf body) m σp S) D, ⟨_, σp, μ, S, en, so, p⟩, ?_⟩
    rintro m σ H ⟨σp, μ, S, en, so, p⟩
    cases m with
    | zero => exact p.elim
    | succ m =>
      have e : whlL (evE T cf d) (evSs T cf body) (m + 1) σp S = liftE σp (evE T cf d σp S) fun v S => match truth S v with
          | some b' => (fun (q : Bool) S => if q = true then (match evSs T cf body σp S with
            | .nx σ2 S2 => whlL (evE T cf d) (evSs T cf body) m σ2 S2
            | .ct σ2 S2 => whlL (evE T cf d) (evSs T cf body) m σ2 S2
            | .bk σ2 S2 => .nx σ2 S2
            | .rt v S2 => .rt v S2
            | .exc c ys σ2 S2 => .exc c ys σ2 S2
            | .bad => .bad) else .nx σp S) b' S
          | none => .bad := by
        simp only [whlL]
        cases evE T cf d σp S with
        | ok x S1 =>
          simp only [liftE_ok]
          cases truth S1 x with
          | none => rfl
          | some q => cases q <;> rfl
        | exc => rfl
        | bad => rfl
      rw [e] at p
      refine tst_of en so p fun q S1 H1 μ1 st1 so1 p1 => ?_
      cases q with
      | false => exact p1 σ H1 μ1 Stp.refl so1 (en.stp st1)
      | true =>
        refine ⟨fun σ' H' => ∃ σp μ S, EnvD X.K G H' μ σp σ' ∧ SOk X.K G H' μ S ∧ PostS X.K G W μ H' (whlL (evE T cf d) (evSs T cf body) m σp S) D, fun σ' H' h => ⟨m, Nat.lt_succ_self m, h⟩, σp, μ1, S1, en.stp st1, so1, ?_⟩
        rw [if_pos rfl] at p1
        cases hr : evSs T cf body σp S1 with
        | nx σ2 S2 =>
          rw [hr] at p1
          exact fun σ' H' μ' st' so' en' => ⟨σ2, μ', S2, en', so', PostS.weak p1 st'⟩
        | ct σ2 S2 =>
          rw [hr] at p1
          exact fun σ' H' μ' st' so' en' => ⟨σ2, μ', S2, en', so', PostS.weak p1 st'⟩
        | bk σ2 S2 => rw [hr] at p1; exact p1
        | rt v S2 => rw [hr] at p1; exact p1
        | exc c ys σ2 S2 => rw [hr] at p1; exact p1
        | bad => rw [hr] at p1; exact p1
theorem for_ok {K : PySem.W.Frag} {tg : Tg} {bd : IP.Env → Store → SR} {vs xs : List PV} {S0 : Store} {H1 : Hp} {μ1 : List Addr} {J : It} {σp : IP.Env} {σ : L2.St} {D : Ends} {tb : TS}
    (hb : ∀ D σ H, rS K G W bd D σ H → tb D σ H) (en : EnvD K G H1 μ1 σp σ) (so : SOk K G H1 μ1 S0) (sy : stays vs S0 S0 = true) (src : Src K G J vs xs S0 H1 μ1)
    (p : PostS K G W μ1 H1 (forL (bindT tg) bd (stays vs S0) xs σp S0) D) :
    ∃ V : Nat → Nat → L2.St → Hp → Prop, (∃ m, V 0 m σ H1) ∧ ∀ i m σ H, V i m σ H →
      (J.stop i H ∧ D.nx σ H) ∨ (J.go i H ∧ ∃ N : L2.St → Hp → Prop, (∀ σ' H', N σ' H' → ∃ m', m' < m ∧ V (i + 1) m' σ' H') ∧ ∀ x H', J.yld i H x H' → rG K G tg x σ H' fun σ2 H2 => tb { D with nx := N, ct := N, bk := D.nx } σ2 H2) := by
  let V : Nat → Nat → L2.St → Hp → Prop := fun i m σ H => m = xs.length - i ∧ i ≤ xs.length ∧ ∃ σp μ S, EnvD K G H μ σp σ ∧ Stp μ1 H1 μ H ∧ SOk K G H μ S ∧ stays vs S0 S = true ∧ PostS K G W μ H (forL (bindT tg) bd (stays vs S0) (xs.drop i) σp S) D
  refine ⟨V, ⟨_, rfl, Nat.zero_le _, σp, μ1, S0, en, Stp.refl, so, sy, p⟩, ?_⟩
  rintro i m σ H ⟨rfl, hi, σp, μ, S, en, st, so, sy, p⟩
  obtain ⟨g1, g2⟩ := src i H μ S H st so sy (fun _ _ q => q)
  by_cases hlt : i < xs.length
  · have hx : xs[i]? = some xs[i] := List.getElem?_eq_getElem hlt
    rw [List.drop_eq_getElem_cons hlt] at p
    generalize xs[i] = x at hx p
    obtain ⟨k1, k2⟩ := g1 x hx
    refine .inr ⟨k1, fun σ' H' => V (i + 1) (xs.length - (i + 1)) σ' H', fun σ' H' h => ⟨_, by omega, h⟩, fun v H' hy => ?_⟩
    have cl : ∃ S', S' = S ∧ Stp μ H μ H' ∧ SOk K G H' μ S ∧ Den K G H' μ x v := by
      rcases k2 v H' hy with ⟨e, d⟩ | ⟨T', us, zs, e1, e2, e3, e4, d⟩
      · subst e; exact ⟨S, rfl, Stp.refl, so, d⟩
      · obtain ⟨s1, s2⟩ := so.new (o := .tup us) e1
        subst e2 e3 e4
        exact ⟨S, rfl, s1, s2, .tup (.inl (.inl upd_same)) (.inl (so.nnew e1)) (d.stp s1)⟩
    obtain ⟨S', _, st2, so2, dx⟩ := cl
    simp only [forL] at p
    split at p
    · exact p.elim
    · rename_i σ1 hbn
      have nxt : ∀ {σ2 : IP.Env} {S2 : Store}, stays vs S0 S2 = true → PostS K G W μ H (forL (bindT tg) bd (stays vs S0) (xs.drop (i + 1)) σ2 S2) D →
          ∀ σ' H'' μ', Stp μ H' μ' H'' → SOk K G H'' μ' S2 → EnvD K G H'' μ' σ2 σ' → V (i + 1) (xs.length - (i + 1)) σ' H'' := fun sy2 p2 σ' H'' μ' st' so' en' =>
        ⟨rfl, hlt, _, μ', _, en', (st.trans st2).trans st', so', sy2, PostS.weak p2 (st2.trans st')⟩
      refine ⟨H', μ, S, x, σp, σ1, fun _ _ q => q, en.stp st2, so2, dx, hbn, fun σ2 en2 _ => hb _ _ _ ⟨σ1, μ, S, en2, so2, ?_⟩⟩
      cases hr : bd σ1 S with
      | nx σ3 S3 =>
        rw [hr] at p
        split at p
        · rename_i h; cases h; split at p
          · rename_i sy2; exact nxt sy2 p
          · exact p.elim
        · rename_i h; cases h
        · rename_i h; cases h
        · rename_i h; cases h
        · rename_i h; cases h
        · rename_i h; cases h
      | ct σ3 S3 =>
        rw [hr] at p
        simp only at p
        split at p
        · rename_i sy2; exact nxt sy2 p
        · exact p.elim
      | bk σ3 S3 =>
        rw [hr] at p
        exact fun σ' H'' μ' st' => p σ' H'' μ' (st2.trans st')
      | rt v S3 =>
        rw [hr] at p
        exact fun σ' H'' μ' st' => p σ' H'' μ' (st2.trans st')
      | exc c ys σ3 S3 =>
        rw [hr] at p
        exact fun d σ' H'' μ' st' => p d σ' H'' μ' (st2.trans st')
      | bad => rw [hr] at p; exact p
  · have hi' : i = xs.length := by omega
    subst hi'
    refine .inl ⟨g2 (Nat.le_refl _), ?_⟩
    rw [List.drop_length] at p
    exact p σ H μ Stp.refl so en
theorem snds_for {t : Tg} {ik : IK} {its : List E} {body : List S} (hb : SndSs T G cf body) : SndS T G cf (.for t ik its body) := fun k X W c st F tk hN hs sx h => by
  cases st <;> try cases h
  rename_i tx ix bs os p
  cases os with
  | cons => cases h
  | nil =>
    simp only [chkS, Bool.and_eq_true] at h
    obtain ⟨h1, h2, h3⟩ := h
    refine PSw (ps_for sx.po F.calm (pi_of (snds its).1 (snds its).2 F tk hN hs h2) (pg_tg (G := G) F.calm F.nd hN hs sx.fn h1) (hb k X W c bs F tk hN hs sx h3) (noSet_ok (chkI_noSet h2))) fun D σ H ⟨σp, μ, S, en, so, p⟩ => ?_
    refine ⟨σp, μ, S, en, so, ?_⟩
    have e : evS T cf (.for t ik its body) σp S = liftE σp (evI ik (evEs T cf its σp S)) fun q S' => forL (bindT t) (evSs T cf body) (stays q.1 S') q.2.1 σp S' := by
      simp only [evS, evI]
      cases evEs T cf its σp S with
      | ok vs S1 =>
        simp only [liftE_ok, Res.bnd_ok]
        cases iterOf ik vs S1 <;> rfl
      | exc => rfl
      | bad => rfl
    rw [e] at p
    refine PostS.lift p en fun q J S1 H1 μ1 er st1 so1 d1 p1 => ?_
    obtain ⟨vs, xs, S0⟩ := q
    obtain ⟨rfl, _, _⟩ := evI_ok er
    obtain ⟨d1, us, dv⟩ := d1
    exact for_ok (fun D σ H q => q) (en.stp st1) so1 (stays_self (dens_lt so1 dv)) d1 p1
theorem snds_rais {d : Nat} {es : List E} : SndS T G cf (.rais d es) := fun k X W c st F tk hN hs sx h => by
  simp only [chkS] at h
  split at h
  · rename_i x p1 m j p2 p3 p4
    simp only [Bool.and_eq_true, decide_eq_true_eq] at h
    obtain ⟨rfl, h2, h3, h4⟩ := h
    obtain ⟨R, hc⟩ := F.rz d h4
    obtain ⟨B, newId, initId, bmB, f1, f2⟩ := R.mkx
    refine PSw (ps_raise F.calm tk (pmk_own f1 f2 (F.cls d hc) R.kp (raises_own R.sub R.ty) (gl_of hs h2) (okNm_ok h3).1)) fun D σ H ⟨σp, μ, S, en, so, p⟩ => ?_
    exact p none σ H μ Stp.refl so en .none
  · cases h
/-! ### all statements -/
theorem snds_nil : SndSs T G cf [] := fun k X W c st F tk hN hs sx h => by
  cases st with
  | cons => cases h
  | nil => exact PSsw pss_nil fun D σ H ⟨σp, μ, S, en, so, p⟩ => p σ H μ Stp.refl so en
theorem snds_cons {s : S} {ss : List S} (h1 : SndS T G cf s) (h2 : SndSs T G cf ss) : SndSs T G cf (s :: ss) := fun k X W c st F tk hN hs sx h => by
  cases st with
  | nil => cases h
  | cons x xs =>
    have h' : (chkS T G s c x && chkSs T G ss c xs) = true := h
    rw [Bool.and_eq_true] at h'
    refine PSsw (pss_cons (h1 k X W c x F tk hN hs sx h'.1) (h2 k X W c xs F tk hN hs sx h'.2)) fun D σ H ⟨σp, μ, S, en, so, p⟩ => ⟨σp, μ, S, en, so, ?_⟩
    simp only [evSs] at p
    cases hr : evS T cf s σp S with
    | nx σ2 S2 =>
      rw [hr] at p
      exact fun σ' H' μ' st' so' en' => ⟨σ2, μ', S2, en', so', PostS.weak p st'⟩
    | bk σ2 S2 => rw [hr] at p; exact p
    | ct σ2 S2 => rw [hr] at p; exact p
    | rt v S2 => rw [hr] at p; exact p
    | exc c ys σ2 S2 => rw [hr] at p; exact p
    | bad => rw [hr] at p; exact p
theorem snds_no {ir : S} (h : ∀ c st, chkS T G ir c st = true → False) : SndS T G cf ir := fun k X W c st F tk hN hs sx q => (h _ _ q).elim
mutual
theorem sndS : ∀ ir : S, SndS T G cf ir
  | .asg t e => snds_asg
  | .asgS o i e => snds_asgS
  | .asgA o f e => snds_no fun c st h => by simp [chkS] at h
  | .aug i op e => snds_aug
  | .ex e => snds_ex
  | .iff d a b => snds_iff (sndSs a) (sndSs b)
  | .for t ik its body => snds_for (sndSs body)
  | .whl d body => snds_whl (sndSs body)
  | .tryS body cs bs => snds_try (sndSs body)
  | .rais d es => snds_rais
  | .ret e => snds_ret
  | .ret0 => snds_ret0
  | .brk => snds_brk
  | .cnt => snds_cnt
  | .pas => snds_pas
theorem sndSs : ∀ irs : List S, SndSs T G cf irs
  | [] => snds_nil
  | s :: ss => snds_cons (sndS s) (sndSs ss)
end
end
end IP

set_option Elab.async false
set_option linter.all false
set_option maxRecDepth 100000
set_option maxHeartbeats 2000000
/-! IPyE: functions. -/
namespace IP
open PySem PySem.Spec PyProof.Rows L2
section
variable {K : PySem.W.Frag} {G : Nm} {H : Hp} {μ e : List Addr}
mutual
theorem den_cl : ∀ {x : PV} {v : V}, Den K G H μ x v → clV μ.length x = true
  | _, _, .non => rfl
  | _, _, .bl b => rfl
  | _, _, .int i => rfl
  | _, _, .str x h => rfl
  | _, _, .tup h n d => dens_cl d
  | _, _, .lst h n d => dens_cl d
  | _, _, .dct h n dk dv => by
    have a := dens_cl dk
    have b := dens_cl dv
    simp only [clV, a, b, Bool.and_self]
  | _, _, .ref h => decide_eq_true (List.getElem?_eq_some_iff.mp h).1
  | _, _, .exc h n d => excd_cl d
theorem dens_cl : ∀ {xs : List PV} {vs : List V}, Dens K G H μ xs vs → clVs μ.length xs = true
  | _, _, .nil => rfl
  | _, _, .cons h t => by
    have a := den_cl h
    have b := dens_cl t
    simp only [clVs, a, b, Bool.and_self]
theorem excd_cl : ∀ {xs : List PV} {d : Option Addr}, ExcD K G H μ xs d → clVs μ.length xs = true
  | _, _, .none => rfl
  | _, _, .some h n d => by
    have a := den_cl d
    simp only [clVs, a, Bool.and_self]
end
mutual
theorem den_cut : ∀ {x : PV} {v : V}, Den K G H (μ ++ e) x v → clV μ.length x = true → Den K G H μ x v
  | _, _, .non, _ => .non
  | _, _, .bl b, _ => .bl b
  | _, _, .int i, _ => .int i
  | _, _, .str x h, _ => .str x h
  | _, _, .tup h n d, c => .tup h (n.imp (fun n z => n (List.mem_append_left _ z)) id) (dens_cut d c)
  | _, _, .lst h n d, c => .lst h (n.imp (fun n z => n (List.mem_append_left _ z)) id) (dens_cut d c)
  | _, _, .dct h n dk dv, c => by
    have c' := Bool.and_eq_true_iff.mp c
    exact .dct h (fun z => n (List.mem_append_left _ z)) (dens_cut dk c'.1) (dens_cut dv c'.2)
  | _, _, .ref h, c => .ref (by rw [List.getElem?_append_left (of_decide_eq_true c)] at h; exact h)
  | _, _, .exc h n d, c => .exc h (fun z => n (List.mem_append_left _ z)) (excd_cut d c)
theorem dens_cut : ∀ {xs : List PV} {vs : List V}, Dens K G H (μ ++ e) xs vs → clVs μ.length xs = true → Dens K G H μ xs vs
  | _, _, .nil, _ => .nil
  | _, _, .cons h t, c => by
    have c' := Bool.and_eq_true_iff.mp c
    exact .cons (den_cut h c'.1) (dens_cut t c'.2)
theorem excd_cut : ∀ {xs : List PV} {d : Option Addr}, ExcD K G H (μ ++ e) xs d → clVs μ.length xs = true → ExcD K G H μ xs d
  | _, _, .none, _ => .none
  | _, _, .some h n d, c => by
    have c' := Bool.and_eq_true_iff.mp c
    exact .some h (fun z => n (List.mem_append_left _ z)) (den_cut d c'.1)
end
theorem obd_cl {o : SO} {a : Addr} (d : ObD K G H μ o a) : clO μ.length o = true := by
  cases o with
  | lst xs => obtain ⟨ys, _, d⟩ := d; exact dens_cl d
  | dct ks vs =>
    obtain ⟨ys, _, d, d'⟩ := d
    have a := dens_cl d
    have b := dens_cl d'
    simp only [clO, a, b, Bool.and_self]
  | ins c ns vs => obtain ⟨dx, fs, _, _, d⟩ := d; exact dens_cl d
theorem obd_cut {o : SO} {a : Addr} (d : ObD K G H (μ ++ e) o a) (c : clO μ.length o = true) : ObD K G H μ o a := by
  cases o with
  | lst xs => obtain ⟨ys, h, d⟩ := d; exact ⟨ys, h, dens_cut d c⟩
  | dct ks vs =>
    obtain ⟨ys, h, d, d'⟩ := d
    have c' := Bool.and_eq_true_iff.mp c
    exact ⟨ys, h, dens_cut d c'.1, dens_cut d' c'.2⟩
  | ins c ns vs => obtain ⟨dx, fs, h, hn, d⟩ := d; exact ⟨dx, fs, h, hn, dens_cut d c⟩
theorem kept_get {m : Nat} : ∀ {S S' : Store}, kept m S S' = true → ∀ (n : Nat) (o : SO), S[n]? = some o → ∃ o', S'[n]? = some o' ∧ (o' = o ∨ clO m o' = true)
  | [], _, _, n, o, h => by simp at h
  | _ :: _, [], h, _, _, _ => by cases h
  | a :: as, b :: bs, h, n, o, hn => by
    have h' := Bool.and_eq_true_iff.mp h
    cases n with
    | zero =>
      simp at hn; subst hn
      refine ⟨b, rfl, ?_⟩
      rcases Bool.or_eq_true_iff.mp h'.1 with q | q
      · exact .inl (beqO_eq _ _ q).symm
      · exact .inr q
    | succ n =>
      obtain ⟨o', h1, h2⟩ := kept_get h'.2 n o (by simpa using hn)
      exact ⟨o', by simpa using h1, h2⟩
/-- the newer objects of the store are let go -/
theorem cut_ok {H' : Hp} {μ' : List Addr} {S S' : Store} (so : SOk K G H μ S) (st : Stp μ H μ' H') (so' : SOk K G H' μ' S') (kp : kept S.length S S' = true) : Stp μ H μ H' ∧ SOk K G H' μ (S'.take S.length) := by
  obtain ⟨⟨e, rfl, he⟩, k1, k2⟩ := st
  refine ⟨⟨⟨[], by simp, by simp⟩, k1, k2⟩, ?_, so.nd, fun n o a h1 h2 => ?_⟩
  · have := so'.len
    rw [List.length_append] at this
    rw [List.length_take, so.len]
    have := so.len
    omega
  · have hn : n < S.length := by rw [← so.len]; exact (List.getElem?_eq_some_iff.mp h2).1
    rw [List.getElem?_take_of_lt hn] at h1
    obtain ⟨o', q1, q2⟩ := kept_get kp n S[n] (List.getElem?_eq_getElem hn)
    rw [h1] at q1; cases q1
    have d := so'.ob n o a h1 (by rw [List.getElem?_append_left (List.getElem?_eq_some_iff.mp h2).1]; exact h2)
    refine obd_cut d ?_
    rw [so.len]
    rcases q2 with q2 | q2
    · subst q2
      have := obd_cl (so.ob n _ a (List.getElem?_eq_getElem hn) h2)
      rw [so.len] at this; exact this
    · exact q2
theorem thaw_ok {H' : Hp} {μ' : List Addr} {S S' : Store} {f : Bool} {x : PV} {v : V} (so : SOk K G H μ S) (st : Stp μ H μ' H') (so' : SOk K G H' μ' S') (d : Den K G H' μ' x v) (c : clV S.length (thaw f S S' x) = true) : Den K G H' μ (thaw f S S' x) v := by
  obtain ⟨⟨e, rfl, he⟩, k1, k2⟩ := st
  cases d with
  | ref h =>
    rename_i n a
    simp only [thaw] at c ⊢
    split
    · rename_i hc
      rw [if_pos hc] at c
      have nm : a ∉ μ := fun z => by
        obtain ⟨m, hm⟩ := List.getElem?_of_mem z
        have hm' := List.getElem?_eq_some_iff.mp hm
        have e1 : (μ ++ e)[m]? = some a := by rw [List.getElem?_append_left hm'.1]; exact hm
        obtain ⟨h1, h2⟩ := List.getElem?_eq_some_iff.mp e1
        obtain ⟨h3, h4⟩ := List.getElem?_eq_some_iff.mp h
        have := (List.getElem_inj so'.nd).mp (h2.trans h4.symm)
        have q1 := so.len
        have q2 := hm'.1
        have q3 := hc.2
        omega
      split
      · rename_i xs hx
        simp only [hx] at c
        obtain ⟨a', ha', ys, hy, dy⟩ := so'.at hx
        rw [h] at ha'; cases ha'
        exact .lst (.inl (.inl hy)) (.inl nm) (dens_cut dy (by rw [so.len]; exact c))
      · rename_i ks vs hx
        simp only [hx] at c
        obtain ⟨a', ha', ys, hy, dk, dv⟩ := so'.at hx
        rw [h] at ha'; cases ha'
        have c' := Bool.and_eq_true_iff.mp c
        exact .dct hy nm (dens_cut dk (by rw [so.len]; exact c'.1)) (dens_cut dv (by rw [so.len]; exact c'.2))
      · rename_i h1 h2
        have c2 : clV S.length (.ref n) = true := by
          split at c
          · rename_i xs hx; exact (h1 _ hx).elim
          · rename_i ks vs hx; exact (h2 _ _ hx).elim
          · exact c
        exact den_cut (.ref h) (by rw [so.len]; exact c2)
    · rename_i hc
      rw [if_neg hc] at c
      exact den_cut (.ref h) (by rw [so.len]; exact c)
  | non => exact .non
  | bl b => exact .bl b
  | int i => exact .int i
  | str x h => exact .str x h
  | tup h n d => exact den_cut (.tup h n d) (by rw [so.len]; exact c)
  | lst h n d => exact den_cut (.lst h n d) (by rw [so.len]; exact c)
  | dct h n dk dv => exact den_cut (.dct h n dk dv) (by rw [so.len]; exact c)
  | exc h n d => exact den_cut (.exc h n d) (by rw [so.len]; exact c)
theorem leave_ok {H' : Hp} {μ' : List Addr} {S S' : Store} {f : Bool} {x : PV} {v : V} (so : SOk K G H μ S) (st : Stp μ H μ' H') (so' : SOk K G H' μ' S') (d : Den K G H' μ' x v) :
    ∃ μ2, Stp μ H μ2 H' ∧ SOk K G H' μ2 (leave f S x S').2 ∧ Den K G H' μ2 (leave f S x S').1 v := by
  unfold leave
  split
  · rename_i h
    have h' := Bool.and_eq_true_iff.mp h
    obtain ⟨s1, s2⟩ := cut_ok so st so' h'.2
    exact ⟨μ, s1, s2, thaw_ok so st so' d h'.1⟩
  · exact ⟨μ', st, so', d⟩
theorem leave_exc {H' : Hp} {μ' : List Addr} {S S' : Store} {xs : List PV} {d : Option Addr} (so : SOk K G H μ S) (st : Stp μ H μ' H') (so' : SOk K G H' μ' S') (ed : ExcD K G H' μ' xs d) :
    ∃ μ2, Stp μ H μ2 H' ∧ SOk K G H' μ2 (leave false S (.tup xs) S').2 ∧ ExcD K G H' μ2 xs d := by
  unfold leave
  split
  · rename_i h
    have h' := Bool.and_eq_true_iff.mp h
    obtain ⟨s1, s2⟩ := cut_ok so st so' h'.2
    obtain ⟨⟨e, rfl, he⟩, k1, k2⟩ := st
    exact ⟨μ, s1, s2, excd_cut ed (by rw [so.len]; exact h'.1)⟩
  · exact ⟨μ', st, so', ed⟩
theorem EnvD.ofDens : ∀ {xs : List PV} {vs : List V}, Dens K G H μ xs vs → ∀ n, EnvD K G H μ (xs.map some ++ List.replicate n none) (vs.map some ++ List.replicate n none)
  | _, _, .nil, n => by
    induction n with
    | zero => exact .nil
    | succ n ih => exact .cons trivial ih
  | _, _, .cons h t, n => .cons h (EnvD.ofDens t n)
end
/-! ### the facts of a program -/
structure Gx (T : Tab) (G : Nm) (K : PySem.W.Frag) (mg : Str → Option Value) : Prop where
  free : ∀ x ∈ bnames, mg x = none
  glo : ∀ x v, T.glo x v = true → ∃ u val, mg (G.gn x) = some val ∧ RelV u val ∧ ∀ H μ, Den K G H μ v u
  isi : ∀ u t b, T.isi u t = some b → PySem.W.kitOne K (tyVal K G u) (tyVal K G t) = some b
  cls : ∀ c, T.hasC c = true → mg (G.cn c) = some (.ref (cA K G c))
  xc : ∀ c, T.xc c = true → XC K (cA K G c)
  ic : ∀ c, T.ic c = true → IC K (cA K G c)
  rz : ∀ c, T.rz c = true → RzC K (cA K G c) ∧ T.hasC c = true
  exm : ∀ c d b, T.exm c d = some b → PySem.W.exmOne K (.ref (cA K G c)) (.ref (cA K G d)) = some b
/-- a def and its instructions -/
structure DefOk (T : Tab) (G : Nm) (K : PySem.W.Frag) (mg : Str → Option Value) (f : Nat) (d : Fn) : Prop where
  ex : ∃ (x qual : Str) (params : Arguments) (body : List Stmt) (scope : Scope) (kws : List (Str × V)) (fa : Addr) (fd : FuncData) (ps N : List Str), FunD K x qual params body scope [] kws fa fd ∧ FnScope N ps scope ∧ ps.length = d.np ∧ N.length = d.ns ∧
    chkSs T G d.body ⟨N, scope, true⟩ body = true ∧ mg (G.fq f) = some (.ref fa) ∧
    ∀ (kV doc pm : Value) (an : Option Addr) (cdv ct : Value) (us : List Value), us.length = ps.length → bindArgs (PySem.W.fnOf x qual params body scope .none kV doc pm an cdv ct) ⟨us, []⟩ = pure (ps.zip us)
/-- what is known of a def, at a fuel -/
def FnAt (T : Tab) (G : Nm) (P : Program) (w : World) (K : PySem.W.Frag) (mg : Str → Option Value) (base : Heap) (k n f : Nat) : Prop :=
  ∃ fa fd ps, mg (G.fq f) = some (.ref fa) ∧ PySem.W.keepIn K (.ref fa) = true ∧ Binds K fd ps [] ∧ FnOk P w K mg base (L2.CX P w) k fa fd ps (spF K G ps.length (callF T n f)) ∧ ∀ xs S, xs.length ≠ ps.length → callF T n f xs S = .bad
section
variable {T : Tab} {G : Nm} {P : Program} {w : World} {K : PySem.W.Frag} {mg : Str → Option Value} {base : Heap}
theorem fn_step (g : Gx T G K mg) (hf : ∀ f, T.gf f = true → ∃ d, T.fn f = some d) {n : Nat} (ih : ∀ f d, T.fn f = some d → FnAt T G P w K mg base (2 * n + 2) n f) {f : Nat} {d : Fn} (hd : T.fn f = some d)
    {x qual : Str} {params : Arguments} {body : List Stmt} {scope : Scope} {kws : List (Str × V)} {fa : Addr} {fd : FuncData} {ps N : List Str} (F : FunD K x qual params body scope [] kws fa fd) (S : FnScope N ps scope) (h1 : ps.length = d.np) (h2 : N.length = d.ns)
    (h3 : chkSs T G d.body ⟨N, scope, true⟩ body = true) : FnOk P w K mg base (L2.CX P w) (2 * (n + 1) + 2) fa fd ps (spF K G ps.length (callF T (n + 1) f)) := by
  have hcall : ∀ xs S, callF T (n + 1) f xs S = runB T (callF T n) d xs S := fun xs S => by simp only [callF, hd]
  refine FnOk.mono (j := 2 * n + 3 + 1) ?_ (by omega)
  refine F.ok S (fun vs H Q E h => h.1) fun cdv A outer s H vs Q E hr h => ?_
  obtain ⟨hl, μ, St, xs, so, ds, p⟩ := h
  let X : Cx := cxOf (L2.CX P w) P w K mg base N qual scope fa cdv A outer s H E
  have hx : Fx T G X (callF T n) (2 * n + 3) := ⟨rfl, S.nd, hr, g.free, g.glo, g.isi, g.cls, g.xc, g.ic, g.rz, g.exm, fun f' hf' => by
    obtain ⟨d', hd'⟩ := hf f' hf'
    obtain ⟨fa', fd', ps', q1, q2, q3, q4, q5⟩ := ih f' d' hd'
    exact ⟨fa', fd', ps', q1, q2, q3, q4.mono (by omega), q5⟩⟩
  have tk : Takes X (fun cls dd _ H => E cls dd H) := takes_of rfl rfl rfl rfl
  have sx : Sx X ⟨N, scope, true⟩ := ⟨fun _ _ _ => rfl, passes_of rfl, rfl, rfl, S.kind⟩
  refine ⟨_, sndSs d.body (2 * n + 3) X _ ⟨N, scope, true⟩ body hx tk rfl rfl sx h3, IP.start d xs, μ, St, ?_, so, ?_⟩
  · have e1 : d.ns - d.np = N.length - vs.length := by omega
    unfold IP.start L2.start
    rw [e1]
    exact EnvD.ofDens ds _
  · rw [hcall] at p
    unfold runB at p
    rw [if_pos (by rw [ds.length]; omega)] at p
    cases hr : evSs T (callF T n) d.body (IP.start d xs) St with
    | nx σ1 S1 =>
      rw [hr] at p
      intro σ' H' μ' st' so' en'
      obtain ⟨μ2, t1, t2, _⟩ := leave_ok (f := false) so st' so' (x := .non) (v := .non) .non
      exact p _ _ _ t1 t2 .non
    | rt v S1 =>
      rw [hr] at p
      intro u H' μ' st' so' d'
      obtain ⟨μ2, t1, t2, t3⟩ := leave_ok (f := d.frz) so st' so' d'
      exact p _ _ _ t1 t2 t3
    | exc c ys σ1 S1 =>
      rw [hr] at p
      intro dd σ' H' μ' st' so' en' ed
      obtain ⟨μ2, t1, t2, t3⟩ := leave_exc so st' so' ed
      exact p _ _ _ t1 t2 t3
    | bk σ1 S1 => rw [hr] at p; exact p.elim
    | ct σ1 S1 => rw [hr] at p; exact p.elim
    | bad => rw [hr] at p; exact p.elim
theorem fns_ok (g : Gx T G K mg) (hD : ∀ f d, T.fn f = some d → DefOk T G K mg f d) (hf : ∀ f, T.gf f = true → ∃ d, T.fn f = some d) : ∀ n f d, T.fn f = some d → FnAt T G P w K mg base (2 * n + 2) n f := by
  intro n
  induction n with
  | zero =>
    intro f d hd
    obtain ⟨x, qual, params, body, scope, kws, fa, fd, ps, N, F, S, h1, h2, h3, h4, h5⟩ := (hD f d hd).ex
    refine ⟨fa, fd, ps, h4, F.kp, F.bindsN h5, ⟨fun vs H Q E h => h.1, fun A outer s H args us vs Q E hr e0 hb r h => ?_⟩, fun _ _ _ => rfl⟩
    obtain ⟨_, μ, S, xs, so, ds, p⟩ := h
    exact p.elim
  | succ n ih =>
    intro f d hd
    obtain ⟨x, qual, params, body, scope, kws, fa, fd, ps, N, F, S, h1, h2, h3, h4, h5⟩ := (hD f d hd).ex
    have hcall : ∀ xs S, callF T (n + 1) f xs S = runB T (callF T n) d xs S := fun xs S => by simp only [callF, hd]
    exact ⟨fa, fd, ps, h4, F.kp, F.bindsN h5, fn_step g hf ih hd F S h1 h2 h3, fun xs S hl => by rw [hcall]; unfold runB; rw [if_neg (by omega)]⟩
end
end IP

set_option Elab.async false
set_option linter.all false
set_option maxRecDepth 100000
set_option maxHeartbeats 2000000
/-! IPyF: a law's data; its end. -/
namespace IP
open PySem PySem.Spec PyProof.Rows L2
/-- names by number: functions, classes, constants and attributes -/
structure NmL where
  fq : List (Nat × Str)
  cn : List (Nat × Str)
  gn : List (Nat × Str)
def nmOf : List (Nat × Str) → Nat → Str
  | [], _ => Str.empty
  | (i, x) :: r, j => if i = j then x else nmOf r j
/-- what a law's program says, as data -/
structure LawD where
  tb : NmL
  ids : List Nat
  cls : List Nat
  intL : List (Nat × Int)
  strL : List (Nat × Str)
  isiL : List (Ty × Ty × Bool)
  xcL : List Nat
  rzL : List Nat
  exmL : List (Nat × Nat × Bool)
  fns : List Fn
  nss : List (List Str)
def lookF : List Nat → List Fn → Nat → Option Fn
  | i :: is, d :: ds, f => if i = f then some d else lookF is ds f
  | _, _, _ => none
theorem lookF_at : ∀ {is : List Nat} {ds : List Fn} {f : Nat} {d : Fn}, lookF is ds f = some d → ∃ j : Nat, is[j]? = some f ∧ ds[j]? = some d
  | [], _, _, _, h => by simp [lookF] at h
  | _ :: _, [], _, _, h => by simp [lookF] at h
  | i :: is, e :: ds, f, d, h => by
    unfold lookF at h
    split at h
    · rename_i q
      cases h; exact ⟨0, by simp [q], rfl⟩
    · obtain ⟨j, h1, h2⟩ := lookF_at h
      exact ⟨j + 1, by simpa using h1, by simpa using h2⟩
def isiLook : List (Ty × Ty × Bool) → Ty → Ty → Option Bool
  | [], _, _ => none
  | (u, t, b) :: r, x, y => if u = x ∧ t = y then some b else isiLook r x y
def exmLook : List (Nat × Nat × Bool) → Nat → Nat → Option Bool
  | [], _, _ => none
  | (u, t, b) :: r, x, y => if u = x ∧ t = y then some b else exmLook r x y
theorem exmLook_mem : ∀ {l : List (Nat × Nat × Bool)} {u t : Nat} {b : Bool}, exmLook l u t = some b → (u, t, b) ∈ l
  | [], _, _, _, h => by cases h
  | (u', t', b') :: r, u, t, b, h => by
    unfold exmLook at h
    split at h
    · rename_i q
      cases h
      rw [← q.1, ← q.2]; exact List.mem_cons_self
    · exact List.mem_cons_of_mem _ (exmLook_mem h)
def LawD.G (L : LawD) : Nm := ⟨nmOf L.tb.cn, nmOf L.tb.gn, nmOf L.tb.fq⟩
def LawD.gloB (L : LawD) (x : Nat) : PV → Bool
  | .int i => L.intL.any fun p => decide (p.1 = x ∧ p.2 = i)
  | .str z => L.strL.any (fun p => decide (p.1 = x ∧ p.2 = z)) && PyData.strOk z
  | _ => false
def LawD.T (L : LawD) : Tab where
  fn := lookF L.ids L.fns
  isi := isiLook L.isiL
  glo := L.gloB
  hasC := fun c => L.cls.contains c
  xc := fun c => L.xcL.contains c
  rz := fun c => L.rzL.contains c && L.cls.contains c
  gf := fun f => (lookF L.ids L.fns f).isSome
  exm := exmLook L.exmL
def LawD.fa (L : LawD) : List He.Fa := bnames.map .free ++ (L.ids.map (fun f => .glo (L.G.fq f)) ++ (L.cls.map (fun c => .glo (L.G.cn c)) ++ (L.intL.map (fun p => .int (L.G.gn p.1) p.2) ++ (L.strL.map (fun p => .str (L.G.gn p.1) p.2) ++ L.rzL.map fun c => .exc (L.G.cn c)))))
def xcB (K : PySem.W.Frag) (D : Addr) : Bool :=
  He.eqO (PySem.W.findIn K (.ref D) "__getattribute__") (some (some (.builtin "BaseException.__getattribute__"))) && (He.eqO (PySem.W.findIn K (.ref D) "__getattr__") (some none) && (decide (PySem.W.subIn K (.ref D) (.type "BaseException") = some true) &&
  (PySem.W.hasDictIn K D && (He.eqO (PySem.W.findIn K (.ref D) "__class__") (some (some (.builtin "object.__class__"))) && (He.eqO (PySem.W.specialIn K (.builtin "object.__class__") "__get__") (some (some (.builtin "getset_descriptor.__get__"))) &&
  (decide (PySem.W.takesIn K (.builtin "object.__class__") = some true) && (decide (PySem.W.mroIn K D (.type "object") = some true) && (PySem.W.clsIn K D).isSome)))))))
theorem xc_of {K : PySem.W.Frag} {D : Addr} (h : xcB K D = true) : XC K D := by
  unfold xcB at h
  simp only [Bool.and_eq_true, decide_eq_true_eq] at h
  obtain ⟨h1, h2, h3, h4, h5, h6, h7, h8, h9⟩ := h
  exact ⟨⟨He.eqO_ok h1, He.eqO_ok h2, h3, h4, He.eqO_ok h5, He.eqO_ok h6, h7, h8⟩, h9⟩
def LawD.ex (L : LawD) (K : PySem.W.Frag) : Bool := (L.isiL.all fun q => decide (PySem.W.kitOne K (tyVal K L.G q.1) (tyVal K L.G q.2.1) = some q.2.2)) && ((L.xcL.all fun c => xcB K (cA K L.G c)) && L.exmL.all fun q => decide (PySem.W.exmOne K (.ref (cA K L.G q.1)) (.ref (cA K L.G q.2.1)) = some q.2.2))
theorem isiLook_mem : ∀ {l : List (Ty × Ty × Bool)} {u t : Ty} {b : Bool}, isiLook l u t = some b → (u, t, b) ∈ l
  | [], _, _, _, h => by cases h
  | (u', t', b') :: r, u, t, b, h => by
    unfold isiLook at h
    split at h
    · rename_i q
      cases h
      rw [← q.1, ← q.2]; exact List.mem_cons_self
    · exact List.mem_cons_of_mem _ (isiLook_mem h)
/-! ### the hook: facts by names, and one Bool more -/
abbrev AlE : Type := He.AlD × Bool
def obsE (n : Nat) (fa : List He.Fa) (fn : List He.DefD) (ex : PySem.W.Frag → Bool) (g : Addr → Option Obj) : AlE := (He.obsDG n fa fn g, ex (He.frG g (He.asD g n)))
def SaysE (fa : List He.Fa) (fn : List He.DefD) (ex : PySem.W.Frag → Bool) (K : PySem.W.Frag) : Prop := He.SaysD fa fn K ∧ ex K = true
def hookE (n : Nat) (fa : List He.Fa) (fn : List He.DefD) (ex : PySem.W.Frag → Bool) : PySem.W.Hook where
  α := AlE
  obs := fun s => obsE n fa fn ex s.heap.get?
  val := fun _ => (He.valD fn, true)
  says := fun _ h => ∃ K : PySem.W.Frag, K.In h ∧ SaysE fa fn ex K
  of := fun _ _ e => ⟨_, He.frG_in, congrArg (fun z : AlE => z.1) e, congrArg (fun z : AlE => z.2) e⟩
  keeps := fun _ _ _ ⟨K, hK, c⟩ k => ⟨K, PySem.W.Frag.In.keeps hK k, c⟩
theorem obsE_eq {n : Nat} {fa : List He.Fa} {fn : List He.DefD} {ex : PySem.W.Frag → Bool} {g : Addr → Option Obj} {s : Shared} (h : ∀ a, g a = s.heap.get? a) : obsE n fa fn ex g = (hookE n fa fn ex).obs s := by
  have e : g = s.heap.get? := funext h
  subst e; rfl
theorem says_fact {fa : List He.Fa} {fn : List He.DefD} {K : PySem.W.Frag} (c : He.SaysD fa fn K) {f : He.Fa} (h : f ∈ fa) : f.ok K = true := by
  obtain ⟨i, hi, e⟩ := List.mem_iff_getElem.mp h
  exact c.fact i (f := f) (by rw [List.getElem?_eq_getElem hi, e])
theorem gx_of {L : LawD} {fn : List He.DefD} {K : PySem.W.Frag} {h : Heap} {mg : Str → Option Value} (KX : K.In h) (hm : h.Ns mainGlobals mg) (c : SaysE L.fa fn L.ex K) : Gx L.T L.G K mg := by
  obtain ⟨c1, c2⟩ := c
  have hex := Bool.and_eq_true_iff.mp c2
  have hex2 := Bool.and_eq_true_iff.mp hex.2
  have in2 : ∀ {f : He.Fa}, f ∈ (L.cls.map (fun c => He.Fa.glo (L.G.cn c)) ++ (L.intL.map (fun p => .int (L.G.gn p.1) p.2) ++ (L.strL.map (fun p => .str (L.G.gn p.1) p.2) ++ L.rzL.map fun c => .exc (L.G.cn c)))) → f.ok K = true := fun h => says_fact c1 (List.mem_append_right _ (List.mem_append_right _ h))
  refine ⟨fun x hx => ?_, fun x v hv => ?_, fun u t b hb => ?_, fun d hd => ?_, fun d hd => ?_, fun d hd => (by cases hd), fun d hd => ?_, fun u t b hb => ?_⟩
  · exact He.free_ok KX hm (says_fact c1 (List.mem_append_left _ (List.mem_map_of_mem hx)))
  · have hv' : L.gloB x v = true := hv
    cases v with
    | int i =>
      obtain ⟨p, hp, q⟩ := List.any_eq_true.mp hv'
      obtain ⟨rfl, rfl⟩ := of_decide_eq_true q
      obtain ⟨t, ht⟩ := He.int_ok KX hm (in2 (List.mem_append_right _ (List.mem_append_left _ (List.mem_map_of_mem hp))))
      exact ⟨.int p.2, _, ht, ⟨t, rfl⟩, fun H μ => .int _⟩
    | str z =>
      obtain ⟨h1, h2⟩ := Bool.and_eq_true_iff.mp hv'
      obtain ⟨p, hp, q⟩ := List.any_eq_true.mp h1
      obtain ⟨rfl, rfl⟩ := of_decide_eq_true q
      obtain ⟨t, ht⟩ := He.str_ok KX hm (in2 (List.mem_append_right _ (List.mem_append_right _ (List.mem_append_left _ (List.mem_map_of_mem hp)))))
      exact ⟨.str p.2, _, ht, ⟨t, rfl⟩, fun H μ => .str _ h2⟩
    | _ => cases hv'
  · have hb' : isiLook L.isiL u t = some b := hb
    exact of_decide_eq_true (List.all_eq_true.mp hex.1 _ (isiLook_mem hb'))
  · have hd' : L.cls.contains d = true := hd
    exact He.glo_ok KX hm (in2 (List.mem_append_left _ (List.mem_map.mpr ⟨d, List.contains_iff_mem.mp hd', rfl⟩)))
  · have hd' : L.xcL.contains d = true := hd
    exact xc_of (List.all_eq_true.mp hex2.1 _ (List.contains_iff_mem.mp hd'))
  · have hd' : (L.rzL.contains d && L.cls.contains d) = true := hd
    obtain ⟨h1, h2⟩ := Bool.and_eq_true_iff.mp hd'
    have e := in2 (f := .exc (L.G.cn d)) (List.mem_append_right _ (List.mem_append_right _ (List.mem_append_right _ (List.mem_map.mpr ⟨d, List.contains_iff_mem.mp h1, rfl⟩))))
    obtain ⟨e1, e⟩ := He.ba e
    obtain ⟨e2, e⟩ := He.ba e
    obtain ⟨e3, e4⟩ := He.ba e
    exact ⟨⟨⟨_, _, _, _, PySem.F.excBase_ValueError, e1⟩, e2, of_decide_eq_true e3, of_decide_eq_true e4⟩, h2⟩
  · have hb' : exmLook L.exmL u t = some b := hb
    exact of_decide_eq_true (List.all_eq_true.mp hex2.2 _ (exmLook_mem hb'))
/-! ### the law's end -/
def scopeB (N ps : List Str) (sc : Scope) : Bool := (match sc.kind with | .function => true | _ => false) && (!sc.isCoroutine && (!sc.isGenerator && (decide N.Nodup && (decide (N.take ps.length = ps) &&
  ((ps.all fun x => match sc.names.lookup x with | some .local => true | some .cell => true | _ => false) && sc.names.all fun y => match y.2 with | .free => false | _ => true)))))
theorem scope_of {N ps : List Str} {sc : Scope} (h : scopeB N ps sc = true) : FnScope N ps sc := by
  unfold scopeB at h
  simp only [Bool.and_eq_true, Bool.not_eq_true', decide_eq_true_eq] at h
  obtain ⟨h1, h2, h3, h4, h5, h6, h7⟩ := h
  refine ⟨?_, h2, h3, h4, h5, fun x hx => ?_, fun y hy e => ?_⟩
  · split at h1
    · assumption
    · cases h1
  · have q := List.all_eq_true.mp h6 x hx
    split at q
    · rename_i e; exact .inl e
    · rename_i e; exact .inr e
    · cases q
  · have q := List.all_eq_true.mp h7 y hy
    rw [e] at q; cases q
/-- a def of the law's list: its text is what its instructions say -/
structure DfOk (L : LawD) (fn : List He.DefD) (j f : Nat) (d : Fn) : Prop where
  ex : ∃ D : He.DefD, fn[j]? = some D ∧ D.at_ = (L.G.fq f, none) ∧ D.dfl = [] ∧ (scopeB (L.nss.getD j []) ((L.nss.getD j []).take d.np) D.scope && (decide (((L.nss.getD j []).take d.np).length = d.np) && (decide ((L.nss.getD j []).length = d.ns) && chkSs L.T L.G d.body ⟨L.nss.getD j [], D.scope, true⟩ D.body))) = true ∧
    ∀ (kV doc pm : Value) (an : Option Addr) (cdv ct : Value) (us : List Value), us.length = ((L.nss.getD j []).take d.np).length → bindArgs (PySem.W.fnOf D.name D.qual D.params D.body D.scope .none kV doc pm an cdv ct) ⟨us, []⟩ = pure (((L.nss.getD j []).take d.np).zip us)
section
variable {P : Program} {w : World} {K : PySem.W.Frag} {mg : Str → Option Value} {h : Heap} {base : Heap}
theorem fq_ok {L : LawD} {fn : List He.DefD} (KX : K.In h) (hm : h.Ns mainGlobals mg) (c : SaysE L.fa fn L.ex K) {j f : Nat} (hj : L.ids[j]? = some f) : mg (L.G.fq f) = some (.ref (He.ga K (L.G.fq f))) :=
  He.glo_ok KX hm (says_fact c.1 (List.mem_append_right _ (List.mem_append_left _ (List.mem_map.mpr ⟨f, List.mem_of_getElem? hj, rfl⟩))))
theorem dfs_ok {L : LawD} {fn : List He.DefD} (KX : K.In h) (hm : h.Ns mainGlobals mg) (c : SaysE L.fa fn L.ex K) (hD : ∀ j f d, L.ids[j]? = some f → L.fns[j]? = some d → DfOk L fn j f d) : ∀ f d, L.T.fn f = some d → DefOk L.T L.G K mg f d := by
  intro f d hd
  obtain ⟨j, j1, j2⟩ := lookF_at hd
  obtain ⟨D, e1, e2, e3, e4, e5⟩ := (hD j f d j1 j2).ex
  simp only [Bool.and_eq_true, decide_eq_true_eq] at e4
  obtain ⟨s1, s2, s3, s4⟩ := e4
  obtain ⟨fd, F⟩ := c.1.def_ j e1
  have ed : D.dvs K = [] := by unfold He.DefD.dvs; rw [e3]; rfl
  rw [ed] at F
  refine ⟨D.name, D.qual, D.params, D.body, D.scope, _, _, fd, _, L.nss.getD j [], F, scope_of s1, s2, s3, s4, ?_, e5⟩
  rw [e2]
  exact fq_ok KX hm c j1
theorem fnok_no {k : Nat} {f : Addr} {fd : FuncData} {ps : List Str} {sp : Sp} (F : FnOk P w K mg base (L2.CX P w) k f fd ps sp) : FnOk P w K mg base CX0 k f fd ps (fun vs H Q _ => sp vs H Q fun _ _ _ => False) :=
  ⟨fun vs H Q E q => F.len vs H Q _ q, fun A outer s H args us vs Q E hr he hb hv hs => codeAny_mono (F.run A outer s H args us vs Q _ hr he hb hv hs) fun r s' q => by
    cases r with
    | error e =>
      obtain ⟨_, _, _, _, _, _, _, _, _, _, _, _, z⟩ := q
      exact z.elim
    | ok fl => cases fl <;> exact q⟩
end
theorem walk_law {l : PySem.W.OpenLaw} {q : Program} {loose : List Str} {XP : (Str → Option Value) → Heap → Prop} {d : DefRec} {L : LawD} {fn : List He.DefD} {n fuel lawI j m : Nat} {x : Str} {ld : Fn}
    (hn : l.most = some n) (hn2 : n ≤ sizeLine) (hdf : d.params.defaults = []) (hr : Room (2 * fuel + 2) callerA) (hD : ∀ j f d, L.ids[j]? = some f → L.fns[j]? = some d → DfOk L fn j f d)
    (hij : L.ids[j]? = some lawI) (hlj : L.fns[j]? = some ld) (hli : lookF L.ids L.fns lawI = some ld) (hnp : ld.np = 1) (hx : (L.nss.getD j []).take 1 = [x]) (hnm : d.name = L.G.fq lawI)
    (hlaw : ∀ ns : List Int, ns.length ≤ n → ∃ S, callF L.T fuel lawI [.lst (ns.map .int)] [] = .ok (.bl true) S) : PySem.W.WalkO q loose XP (hookE m L.fa fn L.ex).says l.row.toRowW d [] (fun f vs => PySem.call f vs) := by
  refine L2.walk_ofE (k := 2 * fuel + 2) (CX := CX0) (x := x) hn hn2 hdf hr ?_ (fun _ _ _ _ z => z)
  intro w mg fa h Y G hmg
  obtain ⟨K, KX, c⟩ := Y
  have gx := gx_of KX G c
  have dx := dfs_ok KX G c hD
  have hgf : ∀ f, L.T.gf f = true → ∃ d, L.T.fn f = some d := fun f hf => Option.isSome_iff_exists.mp hf
  obtain ⟨D, e1, e2, e3, e4, e5⟩ := (hD j lawI ld hij hlj).ex
  simp only [Bool.and_eq_true, decide_eq_true_eq] at e4
  obtain ⟨s1, s2, s3, s4⟩ := e4
  obtain ⟨fd, F⟩ := c.1.def_ j e1
  have ed : D.dvs K = [] := by unfold He.DefD.dvs; rw [e3]; rfl
  rw [ed] at F
  rw [hnp] at s1 s2 e5
  rw [hx] at s1 s2 e5
  have hfa : fa = He.fAd K D.at_ := by
    have q := fq_ok KX G c hij
    rw [hnm, q] at hmg
    rw [e2]
    exact (Value.ref.inj (Option.some.inj hmg)).symm
  subst hfa
  refine ⟨K, fd, fun vs H Q _ => spF K L.G 1 (callF L.T fuel lawI) vs H Q fun _ _ _ => False, KX, fun s v => F.bindsA e5 s [v] rfl, fun H a ns hns hO hS => ?_, fun base hK hB => ?_⟩
  · obtain ⟨S, hS2⟩ := hlaw ns hns
    have dn : Den K L.G H [] (.lst (ns.map .int)) (.ref a) := .lst hS (.inl (by simp)) (Dens.ofInts ns)
    refine ⟨rfl, [], [], _, ⟨rfl, List.nodup_nil, fun n o a h => by simp at h⟩, .cons dn .nil, ?_⟩
    rw [hS2]
    intro v H' μ' st so d
    cases d; rfl
  · cases fuel with
    | zero =>
      obtain ⟨S, hS2⟩ := hlaw [] (Nat.zero_le _)
      cases hS2
    | succ m => exact fnok_no (fn_step (base := base) (P := l.prog) (w := w) gx hgf (fns_ok gx dx hgf m) (f := lawI) (d := ld) hli F (scope_of s1) (by rw [hnp]; rfl) s3 s4)
end IP

set_option Elab.async false
set_option linter.all false
set_option maxRecDepth 100000
set_option maxHeartbeats 0
namespace K01
open PySem IP
def f0_is_whole : Fn := ⟨1, 1, true, [.ret (.and (.isi (.var 0) .int) (.nt (.isi (.var 0) .bool)))]⟩
def f1_is_among : Fn := ⟨3, 3, true, [.ret (.and (.call 0 [(.var 0)]) (.chn .le .le (.var 1) (.var 0) (.var 2)))]⟩
def f2_need_number : Fn := ⟨3, 3, true, [.iff (.nt (.call 1 [(.var 0), (.var 1), (.var 2)])) [.rais 1 []] []]⟩
def f3_are_members : Fn := ⟨1, 3, true, [.iff (.or (.nt (.isi (.var 0) .tup)) (.nt (.chn .le .le (.cst (.int 1)) (.bi false .len [(.var 0)]) (.glo 0 (.int 7))))) [.ret (.cst (.bl false))] [], .iff (.nt (.bi false .all [(.comp false [1] (.nm 1) .seq [(.var 0)] [] (.call 1 [(.var 1), (.cst (.int 0)), (.glo 1 (.int 8))]))])) [.ret (.cst (.bl false))] [], .ret (.bi false .all [(.comp false [1, 2] (.tp [.nm 1, .nm 2]) .zip [(.var 0), (.slc false (.var 0) [(.cst (.int 1))] [])] [] (.cmp .lt (.var 1) (.var 2)))])]⟩
def f4_need_members : Fn := ⟨1, 1, true, [.iff (.nt (.call 3 [(.var 0)])) [.rais 2 []] []]⟩
def f5_many_of : Fn := ⟨1, 1, true, [.ex (.call 4 [(.var 0)]), .ret (.bin false .add (.bin false .fdiv (.bi false .len [(.var 0)]) (.cst (.int 2))) (.cst (.int 1)))]⟩
def f6_are_many : Fn := ⟨2, 3, true, [.ex (.call 4 [(.var 0)]), .ret (.cmp .ge (.bi false .len [(.comp false [2] (.nm 2) .seq [(.var 0)] [(.cmp .inn (.var 2) (.var 1))] (.var 2))]) (.call 5 [(.var 0)]))]⟩
def f7_is_one_apart : Fn := ⟨2, 5, true, [.ex (.call 4 [(.var 0)]), .ex (.call 4 [(.var 1)]), .asg (.nm 2) (.comp false [4] (.nm 4) .seq [(.var 0)] [(.cmp .nin (.var 4) (.var 1))] (.var 4)), .asg (.nm 3) (.comp false [4] (.nm 4) .seq [(.var 1)] [(.cmp .nin (.var 4) (.var 0))] (.var 4)), .ret (.cmp .eq (.bin false .add (.bi false .len [(.var 2)]) (.bi false .len [(.var 3)])) (.cst (.int 1)))]⟩
def f8_l_mixed : Fn := ⟨2, 2, true, [.asg (.nm 0) (.bin false .mod (.bin false .mul (.bin false .add (.bin false .add (.bin false .mod (.var 0) (.cst (.int 2147483647))) (.bin false .mul (.bin false .mul (.cst (.int 7919)) (.var 1)) (.var 1))) (.bin false .mul (.cst (.int 31)) (.var 1))) (.cst (.int 48271))) (.cst (.int 2147483647))), .ret (.bin false .mod (.bin false .mul (.var 0) (.bin false .add (.cst (.int 69621)) (.bin false .mul (.cst (.int 2)) (.var 1)))) (.cst (.int 2147483629)))]⟩
def f9_l_stream : Fn := ⟨3, 3, false, [.ret (.lst true [(.cmp .ge (.var 1) (.bin false .pow (.cst (.int 10)) (.cst (.int 18)))), (.var 1), (.cst (.int 0)), (.call 8 [(.var 1), (.var 2)])])]⟩
def f10_l_take : Fn := ⟨2, 3, true, [.asgS (.var 0) (.cst (.int 2)) (.bin false .add (.idx (.var 0) (.cst (.int 2))) (.cst (.int 1))), .iff (.or (.nt (.idx (.var 0) (.cst (.int 0)))) (.or (.cmp .inn (.idx (.var 0) (.cst (.int 1))) (.tup [(.cst (.int 0)), (.neg (.cst (.int 1)))])) (.cmp .gt (.idx (.var 0) (.cst (.int 2))) (.cst (.int 60))))) [.ret (.bin false .mod (.call 8 [(.call 8 [(.idx (.var 0) (.cst (.int 3))), (.idx (.var 0) (.cst (.int 2)))]), (.cst (.int 7))]) (.var 1))] [], .asg (.nm 2) (.bin false .mod (.idx (.var 0) (.cst (.int 1))) (.var 1)), .asgS (.var 0) (.cst (.int 1)) (.bin false .fdiv (.idx (.var 0) (.cst (.int 1))) (.var 1)), .ret (.var 2)]⟩
def f11_l_members_by : Fn := ⟨1, 4, true, [.asg (.nm 1) (.bi true .lrange [.cst (.int 0), (.cst (.int 9))]), .asg (.nm 2) (.lst true []), .for (.nm 3) .rng [.cst (.int 0), (.bin false .add (.cst (.int 1)) (.call 10 [(.var 0), (.cst (.int 7))]))] [.ex (.bm false .append (.var 2) [(.bm false .popAt (.var 1) [(.call 10 [(.var 0), (.bi false .len [(.var 1)])])])])], .ret (.bi false .tuple [(.bi false .sorted [(.var 2)])])]⟩
def f12_l_word : Fn := ⟨1, 5, true, [.asg (.nm 1) (.lst false [(.tup [(.cst (.str "number")), (.isi (.var 0) (.cls 1))]), (.tup [(.cst (.str "members")), (.isi (.var 0) (.cls 2))])]), .asg (.nm 1) (.bin false .add (.var 1) (.lst false [(.tup [(.cst (.str "deed")), (.isi (.var 0) (.cls 3))]), (.tup [(.cst (.str "ask")), (.isi (.var 0) (.cls 4))])])), .asg (.nm 1) (.bin false .add (.var 1) (.lst false [(.tup [(.cst (.str "fold")), (.isi (.var 0) (.cls 5))]), (.tup [(.cst (.str "letter")), (.isi (.var 0) (.cls 6))])])), .asg (.nm 1) (.bin false .add (.var 1) (.lst false [(.tup [(.cst (.str "kept")), (.isi (.var 0) (.cls 7))]), (.tup [(.cst (.str "place")), (.isi (.var 0) (.cls 8))])])), .asg (.nm 1) (.bin false .add (.var 1) (.lst false [(.tup [(.cst (.str "head")), (.isi (.var 0) (.cls 9))]), (.tup [(.cst (.str "yet")), (.isi (.var 0) (.cls 10))])])), .asg (.nm 1) (.bin false .add (.var 1) (.lst false [(.tup [(.cst (.str "scribe")), (.isi (.var 0) (.cls 11))]), (.tup [(.cst (.str "away")), (.isi (.var 0) (.cls 17))])])), .asg (.nm 1) (.bin false .add (.var 1) (.lst false [(.tup [(.cst (.str "no letter")), (.isi (.var 0) (.cls 12))]), (.tup [(.cst (.str "paper")), (.isi (.var 0) (.cls 13))])])), .asg (.nm 1) (.bin false .add (.var 1) (.lst false [(.tup [(.cst (.str "history")), (.isi (.var 0) (.cls 14))]), (.tup [(.cst (.str "text")), (.isi (.var 0) (.cls 15))])])), .asg (.nm 2) (.comp false [3, 4] (.tp [.nm 3, .nm 4]) .seq [(.bin false .add (.var 1) (.lst false [(.tup [(.cst (.str "line")), (.isi (.var 0) (.cls 16))])]))] [(.var 4)] (.var 3)), .iff (.cmp .is (.var 0) (.cst .non)) [.ret (.cst (.str ""))] [], .ret (.ite (.and (.cmp .eq (.bi false .len [(.var 2)]) (.cst (.int 1))) (.isi (.var 0) (.bi 0))) (.idx (.var 2) (.cst (.int 0))) (.cst (.str "another")))]⟩
def f13_l_asked : Fn := ⟨4, 4, true, [.iff (.cmp .eq (.var 0) (.cst (.int 0))) [.ret (.call 4 [(.var 1)])] [], .iff (.cmp .eq (.var 0) (.cst (.int 4))) [.ret (.call 2 [(.var 1), (.var 2), (.var 3)])] [], .iff (.cmp .eq (.var 0) (.cst (.int 1))) [.ex (.call 5 [(.var 1)])] [.iff (.cmp .eq (.var 0) (.cst (.int 2))) [.ex (.call 6 [(.var 1), (.var 2)])] [.ex (.call 7 [(.var 1), (.var 2)])]], .ret (.cst .non)]⟩
def f14_l_said : Fn := ⟨4, 7, true, [.asg (.nm 4) (.cst .non), .asg (.nm 5) (.cst .non), .tryS [.asg (.nm 5) (.call 13 [(.var 0), (.var 1), (.var 2), (.var 3)])] [(0, some 6)] [[.asg (.nm 4) (.var 6)]], .ret (.ite (.cmp .is (.var 5) (.cst .non)) (.call 12 [(.var 4)]) (.cst (.str "told")))]⟩
def f15_l_spoilt : Fn := ⟨2, 5, true, [.asg (.nm 2) (.call 10 [(.var 1), (.bi false .len [(.var 0)])]), .asg (.nm 3) (.idx (.lst false [(.cst (.int 9)), (.neg (.cst (.int 1))), (.cst (.bl true)), (.cst .non), (.cst (.str "1")), (.tup [(.cst (.int 1))]), (.lst false [(.cst (.int 1))]), (.idx (.var 0) (.bin false .sub (.var 2) (.cst (.int 1))))]) (.call 10 [(.var 1), (.cst (.int 8))])), .asg (.nm 4) (.call 10 [(.var 1), (.cst (.int 6))]), .iff (.cmp .eq (.var 4) (.cst (.int 0))) [.ret (.idx (.lst false [(.tup []), (.cst .non), (.cst (.int 5)), (.cst (.str "123")), (.dct0 false), (.lst false [(.var 0)])]) (.call 10 [(.var 1), (.cst (.int 6))]))] [], .iff (.cmp .eq (.var 4) (.cst (.int 1))) [.ret (.bi false .list [(.var 0)])] [], .iff (.cmp .eq (.var 4) (.cst (.int 2))) [.ret (.bi false .trange [.cst (.int 0), (.cst (.int 8))])] [], .iff (.cmp .eq (.var 4) (.cst (.int 3))) [.ret (.bin false .add (.slc false (.var 0) [] [(.bin false .add (.var 2) (.cst (.int 1)))]) (.slc false (.var 0) [(.var 2)] []))] [], .iff (.and (.cmp .eq (.var 4) (.cst (.int 4))) (.cmp .gt (.bi false .len [(.var 0)]) (.cst (.int 1)))) [.ret (.bi false .trev [(.var 0)])] [], .iff (.cmp .eq (.var 3) (.idx (.var 0) (.bin false .sub (.var 2) (.cst (.int 1))))) [.ret (.bin false .add (.var 0) (.tup [(.idx (.var 0) (.cst (.int 0)))]))] [], .ret (.bin false .add (.bin false .add (.slc false (.var 0) [] [(.var 2)]) (.tup [(.var 3)])) (.slc false (.var 0) [(.bin false .add (.var 2) (.cst (.int 1)))] []))]⟩
def f16_l_nexts : Fn := ⟨1, 4, true, [.asg (.nm 1) (.lst true []), .for (.nm 2) .rng [.cst (.int 0), (.cst (.int 9))] [.iff (.cmp .inn (.var 2) (.var 0)) [.ex (.bm false .append (.var 1) [(.bi false .tuple [(.comp false [3] (.nm 3) .seq [(.var 0)] [(.cmp .ne (.var 3) (.var 2))] (.var 3))])])] [.ex (.bm false .append (.var 1) [(.bi false .tuple [(.bi false .sorted [(.bin false .add (.var 0) (.tup [(.var 2)]))])])])]], .ret (.var 1)]⟩
def f17_l_number_right : Fn := ⟨1, 8, true, [.asg (.nm 1) (.idx (.lst false [(.bin false .sub (.call 10 [(.var 0), (.cst (.int 30))]) (.cst (.int 15))), (.bin false .pow (.cst (.int 10)) (.cst (.int 20))), (.cst (.bl true)), (.cst .non), (.cst (.str "3")), (.lst false [(.cst (.int 3))]), (.cst (.bl false))]) (.call 10 [(.var 0), (.cst (.int 7))])), .asg (.nm 2) (.bin false .sub (.call 10 [(.var 0), (.cst (.int 30))]) (.cst (.int 15))), .asg (.nm 3) (.bin false .add (.var 2) (.call 10 [(.var 0), (.cst (.int 20))])), .asg (.nm 4) (.and (.isi (.var 1) .int) (.nt (.isi (.var 1) .bool))), .asg (.nm 5) (.and (.var 4) (.chn .le .le (.var 2) (.var 1) (.var 3))), .asg (.nm 6) (.lst false [(.call 0 [(.var 1)]), (.call 1 [(.var 1), (.var 2), (.var 3)])]), .iff (.or (.cmp .ne (.var 6) (.lst false [(.var 4), (.var 5)])) (.nt (.bi false .all [(.comp false [7] (.nm 7) .seq [(.var 6)] [] (.isi (.var 7) .bool))]))) [.ret (.cst (.bl false))] [], .ret (.cmp .eq (.call 14 [(.cst (.int 4)), (.var 1), (.var 2), (.var 3)]) (.idx (.lst false [(.cst (.str "number")), (.cst (.str ""))]) (.bi false .int [(.var 5)])))]⟩
def f18_l_members_right : Fn := ⟨3, 10, true, [.asg (.nm 3) (.bi false .list [(.var 2)]), .asg (.nm 4) (.lst false [(.call 6 [(.var 0), (.var 3)]), (.call 7 [(.var 0), (.var 1)]), (.call 7 [(.var 1), (.var 0)])]), .asg (.nm 5) (.cmp .inn (.var 1) (.call 16 [(.var 0)])), .asg (.nm 6) (.bi false .len [(.comp false [8] (.nm 8) .seq [(.var 0)] [(.cmp .inn (.var 8) (.var 2))] (.var 8))]), .iff (.cmp .ne (.var 3) (.var 2)) [.ret (.cst (.bl false))] [], .iff (.or (.cmp .ne (.var 4) (.lst false [(.cmp .gt (.bin false .mul (.cst (.int 2)) (.var 6)) (.bi false .len [(.var 0)])), (.var 5), (.var 5)])) (.nt (.bi false .all [(.comp false [9] (.nm 9) .seq [(.var 4)] [] (.isi (.var 9) .bool))]))) [.ret (.cst (.bl false))] [], .asg (.nm 7) (.call 5 [(.var 0)]), .ret (.and (.nt (.isi (.var 7) .bool)) (.and (.cmp .gt (.bin false .mul (.cst (.int 2)) (.var 7)) (.bi false .len [(.var 0)])) (.cmp .le (.bin false .mul (.cst (.int 2)) (.bin false .sub (.var 7) (.cst (.int 1)))) (.bi false .len [(.var 0)]))))]⟩
def f19_law : Fn := ⟨1, 10, true, [.for (.tp [.nm 1, .nm 2]) .enum [(.slc false (.bin false .add (.var 0) (.lst false [(.cst (.int 0))])) [] [(.cst (.int 63))])] [.asg (.nm 3) (.call 9 [(.var 0), (.var 2), (.var 1)]), .asg (.nm 4) (.call 11 [(.var 3)]), .asg (.nm 5) (.call 11 [(.var 3)]), .iff (.cmp .eq (.call 10 [(.var 3), (.cst (.int 2))]) (.cst (.int 1))) [.asg (.nm 5) (.idx (.call 16 [(.var 4)]) (.call 10 [(.var 3), (.cst (.int 9))]))] [], .asg (.nm 5) (.ite (.and (.cmp .ne (.var 5) (.tup [])) (.cmp .lt (.bi false .len [(.var 5)]) (.cst (.int 8)))) (.var 5) (.var 4)), .asg (.nm 6) (.comp false [9] (.nm 9) .rng [.cst (.int 0), (.call 10 [(.var 3), (.cst (.int 11))])] [] (.call 10 [(.var 3), (.cst (.int 9))])), .iff (.or (.cmp .isn (.call 3 [(.var 4)]) (.cst (.bl true))) (.cmp .isn (.call 3 [(.var 5)]) (.cst (.bl true)))) [.ret (.cst (.bl false))] [], .iff (.or (.nt (.call 18 [(.var 4), (.var 5), (.var 6)])) (.nt (.call 17 [(.var 3)]))) [.ret (.cst (.bl false))] [], .asg (.nm 7) (.call 15 [(.var 4), (.var 3)]), .iff (.or (.cmp .isn (.call 3 [(.var 7)]) (.cst (.bl false))) (.cmp .ne (.call 14 [(.cst (.int 0)), (.var 4), (.cst .non), (.cst .non)]) (.cst (.str "")))) [.ret (.cst (.bl false))] [], .for (.nm 8) .rng [.cst (.int 0), (.cst (.int 4))] [.iff (.cmp .ne (.call 14 [(.var 8), (.var 7), (.idx (.lst false [(.var 5), (.var 6), (.var 6), (.var 5)]) (.var 8)), (.cst .non)]) (.cst (.str "members"))) [.ret (.cst (.bl false))] []], .iff (.or (.cmp .ne (.call 14 [(.cst (.int 3)), (.var 4), (.var 7), (.cst .non)]) (.cst (.str "members"))) (.cmp .ne (.call 14 [(.cst (.int 3)), (.var 7), (.var 7), (.cst .non)]) (.cst (.str "members")))) [.ret (.cst (.bl false))] []], .ret (.cst (.bl true))]⟩
def LD : LawD where
  tb := ⟨([(0, "is_whole"), (1, "is_among"), (2, "need_number"), (3, "are_members"), (4, "need_members"), (5, "many_of"), (6, "are_many"), (7, "is_one_apart"), (8, "_law_mixed"), (9, "_law_stream"), (10, "_law_take"), (11, "_law_members_by"), (12, "_law_word"), (13, "_law_asked"), (14, "_law_said"), (15, "_law_spoilt"), (16, "_law_nexts"), (17, "_law_number_right"), (18, "_law_members_right"), (19, "law")] : List (Nat × Str)),
   ([(0, "ScribeError"), (1, "BadNumber"), (2, "BadMembers"), (3, "BadDeed"), (4, "BadAsk"), (5, "BadFold"), (6, "BadLetter"), (7, "BadKept"), (8, "NoPlace"), (9, "NotHead"), (10, "NotYet"), (11, "NoScribe"), (12, "NoLetter"), (13, "BadPaper"), (14, "BadHistory"), (15, "BadText"), (16, "BadLine"), (17, "Away")] : List (Nat × Str)),
   ([(1, "LAST_SCRIBE"), (0, "MOST_MEMBERS")] : List (Nat × Str))⟩
  ids := [0, 1, 2, 3, 4, 5, 6, 7, 8, 9, 10, 11, 12, 13, 14, 15, 16, 17, 18, 19]
  cls := [0, 1, 2, 3, 4, 5, 6, 7, 8, 9, 10, 11, 12, 13, 14, 15, 16, 17]
  intL := [(1, 8), (0, 7)]
  strL := []
  isiL := ([(.non, .bool, false), (.bool, .bool, true), (.int, .bool, false), (.str, .bool, false), (.tup, .bool, false), (.lst, .bool, false), (.dct, .bool, false), ((.cls 2), .bool, false), ((.cls 1), .bool, false), (.non, .int, false), (.bool, .int, true), (.int, .int, true), (.str, .int, false), (.tup, .int, false), (.lst, .int, false), (.dct, .int, false), ((.cls 2), .int, false), ((.cls 1), .int, false), (.non, .str, false), (.bool, .str, false), (.int, .str, false), (.str, .str, true), (.tup, .str, false), (.lst, .str, false), (.dct, .str, false)] : List (Ty × Ty × Bool)) ++
  ([((.cls 2), .str, false), ((.cls 1), .str, false), (.non, .tup, false), (.bool, .tup, false), (.int, .tup, false), (.str, .tup, false), (.tup, .tup, true), (.lst, .tup, false), (.dct, .tup, false), ((.cls 2), .tup, false), ((.cls 1), .tup, false), (.non, .lst, false), (.bool, .lst, false), (.int, .lst, false), (.str, .lst, false), (.tup, .lst, false), (.lst, .lst, true), (.dct, .lst, false), ((.cls 2), .lst, false), ((.cls 1), .lst, false), (.non, .dct, false), (.bool, .dct, false), (.int, .dct, false), (.str, .dct, false), (.tup, .dct, false)] : List (Ty × Ty × Bool)) ++
  ([(.lst, .dct, false), (.dct, .dct, true), ((.cls 2), .dct, false), ((.cls 1), .dct, false), (.non, (.cls 17), false), (.bool, (.cls 17), false), (.int, (.cls 17), false), (.str, (.cls 17), false), (.tup, (.cls 17), false), (.lst, (.cls 17), false), (.dct, (.cls 17), false), ((.cls 2), (.cls 17), false), ((.cls 1), (.cls 17), false), (.non, (.cls 4), false), (.bool, (.cls 4), false), (.int, (.cls 4), false), (.str, (.cls 4), false), (.tup, (.cls 4), false), (.lst, (.cls 4), false), (.dct, (.cls 4), false), ((.cls 2), (.cls 4), false), ((.cls 1), (.cls 4), false), (.non, (.cls 3), false), (.bool, (.cls 3), false), (.int, (.cls 3), false)] : List (Ty × Ty × Bool)) ++
  ([(.str, (.cls 3), false), (.tup, (.cls 3), false), (.lst, (.cls 3), false), (.dct, (.cls 3), false), ((.cls 2), (.cls 3), false), ((.cls 1), (.cls 3), false), (.non, (.cls 5), false), (.bool, (.cls 5), false), (.int, (.cls 5), false), (.str, (.cls 5), false), (.tup, (.cls 5), false), (.lst, (.cls 5), false), (.dct, (.cls 5), false), ((.cls 2), (.cls 5), false), ((.cls 1), (.cls 5), false), (.non, (.cls 14), false), (.bool, (.cls 14), false), (.int, (.cls 14), false), (.str, (.cls 14), false), (.tup, (.cls 14), false), (.lst, (.cls 14), false), (.dct, (.cls 14), false), ((.cls 2), (.cls 14), false), ((.cls 1), (.cls 14), false), (.non, (.cls 7), false)] : List (Ty × Ty × Bool)) ++
  ([(.bool, (.cls 7), false), (.int, (.cls 7), false), (.str, (.cls 7), false), (.tup, (.cls 7), false), (.lst, (.cls 7), false), (.dct, (.cls 7), false), ((.cls 2), (.cls 7), false), ((.cls 1), (.cls 7), false), (.non, (.cls 6), false), (.bool, (.cls 6), false), (.int, (.cls 6), false), (.str, (.cls 6), false), (.tup, (.cls 6), false), (.lst, (.cls 6), false), (.dct, (.cls 6), false), ((.cls 2), (.cls 6), false), ((.cls 1), (.cls 6), false), (.non, (.cls 16), false), (.bool, (.cls 16), false), (.int, (.cls 16), false), (.str, (.cls 16), false), (.tup, (.cls 16), false), (.lst, (.cls 16), false), (.dct, (.cls 16), false), ((.cls 2), (.cls 16), false)] : List (Ty × Ty × Bool)) ++
  ([((.cls 1), (.cls 16), false), (.non, (.cls 2), false), (.bool, (.cls 2), false), (.int, (.cls 2), false), (.str, (.cls 2), false), (.tup, (.cls 2), false), (.lst, (.cls 2), false), (.dct, (.cls 2), false), ((.cls 2), (.cls 2), true), ((.cls 1), (.cls 2), false), (.non, (.cls 1), false), (.bool, (.cls 1), false), (.int, (.cls 1), false), (.str, (.cls 1), false), (.tup, (.cls 1), false), (.lst, (.cls 1), false), (.dct, (.cls 1), false), ((.cls 2), (.cls 1), false), ((.cls 1), (.cls 1), true), (.non, (.cls 13), false), (.bool, (.cls 13), false), (.int, (.cls 13), false), (.str, (.cls 13), false), (.tup, (.cls 13), false), (.lst, (.cls 13), false)] : List (Ty × Ty × Bool)) ++
  ([(.dct, (.cls 13), false), ((.cls 2), (.cls 13), false), ((.cls 1), (.cls 13), false), (.non, (.cls 15), false), (.bool, (.cls 15), false), (.int, (.cls 15), false), (.str, (.cls 15), false), (.tup, (.cls 15), false), (.lst, (.cls 15), false), (.dct, (.cls 15), false), ((.cls 2), (.cls 15), false), ((.cls 1), (.cls 15), false), (.non, (.cls 12), false), (.bool, (.cls 12), false), (.int, (.cls 12), false), (.str, (.cls 12), false), (.tup, (.cls 12), false), (.lst, (.cls 12), false), (.dct, (.cls 12), false), ((.cls 2), (.cls 12), false), ((.cls 1), (.cls 12), false), (.non, (.cls 8), false), (.bool, (.cls 8), false), (.int, (.cls 8), false), (.str, (.cls 8), false)] : List (Ty × Ty × Bool)) ++
  ([(.tup, (.cls 8), false), (.lst, (.cls 8), false), (.dct, (.cls 8), false), ((.cls 2), (.cls 8), false), ((.cls 1), (.cls 8), false), (.non, (.cls 11), false), (.bool, (.cls 11), false), (.int, (.cls 11), false), (.str, (.cls 11), false), (.tup, (.cls 11), false), (.lst, (.cls 11), false), (.dct, (.cls 11), false), ((.cls 2), (.cls 11), false), ((.cls 1), (.cls 11), false), (.non, (.cls 9), false), (.bool, (.cls 9), false), (.int, (.cls 9), false), (.str, (.cls 9), false), (.tup, (.cls 9), false), (.lst, (.cls 9), false), (.dct, (.cls 9), false), ((.cls 2), (.cls 9), false), ((.cls 1), (.cls 9), false), (.non, (.cls 10), false), (.bool, (.cls 10), false)] : List (Ty × Ty × Bool)) ++
  ([(.int, (.cls 10), false), (.str, (.cls 10), false), (.tup, (.cls 10), false), (.lst, (.cls 10), false), (.dct, (.cls 10), false), ((.cls 2), (.cls 10), false), ((.cls 1), (.cls 10), false), (.non, (.bi 0), false), (.bool, (.bi 0), false), (.int, (.bi 0), false), (.str, (.bi 0), false), (.tup, (.bi 0), false), (.lst, (.bi 0), false), (.dct, (.bi 0), false), ((.cls 2), (.bi 0), true), ((.cls 1), (.bi 0), true)] : List (Ty × Ty × Bool))
  xcL := [2, 1]
  rzL := [2, 1]
  exmL := [(2, 0, true), (1, 0, true)]
  fns := ([f0_is_whole, f1_is_among, f2_need_number, f3_are_members, f4_need_members, f5_many_of, f6_are_many, f7_is_one_apart, f8_l_mixed, f9_l_stream, f10_l_take, f11_l_members_by, f12_l_word, f13_l_asked, f14_l_said, f15_l_spoilt, f16_l_nexts, f17_l_number_right, f18_l_members_right, f19_law] : List Fn)
  nss := ([["thing"], ["thing", "least", "most"], ["thing", "least", "most"], ["thing", "one", "other"], ["thing"], ["members"], ["members", "scribes", "one"], ["one", "other", "gone", "come", "scribe"], ["_law_number", "_law_k"], ["_law_script", "_law_cell", "_law_k"], ["_law_stream_here", "_law_many", "_law_number"], ["_law_stream_here", "_law_left", "_law_found", "_law_k"], ["_law_error", "_law_some", "_law_found", "_law_word_here", "_law_good"], ["_law_which", "_law_one", "_law_other", "_law_third"], ["_law_which", "_law_one", "_law_other", "_law_third", "_law_caught", "_law_found", "_law_error"], ["_law_members", "_law_stream_here", "_law_at", "_law_odd", "_law_kind"], ["_law_members", "_law_found", "_law_scribe", "_law_one"], ["_law_stream_here", "_law_thing", "_law_least", "_law_most", "_law_whole", "_law_good", "_law_told", "_law_one"], ["_law_one", "_law_other", "_law_scribes", "_law_handed", "_law_told", "_law_near", "_law_many", "_law_count", "_law_scribe", "_law_thing"], ["_law_script", "_law_k", "_law_cell", "_law_stream_here", "_law_one", "_law_other", "_law_scribes", "_law_bad", "_law_which", "_law_turn"]] : List (List Str))
end K01

set_option Elab.async false
set_option linter.all false
set_option maxRecDepth 100000
set_option maxHeartbeats 400000
/-! Sp0: steps of the instructions, as equations. -/
namespace Sp
open PySem IP
variable {T : Tab} {cf : Nat → List PV → Store → Res PV}
theorem callF_at {n f : Nat} {d : Fn} (h : T.fn f = some d) (args : List PV) (S : Store) : callF T (n + 1) f args S = runB T (callF T n) d args S := by
  simp only [callF, h]
/-! ### operators on intsL -/
theorem b_add (m : Bool) (i j : Int) (S : Store) : binP m .add (.int i) (.int j) S = .ok (.int (i + j)) S := rfl
theorem b_sub (m : Bool) (i j : Int) (S : Store) : binP m .sub (.int i) (.int j) S = .ok (.int (i - j)) S := rfl
theorem b_mul (m : Bool) (i j : Int) (S : Store) (h : (-18446744073709551616 < i ∧ i < 18446744073709551616) ∨ (-18446744073709551616 < j ∧ j < 18446744073709551616)) : binP m .mul (.int i) (.int j) S = .ok (.int (i * j)) S := by
  have e : decide ((-(2 ^ 64) < i ∧ i < (2 : Int) ^ 64) ∨ (-(2 ^ 64) < j ∧ j < (2 : Int) ^ 64)) = true := decide_eq_true h
  simp only [binP, iiP, e, if_true]
theorem b_mod (m : Bool) (i j : Int) (S : Store) (h : 0 < j) : binP m .mod (.int i) (.int j) S = .ok (.int (i % j)) S := by
  simp only [binP, iiP, decide_eq_true h, if_true]
theorem b_div (m : Bool) (i j : Int) (S : Store) (h : 0 < j ∧ j < 1073741824) : binP m .fdiv (.int i) (.int j) S = .ok (.int (i / j)) S := by
  simp only [binP, iiP, decide_eq_true h, if_true]
theorem b_pow (m : Bool) (i j : Int) (S : Store) (h : 0 ≤ j ∧ j ≤ 1000000 ∧ i.natAbs < 2 ^ 64) : binP m .pow (.int i) (.int j) S = .ok (.int (i ^ j.toNat)) S := by
  simp only [binP, iiP, decide_eq_true h, if_true]
theorem c_lt (i j : Int) (S : Store) : cmpP .lt (.int i) (.int j) S = .ok (.bl (decide (i < j))) S := rfl
theorem c_le (i j : Int) (S : Store) : cmpP .le (.int i) (.int j) S = .ok (.bl (decide (i ≤ j))) S := rfl
theorem c_gt (i j : Int) (S : Store) : cmpP .gt (.int i) (.int j) S = .ok (.bl (decide (j < i))) S := rfl
theorem c_ge (i j : Int) (S : Store) : cmpP .ge (.int i) (.int j) S = .ok (.bl (decide (j ≤ i))) S := rfl
theorem c_eqi (i j : Int) (S : Store) : cmpP .eq (.int i) (.int j) S = .ok (.bl (decide (i = j))) S := by
  have e : eqP S (.int i) (.int j) = some (decide (i = j)) := by
    have : (i == j) = decide (i = j) := by by_cases h : i = j <;> simp [h]
    simp [eqP, top, plV, dpV, eqB, this]
  simp only [cmpP, eqQ, e]; rfl
theorem c_nei (i j : Int) (S : Store) : cmpP .ne (.int i) (.int j) S = .ok (.bl (!decide (i = j))) S := by
  have e : eqP S (.int i) (.int j) = some (decide (i = j)) := by
    have : (i == j) = decide (i = j) := by by_cases h : i = j <;> simp [h]
    simp [eqP, top, plV, dpV, eqB, this]
  simp only [cmpP, eqQ, e]; rfl
/-! ### a call that leaves the store as it was -/
theorem kept_self (m : Nat) : ∀ S : Store, kept m S S = true
  | [] => rfl
  | a :: as => by simp [kept, beqO_self, kept_self m as]
theorem leave_same {f : Bool} {S : Store} {v : PV} (hv : clV S.length v = true) (hr : ∀ n, v ≠ .ref n) : leave f S v S = (v, S) := by
  have ht : thaw f S S v = v := by
    cases v <;> first | rfl | (exact absurd rfl (hr _))
  unfold leave
  rw [ht, hv, kept_self]
  simp
theorem leave_int {f : Bool} {S : Store} {i : Int} : leave f S (.int i) S = (.int i, S) := leave_same rfl fun _ h => by cases h
theorem leave_bl {f : Bool} {S : Store} {i : Bool} : leave f S (.bl i) S = (.bl i, S) := leave_same rfl fun _ h => by cases h
theorem leave_non {f : Bool} {S : Store} : leave f S .non S = (.non, S) := leave_same rfl fun _ h => by cases h
theorem leave_str {f : Bool} {S : Store} {i : Str} : leave f S (.str i) S = (.str i, S) := leave_same rfl fun _ h => by cases h
end Sp
namespace Sp
open PySem IP
theorem get_set {S : Store} {n : Nat} {o : SO} (h : S[n]? = some o) (o' : SO) : (S.set n o')[n]? = some o' :=
  List.getElem?_set_self (List.getElem?_eq_some_iff.mp h).1
theorem get_set_ne {S : Store} {n m : Nat} (o' : SO) (h : n ≠ m) : (S.set n o')[m]? = S[m]? := List.getElem?_set_ne h
theorem kept_set {m n : Nat} {o : SO} (ho : clO m o = true) : ∀ S : Store, kept m S (S.set n o) = true := by
  intro S
  induction S generalizing n with
  | nil => rfl
  | cons a as ih =>
    cases n with
    | zero => simp [kept, ho, kept_self]
    | succ n => simp [kept, beqO_self, ih]
theorem leave_set {f : Bool} {S : Store} {v : PV} {n : Nat} {o : SO} (hv : clV S.length v = true) (hr : ∀ n, v ≠ .ref n) (ho : clO S.length o = true) : leave f S v (S.set n o) = (v, S.set n o) := by
  have ht : thaw f S (S.set n o) v = v := by
    cases v <;> first | rfl | (exact absurd rfl (hr _))
  unfold leave
  rw [ht, hv, kept_set ho]
  have : (S.set n o).take S.length = S.set n o := List.take_of_length_le (by simp)
  rw [this]
  simp
theorem leave_set_int {f : Bool} {S : Store} {i : Int} {n : Nat} {o : SO} (ho : clO S.length o = true) : leave f S (.int i) (S.set n o) = (.int i, S.set n o) := leave_set rfl (fun _ h => by cases h) ho
theorem eq_flat (S : Store) (i j : Int) : eqP S (.int i) (.int j) = some (decide (i = j)) := by
  have : (i == j) = decide (i = j) := by by_cases h : i = j <;> simp [h]
  simp [eqP, top, plV, dpV, eqB, this]
/-! ### comprehensions whose parts leave the store alone -/
theorem compL_pure {bd : PV → IP.Env → Option IP.Env} {own : List Nat} {cond elt : IP.Env → Store → Res PV} {ck : Store → Bool} {σ : IP.Env} {f : PV → PV} {p : PV → Bool} {S : Store} (hck : ck S = true) :
    ∀ (xs acc : List PV), (∀ x ∈ xs, ∃ σ1, bd x σ = some σ1 ∧ ∃ c, cond σ1 S = .ok c S ∧ truth S c = some (p x) ∧ (p x = true → elt σ1 S = .ok (f x) S)) → compL bd own cond elt ck σ xs acc S = .ok (acc ++ (xs.filter p).map f) S
  | [], acc, _ => by simp [compL]
  | x :: xs, acc, h => by
    obtain ⟨σ1, h1, c, h2, h3, h4⟩ := h x (by simp)
    have ih := fun a => compL_pure (own := own) (f := f) (p := p) hck xs a fun y hy => h y (by simp [hy])
    unfold compL
    rw [h1]
    simp only [h2, h3]
    cases hp : p x with
    | true => simp only [h4 hp, hck, if_true, ih]; simp [List.filter_cons, hp]
    | false => simp only [hck, if_true, ih]; simp [List.filter_cons, hp]
theorem ev_comp {T : Tab} {cf : Nat → List PV → Store → Res PV} {m : Bool} {own : List Nat} {tg : Tg} {ik : IK} {its cond : List E} {elt : E} {σ : IP.Env} {S : Store} {vs xs : List PV} (f : PV → PV) (p : PV → Bool)
    (hv : evEs T cf its σ S = .ok vs S) (hi : iterOf ik vs S = some xs) (hl : xs.length ≤ lim) (hs : stays vs S S = true)
    (h : ∀ x ∈ xs, ∃ σ1, bindT tg x (IP.wipe σ own) = some σ1 ∧ ∃ c, condE T cf cond σ1 S = .ok c S ∧ truth S c = some (p x) ∧ (p x = true → evE T cf elt σ1 S = .ok (f x) S)) :
    evE T cf (.comp m own tg ik its cond elt) σ S = mkL m ((xs.filter p).map f) S := by
  have e := compL_pure (own := own) (ck := stays vs S) hs xs [] h
  have q : evE T cf (.comp m own tg ik its cond elt) σ S = (compL (bindT tg) own (condE T cf cond) (evE T cf elt) (stays vs S) (IP.wipe σ own) xs [] S).bnd fun ys S => mkL m ys S := by
    cases cond <;> simp only [evE, hv, Res.bnd_ok, hi, if_pos hl] <;> rfl
  rw [q, e, Res.bnd_ok, List.nil_append]
theorem filter_tt {α : Type} (xs : List α) : xs.filter (fun _ => true) = xs := List.filter_eq_self.mpr fun _ _ => rfl
theorem take_tail {α : Type} (xs : List α) : xs.tail.take (xs.length - 1) = xs.tail := by
  rw [← List.length_tail]; exact List.take_length
theorem stays_self' {vs : List PV} {S : Store} (h : vs.all (fun v => clV S.length v) = true) : stays vs S S = true := by
  unfold stays
  rw [List.all_eq_true] at h ⊢
  intro x hx
  have := h x hx
  cases x with
  | ref n =>
    have hn : n < S.length := of_decide_eq_true this
    simp only [List.getElem?_eq_getElem hn]
    exact beqO_self _
  | _ => rfl
/-! ### loops -/
theorem forL_inv {bd : PV → IP.Env → Option IP.Env} {body : IP.Env → Store → SR} {ck : Store → Bool} {I : Nat → IP.Env → Store → Prop} :
    ∀ (xs : List PV) (k : Nat) (σ : IP.Env) (S : Store), I k σ S → (∀ i x σ S, xs[i]? = some x → I (k + i) σ S → ∃ σ1, bd x σ = some σ1 ∧ ∃ σ2 S2, body σ1 S = .nx σ2 S2 ∧ ck S2 = true ∧ I (k + i + 1) σ2 S2) →
      ∃ σ' S', forL bd body ck xs σ S = .nx σ' S' ∧ I (k + xs.length) σ' S'
  | [], k, σ, S, h, _ => ⟨σ, S, rfl, h⟩
  | x :: xs, k, σ, S, h, hs => by
    obtain ⟨σ1, h1, σ2, S2, h2, h3, h4⟩ := hs 0 x σ S rfl h
    obtain ⟨σ', S', e, hI⟩ := forL_inv (ck := ck) (I := I) xs (k + 1) σ2 S2 (by simpa using h4) fun i y σ S hy hI => by
      have e1 : k + 1 + i = k + (i + 1) := by omega
      have := hs (i + 1) y σ S (by simpa using hy) (by rw [← e1]; exact hI)
      rw [← e1] at this
      exact this
    refine ⟨σ', S', ?_, ?_⟩
    · unfold forL
      simp only [h1, h2, h3, if_true]
      exact e
    · have e1 : k + 1 + xs.length = k + (x :: xs).length := by rw [List.length_cons]; omega
      rw [← e1]; exact hI
theorem ev_for {T : Tab} {cf : Nat → List PV → Store → Res PV} {t : Tg} {ik : IK} {its : List E} {body : List IP.S} {σ : IP.Env} {S0 S : Store} {vs xs : List PV} (hv : evEs T cf its σ S0 = .ok vs S) (hi : iterOf ik vs S = some xs) :
    evS T cf (.for t ik its body) σ S0 = forL (bindT t) (evSs T cf body) (stays vs S) xs σ S := by
  simp only [evS, hv, liftE_ok, hi]
/-! ### one step each -/
section
variable {T : Tab} {cf : Nat → List PV → Store → Res PV} {σ : IP.Env} {S S1 S2 : Store} {e e' : E} {v v' : PV}
theorem es1 (h : evE T cf e σ S = .ok v S1) : evEs T cf [e] σ S = .ok [v] S1 := by simp only [evEs, h, Res.bnd_ok]
theorem es2 (h : evE T cf e σ S = .ok v S1) (h' : evE T cf e' σ S1 = .ok v' S2) : evEs T cf [e, e'] σ S = .ok [v, v'] S2 := by simp only [evEs, h, h', Res.bnd_ok]
theorem ev_bm {m : Bool} {b : BM} {es : List E} {q : Nat} {l : List PV} {vs : List PV} (ha : evE T cf e σ S = .ok (.ref q) S) (hq : S[q]? = some (.lst l)) (h : evEs T cf es σ S = .ok vs S1) : evE T cf (.bm m b e es) σ S = bmP m b (.ref q) vs S1 := by
  simp only [evE, ha, Res.bnd_ok, hq, h]
theorem ev_ex1 (h : evE T cf e σ S = .ok v S1) : evSs T cf [.ex e] σ S = .nx σ S1 := by simp only [evSs, evS, h, liftE_ok]
theorem ev_var {i : Nat} (h : σ[i]? = some (some v)) : evE T cf (.var i) σ S = .ok v S := by simp only [evE, h]
theorem ev_call {f : Nat} {es : List E} {vs : List PV} (h : evEs T cf es σ S = .ok vs S1) : evE T cf (.call f es) σ S = cf f vs S1 := by simp only [evE, h, Res.bnd_ok]
theorem ev_bi {m : Bool} {b : BI} {es : List E} {vs : List PV} (h : evEs T cf es σ S = .ok vs S1) : evE T cf (.bi m b es) σ S = biP m b vs S1 := by simp only [evE, h, Res.bnd_ok]
theorem ss_nx {s : IP.S} {ss : List IP.S} {σ1 : IP.Env} (h : evS T cf s σ S = .nx σ1 S1) : evSs T cf (s :: ss) σ S = evSs T cf ss σ1 S1 := by simp only [evSs, h]
theorem ss_rt {s : IP.S} {ss : List IP.S} (h : evS T cf s σ S = .rt v S1) : evSs T cf (s :: ss) σ S = .rt v S1 := by simp only [evSs, h]
theorem s_asg {i : Nat} (h : evE T cf e σ S = .ok v S1) (hi : i < σ.length) : evS T cf (.asg (.nm i) e) σ S = .nx (σ.set i (some v)) S1 := by simp only [evS, h, liftE_ok, bindT, setO, if_pos hi]
theorem s_ret (h : evE T cf e σ S = .ok v S1) : evS T cf (.ret e) σ S = .rt v S1 := by simp only [evS, h, liftE_ok]
theorem ev_or_f (h : evE T cf e σ S = .ok v S1) (t : truth S1 v = some false) : evE T cf (.or e e') σ S = evE T cf e' σ S1 := by simp only [evE, h, Res.bnd_ok, t]
theorem ev_or_t (h : evE T cf e σ S = .ok v S1) (t : truth S1 v = some true) : evE T cf (.or e e') σ S = .ok v S1 := by simp only [evE, h, Res.bnd_ok, t]
theorem ev_and_t (h : evE T cf e σ S = .ok v S1) (t : truth S1 v = some true) : evE T cf (.and e e') σ S = evE T cf e' σ S1 := by simp only [evE, h, Res.bnd_ok, t]
theorem ev_and_f (h : evE T cf e σ S = .ok v S1) (t : truth S1 v = some false) : evE T cf (.and e e') σ S = .ok v S1 := by simp only [evE, h, Res.bnd_ok, t]
theorem ev_nt {b : Bool} (h : evE T cf e σ S = .ok v S1) (t : truth S1 v = some b) : evE T cf (.nt e) σ S = .ok (.bl !b) S1 := by simp only [evE, h, Res.bnd_ok, t]
theorem s_iff_t {a b : List IP.S} (h : evE T cf e σ S = .ok v S1) (t : truth S1 v = some true) : evS T cf (.iff e a b) σ S = evSs T cf a σ S1 := by simp only [evS, h, liftE_ok, t]
theorem s_iff_f {a b : List IP.S} (h : evE T cf e σ S = .ok v S1) (t : truth S1 v = some false) : evS T cf (.iff e a b) σ S = evSs T cf b σ S1 := by simp only [evS, h, liftE_ok, t]
theorem ss_one {s : IP.S} : evSs T cf [s] σ S = evS T cf s σ S := by
  simp only [evSs]
  cases evS T cf s σ S <;> rfl
theorem run_rt {d : Fn} {args : List PV} (hl : args.length = d.np) (h : evSs T cf d.body (IP.start d args) S = .rt v S1) : runB T cf d args S = .ok (leave d.frz S v S1).1 (leave d.frz S v S1).2 := by
  unfold runB
  rw [if_pos hl, h]
end
theorem erase_map {α β : Type} (f : α → β) : ∀ (l : List α) (k : Nat), (l.map f).eraseIdx k = (l.eraseIdx k).map f
  | [], _ => rfl
  | _ :: _, 0 => rfl
  | x :: xs, k + 1 => by simp [erase_map f xs k]
theorem bls_map {α : Type} (f : α → Bool) : ∀ xs : List α, bls (xs.map fun x => .bl (f x)) = some (xs.map f)
  | [] => rfl
  | x :: xs => by simp [bls, bls_map f xs]
theorem ints_map : ∀ xs : List Int, IP.intsL (xs.map PV.int) = some xs
  | [] => rfl
  | x :: xs => by simp [IP.intsL, ints_map xs]
/-! ### types -/
def plT7 : Ty → Bool
  | .cls _ => false | .bi _ => false | _ => true
def leT (u t : Ty) : Bool := decide (u = t) || (decide (u = .bool) && decide (t = .int))
/-- the table has the built-in types right -/
def Bt (T : Tab) : Prop := ∀ u t, plT7 u = true → plT7 t = true → t ≠ .non → T.isi u t = some (leT u t)
end Sp

set_option Elab.async false
set_option linter.all false
set_option maxRecDepth 100000
set_option maxHeartbeats 400000
/-! Sp1: what the shared functions compute. -/
namespace Sp
open PySem IP K01
variable {T : Tab}
/-- mixed -/
def mixI (x k : Int) : Int := ((x % 2147483647 + 7919 * k * k + 31 * k) * 48271 % 2147483647) * (69621 + 2 * k) % 2147483629
theorem mixed_ok (h : T.fn 8 = some f8_l_mixed) (n : Nat) (x k : Int) (S : Store) (k1 : 0 ≤ k) (k2 : k < 1000000) : callF T (n + 1) 8 [.int x, .int k] S = .ok (.int (mixI x k)) S := by
  rw [callF_at h]
  simp (disch := omega) [runB, IP.start, evSs, evS, evE, evEs, liftE, bindT, bindTs, setO, nxO, setIx, idxP, seqOf, lstOf, ixN, truth, List.getElem?_cons_zero, List.getElem?_cons_succ, b_add, b_sub, b_mul, b_mod, b_div, c_lt, c_le, c_gt, c_ge, c_eqi, c_nei, Res.bnd_ok, f8_l_mixed, leave_int, mixI]
/-- a stream's object: where it begins, what is left, how often it was asked, the seed -/
def Strm (S : Store) (n : Nat) (a : Bool) (b c d : Int) : Prop := S[n]? = some (.lst [.bl a, .int b, .int c, .int d])
def takeI (a : Bool) (b c d m : Int) : Int := if a = false ∨ (b = 0 ∨ b = -1) ∨ 60 < c + 1 then mixI (mixI d (c + 1)) 7 % m else b % m
def leftI (a : Bool) (b c m : Int) : Int := if a = false ∨ (b = 0 ∨ b = -1) ∨ 60 < c + 1 then b else b / m
theorem beq_eq_decide (a b : Int) : (a == b) = decide (a = b) := by by_cases h : a = b <;> simp [h]
theorem inQ2 (b : Int) (S : Store) : cmpP .inn (.int b) (.tup [.int 0, .int (-1)]) S = .ok (.bl (decide (b = 0 ∨ b = -1))) S := by
  have : inP (.int b) [.int 0, .int (-1)] = decide (b = 0 ∨ b = -1) := by
    have e1 : ((0 : Int) == b) = decide (b = 0) := by rw [beq_eq_decide]; exact decide_eq_decide.mpr ⟨Eq.symm, Eq.symm⟩
    have e2 : ((-1 : Int) == b) = decide (b = -1) := by rw [beq_eq_decide]; exact decide_eq_decide.mpr ⟨Eq.symm, Eq.symm⟩
    simp [inP, eqB, e1, e2]
  simp [cmpP, inQ, this, plV, plVs, dpV, dpVs]
theorem take_ok (h8 : T.fn 8 = some f8_l_mixed) (h : T.fn 10 = some f10_l_take) (n : Nat) {p : Nat} {a : Bool} {b c d m : Int} {S : Store} (st : Strm S p a b c d) (c1 : 0 ≤ c) (c2 : c < 100000) (m1 : 0 < m) (m2 : m < 1073741824) :
    callF T (n + 2) 10 [.ref p, .int m] S = .ok (.int (takeI a b c d m)) (S.set p (.lst [.bl a, .int (leftI a b c m), .int (c + 1), .int d])) := by
  unfold Strm at st
  rw [callF_at h]
  have g1 := get_set st (.lst [.bl a, .int b, .int (c + 1), .int d])
  have lv : ∀ (i b' c' : Int), leave true S (.int i) (S.set p (.lst [.bl a, .int b', .int c', .int d])) = (.int i, S.set p (.lst [.bl a, .int b', .int c', .int d])) := fun i b' c' => leave_set_int rfl
  have mx : ∀ (x k : Int) (S : Store), 0 ≤ k → k < 1000000 → callF T (n + 1) 8 [.int x, .int k] S = .ok (.int (mixI x k)) S := fun x k S k1 k2 => mixed_ok h8 n x k S k1 k2
  cases a with
  | false =>
    have e1 : takeI false b c d m = mixI (mixI d (c + 1)) 7 % m := by simp [takeI]
    have e2 : leftI false b c m = b := by simp [leftI]
    rw [e1, e2]
    simp (disch := omega) [runB, IP.start, evSs, evS, evE, evEs, liftE, bindT, bindTs, setO, nxO, setIx, idxP, seqOf, lstOf, ixN, truth, List.getElem?_cons_zero, List.getElem?_cons_succ, b_add, b_sub, b_mul, b_mod, b_div, c_lt, c_le, c_gt, c_ge, c_eqi, c_nei, Res.bnd_ok, f10_l_take, st, g1, mx, lv]
  | true =>
    by_cases q : (b = 0 ∨ b = -1) ∨ 60 < c + 1
    · have e1 : takeI true b c d m = mixI (mixI d (c + 1)) 7 % m := by unfold takeI; rw [if_pos (.inr q)]
      have e2 : leftI true b c m = b := by unfold leftI; rw [if_pos (.inr q)]
      rw [e1, e2]
      by_cases q1 : b = 0 ∨ b = -1
      · have q1' : decide (b = 0 ∨ b = -1) = true := decide_eq_true q1
        simp (disch := omega) [runB, IP.start, evSs, evS, evE, evEs, liftE, bindT, bindTs, setO, nxO, setIx, idxP, seqOf, lstOf, ixN, truth, List.getElem?_cons_zero, List.getElem?_cons_succ, b_add, b_sub, b_mul, b_mod, b_div, c_lt, c_le, c_gt, c_ge, c_eqi, c_nei, Res.bnd_ok, f10_l_take, st, g1, mx, lv, inQ2, q1', -Bool.decide_or]
      · have q1' : decide (b = 0 ∨ b = -1) = false := decide_eq_false q1
        have q2 : decide (60 < c + 1) = true := decide_eq_true (q.resolve_left q1)
        simp (disch := omega) [runB, IP.start, evSs, evS, evE, evEs, liftE, bindT, bindTs, setO, nxO, setIx, idxP, seqOf, lstOf, ixN, truth, List.getElem?_cons_zero, List.getElem?_cons_succ, b_add, b_sub, b_mul, b_mod, b_div, c_lt, c_le, c_gt, c_ge, c_eqi, c_nei, Res.bnd_ok, f10_l_take, st, g1, mx, lv, inQ2, q1', q2, -Bool.decide_or]
    · have q0 : ¬(true = false ∨ (b = 0 ∨ b = -1) ∨ 60 < c + 1) := fun z => z.elim (fun z => by cases z) q
      have e1 : takeI true b c d m = b % m := by unfold takeI; rw [if_neg q0]
      have e2 : leftI true b c m = b / m := by unfold leftI; rw [if_neg q0]
      rw [e1, e2]
      have q1' : decide (b = 0 ∨ b = -1) = false := decide_eq_false fun z => q (.inl z)
      have q2 : decide (60 < c + 1) = false := decide_eq_false fun z => q (.inr z)
      simp (disch := omega) [runB, IP.start, evSs, evS, evE, evEs, liftE, bindT, bindTs, setO, nxO, setIx, idxP, seqOf, lstOf, ixN, truth, List.getElem?_cons_zero, List.getElem?_cons_succ, b_add, b_sub, b_mul, b_mod, b_div, c_lt, c_le, c_gt, c_ge, c_eqi, c_nei, Res.bnd_ok, f10_l_take, st, g1, mx, lv, inQ2, q1', q2, -Bool.decide_or, List.set_set]
end Sp

set_option Elab.async false
set_option linter.all false
set_option maxRecDepth 100000
set_option maxHeartbeats 400000
/-! Sp2: numbers and members. -/
namespace Sp
open PySem IP K01
variable {T : Tab}
theorem takeI_lt {a : Bool} {b c d m : Int} (h : 0 < m) : 0 ≤ takeI a b c d m ∧ takeI a b c d m < m := by
  unfold takeI
  split
  · exact ⟨Int.emod_nonneg _ (by omega), Int.emod_lt_of_pos _ h⟩
  · exact ⟨Int.emod_nonneg _ (by omega), Int.emod_lt_of_pos _ h⟩
def wholeB : PV → Bool
  | .int _ => true
  | _ => false
theorem whole_ok (bt : Bt T) (h : T.fn 0 = some f0_is_whole) (n : Nat) {v : PV} {S : Store} {u : Ty} (hu : tyT T S v = some u) (hp : plT7 u = true) (hw : wholeB v = decide (u = .int)) : callF T (n + 1) 0 [v] S = .ok (.bl (wholeB v)) S := by
  rw [callF_at h]
  have t1 := bt u .int hp rfl (by simp)
  have t2 := bt u .bool hp rfl (by simp)
  rw [hw]
  cases u <;> first | (cases hp; done) | (simp [leT] at t1 t2; simp (disch := omega) [runB, IP.start, evSs, evS, evE, evEs, liftE, bindT, bindTs, setO, nxO, setIx, idxP, seqOf, lstOf, ixN, truth, List.getElem?_cons_zero, List.getElem?_cons_succ, b_add, b_sub, b_mul, b_mod, b_div, c_lt, c_le, c_gt, c_ge, c_eqi, c_nei, Res.bnd_ok, f0_is_whole, hu, t1, t2, leave_bl])
def amongB (v : PV) (l m : Int) : Bool := match v with
  | .int i => decide (l ≤ i) && decide (i ≤ m)
  | _ => false
theorem among_ok (bt : Bt T) (h0 : T.fn 0 = some f0_is_whole) (h : T.fn 1 = some f1_is_among) (n : Nat) {v : PV} {S : Store} {u : Ty} (l m : Int) (hu : tyT T S v = some u) (hp : plT7 u = true) (hw : wholeB v = decide (u = .int)) :
    callF T (n + 2) 1 [v, .int l, .int m] S = .ok (.bl (amongB v l m)) S := by
  rw [callF_at h]
  have w := whole_ok bt h0 n hu hp hw
  cases v with
  | int i =>
    have w' : callF T (n + 1) 0 [.int i] S = .ok (.bl true) S := w
    by_cases q : l ≤ i
    · have q' := decide_eq_true q
      simp (disch := omega) [runB, IP.start, evSs, evS, evE, evEs, liftE, bindT, bindTs, setO, nxO, setIx, idxP, seqOf, lstOf, ixN, truth, List.getElem?_cons_zero, List.getElem?_cons_succ, b_add, b_sub, b_mul, b_mod, b_div, c_lt, c_le, c_gt, c_ge, c_eqi, c_nei, Res.bnd_ok, f1_is_among, w', q', leave_bl, amongB, q]
    · have q' := decide_eq_false q
      simp (disch := omega) [runB, IP.start, evSs, evS, evE, evEs, liftE, bindT, bindTs, setO, nxO, setIx, idxP, seqOf, lstOf, ixN, truth, List.getElem?_cons_zero, List.getElem?_cons_succ, b_add, b_sub, b_mul, b_mod, b_div, c_lt, c_le, c_gt, c_ge, c_eqi, c_nei, Res.bnd_ok, f1_is_among, w', q', leave_bl, amongB, q]
  | _ =>
    have w' := w
    simp only [wholeB] at w'
    simp (disch := omega) [runB, IP.start, evSs, evS, evE, evEs, liftE, bindT, bindTs, setO, nxO, setIx, idxP, seqOf, lstOf, ixN, truth, List.getElem?_cons_zero, List.getElem?_cons_succ, b_add, b_sub, b_mul, b_mod, b_div, c_lt, c_le, c_gt, c_ge, c_eqi, c_nei, Res.bnd_ok, f1_is_among, w', leave_bl, amongB]
/-- values that the checks meet: of a built-in type, a whole number where the type says so -/
def okV (T : Tab) (S : Store) (v : PV) : Prop := ∃ u, tyT T S v = some u ∧ plT7 u = true ∧ wholeB v = decide (u = .int)
theorem okV_int {S : Store} (i : Int) : okV T S (.int i) := ⟨.int, rfl, rfl, rfl⟩
end Sp

set_option Elab.async false
set_option linter.all false
set_option maxRecDepth 100000
set_option maxHeartbeats 400000
/-! Sp3: members. -/
namespace Sp
open PySem IP K01
variable {T : Tab}
def ltB : PV → PV → Bool
  | .int i, .int j => decide (i < j)
  | _, _ => false
def membersB (xs : List PV) : Bool := decide (1 ≤ xs.length ∧ xs.length ≤ 7) && (xs.all (fun v => amongB v 0 8) && (xs.zip xs.tail).all fun p => ltB p.1 p.2)
theorem among_okV (bt : Bt T) (h0 : T.fn 0 = some f0_is_whole) (h : T.fn 1 = some f1_is_among) (n : Nat) {v : PV} {S : Store} (l m : Int) (hv : okV T S v) : callF T (n + 2) 1 [v, .int l, .int m] S = .ok (.bl (amongB v l m)) S := by
  obtain ⟨u, h1, h2, h3⟩ := hv
  exact among_ok bt h0 h n l m h1 h2 h3
theorem stays_tup {xs : List PV} {S : Store} : stays [.tup xs] S S = true := rfl
theorem all_id {α : Type} (f : α → Bool) (xs : List α) : (xs.map f).all id = xs.all f := by
  rw [List.all_map]; rfl
theorem members_tup (bt : Bt T) (h0 : T.fn 0 = some f0_is_whole) (h1 : T.fn 1 = some f1_is_among) (h : T.fn 3 = some f3_are_members) (n : Nat) {xs : List PV} {S : Store} (hx : ∀ x ∈ xs, okV T S x) : callF T (n + 3) 3 [.tup xs] S = .ok (.bl (membersB xs)) S := by
  rw [callF_at h]
  have t1 : T.isi .tup .tup = some true := bt .tup .tup rfl rfl (by simp)
  by_cases hl : 1 ≤ xs.length ∧ xs.length ≤ 7
  · have hl1 : decide ((1 : Int) ≤ (xs.length : Int)) = true := decide_eq_true (by omega)
    have hl2 : decide ((xs.length : Int) ≤ (7 : Int)) = true := decide_eq_true (by omega)
    have hle : xs.length ≤ lim := by unfold lim; omega
    have c1 : evE T (callF T (n + 2)) (.comp false [1] (.nm 1) .seq [.var 0] [] (.call 1 [.var 1, .cst (.int 0), .glo 1 (.int 8)])) [some (.tup xs), none, none] S = .ok (.lst (xs.map fun x => .bl (amongB x 0 8))) S := by
      rw [ev_comp (fun x => .bl (amongB x 0 8)) (fun _ => true) (vs := [.tup xs]) (xs := xs) (by simp (disch := omega) [runB, IP.start, evSs, evS, evE, evEs, liftE, bindT, bindTs, setO, nxO, setIx, idxP, seqOf, lstOf, ixN, truth, List.getElem?_cons_zero, List.getElem?_cons_succ, b_add, b_sub, b_mul, b_mod, b_div, c_lt, c_le, c_gt, c_ge, c_eqi, c_nei, Res.bnd_ok]) rfl hle rfl fun x hm => ⟨[some (.tup xs), some x, none], by simp [bindT, setO, IP.wipe], .bl true, rfl, rfl, fun _ => ?_⟩]
      · simp [mkL, filter_tt]
      · have a := among_okV bt h0 h1 n 0 8 (hx x hm)
        simp (disch := omega) [runB, IP.start, evSs, evS, evE, evEs, liftE, bindT, bindTs, setO, nxO, setIx, idxP, seqOf, lstOf, ixN, truth, List.getElem?_cons_zero, List.getElem?_cons_succ, b_add, b_sub, b_mul, b_mod, b_div, c_lt, c_le, c_gt, c_ge, c_eqi, c_nei, Res.bnd_ok, a]
    by_cases ha : xs.all (fun v => amongB v 0 8) = true
    · have hi : ∀ x ∈ xs, ∃ i, x = .int i := fun x hm => by
        have := List.all_eq_true.mp ha x hm
        cases x <;> first | exact ⟨_, rfl⟩ | cases this
      have c2 : evE T (callF T (n + 2)) (.comp false [1, 2] (.tp [.nm 1, .nm 2]) .zip [.var 0, .slc false (.var 0) [.cst (.int 1)] []] [] (.cmp .lt (.var 1) (.var 2))) [some (.tup xs), none, none] S = .ok (.lst ((xs.zip xs.tail).map fun p => .bl (ltB p.1 p.2))) S := by
        have hz : ((xs.zip xs.tail).map fun p => PV.tup [p.1, p.2]).length ≤ lim := by rw [List.length_map, List.length_zip]; omega
        rw [ev_comp (fun x => match x with | .tup [a, b] => .bl (ltB a b) | _ => .non) (fun _ => true) (vs := [.tup xs, .tup xs.tail]) (xs := (xs.zip xs.tail).map fun p => .tup [p.1, p.2]) ?_ rfl hz rfl fun x hm => ?_]
        · simp [mkL, filter_tt, List.map_map, Function.comp_def]
        · simp (disch := omega) [runB, IP.start, evSs, evS, evE, evEs, liftE, bindT, bindTs, setO, nxO, setIx, idxP, seqOf, lstOf, ixN, truth, List.getElem?_cons_zero, List.getElem?_cons_succ, b_add, b_sub, b_mul, b_mod, b_div, c_lt, c_le, c_gt, c_ge, c_eqi, c_nei, Res.bnd_ok, slcP, cut, sIx, ptR, ptO, take_tail]
        · obtain ⟨⟨a, b⟩, hp, rfl⟩ := List.mem_map.mp hm
          obtain ⟨i, rfl⟩ := hi a (List.of_mem_zip hp).1
          obtain ⟨j, rfl⟩ := hi b (List.mem_of_mem_tail (List.of_mem_zip hp).2)
          exact ⟨[some (.tup xs), some (.int i), some (.int j)], by simp [bindT, bindTs, setO, IP.wipe], .bl true, rfl, rfl, fun _ => by simp (disch := omega) [runB, IP.start, evSs, evS, evE, evEs, liftE, bindT, bindTs, setO, nxO, setIx, idxP, seqOf, lstOf, ixN, truth, List.getElem?_cons_zero, List.getElem?_cons_succ, b_add, b_sub, b_mul, b_mod, b_div, c_lt, c_le, c_gt, c_ge, c_eqi, c_nei, Res.bnd_ok, ltB]⟩
      have hb := bls_map (fun x => amongB x 0 8) xs
      have hb2 := bls_map (fun p : PV × PV => ltB p.1 p.2) (xs.zip xs.tail)
      have a1 := all_id (fun x => amongB x 0 8) xs
      have a2 := all_id (fun p : PV × PV => ltB p.1 p.2) (xs.zip xs.tail)
      have em : membersB xs = (xs.zip xs.tail).all fun p => ltB p.1 p.2 := by unfold membersB; rw [ha, decide_eq_true hl]; rfl
      rw [em]
      simp (disch := omega) [runB, IP.start, evSs, evS, evE, evEs, liftE, bindT, bindTs, setO, nxO, setIx, idxP, seqOf, lstOf, ixN, truth, List.getElem?_cons_zero, List.getElem?_cons_succ, b_add, b_sub, b_mul, b_mod, b_div, c_lt, c_le, c_gt, c_ge, c_eqi, c_nei, Res.bnd_ok, f3_are_members, ↓c1, ↓c2, t1, tyT, tyOf, biP, on1, lenP, onBls, hl1, hl2, hb, hb2, a1, a2, ha, leave_bl, -List.all_map, -List.map_map]
    · have ha' : (xs.all fun v => amongB v 0 8) = false := by simpa using ha
      have hb := bls_map (fun x => amongB x 0 8) xs
      have a1 := all_id (fun x => amongB x 0 8) xs
      have em : membersB xs = false := by unfold membersB; rw [ha']; simp
      rw [em]
      simp (disch := omega) [runB, IP.start, evSs, evS, evE, evEs, liftE, bindT, bindTs, setO, nxO, setIx, idxP, seqOf, lstOf, ixN, truth, List.getElem?_cons_zero, List.getElem?_cons_succ, b_add, b_sub, b_mul, b_mod, b_div, c_lt, c_le, c_gt, c_ge, c_eqi, c_nei, Res.bnd_ok, f3_are_members, ↓c1, t1, tyT, tyOf, biP, on1, lenP, onBls, hl1, hl2, hb, a1, ha', leave_bl, -List.all_map, -List.map_map]
  · have em : membersB xs = false := by unfold membersB; rw [decide_eq_false hl]; rfl
    rw [em]
    by_cases hl1 : (1 : Int) ≤ (xs.length : Int)
    · have hl1' := decide_eq_true hl1
      have hl2 : decide ((xs.length : Int) ≤ (7 : Int)) = false := decide_eq_false (by omega)
      simp (disch := omega) [runB, IP.start, evSs, evS, evE, evEs, liftE, bindT, bindTs, setO, nxO, setIx, idxP, seqOf, lstOf, ixN, truth, List.getElem?_cons_zero, List.getElem?_cons_succ, b_add, b_sub, b_mul, b_mod, b_div, c_lt, c_le, c_gt, c_ge, c_eqi, c_nei, Res.bnd_ok, f3_are_members, t1, tyT, tyOf, biP, on1, lenP, hl1', hl2, leave_bl]
    · have hl1' := decide_eq_false hl1
      simp (disch := omega) [runB, IP.start, evSs, evS, evE, evEs, liftE, bindT, bindTs, setO, nxO, setIx, idxP, seqOf, lstOf, ixN, truth, List.getElem?_cons_zero, List.getElem?_cons_succ, b_add, b_sub, b_mul, b_mod, b_div, c_lt, c_le, c_gt, c_ge, c_eqi, c_nei, Res.bnd_ok, f3_are_members, t1, tyT, tyOf, biP, on1, lenP, hl1', leave_bl]
/-- no tuple: no members -/
theorem members_no (bt : Bt T) (h : T.fn 3 = some f3_are_members) (n : Nat) {v : PV} {S : Store} {u : Ty} (h1 : tyT T S v = some u) (h2 : plT7 u = true) (h3 : u ≠ .tup) : callF T (n + 1) 3 [v] S = .ok (.bl false) S := by
  rw [callF_at h]
  have t1 := bt u .tup h2 rfl (by simp)
  have t2 : T.isi u .tup = some false := by rw [t1]; cases u <;> first | rfl | exact absurd rfl h3 | cases h2
  simp (disch := omega) [runB, IP.start, evSs, evS, evE, evEs, liftE, bindT, bindTs, setO, nxO, setIx, idxP, seqOf, lstOf, ixN, truth, List.getElem?_cons_zero, List.getElem?_cons_succ, b_add, b_sub, b_mul, b_mod, b_div, c_lt, c_le, c_gt, c_ge, c_eqi, c_nei, Res.bnd_ok, f3_are_members, h1, t2, leave_bl]
end Sp

set_option Elab.async false
set_option linter.all false
set_option maxRecDepth 100000
set_option maxHeartbeats 400000
/-! Sp4: members, on. -/
namespace Sp
open PySem IP K01
variable {T : Tab}
theorem leave_tup0 {S : Store} : leave false S (.tup []) S = (.tup [], S) := leave_same rfl fun _ h => by cases h
theorem need_ok (h : T.fn 4 = some f4_need_members) (n : Nat) {v : PV} {S : Store} (hm : callF T (n + 1) 3 [v] S = .ok (.bl true) S) : callF T (n + 2) 4 [v] S = .ok .non S := by
  rw [callF_at h]
  simp (disch := omega) [runB, IP.start, evSs, evS, evE, evEs, liftE, bindT, bindTs, setO, nxO, setIx, idxP, seqOf, lstOf, ixN, truth, List.getElem?_cons_zero, List.getElem?_cons_succ, b_add, b_sub, b_mul, b_mod, b_div, c_lt, c_le, c_gt, c_ge, c_eqi, c_nei, Res.bnd_ok, f4_need_members, hm, leave_non]
theorem need_no (h : T.fn 4 = some f4_need_members) (n : Nat) {v : PV} {S : Store} (hm : callF T (n + 1) 3 [v] S = .ok (.bl false) S) : callF T (n + 2) 4 [v] S = .exc 2 [] S := by
  rw [callF_at h]
  simp (disch := omega) [runB, IP.start, evSs, evS, evE, evEs, liftE, bindT, bindTs, setO, nxO, setIx, idxP, seqOf, lstOf, ixN, truth, List.getElem?_cons_zero, List.getElem?_cons_succ, b_add, b_sub, b_mul, b_mod, b_div, c_lt, c_le, c_gt, c_ge, c_eqi, c_nei, Res.bnd_ok, f4_need_members, hm, leave_tup0]
theorem many_ok (h : T.fn 5 = some f5_many_of) (n : Nat) {xs : List PV} {S : Store} (hm : callF T (n + 1) 4 [.tup xs] S = .ok .non S) : callF T (n + 2) 5 [.tup xs] S = .ok (.int ((xs.length : Int) / 2 + 1)) S := by
  rw [callF_at h]
  simp (disch := omega) [runB, IP.start, evSs, evS, evE, evEs, liftE, bindT, bindTs, setO, nxO, setIx, idxP, seqOf, lstOf, ixN, truth, List.getElem?_cons_zero, List.getElem?_cons_succ, b_add, b_sub, b_mul, b_mod, b_div, c_lt, c_le, c_gt, c_ge, c_eqi, c_nei, Res.bnd_ok, f5_many_of, hm, biP, on1, lenP, leave_int]
theorem many_no (h : T.fn 5 = some f5_many_of) (n : Nat) {v : PV} {S : Store} (hm : callF T (n + 1) 4 [v] S = .exc 2 [] S) : callF T (n + 2) 5 [v] S = .exc 2 [] S := by
  rw [callF_at h]
  simp (disch := omega) [runB, IP.start, evSs, evS, evE, evEs, liftE, bindT, bindTs, setO, nxO, setIx, idxP, seqOf, lstOf, ixN, truth, List.getElem?_cons_zero, List.getElem?_cons_succ, b_add, b_sub, b_mul, b_mod, b_div, c_lt, c_le, c_gt, c_ge, c_eqi, c_nei, Res.bnd_ok, f5_many_of, hm, Res.bnd_exc, leave_tup0]
/-- are_many, the second a list of whole numbers -/
theorem aremany_no (h : T.fn 6 = some f6_are_many) (n : Nat) {v w : PV} {S : Store} (hm : callF T (n + 1) 4 [v] S = .exc 2 [] S) : callF T (n + 2) 6 [v, w] S = .exc 2 [] S := by
  rw [callF_at h]
  simp (disch := omega) [runB, IP.start, evSs, evS, evE, evEs, liftE, bindT, bindTs, setO, nxO, setIx, idxP, seqOf, lstOf, ixN, truth, List.getElem?_cons_zero, List.getElem?_cons_succ, b_add, b_sub, b_mul, b_mod, b_div, c_lt, c_le, c_gt, c_ge, c_eqi, c_nei, Res.bnd_ok, f6_are_many, hm, Res.bnd_exc, leave_tup0]
theorem apart_no1 (h : T.fn 7 = some f7_is_one_apart) (n : Nat) {v w : PV} {S : Store} (hm : callF T (n + 1) 4 [v] S = .exc 2 [] S) : callF T (n + 2) 7 [v, w] S = .exc 2 [] S := by
  rw [callF_at h]
  simp (disch := omega) [runB, IP.start, evSs, evS, evE, evEs, liftE, bindT, bindTs, setO, nxO, setIx, idxP, seqOf, lstOf, ixN, truth, List.getElem?_cons_zero, List.getElem?_cons_succ, b_add, b_sub, b_mul, b_mod, b_div, c_lt, c_le, c_gt, c_ge, c_eqi, c_nei, Res.bnd_ok, f7_is_one_apart, hm, Res.bnd_exc, leave_tup0]
theorem apart_no2 (h : T.fn 7 = some f7_is_one_apart) (n : Nat) {v w : PV} {S : Store} (hm : callF T (n + 1) 4 [v] S = .ok .non S) (hw : callF T (n + 1) 4 [w] S = .exc 2 [] S) : callF T (n + 2) 7 [v, w] S = .exc 2 [] S := by
  rw [callF_at h]
  simp (disch := omega) [runB, IP.start, evSs, evS, evE, evEs, liftE, bindT, bindTs, setO, nxO, setIx, idxP, seqOf, lstOf, ixN, truth, List.getElem?_cons_zero, List.getElem?_cons_succ, b_add, b_sub, b_mul, b_mod, b_div, c_lt, c_le, c_gt, c_ge, c_eqi, c_nei, Res.bnd_ok, f7_is_one_apart, hm, hw, Res.bnd_exc, leave_tup0]
/-! ### whole numbers in lists -/
theorem inP_ints (i : Int) : ∀ xs : List Int, inP (.int i) (xs.map PV.int) = decide (i ∈ xs)
  | [] => rfl
  | x :: xs => by
    have e : (x == i) = decide (i = x) := by rw [beq_eq_decide]; exact decide_eq_decide.mpr ⟨Eq.symm, Eq.symm⟩
    simp [inP, eqB, inP_ints i xs, e]
theorem plVs_ints : ∀ xs : List Int, plVs (xs.map PV.int) = true ∧ dpVs (xs.map PV.int) = 0
  | [] => ⟨rfl, rfl⟩
  | x :: xs => by simp [plVs, plV, dpVs, dpV, plVs_ints xs]
theorem in_tup (i : Int) (xs : List Int) (S : Store) : cmpP .inn (.int i) (.tup (xs.map PV.int)) S = .ok (.bl (decide (i ∈ xs))) S := by
  have p := plVs_ints xs
  simp [cmpP, inQ, p.1, p.2, plV, dpV, inP_ints]
theorem nin_tup (i : Int) (xs : List Int) (S : Store) : cmpP .nin (.int i) (.tup (xs.map PV.int)) S = .ok (.bl (!decide (i ∈ xs))) S := by
  have p := plVs_ints xs
  simp [cmpP, inQ, p.1, p.2, plV, dpV, inP_ints]
theorem in_lst (i : Int) (xs : List Int) (S : Store) : cmpP .inn (.int i) (.lst (xs.map PV.int)) S = .ok (.bl (decide (i ∈ xs))) S := by
  have p := plVs_ints xs
  simp [cmpP, inQ, p.1, p.2, plV, dpV, inP_ints, lstOf]
theorem aremany_ok (h : T.fn 6 = some f6_are_many) (n : Nat) {xs ys : List Int} {S : Store} (hm : callF T (n + 1) 4 [.tup (xs.map PV.int)] S = .ok .non S) (h5 : callF T (n + 1) 5 [.tup (xs.map PV.int)] S = .ok (.int ((xs.length : Int) / 2 + 1)) S) (hl : xs.length ≤ lim) :
    callF T (n + 2) 6 [.tup (xs.map PV.int), .lst (ys.map PV.int)] S = .ok (.bl (decide ((xs.length : Int) / 2 + 1 ≤ ((xs.filter fun i => decide (i ∈ ys)).length : Int)))) S := by
  rw [callF_at h]
  have c1 : evE T (callF T (n + 1)) (.comp false [2] (.nm 2) .seq [.var 0] [.cmp .inn (.var 2) (.var 1)] (.var 2)) [some (.tup (xs.map PV.int)), some (.lst (ys.map PV.int)), none] S = .ok (.lst ((xs.filter fun i => decide (i ∈ ys)).map PV.int)) S := by
    rw [ev_comp (fun x => x) (fun x => match x with | .int i => decide (i ∈ ys) | _ => false) (vs := [.tup (xs.map PV.int)]) (xs := xs.map PV.int) (by simp (disch := omega) [runB, IP.start, evSs, evS, evE, evEs, liftE, bindT, bindTs, setO, nxO, setIx, idxP, seqOf, lstOf, ixN, truth, List.getElem?_cons_zero, List.getElem?_cons_succ, b_add, b_sub, b_mul, b_mod, b_div, c_lt, c_le, c_gt, c_ge, c_eqi, c_nei, Res.bnd_ok]) rfl (by rw [List.length_map]; exact hl) rfl fun x hx => ?_]
    · simp [mkL, List.filter_map, Function.comp_def]
    · obtain ⟨i, hi, rfl⟩ := List.mem_map.mp hx
      exact ⟨[some (.tup (xs.map PV.int)), some (.lst (ys.map PV.int)), some (.int i)], by simp [bindT, setO, IP.wipe], .bl (decide (i ∈ ys)), by simp only [condE]; simp (disch := omega) [runB, IP.start, evSs, evS, evE, evEs, liftE, bindT, bindTs, setO, nxO, setIx, idxP, seqOf, lstOf, ixN, truth, List.getElem?_cons_zero, List.getElem?_cons_succ, b_add, b_sub, b_mul, b_mod, b_div, c_lt, c_le, c_gt, c_ge, c_eqi, c_nei, Res.bnd_ok, in_lst], rfl, fun _ => by simp (disch := omega) [runB, IP.start, evSs, evS, evE, evEs, liftE, bindT, bindTs, setO, nxO, setIx, idxP, seqOf, lstOf, ixN, truth, List.getElem?_cons_zero, List.getElem?_cons_succ, b_add, b_sub, b_mul, b_mod, b_div, c_lt, c_le, c_gt, c_ge, c_eqi, c_nei, Res.bnd_ok]⟩
  simp (disch := omega) [runB, IP.start, evSs, evS, evE, evEs, liftE, bindT, bindTs, setO, nxO, setIx, idxP, seqOf, lstOf, ixN, truth, List.getElem?_cons_zero, List.getElem?_cons_succ, b_add, b_sub, b_mul, b_mod, b_div, c_lt, c_le, c_gt, c_ge, c_eqi, c_nei, Res.bnd_ok, f6_are_many, hm, h5, ↓c1, biP, on1, lenP, leave_bl, List.length_map]
end Sp

set_option Elab.async false
set_option linter.all false
set_option maxRecDepth 100000
set_option maxHeartbeats 400000
/-! Sp5: the members that a stream gives. -/
namespace Sp
open PySem IP K01
variable {T : Tab}
theorem apart_ok (h : T.fn 7 = some f7_is_one_apart) (n : Nat) {xs ys : List Int} {S : Store} (hx : callF T (n + 1) 4 [.tup (xs.map PV.int)] S = .ok .non S) (hy : callF T (n + 1) 4 [.tup (ys.map PV.int)] S = .ok .non S) (lx : xs.length ≤ lim) (ly : ys.length ≤ lim) :
    callF T (n + 2) 7 [.tup (xs.map PV.int), .tup (ys.map PV.int)] S = .ok (.bl (decide (((xs.filter fun i => !decide (i ∈ ys)).length : Int) + ((ys.filter fun i => !decide (i ∈ xs)).length : Int) = 1))) S := by
  rw [callF_at h]
  have c1 : evE T (callF T (n + 1)) (.comp false [4] (.nm 4) .seq [.var 0] [.cmp .nin (.var 4) (.var 1)] (.var 4)) [some (.tup (xs.map PV.int)), some (.tup (ys.map PV.int)), none, none, none] S = .ok (.lst ((xs.filter fun i => !decide (i ∈ ys)).map PV.int)) S := by
    rw [ev_comp (fun x => x) (fun x => match x with | .int i => !decide (i ∈ ys) | _ => false) (vs := [.tup (xs.map PV.int)]) (xs := xs.map PV.int) (by simp (disch := omega) [runB, IP.start, evSs, evS, evE, evEs, liftE, bindT, bindTs, setO, nxO, setIx, idxP, seqOf, lstOf, ixN, truth, List.getElem?_cons_zero, List.getElem?_cons_succ, b_add, b_sub, b_mul, b_mod, b_div, c_lt, c_le, c_gt, c_ge, c_eqi, c_nei, Res.bnd_ok]) rfl (by rw [List.length_map]; exact lx) rfl fun x hx => ?_]
    · simp [mkL, List.filter_map, Function.comp_def]
    · obtain ⟨i, hi, rfl⟩ := List.mem_map.mp hx
      exact ⟨[some (.tup (xs.map PV.int)), some (.tup (ys.map PV.int)), none, none, some (.int i)], by simp [bindT, setO, IP.wipe], .bl (!decide (i ∈ ys)), by simp only [condE]; simp (disch := omega) [runB, IP.start, evSs, evS, evE, evEs, liftE, bindT, bindTs, setO, nxO, setIx, idxP, seqOf, lstOf, ixN, truth, List.getElem?_cons_zero, List.getElem?_cons_succ, b_add, b_sub, b_mul, b_mod, b_div, c_lt, c_le, c_gt, c_ge, c_eqi, c_nei, Res.bnd_ok, nin_tup], rfl, fun _ => by simp (disch := omega) [runB, IP.start, evSs, evS, evE, evEs, liftE, bindT, bindTs, setO, nxO, setIx, idxP, seqOf, lstOf, ixN, truth, List.getElem?_cons_zero, List.getElem?_cons_succ, b_add, b_sub, b_mul, b_mod, b_div, c_lt, c_le, c_gt, c_ge, c_eqi, c_nei, Res.bnd_ok]⟩
  have c2 : evE T (callF T (n + 1)) (.comp false [4] (.nm 4) .seq [.var 1] [.cmp .nin (.var 4) (.var 0)] (.var 4)) [some (.tup (xs.map PV.int)), some (.tup (ys.map PV.int)), some (.lst ((xs.filter fun i => !decide (i ∈ ys)).map PV.int)), none, none] S = .ok (.lst ((ys.filter fun i => !decide (i ∈ xs)).map PV.int)) S := by
    rw [ev_comp (fun x => x) (fun x => match x with | .int i => !decide (i ∈ xs) | _ => false) (vs := [.tup (ys.map PV.int)]) (xs := ys.map PV.int) (by simp (disch := omega) [runB, IP.start, evSs, evS, evE, evEs, liftE, bindT, bindTs, setO, nxO, setIx, idxP, seqOf, lstOf, ixN, truth, List.getElem?_cons_zero, List.getElem?_cons_succ, b_add, b_sub, b_mul, b_mod, b_div, c_lt, c_le, c_gt, c_ge, c_eqi, c_nei, Res.bnd_ok]) rfl (by rw [List.length_map]; exact ly) rfl fun x hx => ?_]
    · simp [mkL, List.filter_map, Function.comp_def]
    · obtain ⟨i, hi, rfl⟩ := List.mem_map.mp hx
      exact ⟨[some (.tup (xs.map PV.int)), some (.tup (ys.map PV.int)), some (.lst ((xs.filter fun i => !decide (i ∈ ys)).map PV.int)), none, some (.int i)], by simp [bindT, setO, IP.wipe], .bl (!decide (i ∈ xs)), by simp only [condE]; simp (disch := omega) [runB, IP.start, evSs, evS, evE, evEs, liftE, bindT, bindTs, setO, nxO, setIx, idxP, seqOf, lstOf, ixN, truth, List.getElem?_cons_zero, List.getElem?_cons_succ, b_add, b_sub, b_mul, b_mod, b_div, c_lt, c_le, c_gt, c_ge, c_eqi, c_nei, Res.bnd_ok, nin_tup], rfl, fun _ => by simp (disch := omega) [runB, IP.start, evSs, evS, evE, evEs, liftE, bindT, bindTs, setO, nxO, setIx, idxP, seqOf, lstOf, ixN, truth, List.getElem?_cons_zero, List.getElem?_cons_succ, b_add, b_sub, b_mul, b_mod, b_div, c_lt, c_le, c_gt, c_ge, c_eqi, c_nei, Res.bnd_ok]⟩
  simp (disch := omega) [runB, IP.start, evSs, evS, evE, evEs, liftE, bindT, bindTs, setO, nxO, setIx, idxP, seqOf, lstOf, ixN, truth, List.getElem?_cons_zero, List.getElem?_cons_succ, b_add, b_sub, b_mul, b_mod, b_div, c_lt, c_le, c_gt, c_ge, c_eqi, c_nei, Res.bnd_ok, f7_is_one_apart, hx, hy, ↓c1, ↓c2, biP, on1, lenP, leave_bl, List.length_map]
end Sp

set_option Elab.async false
set_option linter.all false
set_option maxRecDepth 100000
set_option maxHeartbeats 1000000
/-! Sp6: the members that a stream gives. -/
namespace Sp
open PySem IP K01
variable {T : Tab}
/-- S, the object at p anew, two more behind -/
def M2 (S : Store) (p : Nat) (o A B : SO) : Store := S.set p o ++ [A, B]
section
variable {S : Store} {p : Nat} {o A B o' : SO}
theorem m2_p (h : p < S.length) : (M2 S p o A B)[p]? = some o := by
  unfold M2
  rw [List.getElem?_append_left (by simpa using h), List.getElem?_set_self h]
theorem m2_q : (M2 S p o A B)[S.length]? = some A := by
  unfold M2
  rw [List.getElem?_append_right (by simp)]; simp
theorem m2_r : (M2 S p o A B)[S.length + 1]? = some B := by
  unfold M2
  rw [List.getElem?_append_right (by simp)]; simp
theorem m2_sp (h : p < S.length) : (M2 S p o A B).set p o' = M2 S p o' A B := by
  unfold M2
  rw [List.set_append_left _ _ (by simpa using h), List.set_set]
theorem m2_sq : (M2 S p o A B).set S.length o' = M2 S p o o' B := by
  unfold M2
  rw [List.set_append_right _ _ (by simp)]; simp
theorem m2_sr : (M2 S p o A B).set (S.length + 1) o' = M2 S p o A o' := by
  unfold M2
  rw [List.set_append_right _ _ (by simp)]; simp
theorem kept_app {m : Nat} : ∀ (S S' R : Store), kept m S S' = true → kept m S (S' ++ R) = true
  | [], _, _, _ => rfl
  | _ :: _, [], _, h => by cases h
  | a :: as, b :: bs, R, h => by
    have h' := Bool.and_eq_true_iff.mp h
    simp only [kept, List.cons_append, Bool.and_eq_true]
    exact ⟨h'.1, kept_app as bs R h'.2⟩
theorem leave_m2 {f : Bool} {v : PV} (hv : clV S.length v = true) (hr : ∀ n, v ≠ .ref n) (ho : clO S.length o = true) : leave f S v (M2 S p o A B) = (v, S.set p o) := by
  have ht : thaw f S (M2 S p o A B) v = v := by
    cases v <;> first | rfl | (exact absurd rfl (hr _))
  have hk : kept S.length S (M2 S p o A B) = true := kept_app _ _ _ (kept_set ho S)
  have htk : (M2 S p o A B).take S.length = S.set p o := by
    unfold M2
    rw [List.take_append_of_le_length (by simp)]
    exact List.take_of_length_le (by simp)
  unfold leave
  rw [ht, hv, hk, htk]; rfl
end
theorem clVs_ints (m : Nat) : ∀ xs : List Int, clVs m (xs.map PV.int) = true
  | [] => rfl
  | x :: xs => by simp [clVs, clV, clVs_ints m xs]
theorem len_isort (l : List Int) : (isort l).length = l.length := (isort_perm l).length_eq
theorem pw_lt {l : List Int} (h1 : l.Pairwise (· ≤ ·)) (h2 : l.Nodup) : l.Pairwise (· < ·) := by
  induction l with
  | nil => exact .nil
  | cons x l ih =>
    obtain ⟨a, b⟩ := List.pairwise_cons.mp h1
    obtain ⟨c, d⟩ := List.nodup_cons.mp h2
    refine List.pairwise_cons.mpr ⟨fun y hy => ?_, ih b d⟩
    have := a y hy
    have : x ≠ y := fun e => c (by rw [e]; exact hy)
    omega
theorem er_perm : ∀ (l : List Int) (k : Nat) (h : k < l.length), ([l[k]] ++ l.eraseIdx k).Perm l
  | [], _, h => by cases h
  | x :: xs, 0, _ => .refl _
  | x :: xs, k + 1, h => by
    have ih := er_perm xs k (by simpa using h)
    simp only [List.getElem_cons_succ, List.eraseIdx_cons_succ]
    exact (List.Perm.swap x _ _).trans (ih.cons x)
def r9 : List Int := [0, 1, 2, 3, 4, 5, 6, 7, 8]
def strm (a : Bool) (b c d : Int) : SO := .lst [.bl a, .int b, .int c, .int d]
theorem lrange9 : rng 0 9 = r9.map PV.int := rfl
theorem members_by_ok (h8 : T.fn 8 = some f8_l_mixed) (h10 : T.fn 10 = some f10_l_take) (h : T.fn 11 = some f11_l_members_by) (n : Nat) {p : Nat} {a : Bool} {b c d : Int} {S : Store} (st : Strm S p a b c d) (c1 : 0 ≤ c) (c2 : c < 90000) :
    ∃ (b' : Int) (xs : List Int), callF T (n + 3) 11 [.ref p] S = .ok (.tup (xs.map PV.int)) (S.set p (strm a b' (c + 1 + (xs.length : Nat)) d)) ∧ 1 ≤ xs.length ∧ xs.length ≤ 7 ∧ xs.Pairwise (· < ·) ∧ ∀ x ∈ xs, 0 ≤ x ∧ x ≤ 8 := by
  have hp : p < S.length := (List.getElem?_eq_some_iff.mp st).1
  have tk : ∀ (S : Store) (b c m : Int), Strm S p a b c d → 0 ≤ c → c < 100000 → 0 < m → m < 1073741824 → callF T (n + 2) 10 [.ref p, .int m] S = .ok (.int (takeI a b c d m)) (S.set p (strm a (leftI a b c m) (c + 1) d)) := fun S b c m st c1 c2 m1 m2 => take_ok h8 h10 n st c1 c2 m1 m2
  have w7 := @takeI_lt a b c d 7 (by omega)
  let t := takeI a b c d 7
  let I : Nat → IP.Env → Store → Prop := fun k σ S' => ∃ (b' : Int) (left found : List Int) (vk : Option PV), σ = [some (.ref p), some (.ref S.length), some (.ref (S.length + 1)), vk] ∧ S' = M2 S p (strm a b' (c + 1 + (k : Nat)) d) (.lst (left.map PV.int)) (.lst (found.map PV.int)) ∧ (left ++ found).Perm r9 ∧ found.length = k
  have step : ∀ i x σ S', (rng 0 (1 + t))[i]? = some x → I (0 + i) σ S' → ∃ σ1, bindT (.nm 3) x σ = some σ1 ∧ ∃ σ2 S2, evSs T (callF T (n + 2)) [.ex (.bm false .append (.var 2) [.bm false .popAt (.var 1) [.call 10 [.var 0, .bi false .len [.var 1]]]])] σ1 S' = .nx σ2 S2 ∧ stays [.int 0, .int (1 + t)] S' S2 = true ∧ I (0 + i + 1) σ2 S2 := by
    rintro i x σ S' hx ⟨b', left, found, vk, rfl, rfl, pm, lf⟩
    obtain ⟨hi, rfl⟩ := rng_get hx
    have hl : left.length + found.length = 9 := by
      have := pm.length_eq
      rw [List.length_append] at this; exact this
    have ht : t < 7 := w7.2
    have hl2 : 1 ≤ left.length := by omega
    refine ⟨[some (.ref p), some (.ref S.length), some (.ref (S.length + 1)), some (.int (0 + (i : Nat)))], by simp [bindT, setO], ?_⟩
    generalize hσ : [some (PV.ref p), some (.ref S.length), some (.ref (S.length + 1)), some (.int (0 + (i : Nat)))] = σ1
    have s0 : σ1[0]? = some (some (.ref p)) := by rw [← hσ]; rfl
    have s1 : σ1[1]? = some (some (.ref S.length)) := by rw [← hσ]; rfl
    have s2 : σ1[2]? = some (some (.ref (S.length + 1))) := by rw [← hσ]; rfl
    have wl := @takeI_lt a b' (c + 1 + ((0 + i : Nat) : Int)) d (left.length : Int) (by omega)
    generalize hj : takeI a b' (c + 1 + ((0 + i : Nat) : Int)) d (left.length : Int) = j at wl
    have hk : j.toNat < left.length := by omega
    have hy : (left.map PV.int)[j.toNat]? = some (.int left[j.toNat]) := by rw [List.getElem?_map, List.getElem?_eq_getElem hk]; rfl
    have ix : ixN (left.map PV.int).length j = some j.toNat := by
      unfold ixN
      rw [List.length_map, if_pos wl.1, if_pos wl.2]
    have e1 : evE T (callF T (n + 2)) (.call 10 [.var 0, .bi false .len [.var 1]]) σ1 (M2 S p (strm a b' (c + 1 + ((0 + i : Nat) : Int)) d) (.lst (left.map PV.int)) (.lst (found.map PV.int))) = .ok (.int j) (M2 S p (strm a (leftI a b' (c + 1 + ((0 + i : Nat) : Int)) (left.length : Int)) (c + 1 + ((0 + i : Nat) : Int) + 1) d) (.lst (left.map PV.int)) (.lst (found.map PV.int))) := by
      have q := tk (M2 S p (strm a b' (c + 1 + ((0 + i : Nat) : Int)) d) (.lst (left.map PV.int)) (.lst (found.map PV.int))) b' (c + 1 + ((0 + i : Nat) : Int)) (left.length : Int) (m2_p hp) (by omega) (by omega) (by omega) (by omega)
      rw [m2_sp hp, hj] at q
      have l1 : evE T (callF T (n + 2)) (.bi false .len [.var 1]) σ1 (M2 S p (strm a b' (c + 1 + ((0 + i : Nat) : Int)) d) (.lst (left.map PV.int)) (.lst (found.map PV.int))) = .ok (.int (left.length : Int)) (M2 S p (strm a b' (c + 1 + ((0 + i : Nat) : Int)) d) (.lst (left.map PV.int)) (.lst (found.map PV.int))) := by
        rw [ev_bi (es1 (ev_var s1))]
        simp only [biP, on1, lenP, seqOf, m2_q, List.length_map]
      rw [ev_call (es2 (ev_var s0) l1)]
      exact q
    have e2 : evE T (callF T (n + 2)) (.bm false .popAt (.var 1) [.call 10 [.var 0, .bi false .len [.var 1]]]) σ1 (M2 S p (strm a b' (c + 1 + ((0 + i : Nat) : Int)) d) (.lst (left.map PV.int)) (.lst (found.map PV.int))) = .ok (.int left[j.toNat]) (M2 S p (strm a (leftI a b' (c + 1 + ((0 + i : Nat) : Int)) (left.length : Int)) (c + 1 + ((0 + i : Nat) : Int) + 1) d) (.lst ((left.eraseIdx j.toNat).map PV.int)) (.lst (found.map PV.int))) := by
      rw [ev_bm (ev_var s1) m2_q (es1 e1)]
      simp only [bmP, m2_q, on1, popAtP, ix, hy, m2_sq, erase_map]
    have e3 : evSs T (callF T (n + 2)) [.ex (.bm false .append (.var 2) [.bm false .popAt (.var 1) [.call 10 [.var 0, .bi false .len [.var 1]]]])] σ1 (M2 S p (strm a b' (c + 1 + ((0 + i : Nat) : Int)) d) (.lst (left.map PV.int)) (.lst (found.map PV.int))) = .nx σ1 (M2 S p (strm a (leftI a b' (c + 1 + ((0 + i : Nat) : Int)) (left.length : Int)) (c + 1 + ((0 + i : Nat) : Int) + 1) d) (.lst ((left.eraseIdx j.toNat).map PV.int)) (.lst ((found ++ [left[j.toNat]]).map PV.int))) := by
      have hlim : (found.map PV.int).length < lim := by rw [List.length_map]; unfold lim; omega
      refine ev_ex1 (v := .non) ?_
      rw [ev_bm (ev_var s2) m2_r (es1 e2)]
      simp only [bmP, m2_r, on1, appP, if_pos hlim, m2_sr, List.map_append, List.map_cons, List.map_nil]
    refine ⟨σ1, _, e3, rfl, leftI a b' (c + 1 + ((0 + i : Nat) : Int)) (left.length : Int), left.eraseIdx j.toNat, found ++ [left[j.toNat]], some (.int (0 + (i : Nat))), hσ.symm, ?_, ?_, ?_⟩
    · congr 2; omega
    · refine (List.Perm.trans ?_ pm)
      have q := er_perm left j.toNat hk
      refine ((List.perm_append_comm (l₁ := left.eraseIdx j.toNat)).trans ?_)
      rw [List.append_assoc]
      refine (List.Perm.append_left found ?_).trans List.perm_append_comm
      exact q
    · rw [List.length_append, lf]; rfl
  have sp0 : S.set p (strm a b c d) = S := by
    have := List.getElem?_eq_some_iff.mp st
    obtain ⟨_, e⟩ := this
    show S.set p (.lst [.bl a, .int b, .int c, .int d]) = S
    rw [← e]; exact List.set_getElem_self hp
  have em : M2 S p (strm a b c d) (.lst (r9.map PV.int)) (.lst []) = S ++ [.lst (r9.map PV.int)] ++ [.lst []] := by
    unfold M2
    rw [sp0, List.append_assoc]; rfl
  have a1 : evS T (callF T (n + 2)) (.asg (.nm 1) (.bi true .lrange [.cst (.int 0), .cst (.int 9)])) [some (.ref p), none, none, none] S = .nx [some (.ref p), some (.ref S.length), none, none] (S ++ [.lst (r9.map PV.int)]) := by
    refine s_asg (v := .ref S.length) ?_ (by simp)
    have hr : rngOk 0 9 = true := rfl
    simp only [evE, evEs, Res.bnd_ok, biP, on2, hr, if_true, lrange9, mkL]
  have a2 : evS T (callF T (n + 2)) (.asg (.nm 2) (.lst true [])) [some (.ref p), some (.ref S.length), none, none] (S ++ [.lst (r9.map PV.int)]) = .nx [some (.ref p), some (.ref S.length), some (.ref (S.length + 1)), none] (M2 S p (strm a b c d) (.lst (r9.map PV.int)) (.lst [])) := by
    rw [em]
    refine s_asg (v := .ref (S.length + 1)) ?_ (by simp)
    simp only [evE, evEs, Res.bnd_ok, mkL, List.length_append, List.length_cons, List.length_nil]
  have hits : evEs T (callF T (n + 2)) [.cst (.int 0), .bin false .add (.cst (.int 1)) (.call 10 [.var 0, .cst (.int 7)])] [some (.ref p), some (.ref S.length), some (.ref (S.length + 1)), none] (M2 S p (strm a b c d) (.lst (r9.map PV.int)) (.lst [])) = .ok [.int 0, .int (1 + t)] (M2 S p (strm a (leftI a b c 7) (c + 1) d) (.lst (r9.map PV.int)) (.lst [])) := by
    have q := tk (M2 S p (strm a b c d) (.lst (r9.map PV.int)) (.lst [])) b c 7 (m2_p hp) c1 (by omega) (by omega) (by omega)
    rw [m2_sp hp] at q
    refine es2 rfl ?_
    simp only [evE, evEs, List.getElem?_cons_zero, Res.bnd_ok, q, b_add]
    rfl
  have hio : iterOf .rng [.int 0, .int (1 + t)] (M2 S p (strm a (leftI a b c 7) (c + 1) d) (.lst (r9.map PV.int)) (.lst [])) = some (rng 0 (1 + t)) := by
    have hr : rngOk 0 (1 + t) = true := by
      have h1 : 0 ≤ t := w7.1
      have h2 : t < 7 := w7.2
      unfold rngOk lim
      exact decide_eq_true (by omega)
    simp only [iterOf, hr, if_true]
  obtain ⟨σ', S', eF, b', left, found, vk, rfl, rfl, pm, lf⟩ := forL_inv (ck := stays [.int 0, .int (1 + t)] (M2 S p (strm a (leftI a b c 7) (c + 1) d) (.lst (r9.map PV.int)) (.lst []))) (I := I) (rng 0 (1 + t)) 0
    [some (.ref p), some (.ref S.length), some (.ref (S.length + 1)), none] (M2 S p (strm a (leftI a b c 7) (c + 1) d) (.lst (r9.map PV.int)) (.lst []))
    ⟨leftI a b c 7, r9, [], none, rfl, by congr 2; omega, by simp, rfl⟩ (fun i x σ S hx hI => by
      obtain ⟨σ1, h1, σ2, S2, h2, h3, h4⟩ := step i x σ S hx hI
      exact ⟨σ1, h1, σ2, S2, h2, rfl, h4⟩)
  have hlen : (rng 0 (1 + t)).length = (1 + t).toNat := by unfold rng; rw [List.length_map, List.length_range]; simp
  have ht1 : 0 ≤ t := w7.1
  have ht2 : t < 7 := w7.2
  have hfl : found.length = (1 + t).toNat := by rw [lf, hlen]; omega
  have ar : evS T (callF T (n + 2)) (.ret (.bi false .tuple [.bi false .sorted [.var 2]])) [some (.ref p), some (.ref S.length), some (.ref (S.length + 1)), vk] (M2 S p (strm a b' (c + 1 + ((0 + (rng 0 (1 + t)).length : Nat) : Int)) d) (.lst (left.map PV.int)) (.lst (found.map PV.int))) = .rt (.tup ((isort found).map PV.int)) (M2 S p (strm a b' (c + 1 + ((0 + (rng 0 (1 + t)).length : Nat) : Int)) d) (.lst (left.map PV.int)) (.lst (found.map PV.int))) := by
    refine s_ret ?_
    simp only [evE, evEs, List.getElem?_cons_succ, List.getElem?_cons_zero, Res.bnd_ok, biP, on1, onIntsA, onSeq, seqOf, m2_r, Option.bind_some, ints_map, mkL]
  have nd : found.Nodup := by
    have : (left ++ found).Nodup := pm.nodup_iff.mpr (by decide)
    exact (List.nodup_append.mp this).2.1
  refine ⟨b', isort found, ?_, ?_, ?_, ?_, ?_⟩
  · rw [callF_at h]
    have af : evS T (callF T (n + 2)) (.for (.nm 3) .rng [.cst (.int 0), .bin false .add (.cst (.int 1)) (.call 10 [.var 0, .cst (.int 7)])] [.ex (.bm false .append (.var 2) [.bm false .popAt (.var 1) [.call 10 [.var 0, .bi false .len [.var 1]]]])]) [some (.ref p), some (.ref S.length), some (.ref (S.length + 1)), none] (M2 S p (strm a b c d) (.lst (r9.map PV.int)) (.lst [])) = _ := (ev_for hits hio).trans eF
    have body : evSs T (callF T (n + 2)) f11_l_members_by.body (IP.start f11_l_members_by [.ref p]) S = .rt (.tup ((isort found).map PV.int)) (M2 S p (strm a b' (c + 1 + ((0 + (rng 0 (1 + t)).length : Nat) : Int)) d) (.lst (left.map PV.int)) (.lst (found.map PV.int))) := by
      show evSs T (callF T (n + 2)) [_, _, _, _] [some (.ref p), none, none, none] S = _
      rw [ss_nx a1, ss_nx a2, ss_nx af, ss_rt ar]
    rw [run_rt rfl body]
    have lv := leave_m2 (S := S) (p := p) (f := f11_l_members_by.frz) (v := .tup ((isort found).map PV.int)) (o := strm a b' (c + 1 + ((0 + (rng 0 (1 + t)).length : Nat) : Int)) d) (A := .lst (left.map PV.int)) (B := .lst (found.map PV.int)) (by simp only [clV, clVs_ints]) (fun _ z => by cases z) rfl
    rw [lv, len_isort, lf]
  · rw [len_isort]; omega
  · rw [len_isort]; omega
  · exact pw_lt (isort_pw found) ((isort_perm found).nodup_iff.mpr nd)
  · intro x hx
    have h1 : x ∈ found := (isort_perm found).mem_iff.mp hx
    have h2 : x ∈ r9 := pm.mem_iff.mp (List.mem_append_right _ h1)
    simp [r9] at h2
    omega
end Sp

set_option Elab.async false
set_option linter.all false
set_option maxRecDepth 100000
set_option maxHeartbeats 1000000
/-! Sp7: what was said of an error. -/
namespace Sp
open PySem IP K01
theorem word_ev (cf : Nat → List PV → Store → Res PV) (S : Store) : evSs LD.T cf f12_l_word.body (IP.start f12_l_word [.exc 2 []]) S = .rt (.str "members") S := by kernel_rfl
theorem word_mem (n : Nat) (S : Store) : callF LD.T (n + 1) 12 [.exc 2 []] S = .ok (.str "members") S := by
  rw [callF_at (d := f12_l_word) rfl, run_rt rfl (word_ev _ S)]
  rw [leave_str]
theorem word_ev1 (cf : Nat → List PV → Store → Res PV) (S : Store) : evSs LD.T cf f12_l_word.body (IP.start f12_l_word [.exc 1 []]) S = .rt (.str "number") S := by kernel_rfl
theorem word_num (n : Nat) (S : Store) : callF LD.T (n + 1) 12 [.exc 1 []] S = .ok (.str "number") S := by
  rw [callF_at (d := f12_l_word) rfl, run_rt rfl (word_ev1 _ S)]
  rw [leave_str]
theorem word_ev0 (cf : Nat → List PV → Store → Res PV) (S : Store) : evSs LD.T cf f12_l_word.body (IP.start f12_l_word [.non]) S = .rt (.str "") S := by kernel_rfl
theorem word_non (n : Nat) (S : Store) : callF LD.T (n + 1) 12 [.non] S = .ok (.str "") S := by
  rw [callF_at (d := f12_l_word) rfl, run_rt rfl (word_ev0 _ S)]
  rw [leave_str]
theorem asked0 (n : Nat) (v w z : PV) (S : Store) (r : Res PV) (h : callF LD.T (n + 1) 4 [v] S = r) (hr : r = .ok .non S ∨ r = .exc 2 [] S) : callF LD.T (n + 2) 13 [.int 0, v, w, z] S = r := by
  rw [callF_at (d := f13_l_asked) rfl]
  rcases hr with e | e <;> subst e <;> simp (disch := omega) [runB, IP.start, evSs, evS, evE, evEs, liftE, bindT, bindTs, setO, nxO, setIx, idxP, seqOf, lstOf, ixN, truth, List.getElem?_cons_zero, List.getElem?_cons_succ, b_add, b_sub, b_mul, b_mod, b_div, c_lt, c_le, c_gt, c_ge, c_eqi, c_nei, Res.bnd_ok, f13_l_asked, h, leave_non, leave_tup0]
theorem asked4 (n : Nat) (v w z : PV) (S : Store) (r : Res PV) (h : callF LD.T (n + 1) 2 [v, w, z] S = r) (hr : r = .ok .non S ∨ r = .exc 1 [] S) : callF LD.T (n + 2) 13 [.int 4, v, w, z] S = r := by
  rw [callF_at (d := f13_l_asked) rfl]
  rcases hr with e | e <;> subst e <;> simp (disch := omega) [runB, IP.start, evSs, evS, evE, evEs, liftE, bindT, bindTs, setO, nxO, setIx, idxP, seqOf, lstOf, ixN, truth, List.getElem?_cons_zero, List.getElem?_cons_succ, b_add, b_sub, b_mul, b_mod, b_div, c_lt, c_le, c_gt, c_ge, c_eqi, c_nei, Res.bnd_ok, f13_l_asked, h, leave_non, leave_tup0]
theorem asked1 (n : Nat) (v w z : PV) (S : Store) (h : callF LD.T (n + 1) 5 [v] S = .exc 2 [] S) : callF LD.T (n + 2) 13 [.int 1, v, w, z] S = .exc 2 [] S := by
  rw [callF_at (d := f13_l_asked) rfl]
  simp (disch := omega) [runB, IP.start, evSs, evS, evE, evEs, liftE, bindT, bindTs, setO, nxO, setIx, idxP, seqOf, lstOf, ixN, truth, List.getElem?_cons_zero, List.getElem?_cons_succ, b_add, b_sub, b_mul, b_mod, b_div, c_lt, c_le, c_gt, c_ge, c_eqi, c_nei, Res.bnd_ok, f13_l_asked, h, leave_tup0]
theorem asked2 (n : Nat) (v w z : PV) (S : Store) (h : callF LD.T (n + 1) 6 [v, w] S = .exc 2 [] S) : callF LD.T (n + 2) 13 [.int 2, v, w, z] S = .exc 2 [] S := by
  rw [callF_at (d := f13_l_asked) rfl]
  simp (disch := omega) [runB, IP.start, evSs, evS, evE, evEs, liftE, bindT, bindTs, setO, nxO, setIx, idxP, seqOf, lstOf, ixN, truth, List.getElem?_cons_zero, List.getElem?_cons_succ, b_add, b_sub, b_mul, b_mod, b_div, c_lt, c_le, c_gt, c_ge, c_eqi, c_nei, Res.bnd_ok, f13_l_asked, h, leave_tup0]
theorem asked3 (n : Nat) (v w z : PV) (S : Store) (h : callF LD.T (n + 1) 7 [v, w] S = .exc 2 [] S) : callF LD.T (n + 2) 13 [.int 3, v, w, z] S = .exc 2 [] S := by
  rw [callF_at (d := f13_l_asked) rfl]
  simp (disch := omega) [runB, IP.start, evSs, evS, evE, evEs, liftE, bindT, bindTs, setO, nxO, setIx, idxP, seqOf, lstOf, ixN, truth, List.getElem?_cons_zero, List.getElem?_cons_succ, b_add, b_sub, b_mul, b_mod, b_div, c_lt, c_le, c_gt, c_ge, c_eqi, c_nei, Res.bnd_ok, f13_l_asked, h, leave_tup0]
theorem said_exc (n : Nat) (k v w z : PV) (S : Store) (h : callF LD.T (n + 1) 13 [k, v, w, z] S = .exc 2 [] S) : callF LD.T (n + 2) 14 [k, v, w, z] S = .ok (.str "members") S := by
  rw [callF_at (d := f14_l_said) rfl]
  have e : LD.T.exm 2 0 = some true := rfl
  have w := word_mem n S
  simp (disch := omega) [runB, IP.start, evSs, evS, evE, evEs, liftE, bindT, bindTs, setO, nxO, setIx, idxP, seqOf, lstOf, ixN, truth, List.getElem?_cons_zero, List.getElem?_cons_succ, b_add, b_sub, b_mul, b_mod, b_div, c_lt, c_le, c_gt, c_ge, c_eqi, c_nei, Res.bnd_ok, f14_l_said, h, evHs, gone, e, cmpP, isQ, isN, w, leave_str]
theorem said_num (n : Nat) (k v w z : PV) (S : Store) (h : callF LD.T (n + 1) 13 [k, v, w, z] S = .exc 1 [] S) : callF LD.T (n + 2) 14 [k, v, w, z] S = .ok (.str "number") S := by
  rw [callF_at (d := f14_l_said) rfl]
  have e : LD.T.exm 1 0 = some true := rfl
  have w := word_num n S
  simp (disch := omega) [runB, IP.start, evSs, evS, evE, evEs, liftE, bindT, bindTs, setO, nxO, setIx, idxP, seqOf, lstOf, ixN, truth, List.getElem?_cons_zero, List.getElem?_cons_succ, b_add, b_sub, b_mul, b_mod, b_div, c_lt, c_le, c_gt, c_ge, c_eqi, c_nei, Res.bnd_ok, f14_l_said, h, evHs, gone, e, cmpP, isQ, isN, w, leave_str]
theorem said_non (n : Nat) (k v w z : PV) (S : Store) (h : callF LD.T (n + 1) 13 [k, v, w, z] S = .ok .non S) : callF LD.T (n + 2) 14 [k, v, w, z] S = .ok (.str "") S := by
  rw [callF_at (d := f14_l_said) rfl]
  have w := word_non n S
  simp (disch := omega) [runB, IP.start, evSs, evS, evE, evEs, liftE, bindT, bindTs, setO, nxO, setIx, idxP, seqOf, lstOf, ixN, truth, List.getElem?_cons_zero, List.getElem?_cons_succ, b_add, b_sub, b_mul, b_mod, b_div, c_lt, c_le, c_gt, c_ge, c_eqi, c_nei, Res.bnd_ok, f14_l_said, h, cmpP, isQ, isN, w, leave_str]
end Sp

set_option Elab.async false
set_option linter.all false
set_option maxRecDepth 100000
set_option maxHeartbeats 1000000
/-! Sp8: the members that are one apart. -/
namespace Sp
open PySem IP K01
variable {T : Tab}
def nextI (xs : List Int) (s : Int) : List Int := if s ∈ xs then xs.filter (fun i => !decide (i = s)) else isort (xs ++ [s])
def nextV (xs : List Int) (s : Int) : PV := .tup ((nextI xs s).map PV.int)
theorem a1_q {S : Store} {A : SO} : (S ++ [A])[S.length]? = some A := by
  rw [List.getElem?_append_right (Nat.le_refl _)]; simp
theorem a1_s {S : Store} {A B : SO} : (S ++ [A]).set S.length B = S ++ [B] := by
  rw [List.set_append_right _ _ (Nat.le_refl _)]; simp
theorem clVs_next (m : Nat) (xs : List Int) : ∀ l : List Int, clVs m (l.map (nextV xs)) = true
  | [] => rfl
  | x :: l => by simp [clVs, clV, nextV, clVs_ints, clVs_next m xs l]
theorem r9_take : ∀ i : Fin 9, r9.take (i.val + 1) = r9.take i.val ++ [((i.val : Nat) : Int)] := by decide
theorem ne_ii (i j : Int) (S : Store) : cmpP .ne (.int i) (.int j) S = .ok (.bl (!decide (i = j))) S := c_nei i j S
theorem leave_a1 {S : Store} {xs : List PV} (h : clVs S.length xs = true) : leave true S (.ref S.length) (S ++ [.lst xs]) = (.lst xs, S) := by
  have ht : thaw true S (S ++ [.lst xs]) (.ref S.length) = .lst xs := by
    have hc : (true = true ∧ S.length ≤ S.length) := ⟨rfl, Nat.le_refl _⟩
    show (if true = true ∧ S.length ≤ S.length then (match (S ++ [SO.lst xs])[S.length]? with
      | some (.lst xs) => .lst xs
      | some (.dct ks vs) => .dct ks vs
      | _ => .ref S.length) else .ref S.length) = PV.lst xs
    rw [if_pos hc, a1_q]
  have hk : kept S.length S (S ++ [.lst xs]) = true := kept_app _ _ _ (kept_self _ S)
  have htk : (S ++ [SO.lst xs]).take S.length = S := List.take_left
  unfold leave
  rw [ht, hk, htk]
  simp only [clV, h, Bool.and_self, if_true]
theorem nexts_ok (h : T.fn 16 = some f16_l_nexts) (n : Nat) {xs : List Int} {S : Store} (hl : xs.length ≤ 9) : callF T (n + 1) 16 [.tup (xs.map PV.int)] S = .ok (.lst (r9.map (nextV xs))) S := by
  rw [callF_at h]
  let I : Nat → IP.Env → Store → Prop := fun k σ S' => ∃ vk : Option PV, σ = [some (.tup (xs.map PV.int)), some (.ref S.length), vk, none] ∧ S' = S ++ [.lst ((r9.take k).map (nextV xs))]
  let body : List IP.S := [.iff (.cmp .inn (.var 2) (.var 0)) [.ex (.bm false .append (.var 1) [.bi false .tuple [.comp false [3] (.nm 3) .seq [.var 0] [.cmp .ne (.var 3) (.var 2)] (.var 3)]])] [.ex (.bm false .append (.var 1) [.bi false .tuple [.bi false .sorted [.bin false .add (.var 0) (.tup [.var 2])]]])]]
  have step : ∀ i x σ S', (rng 0 9)[i]? = some x → I (0 + i) σ S' → ∃ σ1, bindT (.nm 2) x σ = some σ1 ∧ ∃ σ2 S2, evSs T (callF T n) body σ1 S' = .nx σ2 S2 ∧ stays [.int 0, .int 9] (S ++ [.lst []]) S2 = true ∧ I (0 + i + 1) σ2 S2 := by
    rintro i x σ S' hx ⟨vk, rfl, rfl⟩
    obtain ⟨hi, rfl⟩ := rng_get hx
    have hi' : i < 9 := by simpa using hi
    have e0 : (0 : Int) + (i : Nat) = ((i : Nat) : Int) := by omega
    rw [e0]
    refine ⟨[some (.tup (xs.map PV.int)), some (.ref S.length), some (.int ((i : Nat) : Int)), none], by simp [bindT, setO], ?_⟩
    have et := r9_take ⟨i, hi'⟩
    simp only at et
    have hlim : ((r9.take i).map (nextV xs)).length < lim := by
      rw [List.length_map, List.length_take]; unfold lim; omega
    have ap : ∀ e : E, evE T (callF T n) e [some (.tup (xs.map PV.int)), some (.ref S.length), some (.int ((i : Nat) : Int)), none] (S ++ [.lst ((r9.take (0 + i)).map (nextV xs))]) = .ok (nextV xs ((i : Nat) : Int)) (S ++ [.lst ((r9.take (0 + i)).map (nextV xs))]) →
        evSs T (callF T n) [.ex (.bm false .append (.var 1) [e])] [some (.tup (xs.map PV.int)), some (.ref S.length), some (.int ((i : Nat) : Int)), none] (S ++ [.lst ((r9.take (0 + i)).map (nextV xs))]) = .nx [some (.tup (xs.map PV.int)), some (.ref S.length), some (.int ((i : Nat) : Int)), none] (S ++ [.lst ((r9.take (0 + i + 1)).map (nextV xs))]) := fun e he => by
      refine ev_ex1 (v := .non) ?_
      rw [ev_bm (ev_var rfl) a1_q (es1 he)]
      rw [Nat.zero_add] at he ⊢
      simp only [bmP, a1_q, on1, appP, if_pos hlim, a1_s, et, List.map_append, List.map_cons, List.map_nil]
    refine ⟨_, _, ?_, rfl, some (.int ((i : Nat) : Int)), rfl, rfl⟩
    have cnd : evE T (callF T n) (.cmp .inn (.var 2) (.var 0)) [some (.tup (xs.map PV.int)), some (.ref S.length), some (.int ((i : Nat) : Int)), none] (S ++ [.lst ((r9.take (0 + i)).map (nextV xs))]) = .ok (.bl (decide (((i : Nat) : Int) ∈ xs))) (S ++ [.lst ((r9.take (0 + i)).map (nextV xs))]) := by
      simp (disch := omega) [runB, IP.start, evSs, evS, evE, evEs, liftE, bindT, bindTs, setO, nxO, setIx, idxP, seqOf, lstOf, ixN, truth, List.getElem?_cons_zero, List.getElem?_cons_succ, b_add, b_sub, b_mul, b_mod, b_div, c_lt, c_le, c_gt, c_ge, c_eqi, c_nei, Res.bnd_ok, in_tup]
    by_cases q : ((i : Nat) : Int) ∈ xs
    · rw [decide_eq_true q] at cnd
      have br := ap (.bi false .tuple [.comp false [3] (.nm 3) .seq [.var 0] [.cmp .ne (.var 3) (.var 2)] (.var 3)]) (by
        have c1 := ev_comp (T := T) (cf := callF T n) (m := false) (own := [3]) (tg := .nm 3) (ik := .seq) (its := [.var 0]) (cond := [.cmp .ne (.var 3) (.var 2)]) (elt := .var 3) (σ := [some (.tup (xs.map PV.int)), some (.ref S.length), some (.int ((i : Nat) : Int)), none]) (S := S ++ [.lst ((r9.take (0 + i)).map (nextV xs))]) (fun x => x) (fun x => match x with | .int k => !decide (k = ((i : Nat) : Int)) | _ => false) (vs := [.tup (xs.map PV.int)]) (xs := xs.map PV.int) (by simp (disch := omega) [runB, IP.start, evSs, evS, evE, evEs, liftE, bindT, bindTs, setO, nxO, setIx, idxP, seqOf, lstOf, ixN, truth, List.getElem?_cons_zero, List.getElem?_cons_succ, b_add, b_sub, b_mul, b_mod, b_div, c_lt, c_le, c_gt, c_ge, c_eqi, c_nei, Res.bnd_ok]) rfl (by rw [List.length_map]; unfold lim; omega) rfl fun x hx => by
          obtain ⟨k, hk, rfl⟩ := List.mem_map.mp hx
          exact ⟨[some (.tup (xs.map PV.int)), some (.ref S.length), some (.int ((i : Nat) : Int)), some (.int k)], by simp [bindT, setO, IP.wipe], .bl (!decide (k = ((i : Nat) : Int))), by simp only [condE]; simp (disch := omega) [runB, IP.start, evSs, evS, evE, evEs, liftE, bindT, bindTs, setO, nxO, setIx, idxP, seqOf, lstOf, ixN, truth, List.getElem?_cons_zero, List.getElem?_cons_succ, b_add, b_sub, b_mul, b_mod, b_div, c_lt, c_le, c_gt, c_ge, c_eqi, c_nei, Res.bnd_ok], rfl, fun _ => by simp (disch := omega) [runB, IP.start, evSs, evS, evE, evEs, liftE, bindT, bindTs, setO, nxO, setIx, idxP, seqOf, lstOf, ixN, truth, List.getElem?_cons_zero, List.getElem?_cons_succ, b_add, b_sub, b_mul, b_mod, b_div, c_lt, c_le, c_gt, c_ge, c_eqi, c_nei, Res.bnd_ok]⟩
        rw [ev_bi (es1 c1)]
        simp only [biP, on1, onSeq, seqOf, nextV, nextI, if_pos q, List.filter_map, List.map_id']
        rfl)
      show evSs T (callF T n) [_] _ _ = _
      rw [ss_one, s_iff_t cnd rfl]
      exact br
    · rw [decide_eq_false q] at cnd
      have br := ap (.bi false .tuple [.bi false .sorted [.bin false .add (.var 0) (.tup [.var 2])]]) (by
        have hb : (xs.map PV.int).length + [PV.int ((i : Nat) : Int)].length ≤ lim := by rw [List.length_map]; unfold lim; simp only [List.length_cons, List.length_nil]; omega
        have hm : xs.map PV.int ++ [PV.int ((i : Nat) : Int)] = (xs ++ [((i : Nat) : Int)]).map PV.int := by rw [List.map_append]; rfl
        simp only [evE, evEs, List.getElem?_cons_zero, List.getElem?_cons_succ, Res.bnd_ok, binP, addP, if_pos hb, hm, biP, on1, onIntsA, onSeq, seqOf, Option.bind_some, ints_map, mkL, nextV, nextI, if_neg q])
      show evSs T (callF T n) [_] _ _ = _
      rw [ss_one, s_iff_f cnd rfl]
      exact br
  have a1 : evS T (callF T n) (.asg (.nm 1) (.lst true [])) [some (.tup (xs.map PV.int)), none, none, none] S = .nx [some (.tup (xs.map PV.int)), some (.ref S.length), none, none] (S ++ [.lst []]) := by
    refine s_asg (v := .ref S.length) ?_ (by simp)
    simp only [evE, evEs, Res.bnd_ok, mkL]
  obtain ⟨σ', S', eF, vk, rfl, rfl⟩ := forL_inv (ck := stays [.int 0, .int 9] (S ++ [.lst []])) (I := I) (rng 0 9) 0 [some (.tup (xs.map PV.int)), some (.ref S.length), none, none] (S ++ [.lst []]) ⟨none, rfl, rfl⟩ step
  have af : evS T (callF T n) (.for (.nm 2) .rng [.cst (.int 0), .cst (.int 9)] body) [some (.tup (xs.map PV.int)), some (.ref S.length), none, none] (S ++ [.lst []]) = _ := (ev_for (es2 rfl rfl) rfl).trans eF
  have hb : evSs T (callF T n) f16_l_nexts.body (IP.start f16_l_nexts [.tup (xs.map PV.int)]) S = .rt (.ref S.length) (S ++ [.lst ((r9.take (0 + (rng 0 9).length)).map (nextV xs))]) := by
    show evSs T (callF T n) [_, _, _] [some (.tup (xs.map PV.int)), none, none, none] S = _
    rw [ss_nx a1, ss_nx af]
    exact ss_rt (s_ret (ev_var rfl))
  rw [run_rt rfl hb]
  have e9 : r9.take (0 + (rng 0 9).length) = r9 := rfl
  rw [e9, show f16_l_nexts.frz = true from rfl, leave_a1 (clVs_next _ _ _)]
end Sp

set_option Elab.async false
set_option linter.all false
set_option maxRecDepth 100000
set_option maxHeartbeats 1000000
/-! Sp9: one apart, in plain lists. -/
namespace Sp
open PySem IP
def Mem (xs : List Int) : Prop := xs.Pairwise (· < ·) ∧ ∀ x ∈ xs, 0 ≤ x ∧ x ≤ 8
theorem nodup_of {l : List Int} (h : l.Pairwise (· < ·)) : l.Nodup := h.imp fun h e => by omega
theorem le_of {l : List Int} (h : l.Pairwise (· < ·)) : l.Pairwise (· ≤ ·) := h.imp fun h => by omega
theorem sorted_ext {l l' : List Int} (h : l.Pairwise (· < ·)) (h' : l'.Pairwise (· < ·)) (e : ∀ x, x ∈ l ↔ x ∈ l') : l = l' :=
  sorted_uniq ((List.perm_ext_iff_of_nodup (nodup_of h) (nodup_of h')).mpr e) (le_of h) (le_of h')
def minus (xs ys : List Int) : List Int := xs.filter fun i => !decide (i ∈ ys)
theorem mem_minus {xs ys : List Int} {x : Int} : x ∈ minus xs ys ↔ x ∈ xs ∧ x ∉ ys := by
  unfold minus
  rw [List.mem_filter]
  simp
theorem mem_next {xs : List Int} {s x : Int} : x ∈ nextI xs s ↔ (if s ∈ xs then x ∈ xs ∧ x ≠ s else x ∈ xs ∨ x = s) := by
  unfold nextI
  split
  · rw [List.mem_filter]; simp
  · rw [(isort_perm _).mem_iff, List.mem_append, List.mem_singleton]
theorem next_sorted {xs : List Int} (h : xs.Pairwise (· < ·)) (s : Int) : (nextI xs s).Pairwise (· < ·) := by
  unfold nextI
  split
  · exact h.filter _
  · rename_i q
    refine pw_lt (isort_pw _) ((isort_perm _).nodup_iff.mpr ?_)
    rw [List.nodup_append]
    exact ⟨nodup_of h, by simp, fun a ha b hb => by rw [List.mem_singleton.mp hb]; rintro rfl; exact q ha⟩
theorem one_of {l : List Int} (h : l.length = 1) : ∃ s, l = [s] := by
  match l, h with
  | [s], _ => exact ⟨s, rfl⟩
theorem len_one {l : List Int} (nd : l.Nodup) {s : Int} (h : ∀ x, x ∈ l ↔ x = s) : l.length = 1 := by
  have : l.Perm [s] := (List.perm_ext_iff_of_nodup nd (by simp)).mpr fun x => by rw [h x]; simp
  rw [this.length_eq]; rfl
theorem len_zero {l : List Int} (h : ∀ x, x ∉ l) : l.length = 0 := by
  rw [List.eq_nil_iff_forall_not_mem.mpr h]; rfl
theorem near_iff {xs ys : List Int} (hx : Mem xs) (hy : Mem ys) : (∃ s ∈ r9, ys = nextI xs s) ↔ (minus xs ys).length + (minus ys xs).length = 1 := by
  have ndx : (minus xs ys).Nodup := (nodup_of hx.1).filter _
  have ndy : (minus ys xs).Nodup := (nodup_of hy.1).filter _
  constructor
  · rintro ⟨s, hs, e⟩
    have m : ∀ x, x ∈ ys ↔ (if s ∈ xs then x ∈ xs ∧ x ≠ s else x ∈ xs ∨ x = s) := fun x => by rw [e]; exact mem_next
    by_cases q : s ∈ xs
    · simp only [if_pos q] at m
      have h1 : (minus xs ys).length = 1 := len_one ndx (s := s) fun x => by
        rw [mem_minus, m x]
        constructor
        · rintro ⟨a, b⟩
          by_cases z : x = s
          · exact z
          · exact absurd ⟨a, z⟩ b
        · rintro rfl; exact ⟨q, fun z => z.2 rfl⟩
      have h2 : (minus ys xs).length = 0 := len_zero fun x hx => by
        rw [mem_minus, m x] at hx
        exact hx.2 hx.1.1
      omega
    · simp only [if_neg q] at m
      have h1 : (minus xs ys).length = 0 := len_zero fun x hx => by
        rw [mem_minus, m x] at hx
        exact hx.2 (.inl hx.1)
      have h2 : (minus ys xs).length = 1 := len_one ndy (s := s) fun x => by
        rw [mem_minus, m x]
        constructor
        · rintro ⟨a | a, b⟩
          · exact absurd a b
          · exact a
        · rintro rfl; exact ⟨.inr rfl, q⟩
      omega
  · intro h
    have r9m : ∀ x : Int, 0 ≤ x ∧ x ≤ 8 → x ∈ r9 := fun x hx => by
      have : x = 0 ∨ x = 1 ∨ x = 2 ∨ x = 3 ∨ x = 4 ∨ x = 5 ∨ x = 6 ∨ x = 7 ∨ x = 8 := by omega
      simp [r9]; omega
    rcases Nat.eq_zero_or_pos (minus xs ys).length with z | z
    · obtain ⟨s, es⟩ := one_of (show (minus ys xs).length = 1 by omega)
      have z' : ∀ x, x ∈ xs → x ∈ ys := fun x hx => by
        by_cases q : x ∈ ys
        · exact q
        · have : x ∈ minus xs ys := mem_minus.mpr ⟨hx, q⟩
          rw [List.length_eq_zero_iff.mp z] at this; cases this
      have hs : s ∈ ys ∧ s ∉ xs := mem_minus.mp (by rw [es]; simp)
      refine ⟨s, r9m s (hy.2 s hs.1), sorted_ext hy.1 (next_sorted hx.1 s) fun x => ?_⟩
      rw [mem_next, if_neg hs.2]
      constructor
      · intro h
        by_cases q : x ∈ xs
        · exact .inl q
        · have : x ∈ minus ys xs := mem_minus.mpr ⟨h, q⟩
          rw [es] at this
          exact .inr (List.mem_singleton.mp this)
      · rintro (h | rfl)
        · exact z' x h
        · exact hs.1
    · obtain ⟨s, es⟩ := one_of (show (minus xs ys).length = 1 by omega)
      have z0 : (minus ys xs).length = 0 := by omega
      have z' : ∀ x, x ∈ ys → x ∈ xs := fun x hx => by
        by_cases q : x ∈ xs
        · exact q
        · have : x ∈ minus ys xs := mem_minus.mpr ⟨hx, q⟩
          rw [List.length_eq_zero_iff.mp z0] at this; cases this
      have hs : s ∈ xs ∧ s ∉ ys := mem_minus.mp (by rw [es]; simp)
      refine ⟨s, r9m s (hx.2 s hs.1), sorted_ext hy.1 (next_sorted hx.1 s) fun x => ?_⟩
      rw [mem_next, if_pos hs.1]
      constructor
      · intro h
        exact ⟨z' x h, fun e => hs.2 (e ▸ h)⟩
      · rintro ⟨h, n⟩
        by_cases q : x ∈ ys
        · exact q
        · have : x ∈ minus xs ys := mem_minus.mpr ⟨h, q⟩
          rw [es] at this
          exact absurd (List.mem_singleton.mp this) n
/-! ### data of whole numbers -/
theorem eqBs_ints : ∀ xs ys : List Int, eqBs (xs.map PV.int) (ys.map PV.int) = decide (xs = ys)
  | [], [] => rfl
  | [], _ :: _ => rfl
  | _ :: _, [] => rfl
  | x :: xs, y :: ys => by
    simp [eqBs, eqB, eqBs_ints xs ys, beq_eq_decide, ← Bool.decide_and]
theorem inP_next (ys xs : List Int) : ∀ l : List Int, inP (.tup (ys.map PV.int)) (l.map (nextV xs)) = decide (∃ s ∈ l, ys = nextI xs s)
  | [] => by simp [inP]
  | s :: l => by
    have e : decide (nextI xs s = ys) = decide (ys = nextI xs s) := decide_eq_decide.mpr ⟨Eq.symm, Eq.symm⟩
    have ih := inP_next ys xs l
    have e2 : eqB (nextV xs s) (.tup (ys.map PV.int)) = decide (ys = nextI xs s) := by
      show eqBs _ _ = _
      rw [eqBs_ints, e]
    rw [List.map_cons]
    show (eqB (nextV xs s) (.tup (ys.map PV.int)) || inP (.tup (ys.map PV.int)) (l.map (nextV xs))) = _
    rw [e2, ih, ← Bool.decide_or]
    exact decide_eq_decide.mpr (by simp)
end Sp

set_option Elab.async false
set_option linter.all false
set_option maxRecDepth 100000
set_option maxHeartbeats 2000000
/-! SpA: the law's questions about members. -/
namespace Sp
open PySem IP K01
theorem bt_LD : Bt LD.T := by
  intro u t hu ht hn
  cases u <;> first | (cases hu; done) | (cases t <;> first | (cases ht; done) | exact absurd rfl hn | kernel_rfl)
theorem members_ints {xs : List Int} (hx : Mem xs) (h1 : 1 ≤ xs.length) (h2 : xs.length ≤ 7) : membersB (xs.map PV.int) = true := by
  have a : (xs.map PV.int).all (fun v => amongB v 0 8) = true := by
    rw [List.all_map, List.all_eq_true]
    intro x hm
    have := hx.2 x hm
    simp [amongB, this.1, this.2]
  have b : ((xs.map PV.int).zip (xs.map PV.int).tail).all (fun p => ltB p.1 p.2) = true := by
    rw [List.all_eq_true]
    rintro ⟨p, q⟩ hm
    obtain ⟨k, hk⟩ := List.getElem?_of_mem hm
    obtain ⟨k1, k2⟩ := List.getElem?_zip_eq_some.mp hk
    rw [List.getElem?_tail] at k2
    rw [List.getElem?_map] at k1 k2
    obtain ⟨i, hi, rfl⟩ := Option.map_eq_some_iff.mp k1
    obtain ⟨j, hj, rfl⟩ := Option.map_eq_some_iff.mp k2
    obtain ⟨a1, a2⟩ := List.getElem?_eq_some_iff.mp hi
    obtain ⟨b1, b2⟩ := List.getElem?_eq_some_iff.mp hj
    have := List.pairwise_iff_getElem.mp hx.1 k (k + 1) a1 b1 (by omega)
    rw [a2, b2] at this
    simp [ltB, this]
  unfold membersB
  rw [List.length_map, decide_eq_true ⟨h1, h2⟩, a, b]; rfl
section
variable {S : Store} {xs ys : List Int}
theorem mem_true (n : Nat) (hx : Mem xs) (h1 : 1 ≤ xs.length) (h2 : xs.length ≤ 7) : callF LD.T (n + 3) 3 [.tup (xs.map PV.int)] S = .ok (.bl true) S := by
  have q := members_tup bt_LD (h0 := rfl) (h1 := rfl) (h := rfl) n (xs := xs.map PV.int) (S := S) fun x hm => by
    obtain ⟨i, _, rfl⟩ := List.mem_map.mp hm
    exact okV_int i
  rw [members_ints hx h1 h2] at q
  exact q
theorem need_true (n : Nat) (hx : Mem xs) (h1 : 1 ≤ xs.length) (h2 : xs.length ≤ 7) : callF LD.T (n + 4) 4 [.tup (xs.map PV.int)] S = .ok .non S := need_ok rfl (n + 2) (mem_true n hx h1 h2)
theorem ne_same (a b : Bool) : cmpP .ne (.lst [.bl a, .bl b, .bl b]) (.lst [.bl a, .bl b, .bl b]) S = .ok (.bl false) S := by
  cases a <;> cases b <;> rfl
theorem dpVs_ints : ∀ xs : List Int, dpVs (xs.map PV.int) = 0 := fun xs => (plVs_ints xs).2
theorem ne_ints : cmpP .ne (.lst (ys.map PV.int)) (.lst (ys.map PV.int)) S = .ok (.bl false) S := by
  have p := plVs_ints ys
  have e : eqP S (.lst (ys.map PV.int)) (.lst (ys.map PV.int)) = some true := by
    simp [eqP, top, plV, p.1, dpV, p.2, eqB, eqBs_ints]
  simp [cmpP, eqQ, e]
theorem plVs_next : ∀ l : List Int, plVs (l.map (nextV xs)) = true ∧ dpVs (l.map (nextV xs)) ≤ 1
  | [] => ⟨rfl, by simp [dpVs]⟩
  | s :: l => by
    have p := plVs_ints (nextI xs s)
    have q := plVs_next l
    refine ⟨by simp [plVs, nextV, plV, p.1]; exact q.1, ?_⟩
    simp only [List.map_cons, dpVs, nextV, dpV, p.2]
    have := q.2
    omega
theorem in_next : cmpP .inn (.tup (ys.map PV.int)) (.lst (r9.map (nextV xs))) S = .ok (.bl (decide (∃ s ∈ r9, ys = nextI xs s))) S := by
  have p := plVs_ints ys
  have q := plVs_next (xs := xs) r9
  have d1 : dpV (.tup (ys.map PV.int)) ≤ 60 := by simp [dpV, p.2]
  have d2 : dpVs (r9.map (nextV xs)) ≤ 60 := by have := q.2; omega
  have c : (plV (.tup (ys.map PV.int)) && plVs (r9.map (nextV xs)) && decide (dpV (.tup (ys.map PV.int)) ≤ 60 ∧ dpVs (r9.map (nextV xs)) ≤ 60)) = true := by
    rw [decide_eq_true ⟨d1, d2⟩, q.1]; simp [plV, p.1]
  simp only [cmpP, inQ, lstOf]
  rw [if_pos c, inP_next]; rfl
theorem right_ok (n : Nat) {zs : List Int} (hx : Mem xs) (x1 : 1 ≤ xs.length) (x2 : xs.length ≤ 7) (hy : Mem ys) (y1 : 1 ≤ ys.length) (y2 : ys.length ≤ 7) :
    callF LD.T (n + 7) 18 [.tup (xs.map PV.int), .tup (ys.map PV.int), .lst (zs.map PV.int)] S = .ok (.bl true) S := by
  rw [callF_at (d := f18_l_members_right) rfl]
  have hxl : xs.length ≤ lim := by unfold lim; omega
  have hyl : ys.length ≤ lim := by unfold lim; omega
  have n4x := need_true (S := S) (n + 1) hx x1 x2
  have n4y := need_true (S := S) (n + 1) hy y1 y2
  have m5 : callF LD.T (n + 6) 5 [.tup (xs.map PV.int)] S = .ok (.int ((xs.length : Int) / 2 + 1)) S := by
    have := many_ok (T := LD.T) rfl (n + 4) n4x
    rw [List.length_map] at this; exact this
  have m5' : callF LD.T (n + 5) 5 [.tup (xs.map PV.int)] S = .ok (.int ((xs.length : Int) / 2 + 1)) S := by
    have := many_ok (T := LD.T) rfl (n + 3) (need_true (S := S) n hx x1 x2)
    rw [List.length_map] at this; exact this
  have m6 := aremany_ok (T := LD.T) rfl (n + 4) (xs := xs) (ys := zs) n4x m5' hxl
  have m7 := apart_ok (T := LD.T) rfl (n + 4) (xs := xs) (ys := ys) n4x n4y hxl hyl
  have m7' := apart_ok (T := LD.T) rfl (n + 4) (xs := ys) (ys := xs) n4y n4x hyl hxl
  have m16 := nexts_ok (T := LD.T) rfl (n + 5) (xs := xs) (S := S) (by omega)
  let A : Bool := decide ((xs.length : Int) / 2 + 1 ≤ ((xs.filter fun i => decide (i ∈ zs)).length : Int))
  let B : Bool := decide (∃ s ∈ r9, ys = nextI xs s)
  have eB : decide (((minus xs ys).length : Int) + ((minus ys xs).length : Int) = 1) = B := decide_eq_decide.mpr (by rw [near_iff hx hy]; omega)
  have eB' : decide (((minus ys xs).length : Int) + ((minus xs ys).length : Int) = 1) = B := decide_eq_decide.mpr (by rw [near_iff hx hy]; omega)
  have eA : decide (((xs.length : Nat) : Int) < 2 * ((xs.filter fun i => decide (i ∈ zs)).length : Int)) = A := decide_eq_decide.mpr (by omega)
  have m6' : callF LD.T (n + 6) 6 [.tup (xs.map PV.int), .lst (zs.map PV.int)] S = .ok (.bl A) S := m6
  have m7a : callF LD.T (n + 6) 7 [.tup (xs.map PV.int), .tup (ys.map PV.int)] S = .ok (.bl B) S := by rw [← eB]; exact m7
  have m7b : callF LD.T (n + 6) 7 [.tup (ys.map PV.int), .tup (xs.map PV.int)] S = .ok (.bl B) S := by rw [← eB']; exact m7'
  have inn : cmpP .inn (.tup (ys.map PV.int)) (.lst (r9.map (nextV xs))) S = .ok (.bl B) S := in_next
  generalize A = A' at *
  generalize B = B' at *
  have c1 : evE LD.T (callF LD.T (n + 6)) (.comp false [8] (.nm 8) .seq [.var 0] [.cmp .inn (.var 8) (.var 2)] (.var 8)) [some (.tup (xs.map PV.int)), some (.tup (ys.map PV.int)), some (.lst (zs.map PV.int)), some (.lst (zs.map PV.int)), some (.lst [.bl A', .bl B', .bl B']), some (.bl B'), none, none, none, none] S = .ok (.lst ((xs.filter fun i => decide (i ∈ zs)).map PV.int)) S := by
    rw [ev_comp (fun x => x) (fun x => match x with | .int i => decide (i ∈ zs) | _ => false) (vs := [.tup (xs.map PV.int)]) (xs := xs.map PV.int) (by simp (disch := omega) [runB, IP.start, evSs, evS, evE, evEs, liftE, bindT, bindTs, setO, nxO, setIx, idxP, seqOf, lstOf, ixN, truth, List.getElem?_cons_zero, List.getElem?_cons_succ, b_add, b_sub, b_mul, b_mod, b_div, c_lt, c_le, c_gt, c_ge, c_eqi, c_nei, Res.bnd_ok]) rfl (by rw [List.length_map]; exact hxl) rfl fun x hx => ?_]
    · simp [mkL, List.filter_map, Function.comp_def]
    · obtain ⟨i, hi, rfl⟩ := List.mem_map.mp hx
      exact ⟨[some (.tup (xs.map PV.int)), some (.tup (ys.map PV.int)), some (.lst (zs.map PV.int)), some (.lst (zs.map PV.int)), some (.lst [.bl A', .bl B', .bl B']), some (.bl B'), none, none, some (.int i), none], by simp [bindT, setO, IP.wipe], .bl (decide (i ∈ zs)), by simp only [condE]; simp (disch := omega) [runB, IP.start, evSs, evS, evE, evEs, liftE, bindT, bindTs, setO, nxO, setIx, idxP, seqOf, lstOf, ixN, truth, List.getElem?_cons_zero, List.getElem?_cons_succ, b_add, b_sub, b_mul, b_mod, b_div, c_lt, c_le, c_gt, c_ge, c_eqi, c_nei, Res.bnd_ok, in_lst], rfl, fun _ => by simp (disch := omega) [runB, IP.start, evSs, evS, evE, evEs, liftE, bindT, bindTs, setO, nxO, setIx, idxP, seqOf, lstOf, ixN, truth, List.getElem?_cons_zero, List.getElem?_cons_succ, b_add, b_sub, b_mul, b_mod, b_div, c_lt, c_le, c_gt, c_ge, c_eqi, c_nei, Res.bnd_ok]⟩
  have c2 : evE LD.T (callF LD.T (n + 6)) (.comp false [9] (.nm 9) .seq [.var 4] [] (.isi (.var 9) .bool)) [some (.tup (xs.map PV.int)), some (.tup (ys.map PV.int)), some (.lst (zs.map PV.int)), some (.lst (zs.map PV.int)), some (.lst [.bl A', .bl B', .bl B']), some (.bl B'), some (.int (((xs.filter fun i => decide (i ∈ zs)).length : Nat) : Int)), none, none, none] S = .ok (.lst [.bl true, .bl true, .bl true]) S := by
    have t1 : LD.T.isi .bool .bool = some true := bt_LD .bool .bool rfl rfl (by simp)
    rw [ev_comp (fun _ => .bl true) (fun _ => true) (vs := [.lst [.bl A', .bl B', .bl B']]) (xs := [.bl A', .bl B', .bl B']) (by simp (disch := omega) [runB, IP.start, evSs, evS, evE, evEs, liftE, bindT, bindTs, setO, nxO, setIx, idxP, seqOf, lstOf, ixN, truth, List.getElem?_cons_zero, List.getElem?_cons_succ, b_add, b_sub, b_mul, b_mod, b_div, c_lt, c_le, c_gt, c_ge, c_eqi, c_nei, Res.bnd_ok]) rfl (by simp [lim]) rfl fun x hx => ?_]
    · simp [mkL]
    · have hb : ∃ z, x = .bl z := by
        simp only [List.mem_cons, List.not_mem_nil, or_false] at hx
        rcases hx with h | h | h <;> exact ⟨_, h⟩
      obtain ⟨z, rfl⟩ := hb
      exact ⟨[some (.tup (xs.map PV.int)), some (.tup (ys.map PV.int)), some (.lst (zs.map PV.int)), some (.lst (zs.map PV.int)), some (.lst [.bl A', .bl B', .bl B']), some (.bl B'), some (.int (((xs.filter fun i => decide (i ∈ zs)).length : Nat) : Int)), none, none, some (.bl z)], by simp [bindT, setO, IP.wipe], .bl true, rfl, rfl, fun _ => by simp (disch := omega) [runB, IP.start, evSs, evS, evE, evEs, liftE, bindT, bindTs, setO, nxO, setIx, idxP, seqOf, lstOf, ixN, truth, List.getElem?_cons_zero, List.getElem?_cons_succ, b_add, b_sub, b_mul, b_mod, b_div, c_lt, c_le, c_gt, c_ge, c_eqi, c_nei, Res.bnd_ok, tyT, tyOf, t1]⟩
  have t2 : LD.T.isi .int .bool = some false := bt_LD .int .bool rfl rfl (by simp)
  have ns := ne_same (S := S) A' B'
  have ni := ne_ints (S := S) (ys := zs)
  have f1 : decide (((xs.length : Nat) : Int) < 2 * ((xs.length : Int) / 2 + 1)) = true := decide_eq_true (by omega)
  have f2 : decide (2 * ((xs.length : Int) / 2 + 1 - 1) ≤ ((xs.length : Nat) : Int)) = true := decide_eq_true (by omega)
  have w : ∀ s6 s7 : Option PV, evSs LD.T (callF LD.T (n + 6)) f18_l_members_right.body (IP.start f18_l_members_right [.tup (xs.map PV.int), .tup (ys.map PV.int), .lst (zs.map PV.int)]) S = .rt (.bl true) S := fun _ _ => by
    show evSs LD.T _ [_, _, _, _, _, _, _, _] [some (.tup (xs.map PV.int)), some (.tup (ys.map PV.int)), some (.lst (zs.map PV.int)), none, none, none, none, none, none, none] S = _
    rw [ss_nx (s_asg (v := .lst (zs.map PV.int)) (S1 := S) (by simp (disch := omega) [runB, IP.start, evSs, evS, evE, evEs, liftE, bindT, bindTs, setO, nxO, setIx, idxP, seqOf, lstOf, ixN, truth, List.getElem?_cons_zero, List.getElem?_cons_succ, b_add, b_sub, b_mul, b_mod, b_div, c_lt, c_le, c_gt, c_ge, c_eqi, c_nei, Res.bnd_ok, biP, on1, onSeq, mkL]) (by simp))]
    simp only [List.set_cons_succ, List.set_cons_zero]
    rw [ss_nx (s_asg (v := .lst [.bl A', .bl B', .bl B']) (S1 := S) (by simp (disch := omega) [runB, IP.start, evSs, evS, evE, evEs, liftE, bindT, bindTs, setO, nxO, setIx, idxP, seqOf, lstOf, ixN, truth, List.getElem?_cons_zero, List.getElem?_cons_succ, b_add, b_sub, b_mul, b_mod, b_div, c_lt, c_le, c_gt, c_ge, c_eqi, c_nei, Res.bnd_ok, m6', m7a, m7b, mkL]) (by simp))]
    simp only [List.set_cons_succ, List.set_cons_zero]
    rw [ss_nx (s_asg (v := .bl B') (S1 := S) (by simp (disch := omega) [runB, IP.start, evSs, evS, evE, evEs, liftE, bindT, bindTs, setO, nxO, setIx, idxP, seqOf, lstOf, ixN, truth, List.getElem?_cons_zero, List.getElem?_cons_succ, b_add, b_sub, b_mul, b_mod, b_div, c_lt, c_le, c_gt, c_ge, c_eqi, c_nei, Res.bnd_ok, m16, inn]) (by simp))]
    simp only [List.set_cons_succ, List.set_cons_zero]
    rw [ss_nx (s_asg (v := .int (((xs.filter fun i => decide (i ∈ zs)).length : Nat) : Int)) (S1 := S) (by rw [ev_bi (es1 c1)]; simp only [biP, on1, lenP, seqOf, List.length_map]) (by simp))]
    simp only [List.set_cons_succ, List.set_cons_zero]
    rw [ss_nx (σ1 := _) (S1 := S) ((s_iff_f (v := .bl false) (S1 := S) (by simp (disch := omega) [runB, IP.start, evSs, evS, evE, evEs, liftE, bindT, bindTs, setO, nxO, setIx, idxP, seqOf, lstOf, ixN, truth, List.getElem?_cons_zero, List.getElem?_cons_succ, b_add, b_sub, b_mul, b_mod, b_div, c_lt, c_le, c_gt, c_ge, c_eqi, c_nei, Res.bnd_ok, ni]) rfl).trans rfl)]
    have c2' : evE LD.T (callF LD.T (n + 6)) (.bi false .all [.comp false [9] (.nm 9) .seq [.var 4] [] (.isi (.var 9) .bool)]) [some (.tup (xs.map PV.int)), some (.tup (ys.map PV.int)), some (.lst (zs.map PV.int)), some (.lst (zs.map PV.int)), some (.lst [.bl A', .bl B', .bl B']), some (.bl B'), some (.int (((xs.filter fun i => decide (i ∈ zs)).length : Nat) : Int)), none, none, none] S = .ok (.bl true) S := by
      rw [ev_bi (es1 c2)]; rfl
    rw [ss_nx (σ1 := _) (S1 := S) ((s_iff_f (v := .bl false) (S1 := S) ((ev_or_f (v := .bl false) (S1 := S) (by simp (disch := omega) [runB, IP.start, evSs, evS, evE, evEs, liftE, bindT, bindTs, setO, nxO, setIx, idxP, seqOf, lstOf, ixN, truth, List.getElem?_cons_zero, List.getElem?_cons_succ, b_add, b_sub, b_mul, b_mod, b_div, c_lt, c_le, c_gt, c_ge, c_eqi, c_nei, Res.bnd_ok, biP, on1, lenP, mkL, eA, ns, List.length_map]) rfl).trans (ev_nt c2' rfl)) rfl).trans rfl)]
    rw [ss_nx (s_asg (v := .int ((xs.length : Int) / 2 + 1)) (S1 := S) (by simp (disch := omega) [runB, IP.start, evSs, evS, evE, evEs, liftE, bindT, bindTs, setO, nxO, setIx, idxP, seqOf, lstOf, ixN, truth, List.getElem?_cons_zero, List.getElem?_cons_succ, b_add, b_sub, b_mul, b_mod, b_div, c_lt, c_le, c_gt, c_ge, c_eqi, c_nei, Res.bnd_ok, m5]) (by simp))]
    simp only [List.set_cons_succ, List.set_cons_zero]
    have f3 : 2 * ((xs.length : Int) / 2) ≤ ((xs.length : Nat) : Int) := by omega
    exact ss_rt (s_ret (by simp (disch := omega) [runB, IP.start, evSs, evS, evE, evEs, liftE, bindT, bindTs, setO, nxO, setIx, idxP, seqOf, lstOf, ixN, truth, List.getElem?_cons_zero, List.getElem?_cons_succ, b_add, b_sub, b_mul, b_mod, b_div, c_lt, c_le, c_gt, c_ge, c_eqi, c_nei, Res.bnd_ok, biP, on1, lenP, tyT, tyOf, t2, f1, f2, f3, List.length_map]))
  rw [run_rt rfl (w none none), leave_bl]
end
end Sp

set_option Elab.async false
set_option linter.all false
set_option maxRecDepth 100000
set_option maxHeartbeats 2000000
/-! SpB: the law's questions about numbers. -/
namespace Sp
open PySem IP K01
variable {S : Store}
theorem neednum (n : Nat) {v : PV} (l m : Int) (hv : okV LD.T S v) : callF LD.T (n + 3) 2 [v, .int l, .int m] S = if amongB v l m = true then .ok .non S else .exc 1 [] S := by
  have a := among_okV bt_LD (h0 := rfl) (h := rfl) n l m hv
  rw [callF_at (d := f2_need_number) rfl]
  cases q : amongB v l m with
  | true =>
    rw [q] at a
    simp (disch := omega) [runB, IP.start, evSs, evS, evE, evEs, liftE, bindT, bindTs, setO, nxO, setIx, idxP, seqOf, lstOf, ixN, truth, List.getElem?_cons_zero, List.getElem?_cons_succ, b_add, b_sub, b_mul, b_mod, b_div, c_lt, c_le, c_gt, c_ge, c_eqi, c_nei, Res.bnd_ok, f2_need_number, a, leave_non]
  | false =>
    rw [q] at a
    simp (disch := omega) [runB, IP.start, evSs, evS, evE, evEs, liftE, bindT, bindTs, setO, nxO, setIx, idxP, seqOf, lstOf, ixN, truth, List.getElem?_cons_zero, List.getElem?_cons_succ, b_add, b_sub, b_mul, b_mod, b_div, c_lt, c_le, c_gt, c_ge, c_eqi, c_nei, Res.bnd_ok, f2_need_number, a, leave_tup0]
theorem said4 (n : Nat) {v : PV} (l m : Int) (hv : okV LD.T S v) : callF LD.T (n + 5) 14 [.int 4, v, .int l, .int m] S = .ok (.str (if amongB v l m = true then "" else "number")) S := by
  have a := neednum n l m hv
  cases q : amongB v l m with
  | true =>
    rw [q, if_pos rfl] at a
    rw [if_pos rfl]
    exact said_non (n + 3) _ _ _ _ S (asked4 (n + 2) v _ _ S _ a (.inl rfl))
  | false =>
    rw [q, if_neg Bool.false_ne_true] at a
    rw [if_neg Bool.false_ne_true]
    exact said_num (n + 3) _ _ _ _ S (asked4 (n + 2) v _ _ S _ a (.inr rfl))
theorem whole_ev {cf : Nat → List PV → Store → Res PV} {v : PV} {σ : IP.Env} (hv : okV LD.T S v) (h1 : σ[1]? = some (some v)) : evE LD.T cf (.and (.isi (.var 1) .int) (.nt (.isi (.var 1) .bool))) σ S = .ok (.bl (wholeB v)) S := by
  obtain ⟨u, hu, hp, hw⟩ := hv
  have t1 := bt_LD u .int hp rfl (by simp)
  have t2 := bt_LD u .bool hp rfl (by simp)
  rw [hw]
  cases u <;> first | (cases hp; done) | (simp [leT] at t1 t2; simp (disch := omega) [runB, IP.start, evSs, evS, evE, evEs, liftE, bindT, bindTs, setO, nxO, setIx, idxP, seqOf, lstOf, ixN, truth, List.getElem?_cons_zero, List.getElem?_cons_succ, b_add, b_sub, b_mul, b_mod, b_div, c_lt, c_le, c_gt, c_ge, c_eqi, c_nei, Res.bnd_ok, h1, hu, t1, t2])
theorem good_ev {cf : Nat → List PV → Store → Res PV} {v : PV} {σ : IP.Env} {l m : Int} (h1 : σ[1]? = some (some v)) (h2 : σ[2]? = some (some (.int l))) (h3 : σ[3]? = some (some (.int m))) (h4 : σ[4]? = some (some (.bl (wholeB v)))) :
    evE LD.T cf (.and (.var 4) (.chn .le .le (.var 2) (.var 1) (.var 3))) σ S = .ok (.bl (amongB v l m)) S := by
  cases v with
  | int i =>
    by_cases q : l ≤ i
    · have q' := decide_eq_true q
      simp (disch := omega) [runB, IP.start, evSs, evS, evE, evEs, liftE, bindT, bindTs, setO, nxO, setIx, idxP, seqOf, lstOf, ixN, truth, List.getElem?_cons_zero, List.getElem?_cons_succ, b_add, b_sub, b_mul, b_mod, b_div, c_lt, c_le, c_gt, c_ge, c_eqi, c_nei, Res.bnd_ok, h1, h2, h3, h4, wholeB, amongB, q']
    · have q' := decide_eq_false q
      simp (disch := omega) [runB, IP.start, evSs, evS, evE, evEs, liftE, bindT, bindTs, setO, nxO, setIx, idxP, seqOf, lstOf, ixN, truth, List.getElem?_cons_zero, List.getElem?_cons_succ, b_add, b_sub, b_mul, b_mod, b_div, c_lt, c_le, c_gt, c_ge, c_eqi, c_nei, Res.bnd_ok, h1, h2, h3, h4, wholeB, amongB, q']
  | _ => simp (disch := omega) [runB, IP.start, evSs, evS, evE, evEs, liftE, bindT, bindTs, setO, nxO, setIx, idxP, seqOf, lstOf, ixN, truth, List.getElem?_cons_zero, List.getElem?_cons_succ, b_add, b_sub, b_mul, b_mod, b_div, c_lt, c_le, c_gt, c_ge, c_eqi, c_nei, Res.bnd_ok, h4, wholeB, amongB]
theorem ne_same2 (a b : Bool) : cmpP .ne (.lst [.bl a, .bl b]) (.lst [.bl a, .bl b]) S = .ok (.bl false) S := by
  cases a <;> cases b <;> rfl
theorem take_S (n : Nat) {p : Nat} (hp : p < S.length) {a : Bool} {b c d m : Int} (c1 : 0 ≤ c) (c2 : c < 100000) (m1 : 0 < m) (m2 : m < 1073741824) :
    callF LD.T (n + 2) 10 [.ref p, .int m] (S.set p (strm a b c d)) = .ok (.int (takeI a b c d m)) (S.set p (strm a (leftI a b c m) (c + 1) d)) := by
  have h := take_ok (T := LD.T) rfl rfl n (p := p) (a := a) (b := b) (c := c) (d := d) (m := m) (S := S.set p (strm a b c d)) (List.getElem?_set_self hp) c1 c2 m1 m2
  rw [List.set_set] at h
  exact h
theorem number_ok (n : Nat) {p : Nat} (hp : p < S.length) {a : Bool} {b c d : Int} (c1 : 0 ≤ c) (c2 : c < 90000) :
    ∃ b', callF LD.T (n + 6) 17 [.ref p] (S.set p (strm a b c d)) = .ok (.bl true) (S.set p (strm a b' (c + 4) d)) := by
  have t1 := take_S (n + 3) hp (a := a) (b := b) (c := c) (d := d) (m := 30) c1 (by omega) (by omega) (by omega)
  have t2 := take_S (n + 3) hp (a := a) (b := leftI a b c 30) (c := c + 1) (d := d) (m := 7) (by omega) (by omega) (by omega) (by omega)
  have w2 := @takeI_lt a (leftI a b c 30) (c + 1) d 7 (by omega)
  generalize leftI a b c 30 = b1 at *
  generalize takeI a b c d 30 = x1 at *
  generalize takeI a b1 (c + 1) d 7 = x2 at *
  generalize leftI a b1 (c + 1) 7 = b2 at *
  have t3 := take_S (n + 3) hp (a := a) (b := b2) (c := c + 1 + 1) (d := d) (m := 30) (by omega) (by omega) (by omega) (by omega)
  generalize takeI a b2 (c + 1 + 1) d 30 = x3 at *
  generalize leftI a b2 (c + 1 + 1) 30 = b3 at *
  have t4 := take_S (n + 3) hp (a := a) (b := b3) (c := c + 1 + 1 + 1) (d := d) (m := 20) (by omega) (by omega) (by omega) (by omega)
  generalize takeI a b3 (c + 1 + 1 + 1) d 20 = x4 at *
  generalize leftI a b3 (c + 1 + 1 + 1) 20 = b4 at *
  have e4 : c + 1 + 1 + 1 + 1 = c + 4 := by omega
  rw [e4] at t4
  have v1 : ∃ v, evE LD.T (callF LD.T (n + 5)) (.idx (.lst false [.bin false .sub (.call 10 [.var 0, .cst (.int 30)]) (.cst (.int 15)), .bin false .pow (.cst (.int 10)) (.cst (.int 20)), .cst (.bl true), .cst .non, .cst (.str "3"), .lst false [.cst (.int 3)], .cst (.bl false)]) (.call 10 [.var 0, .cst (.int 7)]))
      [some (.ref p), none, none, none, none, none, none, none] (S.set p (strm a b c d)) = .ok v (S.set p (strm a b2 (c + 1 + 1) d)) ∧ ∀ S', okV LD.T S' v := by
    have bp : ∀ S' : Store, binP false .pow (.int 10) (.int 20) S' = .ok (.int 100000000000000000000) S' := fun S' => by rw [b_pow _ _ _ _ (by decide)]; rfl
    have hx : x2 = 0 ∨ x2 = 1 ∨ x2 = 2 ∨ x2 = 3 ∨ x2 = 4 ∨ x2 = 5 ∨ x2 = 6 := by omega
    rcases hx with h | h | h | h | h | h | h <;> subst h
    · exact ⟨.int (x1 - 15), by simp (disch := omega) [runB, IP.start, evSs, evS, evE, evEs, liftE, bindT, bindTs, setO, nxO, setIx, idxP, seqOf, lstOf, ixN, truth, List.getElem?_cons_zero, List.getElem?_cons_succ, b_add, b_sub, b_mul, b_mod, b_div, c_lt, c_le, c_gt, c_ge, c_eqi, c_nei, Res.bnd_ok, t1, t2, bp, mkL], fun _ => ⟨.int, rfl, rfl, rfl⟩⟩
    · exact ⟨.int 100000000000000000000, by simp (disch := omega) [runB, IP.start, evSs, evS, evE, evEs, liftE, bindT, bindTs, setO, nxO, setIx, idxP, seqOf, lstOf, ixN, truth, List.getElem?_cons_zero, List.getElem?_cons_succ, b_add, b_sub, b_mul, b_mod, b_div, c_lt, c_le, c_gt, c_ge, c_eqi, c_nei, Res.bnd_ok, t1, t2, bp, mkL], fun _ => ⟨.int, rfl, rfl, rfl⟩⟩
    · exact ⟨.bl true, by simp (disch := omega) [runB, IP.start, evSs, evS, evE, evEs, liftE, bindT, bindTs, setO, nxO, setIx, idxP, seqOf, lstOf, ixN, truth, List.getElem?_cons_zero, List.getElem?_cons_succ, b_add, b_sub, b_mul, b_mod, b_div, c_lt, c_le, c_gt, c_ge, c_eqi, c_nei, Res.bnd_ok, t1, t2, bp, mkL], fun _ => ⟨.bool, rfl, rfl, rfl⟩⟩
    · exact ⟨.non, by simp (disch := omega) [runB, IP.start, evSs, evS, evE, evEs, liftE, bindT, bindTs, setO, nxO, setIx, idxP, seqOf, lstOf, ixN, truth, List.getElem?_cons_zero, List.getElem?_cons_succ, b_add, b_sub, b_mul, b_mod, b_div, c_lt, c_le, c_gt, c_ge, c_eqi, c_nei, Res.bnd_ok, t1, t2, bp, mkL], fun _ => ⟨.non, rfl, rfl, rfl⟩⟩
    · exact ⟨.str "3", by simp (disch := omega) [runB, IP.start, evSs, evS, evE, evEs, liftE, bindT, bindTs, setO, nxO, setIx, idxP, seqOf, lstOf, ixN, truth, List.getElem?_cons_zero, List.getElem?_cons_succ, b_add, b_sub, b_mul, b_mod, b_div, c_lt, c_le, c_gt, c_ge, c_eqi, c_nei, Res.bnd_ok, t1, t2, bp, mkL], fun _ => ⟨.str, rfl, rfl, rfl⟩⟩
    · exact ⟨.lst [.int 3], by simp (disch := omega) [runB, IP.start, evSs, evS, evE, evEs, liftE, bindT, bindTs, setO, nxO, setIx, idxP, seqOf, lstOf, ixN, truth, List.getElem?_cons_zero, List.getElem?_cons_succ, b_add, b_sub, b_mul, b_mod, b_div, c_lt, c_le, c_gt, c_ge, c_eqi, c_nei, Res.bnd_ok, t1, t2, bp, mkL], fun _ => ⟨.lst, rfl, rfl, rfl⟩⟩
    · exact ⟨.bl false, by simp (disch := omega) [runB, IP.start, evSs, evS, evE, evEs, liftE, bindT, bindTs, setO, nxO, setIx, idxP, seqOf, lstOf, ixN, truth, List.getElem?_cons_zero, List.getElem?_cons_succ, b_add, b_sub, b_mul, b_mod, b_div, c_lt, c_le, c_gt, c_ge, c_eqi, c_nei, Res.bnd_ok, t1, t2, bp, mkL], fun _ => ⟨.bool, rfl, rfl, rfl⟩⟩
  obtain ⟨v, ev, hv⟩ := v1
  refine ⟨b4, ?_⟩
  rw [callF_at (d := f17_l_number_right) rfl]
  let S4 : Store := S.set p (strm a b4 (c + 4) d)
  have w0 : callF LD.T (n + 5) 0 [v] S4 = .ok (.bl (wholeB v)) S4 := by
    obtain ⟨u, h1, h2, h3⟩ := hv S4
    exact whole_ok bt_LD rfl (n + 4) h1 h2 h3
  have w1 := among_okV bt_LD (h0 := rfl) (h := rfl) (n + 3) (x3 - 15) (x3 - 15 + x4) (hv S4)
  have w14 := said4 n (x3 - 15) (x3 - 15 + x4) (hv S4)
  generalize hW : wholeB v = W at *
  generalize hA : amongB v (x3 - 15) (x3 - 15 + x4) = A at *
  have c2 : evE LD.T (callF LD.T (n + 5)) (.comp false [7] (.nm 7) .seq [.var 6] [] (.isi (.var 7) .bool)) [some (.ref p), some v, some (.int (x3 - 15)), some (.int (x3 - 15 + x4)), some (.bl W), some (.bl A), some (.lst [.bl W, .bl A]), none] S4 = .ok (.lst [.bl true, .bl true]) S4 := by
    have q1 : LD.T.isi .bool .bool = some true := bt_LD .bool .bool rfl rfl (by simp)
    rw [ev_comp (fun _ => .bl true) (fun _ => true) (vs := [.lst [.bl W, .bl A]]) (xs := [.bl W, .bl A]) (by simp (disch := omega) [runB, IP.start, evSs, evS, evE, evEs, liftE, bindT, bindTs, setO, nxO, setIx, idxP, seqOf, lstOf, ixN, truth, List.getElem?_cons_zero, List.getElem?_cons_succ, b_add, b_sub, b_mul, b_mod, b_div, c_lt, c_le, c_gt, c_ge, c_eqi, c_nei, Res.bnd_ok]) rfl (by simp [lim]) rfl fun x hx => ?_]
    · simp [mkL]
    · have hb : ∃ z, x = .bl z := by
        simp only [List.mem_cons, List.not_mem_nil, or_false] at hx
        rcases hx with h | h <;> exact ⟨_, h⟩
      obtain ⟨z, rfl⟩ := hb
      exact ⟨[some (.ref p), some v, some (.int (x3 - 15)), some (.int (x3 - 15 + x4)), some (.bl W), some (.bl A), some (.lst [.bl W, .bl A]), some (.bl z)], by simp [bindT, setO, IP.wipe], .bl true, rfl, rfl, fun _ => by simp (disch := omega) [runB, IP.start, evSs, evS, evE, evEs, liftE, bindT, bindTs, setO, nxO, setIx, idxP, seqOf, lstOf, ixN, truth, List.getElem?_cons_zero, List.getElem?_cons_succ, b_add, b_sub, b_mul, b_mod, b_div, c_lt, c_le, c_gt, c_ge, c_eqi, c_nei, Res.bnd_ok, tyT, tyOf, q1]⟩
  have body : evSs LD.T (callF LD.T (n + 5)) f17_l_number_right.body (IP.start f17_l_number_right [.ref p]) (S.set p (strm a b c d)) = .rt (.bl true) S4 := by
    show evSs LD.T _ [_, _, _, _, _, _, _, _] [some (.ref p), none, none, none, none, none, none, none] _ = _
    rw [ss_nx (s_asg ev (by simp))]
    simp only [List.set_cons_succ, List.set_cons_zero]
    rw [ss_nx (s_asg (v := .int (x3 - 15)) (S1 := S.set p (strm a b3 (c + 1 + 1 + 1) d)) (by simp (disch := omega) [runB, IP.start, evSs, evS, evE, evEs, liftE, bindT, bindTs, setO, nxO, setIx, idxP, seqOf, lstOf, ixN, truth, List.getElem?_cons_zero, List.getElem?_cons_succ, b_add, b_sub, b_mul, b_mod, b_div, c_lt, c_le, c_gt, c_ge, c_eqi, c_nei, Res.bnd_ok, t3]) (by simp))]
    simp only [List.set_cons_succ, List.set_cons_zero]
    rw [ss_nx (s_asg (v := .int (x3 - 15 + x4)) (S1 := S4) (by simp (disch := omega) [runB, IP.start, evSs, evS, evE, evEs, liftE, bindT, bindTs, setO, nxO, setIx, idxP, seqOf, lstOf, ixN, truth, List.getElem?_cons_zero, List.getElem?_cons_succ, b_add, b_sub, b_mul, b_mod, b_div, c_lt, c_le, c_gt, c_ge, c_eqi, c_nei, Res.bnd_ok, t4]; rfl) (by simp))]
    simp only [List.set_cons_succ, List.set_cons_zero]
    rw [ss_nx (s_asg (v := .bl W) (S1 := S4) (by rw [← hW]; exact whole_ev (hv S4) rfl) (by simp))]
    simp only [List.set_cons_succ, List.set_cons_zero]
    rw [ss_nx (s_asg (v := .bl A) (S1 := S4) (by rw [← hA]; exact good_ev rfl rfl rfl (by rw [hW]; rfl)) (by simp))]
    simp only [List.set_cons_succ, List.set_cons_zero]
    rw [ss_nx (s_asg (v := .lst [.bl W, .bl A]) (S1 := S4) (by simp (disch := omega) [runB, IP.start, evSs, evS, evE, evEs, liftE, bindT, bindTs, setO, nxO, setIx, idxP, seqOf, lstOf, ixN, truth, List.getElem?_cons_zero, List.getElem?_cons_succ, b_add, b_sub, b_mul, b_mod, b_div, c_lt, c_le, c_gt, c_ge, c_eqi, c_nei, Res.bnd_ok, w0, w1, mkL]) (by simp))]
    simp only [List.set_cons_succ, List.set_cons_zero]
    have c2' : evE LD.T (callF LD.T (n + 5)) (.bi false .all [.comp false [7] (.nm 7) .seq [.var 6] [] (.isi (.var 7) .bool)]) [some (.ref p), some v, some (.int (x3 - 15)), some (.int (x3 - 15 + x4)), some (.bl W), some (.bl A), some (.lst [.bl W, .bl A]), none] S4 = .ok (.bl true) S4 := by
      rw [ev_bi (es1 c2)]; rfl
    rw [ss_nx (σ1 := _) (S1 := S4) ((s_iff_f (v := .bl false) (S1 := S4) ((ev_or_f (v := .bl false) (S1 := S4) (by simp (disch := omega) [runB, IP.start, evSs, evS, evE, evEs, liftE, bindT, bindTs, setO, nxO, setIx, idxP, seqOf, lstOf, ixN, truth, List.getElem?_cons_zero, List.getElem?_cons_succ, b_add, b_sub, b_mul, b_mod, b_div, c_lt, c_le, c_gt, c_ge, c_eqi, c_nei, Res.bnd_ok, mkL, ne_same2]) rfl).trans (ev_nt c2' rfl)) rfl).trans rfl)]
    refine ss_rt (s_ret ?_)
    have w14' : callF LD.T (n + 5) 14 [.int 4, v, .int (x3 - 15), .int (x3 - 15 + x4)] S4 = .ok (.str (if A = true then "" else "number")) S4 := w14
    cases A with
    | true =>
      have e1 : cmpP .eq (.str "") (.str "") S4 = .ok (.bl true) S4 := rfl
      simp (disch := omega) [runB, IP.start, evSs, evS, evE, evEs, liftE, bindT, bindTs, setO, nxO, setIx, idxP, seqOf, lstOf, ixN, truth, List.getElem?_cons_zero, List.getElem?_cons_succ, b_add, b_sub, b_mul, b_mod, b_div, c_lt, c_le, c_gt, c_ge, c_eqi, c_nei, Res.bnd_ok, w14', mkL, biP, on1, e1]
    | false =>
      have e1 : cmpP .eq (.str "number") (.str "number") S4 = .ok (.bl true) S4 := rfl
      simp (disch := omega) [runB, IP.start, evSs, evS, evE, evEs, liftE, bindT, bindTs, setO, nxO, setIx, idxP, seqOf, lstOf, ixN, truth, List.getElem?_cons_zero, List.getElem?_cons_succ, b_add, b_sub, b_mul, b_mod, b_div, c_lt, c_le, c_gt, c_ge, c_eqi, c_nei, Res.bnd_ok, w14', mkL, biP, on1, e1]
  rw [run_rt rfl body]
  have lv : leave f17_l_number_right.frz (S.set p (strm a b c d)) (.bl true) S4 = (.bl true, S4) := by
    have e : S4 = (S.set p (strm a b c d)).set p (strm a b4 (c + 4) d) := by rw [List.set_set]
    rw [e]
    exact leave_set rfl (fun _ z => by cases z) rfl
  rw [lv]
end Sp

set_option Elab.async false
set_option linter.all false
set_option maxRecDepth 100000
set_option maxHeartbeats 2000000
/-! SpC: members spoilt. -/
namespace Sp
open PySem IP K01
/-- no members, wherever it is asked -/
def NoM (v : PV) : Prop := ∀ (n : Nat) (S : Store), callF LD.T (n + 3) 3 [v] S = .ok (.bl false) S
theorem nom_ty {v : PV} {u : Ty} (h1 : ∀ S, tyT LD.T S v = some u) (h2 : plT7 u = true) (h3 : u ≠ .tup) : NoM v := fun n S => members_no bt_LD rfl (n + 2) (h1 S) h2 h3
theorem nom_tup {xs : List PV} (hx : ∀ S, ∀ x ∈ xs, okV LD.T S x) (h : membersB xs = false) : NoM (.tup xs) := fun n S => by
  have q := members_tup (T := LD.T) bt_LD (h0 := rfl) (h1 := rfl) (h := rfl) n (S := S) (hx S)
  rw [h] at q
  exact q
theorem okV_ints {S : Store} (xs : List Int) : ∀ x ∈ xs.map PV.int, okV LD.T S x := fun x hm => by
  obtain ⟨i, _, rfl⟩ := List.mem_map.mp hm
  exact okV_int i
/-- whole numbers that don't rise -/
theorem nom_unsorted {xs : List Int} (h : ¬ xs.Pairwise (· < ·)) : membersB (xs.map PV.int) = false := by
  cases q : membersB (xs.map PV.int) with
  | false => rfl
  | true =>
    exfalso; apply h
    unfold membersB at q
    rw [Bool.and_eq_true, Bool.and_eq_true] at q
    have a := List.all_eq_true.mp q.2.2
    clear q h
    induction xs with
    | nil => exact .nil
    | cons x r ih =>
      have hr : r.Pairwise (· < ·) := ih fun p hp => a p (by
        cases r with
        | nil => cases hp
        | cons y r => simp only [List.map_cons, List.tail_cons, List.zip_cons_cons] at hp ⊢; exact List.mem_cons_of_mem _ hp)
      refine List.pairwise_cons.mpr ⟨?_, hr⟩
      cases r with
      | nil => intro y hy; cases hy
      | cons y r =>
        have hxy : x < y := by
          have := a (.int x, .int y) (by simp)
          simpa [ltB] using this
        intro z hz
        rcases List.mem_cons.mp hz with rfl | hz
        · exact hxy
        · have := (List.pairwise_cons.mp hr).1 z hz
          omega
theorem nom_odd {xs ys : List PV} {v : PV} (h : amongB v 0 8 = false) : membersB (xs ++ v :: ys) = false := by
  unfold membersB
  have : (xs ++ v :: ys).all (fun v => amongB v 0 8) = false := by
    rw [List.all_eq_false]
    exact ⟨v, by simp, by rw [h]; simp⟩
  rw [this]; simp
theorem nom_len {xs : List PV} (h : 7 < xs.length) : membersB xs = false := by
  unfold membersB
  rw [decide_eq_false (by omega)]; rfl
/-- the odd things -/
def oddV (x : Int) : Int → PV
  | 0 => .int 9 | 1 => .int (-1) | 2 => .bl true | 3 => .non | 4 => .str "1" | 5 => .tup [.int 1] | 6 => .lst [.int 1] | _ => .int x
def cutA (xs : List PV) (k : Nat) : List PV := xs.take k
theorem cut_hi {α : Type} (xs : List α) (k : Nat) (h : k ≤ xs.length) : cut xs none (some (k : Int)) = xs.take k := by
  have e : ¬ ((k : Int) < 0) := by omega
  simp [cut, sIx, e, Nat.min_eq_left h]
theorem cut_lo {α : Type} (xs : List α) (k : Nat) (h : k ≤ xs.length) : cut xs (some (k : Int)) none = xs.drop k := by
  have e : ¬ ((k : Int) < 0) := by omega
  simp only [cut, sIx, if_neg e, Int.toNat_natCast, Nat.min_eq_left h]
  rw [← List.length_drop]
  exact List.take_length
/-- members[at - 1] -/
theorem prev_at {xs : List Int} (k : Nat) (h : k < xs.length) : ∃ x, x ∈ xs ∧ ∀ S : Store, idxP (.tup (xs.map PV.int)) (.int ((k : Int) - 1)) S = .ok (.int x) S := by
  by_cases hk : k = 0
  · subst hk
    refine ⟨xs[xs.length - 1]'(by omega), List.getElem_mem _, fun S => ?_⟩
    have e : ixN (xs.map PV.int).length (((0 : Nat) : Int) - 1) = some (xs.length - 1) := by
      unfold ixN
      rw [List.length_map, if_neg (by omega), if_pos (by omega)]
      congr 1; omega
    simp only [idxP, seqOf, e, List.getElem?_map]
    rw [List.getElem?_eq_getElem (by omega)]; rfl
  · refine ⟨xs[k - 1]'(by omega), List.getElem_mem _, fun S => ?_⟩
    have e : ixN (xs.map PV.int).length ((k : Int) - 1) = some (k - 1) := by
      unfold ixN
      rw [List.length_map, if_pos (by omega), if_pos (by omega)]
      congr 1; omega
    simp only [idxP, seqOf, e, List.getElem?_map]
    rw [List.getElem?_eq_getElem (by omega)]; rfl
theorem idx_0 {xs : List Int} (h : 0 < xs.length) (S : Store) : idxP (.tup (xs.map PV.int)) (.int 0) S = .ok (.int xs[0]) S := by
  have e : ixN (xs.map PV.int).length 0 = some 0 := by
    unfold ixN
    rw [List.length_map, if_pos (by omega), if_pos (by omega)]; rfl
  simp only [idxP, seqOf, e, List.getElem?_map]
  rw [List.getElem?_eq_getElem h]; rfl
theorem nom_twice {xs : List Int} (k : Nat) (h : k < xs.length) : ¬ (xs.take (k + 1) ++ xs.drop k).Pairwise (· < ·) := by
  intro q
  have a := (List.pairwise_append.mp q).2.2 xs[k] (by
    rw [List.mem_take_iff_getElem]
    exact ⟨k, by omega, rfl⟩) xs[k] (by
    rw [List.mem_drop_iff_getElem]
    exact ⟨0, by omega, by simp⟩)
  omega
theorem nom_rev {xs : List Int} (h : xs.Pairwise (· < ·)) (hl : 1 < xs.length) : ¬ xs.reverse.Pairwise (· < ·) := by
  intro q
  rw [List.pairwise_reverse] at q
  have a := List.pairwise_iff_getElem.mp q 0 1 (by omega) (by omega) (by omega)
  have b := List.pairwise_iff_getElem.mp h 0 1 (by omega) (by omega) (by omega)
  omega
theorem nom_again {xs : List Int} (h : xs.Pairwise (· < ·)) (hl : 0 < xs.length) : ¬ (xs ++ [xs[0]]).Pairwise (· < ·) := by
  intro q
  have a := (List.pairwise_append.mp q).2.2 xs[0] (List.getElem_mem _) xs[0] (by simp)
  omega
theorem eq_odd (i x j : Int) (hi : 0 ≤ i) (hi2 : i < 8) (S : Store) : ∃ b, cmpP .eq (oddV x i) (.int j) S = .ok (.bl b) S ∧ (b = false → x = j → i ≠ 7) := by
  have hx : i = 0 ∨ i = 1 ∨ i = 2 ∨ i = 3 ∨ i = 4 ∨ i = 5 ∨ i = 6 ∨ i = 7 := by omega
  rcases hx with h | h | h | h | h | h | h | h <;> subst h
  · exact ⟨_, c_eqi _ _ _, fun _ _ => by omega⟩
  · exact ⟨_, c_eqi _ _ _, fun _ _ => by omega⟩
  · exact ⟨_, by simp [oddV, cmpP, eqQ, eqP, top, plV, dpV]; rfl, fun _ _ => by omega⟩
  · exact ⟨_, by simp [oddV, cmpP, eqQ, eqP, top, plV, dpV]; rfl, fun _ _ => by omega⟩
  · exact ⟨_, by simp [oddV, cmpP, eqQ, eqP, top, plV, dpV]; rfl, fun _ _ => by omega⟩
  · exact ⟨_, by simp [oddV, cmpP, eqQ, eqP, top, plV, plVs, dpV]; rfl, fun _ _ => by omega⟩
  · exact ⟨_, by simp [oddV, cmpP, eqQ, eqP, top, plV, plVs, dpV]; rfl, fun _ _ => by omega⟩
  · refine ⟨_, c_eqi _ _ _, fun hb e => ?_⟩
    rw [decide_eq_false_iff_not] at hb
    exact absurd e hb
theorem odd_not (i x : Int) (hi : 0 ≤ i) (hi2 : i < 7) : amongB (oddV x i) 0 8 = false := by
  have hx : i = 0 ∨ i = 1 ∨ i = 2 ∨ i = 3 ∨ i = 4 ∨ i = 5 ∨ i = 6 := by omega
  rcases hx with h | h | h | h | h | h | h <;> subst h <;> rfl
theorem odd_okV (i x : Int) (hi : 0 ≤ i) (hi2 : i < 8) (S : Store) : okV LD.T S (oddV x i) := by
  have hx : i = 0 ∨ i = 1 ∨ i = 2 ∨ i = 3 ∨ i = 4 ∨ i = 5 ∨ i = 6 ∨ i = 7 := by omega
  rcases hx with h | h | h | h | h | h | h | h <;> subst h
  · exact okV_int _
  · exact okV_int _
  · exact ⟨.bool, rfl, rfl, rfl⟩
  · exact ⟨.non, rfl, rfl, rfl⟩
  · exact ⟨.str, rfl, rfl, rfl⟩
  · exact ⟨.tup, rfl, rfl, rfl⟩
  · exact ⟨.lst, rfl, rfl, rfl⟩
  · exact okV_int _
theorem odd_cl (i x : Int) (n : Nat) (hi : 0 ≤ i) (hi2 : i < 8) : clV n (oddV x i) = true := by
  have hx : i = 0 ∨ i = 1 ∨ i = 2 ∨ i = 3 ∨ i = 4 ∨ i = 5 ∨ i = 6 ∨ i = 7 := by omega
  rcases hx with h | h | h | h | h | h | h | h <;> subst h <;> rfl
end Sp

set_option Elab.async false
set_option linter.all false
set_option maxRecDepth 100000
set_option maxHeartbeats 2000000
/-! SpD: members spoilt, by the def. -/
namespace Sp
open PySem IP K01
variable {S : Store}
theorem leave_ss {f : Bool} {v : PV} {p : Nat} {o o' : SO} (hv : clV S.length v = true) (hr : ∀ n, v ≠ .ref n) (ho : clO S.length o' = true) : leave f (S.set p o) v (S.set p o') = (v, S.set p o') := by
  have e : S.set p o' = (S.set p o).set p o' := by rw [List.set_set]
  rw [e]
  exact leave_set (by rw [List.length_set]; exact hv) hr (by rw [List.length_set]; exact ho)
theorem add_tup {a b : List PV} (h : a.length + b.length ≤ lim) (S : Store) : binP false .add (.tup a) (.tup b) S = .ok (.tup (a ++ b)) S := by
  simp only [binP, addP, if_pos h]
theorem spoilt_ok (n : Nat) {p : Nat} (hp : p < S.length) {a : Bool} {b c d : Int} (c1 : 0 ≤ c) (c2 : c < 90000) {xs : List Int} (hx : Mem xs) (h1 : 1 ≤ xs.length) (h2 : xs.length ≤ 7) :
    ∃ (v : PV) (b' c' : Int), callF LD.T (n + 3) 15 [.tup (xs.map PV.int), .ref p] (S.set p (strm a b c d)) = .ok v (S.set p (strm a b' c' d)) ∧ NoM v ∧ c ≤ c' ∧ c' ≤ c + 4 := by
  have t1 := take_S n hp (a := a) (b := b) (c := c) (d := d) (m := (xs.length : Int)) c1 (by omega) (by omega) (by omega)
  have w1 := @takeI_lt a b c d (xs.length : Int) (by omega)
  generalize takeI a b c d (xs.length : Int) = x1 at *
  generalize leftI a b c (xs.length : Int) = b1 at *
  obtain ⟨k, rfl⟩ : ∃ k : Nat, x1 = (k : Int) := ⟨x1.toNat, by omega⟩
  have hk : k < xs.length := by omega
  have t2 := take_S n hp (a := a) (b := b1) (c := c + 1) (d := d) (m := 8) (by omega) (by omega) (by omega) (by omega)
  have w2 := @takeI_lt a b1 (c + 1) d 8 (by omega)
  generalize takeI a b1 (c + 1) d 8 = x2 at *
  generalize leftI a b1 (c + 1) 8 = b2 at *
  have t3 := take_S n hp (a := a) (b := b2) (c := c + 1 + 1) (d := d) (m := 6) (by omega) (by omega) (by omega) (by omega)
  have w3 := @takeI_lt a b2 (c + 1 + 1) d 6 (by omega)
  generalize takeI a b2 (c + 1 + 1) d 6 = x3 at *
  generalize leftI a b2 (c + 1 + 1) 6 = b3 at *
  have t4 := take_S n hp (a := a) (b := b3) (c := c + 1 + 1 + 1) (d := d) (m := 6) (by omega) (by omega) (by omega) (by omega)
  have w4 := @takeI_lt a b3 (c + 1 + 1 + 1) d 6 (by omega)
  generalize takeI a b3 (c + 1 + 1 + 1) d 6 = x4 at *
  generalize leftI a b3 (c + 1 + 1 + 1) 6 = b4 at *
  obtain ⟨x, hxm, pv⟩ := prev_at k hk
  have z0 := idx_0 (xs := xs) (by omega)
  let S3 : Store := S.set p (strm a b3 (c + 1 + 1 + 1) d)
  have pe : ∀ (cf : Nat → List PV → Store → Res PV) (σ : IP.Env) (S : Store), σ[0]? = some (some (.tup (xs.map PV.int))) → σ[2]? = some (some (.int k)) → evE LD.T cf (.idx (.var 0) (.bin false .sub (.var 2) (.cst (.int 1)))) σ S = .ok (.int x) S := fun cf σ S h0 h2 => by
    have q := pv S
    simp only [evE, h0, h2, Res.bnd_ok, b_sub, q]
  have ze : ∀ (cf : Nat → List PV → Store → Res PV) (σ : IP.Env) (S : Store), σ[0]? = some (some (.tup (xs.map PV.int))) → evE LD.T cf (.idx (.var 0) (.cst (.int 0))) σ S = .ok (.int xs[0]) S := fun cf σ S h0 => by
    have q := z0 S
    simp only [evE, h0, Res.bnd_ok, q]
  have pe1 := pe (callF LD.T (n + 2)) [some (.tup (xs.map PV.int)), some (.ref p), some (.int k), none, none]
  have pe1 := fun S => pe1 S rfl rfl
  have e1 : evE LD.T (callF LD.T (n + 2)) (.idx (.lst false [(.cst (.int 9)), (.neg (.cst (.int 1))), (.cst (.bl true)), (.cst .non), (.cst (.str "1")), (.tup [(.cst (.int 1))]), (.lst false [(.cst (.int 1))]), (.idx (.var 0) (.bin false .sub (.var 2) (.cst (.int 1))))]) (.call 10 [(.var 1), (.cst (.int 8))]))
      [some (.tup (xs.map PV.int)), some (.ref p), some (.int k), none, none] (S.set p (strm a b1 (c + 1) d)) = .ok (oddV x x2) (S.set p (strm a b2 (c + 1 + 1) d)) := by
    have q : x2 = 0 ∨ x2 = 1 ∨ x2 = 2 ∨ x2 = 3 ∨ x2 = 4 ∨ x2 = 5 ∨ x2 = 6 ∨ x2 = 7 := by omega
    rcases q with h | h | h | h | h | h | h | h <;> subst h <;> (simp (disch := omega) [runB, IP.start, evSs, evS, evE, evEs, liftE, bindT, bindTs, setO, nxO, setIx, idxP, seqOf, lstOf, ixN, truth, List.getElem?_cons_zero, List.getElem?_cons_succ, b_add, b_sub, b_mul, b_mod, b_div, c_lt, c_le, c_gt, c_ge, c_eqi, c_nei, Res.bnd_ok, t2, ↓pe1, mkL, oddV]; try rfl)
  generalize hσ : ([some (.tup (xs.map PV.int)), some (.ref p), some (.int k), some (oddV x x2), some (.int x3)] : IP.Env) = σ
  have s0 : σ[0]? = some (some (.tup (xs.map PV.int))) := by rw [← hσ]; rfl
  have s1 : σ[1]? = some (some (.ref p)) := by rw [← hσ]; rfl
  have s2 : σ[2]? = some (some (.int k)) := by rw [← hσ]; rfl
  have s3 : σ[3]? = some (some (oddV x x2)) := by rw [← hσ]; rfl
  have s4 : σ[4]? = some (some (.int x3)) := by rw [← hσ]; rfl
  have k1 : (k : Int) + 1 = ((k + 1 : Nat) : Int) := by omega
  have sl1 : ∀ S3 : Store, evE LD.T (callF LD.T (n + 2)) (.slc false (.var 0) [] [(.bin false .add (.var 2) (.cst (.int 1)))]) σ S3 = .ok (.tup ((xs.map PV.int).take (k + 1))) S3 := by
    intro S3
    simp (disch := omega) [runB, IP.start, evSs, evS, evE, evEs, liftE, bindT, bindTs, setO, nxO, setIx, idxP, seqOf, lstOf, ixN, truth, List.getElem?_cons_zero, List.getElem?_cons_succ, b_add, b_sub, b_mul, b_mod, b_div, c_lt, c_le, c_gt, c_ge, c_eqi, c_nei, Res.bnd_ok, s0, s2, slcP, ptR, ptO]
    rw [k1, cut_hi _ _ (by simp; omega)]
  have sl2 : ∀ S3 : Store, evE LD.T (callF LD.T (n + 2)) (.slc false (.var 0) [(.var 2)] []) σ S3 = .ok (.tup ((xs.map PV.int).drop k)) S3 := by
    intro S3
    simp (disch := omega) [runB, IP.start, evSs, evS, evE, evEs, liftE, bindT, bindTs, setO, nxO, setIx, idxP, seqOf, lstOf, ixN, truth, List.getElem?_cons_zero, List.getElem?_cons_succ, b_add, b_sub, b_mul, b_mod, b_div, c_lt, c_le, c_gt, c_ge, c_eqi, c_nei, Res.bnd_ok, s0, s2, slcP, ptR, ptO]
    rw [cut_lo _ _ (by simp; omega)]
  have sl3 : ∀ S3 : Store, evE LD.T (callF LD.T (n + 2)) (.slc false (.var 0) [] [(.var 2)]) σ S3 = .ok (.tup ((xs.map PV.int).take k)) S3 := by
    intro S3
    simp (disch := omega) [runB, IP.start, evSs, evS, evE, evEs, liftE, bindT, bindTs, setO, nxO, setIx, idxP, seqOf, lstOf, ixN, truth, List.getElem?_cons_zero, List.getElem?_cons_succ, b_add, b_sub, b_mul, b_mod, b_div, c_lt, c_le, c_gt, c_ge, c_eqi, c_nei, Res.bnd_ok, s0, s2, slcP, ptR, ptO]
    rw [cut_hi _ _ (by simp; omega)]
  have sl4 : ∀ S3 : Store, evE LD.T (callF LD.T (n + 2)) (.slc false (.var 0) [(.bin false .add (.var 2) (.cst (.int 1)))] []) σ S3 = .ok (.tup ((xs.map PV.int).drop (k + 1))) S3 := by
    intro S3
    simp (disch := omega) [runB, IP.start, evSs, evS, evE, evEs, liftE, bindT, bindTs, setO, nxO, setIx, idxP, seqOf, lstOf, ixN, truth, List.getElem?_cons_zero, List.getElem?_cons_succ, b_add, b_sub, b_mul, b_mod, b_div, c_lt, c_le, c_gt, c_ge, c_eqi, c_nei, Res.bnd_ok, s0, s2, slcP, ptR, ptO]
    rw [k1, cut_lo _ _ (by simp; omega)]
  have body : ∃ (v : PV) (b' c' : Int), evSs LD.T (callF LD.T (n + 2)) f15_l_spoilt.body (IP.start f15_l_spoilt [.tup (xs.map PV.int), .ref p]) (S.set p (strm a b c d)) = .rt v (S.set p (strm a b' c' d)) ∧ NoM v ∧ c ≤ c' ∧ c' ≤ c + 4 ∧ clV S.length v = true ∧ ∀ n, v ≠ .ref n := by
    show ∃ (v : PV) (b' c' : Int), evSs LD.T _ [_, _, _, _, _, _, _, _, _, _] [some (.tup (xs.map PV.int)), some (.ref p), none, none, none] _ = _ ∧ _
    rw [ss_nx (s_asg (v := .int k) (S1 := S.set p (strm a b1 (c + 1) d)) (by simp (disch := omega) [runB, IP.start, evSs, evS, evE, evEs, liftE, bindT, bindTs, setO, nxO, setIx, idxP, seqOf, lstOf, ixN, truth, List.getElem?_cons_zero, List.getElem?_cons_succ, b_add, b_sub, b_mul, b_mod, b_div, c_lt, c_le, c_gt, c_ge, c_eqi, c_nei, Res.bnd_ok, biP, on1, lenP, t1, List.length_map]) (by simp))]
    simp only [List.set_cons_succ, List.set_cons_zero]
    rw [ss_nx (s_asg e1 (by simp))]
    simp only [List.set_cons_succ, List.set_cons_zero]
    rw [ss_nx (s_asg (v := .int x3) (S1 := S3) (by simp (disch := omega) [runB, IP.start, evSs, evS, evE, evEs, liftE, bindT, bindTs, setO, nxO, setIx, idxP, seqOf, lstOf, ixN, truth, List.getElem?_cons_zero, List.getElem?_cons_succ, b_add, b_sub, b_mul, b_mod, b_div, c_lt, c_le, c_gt, c_ge, c_eqi, c_nei, Res.bnd_ok, t3]; rfl) (by simp))]
    simp only [List.set_cons_succ, List.set_cons_zero]
    rw [hσ]
    have q3 : x3 = 0 ∨ x3 = 1 ∨ x3 = 2 ∨ x3 = 3 ∨ ((x3 = 4 ∨ x3 = 5) ∧ ¬ (x3 = 4 ∧ 1 < xs.length)) ∨ (x3 = 4 ∧ 1 < xs.length) := by omega
    have n0 : ∀ j : Int, x3 ≠ j → evS LD.T (callF LD.T (n + 2)) (.iff (.cmp .eq (.var 4) (.cst (.int j))) [.pas] []) σ S3 = .nx σ S3 := fun j hj => by
      have := decide_eq_false hj
      simp (disch := omega) [runB, IP.start, evSs, evS, evE, evEs, liftE, bindT, bindTs, setO, nxO, setIx, idxP, seqOf, lstOf, ixN, truth, List.getElem?_cons_zero, List.getElem?_cons_succ, b_add, b_sub, b_mul, b_mod, b_div, c_lt, c_le, c_gt, c_ge, c_eqi, c_nei, Res.bnd_ok, s4, this]
    rcases q3 with h | h | h | h | h | h
    · subst h
      have q4 : x4 = 0 ∨ x4 = 1 ∨ x4 = 2 ∨ x4 = 3 ∨ x4 = 4 ∨ x4 = 5 := by omega
      rcases q4 with h | h | h | h | h | h <;> subst h
      · exact ⟨.tup [], b4, c + 1 + 1 + 1 + 1, by simp (disch := omega) [runB, IP.start, evSs, evS, evE, evEs, liftE, bindT, bindTs, setO, nxO, setIx, idxP, seqOf, lstOf, ixN, truth, List.getElem?_cons_zero, List.getElem?_cons_succ, b_add, b_sub, b_mul, b_mod, b_div, c_lt, c_le, c_gt, c_ge, c_eqi, c_nei, Res.bnd_ok, s4, s0, s1, t4, mkL, S3]; try rfl, nom_tup (xs := []) (fun _ x hx => by cases hx) rfl, by omega, by omega, rfl, fun _ h => by cases h⟩
      · exact ⟨.non, b4, c + 1 + 1 + 1 + 1, by simp (disch := omega) [runB, IP.start, evSs, evS, evE, evEs, liftE, bindT, bindTs, setO, nxO, setIx, idxP, seqOf, lstOf, ixN, truth, List.getElem?_cons_zero, List.getElem?_cons_succ, b_add, b_sub, b_mul, b_mod, b_div, c_lt, c_le, c_gt, c_ge, c_eqi, c_nei, Res.bnd_ok, s4, s0, s1, t4, mkL, S3]; try rfl, nom_ty (u := .non) (fun _ => rfl) rfl (by decide), by omega, by omega, rfl, fun _ h => by cases h⟩
      · exact ⟨.int 5, b4, c + 1 + 1 + 1 + 1, by simp (disch := omega) [runB, IP.start, evSs, evS, evE, evEs, liftE, bindT, bindTs, setO, nxO, setIx, idxP, seqOf, lstOf, ixN, truth, List.getElem?_cons_zero, List.getElem?_cons_succ, b_add, b_sub, b_mul, b_mod, b_div, c_lt, c_le, c_gt, c_ge, c_eqi, c_nei, Res.bnd_ok, s4, s0, s1, t4, mkL, S3]; try rfl, nom_ty (u := .int) (fun _ => rfl) rfl (by decide), by omega, by omega, rfl, fun _ h => by cases h⟩
      · exact ⟨.str "123", b4, c + 1 + 1 + 1 + 1, by simp (disch := omega) [runB, IP.start, evSs, evS, evE, evEs, liftE, bindT, bindTs, setO, nxO, setIx, idxP, seqOf, lstOf, ixN, truth, List.getElem?_cons_zero, List.getElem?_cons_succ, b_add, b_sub, b_mul, b_mod, b_div, c_lt, c_le, c_gt, c_ge, c_eqi, c_nei, Res.bnd_ok, s4, s0, s1, t4, mkL, S3]; try rfl, nom_ty (u := .str) (fun _ => rfl) rfl (by decide), by omega, by omega, rfl, fun _ h => by cases h⟩
      · exact ⟨.dct [] [], b4, c + 1 + 1 + 1 + 1, by simp (disch := omega) [runB, IP.start, evSs, evS, evE, evEs, liftE, bindT, bindTs, setO, nxO, setIx, idxP, seqOf, lstOf, ixN, truth, List.getElem?_cons_zero, List.getElem?_cons_succ, b_add, b_sub, b_mul, b_mod, b_div, c_lt, c_le, c_gt, c_ge, c_eqi, c_nei, Res.bnd_ok, s4, s0, s1, t4, mkL, S3]; try rfl, nom_ty (u := .dct) (fun _ => rfl) rfl (by decide), by omega, by omega, rfl, fun _ h => by cases h⟩
      · exact ⟨.lst [.tup (xs.map PV.int)], b4, c + 1 + 1 + 1 + 1, by simp (disch := omega) [runB, IP.start, evSs, evS, evE, evEs, liftE, bindT, bindTs, setO, nxO, setIx, idxP, seqOf, lstOf, ixN, truth, List.getElem?_cons_zero, List.getElem?_cons_succ, b_add, b_sub, b_mul, b_mod, b_div, c_lt, c_le, c_gt, c_ge, c_eqi, c_nei, Res.bnd_ok, s4, s0, s1, t4, mkL, S3]; try rfl, nom_ty (u := .lst) (fun _ => rfl) rfl (by decide), by omega, by omega, by simp [clV, clVs, clVs_ints], fun _ h => by cases h⟩
    · subst h
      exact ⟨.lst (xs.map PV.int), b3, c + 1 + 1 + 1, by simp (disch := omega) [runB, IP.start, evSs, evS, evE, evEs, liftE, bindT, bindTs, setO, nxO, setIx, idxP, seqOf, lstOf, ixN, truth, List.getElem?_cons_zero, List.getElem?_cons_succ, b_add, b_sub, b_mul, b_mod, b_div, c_lt, c_le, c_gt, c_ge, c_eqi, c_nei, Res.bnd_ok, s4, s0, s1, biP, on1, onSeq, mkL, S3], nom_ty (u := .lst) (fun _ => rfl) rfl (by decide), by omega, by omega, by simp [clV, clVs_ints], fun _ h => by cases h⟩
    · subst h
      have r8 : rngOk 0 8 = true := rfl
      exact ⟨.tup (rng 0 8), b3, c + 1 + 1 + 1, by simp (disch := omega) [runB, IP.start, evSs, evS, evE, evEs, liftE, bindT, bindTs, setO, nxO, setIx, idxP, seqOf, lstOf, ixN, truth, List.getElem?_cons_zero, List.getElem?_cons_succ, b_add, b_sub, b_mul, b_mod, b_div, c_lt, c_le, c_gt, c_ge, c_eqi, c_nei, Res.bnd_ok, s4, s0, s1, biP, on2, r8, S3], nom_tup (fun S x hx => by
        obtain ⟨i, _, rfl⟩ := List.mem_map.mp hx
        exact okV_int _) (nom_len (by decide)), by omega, by omega, by
          have : ∀ l : List Nat, clVs S.length (l.map fun k : Nat => PV.int (0 + (k : Nat))) = true := fun l => by
            induction l with
            | nil => rfl
            | cons x l ih => simp [clVs, clV]; simpa using ih
          exact this _, fun _ h => by cases h⟩
    · subst h
      have ad := fun S => add_tup (a := (xs.map PV.int).take (k + 1)) (b := (xs.map PV.int).drop k) (by simp [lim]; omega) S
      refine ⟨.tup ((xs.map PV.int).take (k + 1) ++ (xs.map PV.int).drop k), b3, c + 1 + 1 + 1, by simp (disch := omega) [runB, IP.start, evSs, evS, evE, evEs, liftE, bindT, bindTs, setO, nxO, setIx, idxP, seqOf, lstOf, ixN, truth, List.getElem?_cons_zero, List.getElem?_cons_succ, b_add, b_sub, b_mul, b_mod, b_div, c_lt, c_le, c_gt, c_ge, c_eqi, c_nei, Res.bnd_ok, s4, ↓sl1, ↓sl2, ad]; rfl, ?_, by omega, by omega, by rw [← List.map_take, ← List.map_drop, ← List.map_append]; simp only [clV, clVs_ints], fun _ h => by cases h⟩
      rw [← List.map_take, ← List.map_drop, ← List.map_append]
      exact nom_tup (fun S => okV_ints _) (nom_unsorted (nom_twice k hk))
    · obtain ⟨h, hn⟩ := h
      obtain ⟨r, er, hr⟩ := eq_odd x2 x x w2.1 w2.2 S3
      have pv' := fun S => pe (callF LD.T (n + 2)) σ S s0 s2
      have ze' := fun S => ze (callF LD.T (n + 2)) σ S s0
      have gt : x3 = 4 → decide ((1 : Int) < (xs.length : Int)) = false := fun e => decide_eq_false (by omega)
      have five : evSs LD.T (callF LD.T (n + 2)) [.iff (.cmp .eq (.var 3) (.idx (.var 0) (.bin false .sub (.var 2) (.cst (.int 1))))) [.ret (.bin false .add (.var 0) (.tup [(.idx (.var 0) (.cst (.int 0)))]))] [], .ret (.bin false .add (.bin false .add (.slc false (.var 0) [] [(.var 2)]) (.tup [(.var 3)])) (.slc false (.var 0) [(.bin false .add (.var 2) (.cst (.int 1)))] []))] σ S3 =
          .rt (if r = true then .tup (xs.map PV.int ++ [.int xs[0]]) else .tup ((xs.map PV.int).take k ++ [oddV x x2] ++ (xs.map PV.int).drop (k + 1))) S3 := by
        have a1 := fun S => add_tup (a := xs.map PV.int) (b := [PV.int xs[0]]) (by simp [lim]; omega) S
        have a2 := fun S => add_tup (a := (xs.map PV.int).take k) (b := [oddV x x2]) (by simp [lim]; omega) S
        have a3 := fun S => add_tup (a := (xs.map PV.int).take k ++ [oddV x x2]) (b := (xs.map PV.int).drop (k + 1)) (by simp [lim]; omega) S
        cases r with
        | true => simp (disch := omega) [runB, IP.start, evSs, evS, evE, evEs, liftE, bindT, bindTs, setO, nxO, setIx, idxP, seqOf, lstOf, ixN, truth, List.getElem?_cons_zero, List.getElem?_cons_succ, b_add, b_sub, b_mul, b_mod, b_div, c_lt, c_le, c_gt, c_ge, c_eqi, c_nei, Res.bnd_ok, s0, s2, s3, ↓pv', er, ↓ze', a1]
        | false => simp (disch := omega) [runB, IP.start, evSs, evS, evE, evEs, liftE, bindT, bindTs, setO, nxO, setIx, idxP, seqOf, lstOf, ixN, truth, List.getElem?_cons_zero, List.getElem?_cons_succ, b_add, b_sub, b_mul, b_mod, b_div, c_lt, c_le, c_gt, c_ge, c_eqi, c_nei, Res.bnd_ok, s0, s2, s3, ↓pv', er, ↓sl3, ↓sl4, a2, a3]
      have all : evSs LD.T (callF LD.T (n + 2)) (f15_l_spoilt.body.drop 3) σ S3 = .rt (if r = true then .tup (xs.map PV.int ++ [.int xs[0]]) else .tup ((xs.map PV.int).take k ++ [oddV x x2] ++ (xs.map PV.int).drop (k + 1))) S3 := by
        rw [← five]
        rcases h with h | h
        · have g := gt h
          subst h
          show evSs LD.T (callF LD.T (n + 2)) [_, _, _, _, _, _, _] σ S3 = _
          rw [ss_nx (σ1 := σ) (S1 := S3) (by simp (disch := omega) [runB, IP.start, evSs, evS, evE, evEs, liftE, bindT, bindTs, setO, nxO, setIx, idxP, seqOf, lstOf, ixN, truth, List.getElem?_cons_zero, List.getElem?_cons_succ, b_add, b_sub, b_mul, b_mod, b_div, c_lt, c_le, c_gt, c_ge, c_eqi, c_nei, Res.bnd_ok, s4]), ss_nx (σ1 := σ) (S1 := S3) (by simp (disch := omega) [runB, IP.start, evSs, evS, evE, evEs, liftE, bindT, bindTs, setO, nxO, setIx, idxP, seqOf, lstOf, ixN, truth, List.getElem?_cons_zero, List.getElem?_cons_succ, b_add, b_sub, b_mul, b_mod, b_div, c_lt, c_le, c_gt, c_ge, c_eqi, c_nei, Res.bnd_ok, s4]), ss_nx (σ1 := σ) (S1 := S3) (by simp (disch := omega) [runB, IP.start, evSs, evS, evE, evEs, liftE, bindT, bindTs, setO, nxO, setIx, idxP, seqOf, lstOf, ixN, truth, List.getElem?_cons_zero, List.getElem?_cons_succ, b_add, b_sub, b_mul, b_mod, b_div, c_lt, c_le, c_gt, c_ge, c_eqi, c_nei, Res.bnd_ok, s4]), ss_nx (σ1 := σ) (S1 := S3) (by simp (disch := omega) [runB, IP.start, evSs, evS, evE, evEs, liftE, bindT, bindTs, setO, nxO, setIx, idxP, seqOf, lstOf, ixN, truth, List.getElem?_cons_zero, List.getElem?_cons_succ, b_add, b_sub, b_mul, b_mod, b_div, c_lt, c_le, c_gt, c_ge, c_eqi, c_nei, Res.bnd_ok, s4]), ss_nx (σ1 := σ) (S1 := S3) (by simp (disch := omega) [runB, IP.start, evSs, evS, evE, evEs, liftE, bindT, bindTs, setO, nxO, setIx, idxP, seqOf, lstOf, ixN, truth, List.getElem?_cons_zero, List.getElem?_cons_succ, b_add, b_sub, b_mul, b_mod, b_div, c_lt, c_le, c_gt, c_ge, c_eqi, c_nei, Res.bnd_ok, s4, s0, biP, on1, lenP, g, List.length_map])]
        · subst h
          show evSs LD.T (callF LD.T (n + 2)) [_, _, _, _, _, _, _] σ S3 = _
          rw [ss_nx (σ1 := σ) (S1 := S3) (by simp (disch := omega) [runB, IP.start, evSs, evS, evE, evEs, liftE, bindT, bindTs, setO, nxO, setIx, idxP, seqOf, lstOf, ixN, truth, List.getElem?_cons_zero, List.getElem?_cons_succ, b_add, b_sub, b_mul, b_mod, b_div, c_lt, c_le, c_gt, c_ge, c_eqi, c_nei, Res.bnd_ok, s4]), ss_nx (σ1 := σ) (S1 := S3) (by simp (disch := omega) [runB, IP.start, evSs, evS, evE, evEs, liftE, bindT, bindTs, setO, nxO, setIx, idxP, seqOf, lstOf, ixN, truth, List.getElem?_cons_zero, List.getElem?_cons_succ, b_add, b_sub, b_mul, b_mod, b_div, c_lt, c_le, c_gt, c_ge, c_eqi, c_nei, Res.bnd_ok, s4]), ss_nx (σ1 := σ) (S1 := S3) (by simp (disch := omega) [runB, IP.start, evSs, evS, evE, evEs, liftE, bindT, bindTs, setO, nxO, setIx, idxP, seqOf, lstOf, ixN, truth, List.getElem?_cons_zero, List.getElem?_cons_succ, b_add, b_sub, b_mul, b_mod, b_div, c_lt, c_le, c_gt, c_ge, c_eqi, c_nei, Res.bnd_ok, s4]), ss_nx (σ1 := σ) (S1 := S3) (by simp (disch := omega) [runB, IP.start, evSs, evS, evE, evEs, liftE, bindT, bindTs, setO, nxO, setIx, idxP, seqOf, lstOf, ixN, truth, List.getElem?_cons_zero, List.getElem?_cons_succ, b_add, b_sub, b_mul, b_mod, b_div, c_lt, c_le, c_gt, c_ge, c_eqi, c_nei, Res.bnd_ok, s4]), ss_nx (σ1 := σ) (S1 := S3) (by simp (disch := omega) [runB, IP.start, evSs, evS, evE, evEs, liftE, bindT, bindTs, setO, nxO, setIx, idxP, seqOf, lstOf, ixN, truth, List.getElem?_cons_zero, List.getElem?_cons_succ, b_add, b_sub, b_mul, b_mod, b_div, c_lt, c_le, c_gt, c_ge, c_eqi, c_nei, Res.bnd_ok, s4])]
      refine ⟨_, b3, c + 1 + 1 + 1, all, ?_, by omega, by omega, ?_, ?_⟩
      · cases r with
        | true =>
          rw [if_pos rfl]
          have e : xs.map PV.int ++ [PV.int xs[0]] = (xs ++ [xs[0]]).map PV.int := by simp
          rw [e]
          exact nom_tup (fun S => okV_ints _) (nom_unsorted (nom_again hx.1 (by omega)))
        | false =>
          rw [if_neg Bool.false_ne_true]
          have i7 := hr rfl rfl
          refine nom_tup (fun S y hy => ?_) ?_
          · simp only [List.mem_append, List.mem_singleton] at hy
            rcases hy with (hy | rfl) | hy
            · exact okV_ints _ _ (List.mem_of_mem_take hy)
            · exact odd_okV _ _ w2.1 w2.2 S
            · exact okV_ints _ _ (List.mem_of_mem_drop hy)
          · rw [List.append_assoc]
            exact nom_odd (odd_not _ _ w2.1 (by omega))
      · have app : ∀ (l l' : List PV), clVs S.length l = true → clVs S.length l' = true → clVs S.length (l ++ l') = true := fun l l' h h' => by
          induction l with
          | nil => exact h'
          | cons x l ih =>
            have := Bool.and_eq_true_iff.mp h
            simp only [List.cons_append, clVs, this.1, ih this.2, Bool.and_self]
        cases r with
        | true => exact app _ _ (clVs_ints _ _) rfl
        | false =>
          rw [← List.map_take, ← List.map_drop]
          exact app _ _ (app _ _ (clVs_ints _ _) (by simp [clVs, odd_cl _ _ _ w2.1 w2.2])) (clVs_ints _ _)
      · intro m hm
        cases r <;> cases hm
    · obtain ⟨h, hl⟩ := h
      subst h
      have g : decide ((1 : Int) < (xs.length : Int)) = true := decide_eq_true (by omega)
      refine ⟨.tup ((xs.map PV.int).reverse), b3, c + 1 + 1 + 1, by simp (disch := omega) [runB, IP.start, evSs, evS, evE, evEs, liftE, bindT, bindTs, setO, nxO, setIx, idxP, seqOf, lstOf, ixN, truth, List.getElem?_cons_zero, List.getElem?_cons_succ, b_add, b_sub, b_mul, b_mod, b_div, c_lt, c_le, c_gt, c_ge, c_eqi, c_nei, Res.bnd_ok, s4, s0, biP, on1, lenP, g, onSeq, List.length_map]; rfl, ?_, by omega, by omega, by rw [← List.map_reverse]; simp only [clV, clVs_ints], fun _ h => by cases h⟩
      rw [← List.map_reverse]
      exact nom_tup (fun S => okV_ints _) (nom_unsorted (nom_rev hx.1 hl))
  obtain ⟨v, b', c', ev, nm, l1, l2, cl, nr⟩ := body
  refine ⟨v, b', c', ?_, nm, l1, l2⟩
  rw [callF_at (d := f15_l_spoilt) rfl, run_rt rfl ev, leave_ss cl nr rfl]
end Sp

set_option Elab.async false
set_option linter.all false
set_option maxRecDepth 100000
set_option maxHeartbeats 2000000
/-! SpE: the law's turns. -/
namespace Sp
open PySem IP K01
variable {S : Store}
/-! ### what is no members, asked of -/
section
variable {v : PV} (h : NoM v) (n : Nat)
include h
theorem bad4 : callF LD.T (n + 4) 4 [v] S = .exc 2 [] S := need_no rfl (n + 2) (h n S)
theorem bad_said0 (w z : PV) : callF LD.T (n + 7) 14 [.int 0, v, w, z] S = .ok (.str "members") S :=
  said_exc (n + 5) _ _ _ _ S (asked0 (n + 4) v w z S _ (bad4 h (n + 1)) (.inr rfl))
theorem bad_said1 (w z : PV) : callF LD.T (n + 7) 14 [.int 1, v, w, z] S = .ok (.str "members") S :=
  said_exc (n + 5) _ _ _ _ S (asked1 (n + 4) v w z S (many_no rfl (n + 3) (bad4 h n)))
theorem bad_said2 (w z : PV) : callF LD.T (n + 7) 14 [.int 2, v, w, z] S = .ok (.str "members") S :=
  said_exc (n + 5) _ _ _ _ S (asked2 (n + 4) v w z S (aremany_no rfl (n + 3) (bad4 h n)))
theorem bad_said3 (w z : PV) : callF LD.T (n + 7) 14 [.int 3, v, w, z] S = .ok (.str "members") S :=
  said_exc (n + 5) _ _ _ _ S (asked3 (n + 4) v w z S (apart_no1 rfl (n + 3) (bad4 h n)))
theorem bad_said3b {xs : List Int} (hx : Mem xs) (h1 : 1 ≤ xs.length) (h2 : xs.length ≤ 7) (z : PV) : callF LD.T (n + 7) 14 [.int 3, .tup (xs.map PV.int), v, z] S = .ok (.str "members") S :=
  said_exc (n + 5) _ _ _ _ S (asked3 (n + 4) _ v z S (apart_no2 rfl (n + 3) (need_true n hx h1 h2) (bad4 h n)))
end
theorem good_said0 (n : Nat) {xs : List Int} (hx : Mem xs) (h1 : 1 ≤ xs.length) (h2 : xs.length ≤ 7) (w z : PV) : callF LD.T (n + 7) 14 [.int 0, .tup (xs.map PV.int), w, z] S = .ok (.str "") S :=
  said_non (n + 5) _ _ _ _ S (asked0 (n + 4) _ w z S _ (need_true (n + 1) hx h1 h2) (.inl rfl))
theorem by_ok (n : Nat) {p : Nat} (hp : p < S.length) {a : Bool} {b c d : Int} (c1 : 0 ≤ c) (c2 : c < 90000) :
    ∃ (b' c' : Int) (xs : List Int), callF LD.T (n + 3) 11 [.ref p] (S.set p (strm a b c d)) = .ok (.tup (xs.map PV.int)) (S.set p (strm a b' c' d)) ∧ Mem xs ∧ 1 ≤ xs.length ∧ xs.length ≤ 7 ∧ c ≤ c' ∧ c' ≤ c + 8 := by
  obtain ⟨b', xs, e, h1, h2, h3, h4⟩ := members_by_ok (T := LD.T) rfl rfl rfl n (p := p) (a := a) (b := b) (c := c) (d := d) (S := S.set p (strm a b c d)) (List.getElem?_set_self hp) c1 c2
  rw [List.set_set] at e
  exact ⟨b', _, xs, e, ⟨h3, h4⟩, h1, h2, by omega, by omega⟩
/-- a comprehension whose parts change the store -/
theorem compL_inv {bd : PV → IP.Env → Option IP.Env} {own : List Nat} {cond elt : IP.Env → Store → Res PV} {ck : Store → Bool} {σ : IP.Env} {I : Nat → List PV → Store → Prop} :
    ∀ (xs : List PV) (k : Nat) (acc : List PV) (S : Store), I k acc S → (∀ i x acc S, xs[i]? = some x → I (k + i) acc S → ∃ σ1, bd x σ = some σ1 ∧ cond σ1 S = .ok (.bl true) S ∧ ∃ v S2, elt σ1 S = .ok v S2 ∧ ck S2 = true ∧ I (k + i + 1) (acc ++ [v]) S2) →
      ∃ acc' S', compL bd own cond elt ck σ xs acc S = .ok acc' S' ∧ I (k + xs.length) acc' S'
  | [], k, acc, S, h, _ => ⟨acc, S, rfl, h⟩
  | x :: xs, k, acc, S, h, hs => by
    obtain ⟨σ1, h1, hc, v, S2, h2, h3, h4⟩ := hs 0 x acc S rfl h
    obtain ⟨acc', S', e, hI⟩ := compL_inv (own := own) (ck := ck) (I := I) xs (k + 1) (acc ++ [v]) S2 (by simpa using h4) fun i y acc S hy hI => by
      have e1 : k + 1 + i = k + (i + 1) := by omega
      have := hs (i + 1) y acc S (by simpa using hy) (by rw [← e1]; exact hI)
      rw [← e1] at this
      exact this
    refine ⟨acc', S', ?_, ?_⟩
    · unfold compL
      simp only [h1, hc, truth, h2, h3, if_true]
      exact e
    · have e1 : k + 1 + xs.length = k + (x :: xs).length := by rw [List.length_cons]; omega
      rw [← e1]; exact hI
theorem ev_comp_eff {T : Tab} {cf : Nat → List PV → Store → Res PV} {m : Bool} {own : List Nat} {tg : Tg} {ik : IK} {its : List E} {elt : E} {σ : IP.Env} {S0 S : Store} {vs xs : List PV} (I : Nat → List PV → Store → Prop)
    (hv : evEs T cf its σ S0 = .ok vs S) (hi : iterOf ik vs S = some xs) (hl : xs.length ≤ lim) (h0 : I 0 [] S)
    (h : ∀ i x acc S1, xs[i]? = some x → I i acc S1 → ∃ σ1, bindT tg x (IP.wipe σ own) = some σ1 ∧ ∃ v S2, evE T cf elt σ1 S1 = .ok v S2 ∧ stays vs S S2 = true ∧ I (i + 1) (acc ++ [v]) S2) :
    ∃ acc S', evE T cf (.comp m own tg ik its [] elt) σ S0 = mkL m acc S' ∧ I xs.length acc S' := by
  obtain ⟨acc, S', e, hI⟩ := compL_inv (own := own) (ck := stays vs S) (cond := fun _ S => .ok (.bl true) S) (I := I) xs 0 [] S h0 (fun i x acc S1 hx hI => by
    obtain ⟨σ1, a, b⟩ := h i x acc S1 hx (by simpa using hI)
    refine ⟨σ1, a, rfl, ?_⟩
    simpa using b)
  refine ⟨acc, S', ?_, by simpa using hI⟩
  have q : evE T cf (.comp m own tg ik its [] elt) σ S0 = (compL (bindT tg) own (fun _ S => .ok (.bl true) S) (evE T cf elt) (stays vs S) (IP.wipe σ own) xs [] S).bnd fun ys S => mkL m ys S := by
    simp only [evE, hv, Res.bnd_ok, hi, if_pos hl]
  rw [q, e, Res.bnd_ok]
theorem ints_snoc (zs : List Int) (i : Int) : zs.map PV.int ++ [.int i] = (zs ++ [i]).map PV.int := by simp
/-- the list of scribes -/
theorem scribes_ok (n : Nat) {p : Nat} (hp : p < S.length) {a : Bool} {b c d : Int} (c1 : 0 ≤ c) (c2 : c < 80000) {σ : IP.Env} (h3 : σ[3]? = some (some (.ref p))) (hl : σ.length = 10) :
    ∃ (b' c' : Int) (zs : List Int), evE LD.T (callF LD.T (n + 2)) (.comp false [9] (.nm 9) .rng [.cst (.int 0), (.call 10 [(.var 3), (.cst (.int 11))])] [] (.call 10 [(.var 3), (.cst (.int 9))])) σ (S.set p (strm a b c d)) = .ok (.lst (zs.map PV.int)) (S.set p (strm a b' c' d)) ∧ c ≤ c' ∧ c' ≤ c + 12 := by
  have t1 := take_S n hp (a := a) (b := b) (c := c) (d := d) (m := 11) c1 (by omega) (by omega) (by omega)
  have w1 := @takeI_lt a b c d 11 (by omega)
  generalize takeI a b c d 11 = x1 at *
  generalize leftI a b c 11 = b1 at *
  have hr : rngOk 0 x1 = true := by unfold rngOk lim; exact decide_eq_true (by omega)
  have rl : (rng 0 x1).length = x1.toNat := by unfold rng; rw [List.length_map, List.length_range]; simp
  obtain ⟨acc, S', e, b', zs, ha, hS⟩ := ev_comp_eff (T := LD.T) (cf := callF LD.T (n + 2)) (m := false) (own := [9]) (tg := .nm 9) (ik := .rng) (its := [.cst (.int 0), (.call 10 [(.var 3), (.cst (.int 11))])]) (elt := .call 10 [(.var 3), (.cst (.int 9))]) (σ := σ) (S0 := S.set p (strm a b c d)) (S := S.set p (strm a b1 (c + 1) d)) (vs := [.int 0, .int x1]) (xs := rng 0 x1)
    (fun i acc S' => ∃ (b' : Int) (zs : List Int), acc = zs.map PV.int ∧ S' = S.set p (strm a b' (c + 1 + (i : Nat)) d)) (es2 rfl (by rw [ev_call (es2 (ev_var h3) rfl)]; exact t1)) (by simp only [iterOf, hr, if_true]) (by rw [rl]; unfold lim; omega) ⟨b1, [], rfl, by simp⟩ (fun i x acc S1 hx hI => by
      obtain ⟨b', zs, rfl, rfl⟩ := hI
      have hi : i < x1.toNat := by rw [← rl]; exact (List.getElem?_eq_some_iff.mp hx).1
      have t2 := take_S n hp (a := a) (b := b') (c := c + 1 + (i : Nat)) (d := d) (m := 9) (by omega) (by omega) (by omega) (by omega)
      have h9 : (IP.wipe σ [9]).length = 10 := by simp [IP.wipe, hl]
      have g3 : ((IP.wipe σ [9]).set 9 (some x))[3]? = some (some (.ref p)) := by
        rw [List.getElem?_set_ne (by omega)]
        simp only [IP.wipe]
        rw [List.getElem?_set_ne (by omega)]; exact h3
      refine ⟨(IP.wipe σ [9]).set 9 (some x), by simp [bindT, setO, h9], .int (takeI a b' (c + 1 + (i : Nat)) d 9), S.set p (strm a (leftI a b' (c + 1 + (i : Nat)) 9) (c + 1 + (i : Nat) + 1) d), by rw [ev_call (es2 (ev_var g3) rfl)]; exact t2, rfl, leftI a b' (c + 1 + (i : Nat)) 9, zs ++ [takeI a b' (c + 1 + (i : Nat)) d 9], ints_snoc _ _, ?_⟩
      congr 2; omega)
  refine ⟨b', c + 1 + (x1.toNat : Nat), zs, ?_, by omega, by omega⟩
  rw [e, ha, hS, rl]; rfl
end Sp

set_option Elab.async false
set_option linter.all false
set_option maxRecDepth 100000
set_option maxHeartbeats 4000000
/-! SpF: the law. -/
namespace Sp
open PySem IP K01
variable {S : Store}
theorem ss_ff {T : Tab} {cf : Nat → List PV → Store → Res PV} {σ : IP.Env} {S S1 : Store} {c : E} {a ss : List IP.S} (h : evE T cf c σ S = .ok (.bl false) S1) : evSs T cf (.iff c a [] :: ss) σ S = evSs T cf ss σ S1 := by
  rw [ss_nx (σ1 := σ) (S1 := S1)]
  rw [s_iff_f h rfl]; rfl
theorem ss_as {T : Tab} {cf : Nat → List PV → Store → Res PV} {σ : IP.Env} {S S1 : Store} {e : E} {v : PV} {i : Nat} {ss : List IP.S} (h : evE T cf e σ S = .ok v S1) (hi : i < σ.length) : evSs T cf (.asg (.nm i) e :: ss) σ S = evSs T cf ss (σ.set i (some v)) S1 := ss_nx (s_asg h hi)
theorem idx_next {xs : List Int} {j : Int} (h1 : 0 ≤ j) (h2 : j < 9) (S : Store) : idxP (.lst (r9.map (nextV xs))) (.int j) S = .ok (nextV xs j) S := by
  have hj : j = 0 ∨ j = 1 ∨ j = 2 ∨ j = 3 ∨ j = 4 ∨ j = 5 ∨ j = 6 ∨ j = 7 ∨ j = 8 := by omega
  rcases hj with h | h | h | h | h | h | h | h | h <;> subst h <;> rfl
theorem mem_next2 {xs : List Int} (h : Mem xs) {j : Int} (h1 : 0 ≤ j) (h2 : j < 9) : Mem (nextI xs j) := by
  refine ⟨next_sorted h.1 j, fun x hx => ?_⟩
  rw [mem_next] at hx
  split at hx
  · exact h.2 x hx.1
  · rcases hx with hx | rfl
    · exact h.2 x hx
    · omega
theorem ne_emp (zs : List Int) (S : Store) : cmpP .ne (.tup (zs.map PV.int)) (.tup []) S = .ok (.bl (decide (0 < zs.length))) S := by
  have p := plVs_ints zs
  have e : eqP S (.tup (zs.map PV.int)) (.tup []) = some (!decide (0 < zs.length)) := by
    cases zs with
    | nil => rfl
    | cons z zs => simp only [eqP, top, plV, p.1, plVs, dpV, p.2, dpVs]; rfl
  simp only [cmpP, eqQ, e]; simp
theorem strm_set {a : Bool} {b d : Int} : S ++ [strm a b 0 d] = (S ++ [strm a b 0 d]).set S.length (strm a b 0 d) := by
  rw [List.set_append_right _ _ (by simp)]; simp
theorem ev_slc {T : Tab} {cf : Nat → List PV → Store → Res PV} {m : Bool} {a : E} {lo hi : List E} {σ : IP.Env} {S S1 S2 S3 : Store} {x : PV} {l h : Option Int} (ha : evE T cf a σ S = .ok x S1) (hl : ptR (evEs T cf lo σ S1) = .ok l S2) (hh : ptR (evEs T cf hi σ S2) = .ok h S3) :
    evE T cf (.slc m a lo hi) σ S = slcP m x l h S3 := by
  simp only [evE, ha, Res.bnd_ok, hl, hh]
theorem es_cons {T : Tab} {cf : Nat → List PV → Store → Res PV} {σ : IP.Env} {S S1 S2 : Store} {e : E} {es : List E} {v : PV} {vs : List PV} (h : evE T cf e σ S = .ok v S1) (h' : evEs T cf es σ S1 = .ok vs S2) : evEs T cf (e :: es) σ S = .ok (v :: vs) S2 := by
  simp only [evEs, h, h', Res.bnd_ok]
theorem ev_lst_t {T : Tab} {cf : Nat → List PV → Store → Res PV} {σ : IP.Env} {S S1 : Store} {es : List E} {vs : List PV} (h : evEs T cf es σ S = .ok vs S1) : evE T cf (.lst true es) σ S = .ok (.ref S1.length) (S1 ++ [.lst vs]) := by
  simp only [evE, h, Res.bnd_ok, mkL]
theorem leave_new {S S' : Store} : leave false S (.ref S.length) S' = (.ref S.length, S') := by
  simp [leave, thaw, clV]
theorem stream_ok (n : Nat) (v : PV) {i : Nat} (hi : i < 63) (x : Int) (S : Store) (K : Int) (hK : (10 : Int) ^ (18 : Int).toNat = K) : callF LD.T (n + 2) 9 [v, .int x, .int (i : Nat)] S = .ok (.ref S.length) (S ++ [strm (decide (K ≤ x)) x 0 (mixI x i)]) := by
  have m := mixed_ok (T := LD.T) rfl n x i S (by omega) (by omega)
  have bp : ∀ S' : Store, binP false .pow (.int 10) (.int 18) S' = .ok (.int K) S' := fun S' => by rw [b_pow _ _ _ _ (by decide), hK]
  have e1 : evE LD.T (callF LD.T (n + 1)) (.cmp .ge (.var 1) (.bin false .pow (.cst (.int 10)) (.cst (.int 18)))) [some v, some (.int x), some (.int (i : Nat))] S = .ok (.bl (decide (K ≤ x))) S := by
    simp only [evE, List.getElem?_cons_succ, List.getElem?_cons_zero, Res.bnd_ok, bp, c_ge]
  have e2 : evE LD.T (callF LD.T (n + 1)) (.call 8 [(.var 1), (.var 2)]) [some v, some (.int x), some (.int (i : Nat))] S = .ok (.int (mixI x i)) S := by
    rw [ev_call (es2 (ev_var rfl) (ev_var rfl))]; exact m
  have e3 : evE LD.T (callF LD.T (n + 1)) (.lst true [(.cmp .ge (.var 1) (.bin false .pow (.cst (.int 10)) (.cst (.int 18)))), (.var 1), (.cst (.int 0)), (.call 8 [(.var 1), (.var 2)])]) [some v, some (.int x), some (.int (i : Nat))] S = .ok (.ref S.length) (S ++ [strm (decide (K ≤ x)) x 0 (mixI x i)]) := by
    have q : evEs LD.T (callF LD.T (n + 1)) [(.cmp .ge (.var 1) (.bin false .pow (.cst (.int 10)) (.cst (.int 18)))), (.var 1), (.cst (.int 0)), (.call 8 [(.var 1), (.var 2)])] [some v, some (.int x), some (.int (i : Nat))] S = .ok [.bl (decide (K ≤ x)), .int x, .int 0, .int (mixI x i)] S := by
      exact es_cons e1 (es_cons (ev_var rfl) (es2 rfl e2))
    exact ev_lst_t q
  have body : evSs LD.T (callF LD.T (n + 1)) f9_l_stream.body (IP.start f9_l_stream [v, .int x, .int (i : Nat)]) S = .rt (.ref S.length) (S ++ [strm (decide (K ≤ x)) x 0 (mixI x i)]) := by
    have e4 := ss_rt (ss := []) (s_ret e3)
    exact e4
  rw [callF_at (d := f9_l_stream) rfl, run_rt (d := f9_l_stream) rfl body]
  have lv : leave f9_l_stream.frz S (.ref S.length) (S ++ [strm (decide (K ≤ x)) x 0 (mixI x i)]) = (.ref S.length, S ++ [strm (decide (K ≤ x)) x 0 (mixI x i)]) := leave_new
  rw [lv]
def lawBody : List IP.S := match f19_law.body with
  | [.for _ _ _ b, _] => b
  | _ => []
theorem isn_t (b : Bool) (S : Store) : cmpP .isn (.bl b) (.bl true) S = .ok (.bl (!b)) S := by cases b <;> rfl
theorem isn_f (b : Bool) (S : Store) : cmpP .isn (.bl b) (.bl false) S = .ok (.bl b) S := by cases b <;> rfl
theorem ne_mem (S : Store) : cmpP .ne (.str "members") (.str "members") S = .ok (.bl false) S := rfl
theorem ne_emp2 (S : Store) : cmpP .ne (.str "") (.str "") S = .ok (.bl false) S := rfl
theorem turn_ok (n : Nat) {ns : List PV} {i : Nat} (hi : i < 63) (x : Int) (v3 v4 v5 v6 v7 v8 v9 : Option PV) (S : Store) :
    ∃ w3 w4 w5 w6 w7 w8 w9 S', evSs LD.T (callF LD.T (n + 9)) lawBody [some (.lst ns), some (.int (i : Nat)), some (.int x), v3, v4, v5, v6, v7, v8, v9] S = .nx [some (.lst ns), some (.int (i : Nat)), some (.int x), w3, w4, w5, w6, w7, w8, w9] S' := by
  obtain ⟨K, hK⟩ : ∃ K : Int, (10 : Int) ^ (18 : Int).toNat = K := ⟨_, rfl⟩
  have e9 := stream_ok (n + 7) (.lst ns) hi x S K hK
  generalize decide (K ≤ x) = a at *
  clear hK
  generalize mixI x i = d at *
  rw [strm_set] at e9
  let S1 : Store := S ++ [strm a x 0 d]
  have hp : S.length < S1.length := by simp [S1]
  obtain ⟨b1, c1, xs, e11, mx, x1, x2, l1, l2⟩ := by_ok (n + 6) hp (a := a) (b := x) (c := 0) (d := d) (by omega) (by omega)
  obtain ⟨b2, c2, ys0, e11', my, y1, y2, l3, l4⟩ := by_ok (n + 6) hp (a := a) (b := b1) (c := c1) (d := d) (by omega) (by omega)
  have t1 := take_S (n + 7) hp (a := a) (b := b2) (c := c2) (d := d) (m := 2) (by omega) (by omega) (by omega) (by omega)
  have t2 := take_S (n + 7) hp (a := a) (b := leftI a b2 c2 2) (c := c2 + 1) (d := d) (m := 9) (by omega) (by omega) (by omega) (by omega)
  have w2 := @takeI_lt a (leftI a b2 c2 2) (c2 + 1) d 9 (by omega)
  generalize takeI a b2 c2 d 2 = u1 at *
  generalize leftI a b2 c2 2 = b3 at *
  generalize takeI a b3 (c2 + 1) d 9 = u2 at *
  generalize leftI a b3 (c2 + 1) 9 = b4 at *
  have nx := nexts_ok (T := LD.T) rfl (n + 8) (xs := xs) (S := S1.set S.length (strm a b3 (c2 + 1) d)) (by omega)
  let zs0 : List Int := if u1 = 1 then nextI xs u2 else ys0
  have mz0 : Mem zs0 := by
    show Mem (if u1 = 1 then nextI xs u2 else ys0)
    split
    · exact mem_next2 mx w2.1 w2.2
    · exact my
  let b5 : Int := if u1 = 1 then b4 else b3
  let c5 : Int := if u1 = 1 then c2 + 1 + 1 else c2 + 1
  have hc5 : 0 ≤ c5 ∧ c5 ≤ 20 := by
    show 0 ≤ (if u1 = 1 then c2 + 1 + 1 else c2 + 1) ∧ (if u1 = 1 then c2 + 1 + 1 else c2 + 1) ≤ 20
    split <;> omega
  let ys : List Int := if 0 < zs0.length ∧ zs0.length < 8 then zs0 else xs
  have hy : Mem ys ∧ 1 ≤ ys.length ∧ ys.length ≤ 7 := by
    show Mem (if 0 < zs0.length ∧ zs0.length < 8 then zs0 else xs) ∧ 1 ≤ (if 0 < zs0.length ∧ zs0.length < 8 then zs0 else xs).length ∧ (if 0 < zs0.length ∧ zs0.length < 8 then zs0 else xs).length ≤ 7
    split
    · exact ⟨mz0, by omega, by omega⟩
    · exact ⟨mx, x1, x2⟩
  let σ0 : IP.Env := [some (.lst ns), some (.int (i : Nat)), some (.int x), some (.ref S.length), some (.tup (xs.map PV.int)), some (.tup (ys.map PV.int)), v6, v7, v8, v9]
  obtain ⟨b6, c6, zs, ec, l5, l6⟩ := scribes_ok (n + 7) hp (a := a) (b := b5) (c := c5) (d := d) hc5.1 (by omega) (σ := σ0) rfl rfl
  obtain ⟨b7, en⟩ := number_ok (n + 3) hp (a := a) (b := b6) (c := c6) (d := d) (by omega) (by omega)
  have er := right_ok (n + 2) (S := S1.set S.length (strm a b6 c6 d)) (xs := xs) (ys := ys) (zs := zs) mx x1 x2 hy.1 hy.2.1 hy.2.2
  have m1 := fun S => mem_true (S := S) (n + 6) mx x1 x2
  have m2 := fun S => mem_true (S := S) (n + 6) hy.1 hy.2.1 hy.2.2
  obtain ⟨v, b8, c8, es, nm, l7, l8⟩ := spoilt_ok (n + 6) hp (a := a) (b := b7) (c := c6 + 4) (d := d) (by omega) (by omega) mx x1 x2
  let S8 : Store := S1.set S.length (strm a b8 c8 d)
  have k3 : callF LD.T (n + 9) 3 [v] S8 = .ok (.bl false) S8 := nm (n + 6) S8
  have g0 : ∀ w z, callF LD.T (n + 9) 14 [.int 0, .tup (xs.map PV.int), w, z] S8 = .ok (.str "") S8 := fun w z => good_said0 (n + 2) mx x1 x2 w z
  have q0 : ∀ w z, callF LD.T (n + 9) 14 [.int 0, v, w, z] S8 = .ok (.str "members") S8 := fun w z => bad_said0 nm (n + 2) w z
  have q1 : ∀ w z, callF LD.T (n + 9) 14 [.int 1, v, w, z] S8 = .ok (.str "members") S8 := fun w z => bad_said1 nm (n + 2) w z
  have q2 : ∀ w z, callF LD.T (n + 9) 14 [.int 2, v, w, z] S8 = .ok (.str "members") S8 := fun w z => bad_said2 nm (n + 2) w z
  have q3 : ∀ w z, callF LD.T (n + 9) 14 [.int 3, v, w, z] S8 = .ok (.str "members") S8 := fun w z => bad_said3 nm (n + 2) w z
  have q3b : ∀ z, callF LD.T (n + 9) 14 [.int 3, .tup (xs.map PV.int), v, z] S8 = .ok (.str "members") S8 := fun z => bad_said3b nm (n + 2) mx x1 x2 z
  refine ⟨some (.ref S.length), some (.tup (xs.map PV.int)), some (.tup (ys.map PV.int)), some (.lst (zs.map PV.int)), some v, some (.int 3), v9, S8, ?_⟩
  show evSs LD.T _ [_, _, _, _, _, _, _, _, _, _, _, _] _ S = _
  rw [ss_as (v := .ref S.length) (S1 := S1.set S.length (strm a x 0 d)) (by rw [ev_call (vs := [.lst ns, .int x, .int (i : Nat)]) (S1 := S) (by simp (disch := omega) [runB, IP.start, evSs, evS, evE, evEs, liftE, bindT, bindTs, setO, nxO, setIx, idxP, seqOf, lstOf, ixN, truth, List.getElem?_cons_zero, List.getElem?_cons_succ, b_add, b_sub, b_mul, b_mod, b_div, c_lt, c_le, c_gt, c_ge, c_eqi, c_nei, Res.bnd_ok])]; exact e9) (by simp)]
  simp only [List.set_cons_succ, List.set_cons_zero]
  rw [ss_as (v := .tup (xs.map PV.int)) (S1 := S1.set S.length (strm a b1 c1 d)) (by rw [ev_call (es1 (ev_var rfl))]; exact e11) (by simp)]
  simp only [List.set_cons_succ, List.set_cons_zero]
  rw [ss_as (v := .tup (ys0.map PV.int)) (S1 := S1.set S.length (strm a b2 c2 d)) (by rw [ev_call (es1 (ev_var rfl))]; exact e11') (by simp)]
  simp only [List.set_cons_succ, List.set_cons_zero]
  have p3 : evS LD.T (callF LD.T (n + 9)) (.iff (.cmp .eq (.call 10 [(.var 3), (.cst (.int 2))]) (.cst (.int 1))) [.asg (.nm 5) (.idx (.call 16 [(.var 4)]) (.call 10 [(.var 3), (.cst (.int 9))]))] []) [some (.lst ns), some (.int (i : Nat)), some (.int x), some (.ref S.length), some (.tup (xs.map PV.int)), some (.tup (ys0.map PV.int)), v6, v7, v8, v9] (S1.set S.length (strm a b2 c2 d))
      = .nx [some (.lst ns), some (.int (i : Nat)), some (.int x), some (.ref S.length), some (.tup (xs.map PV.int)), some (.tup (zs0.map PV.int)), v6, v7, v8, v9] (S1.set S.length (strm a b5 c5 d)) := by
    by_cases hu : u1 = 1
    · have hz : zs0 = nextI xs u2 := if_pos hu
      have hb : b5 = b4 := if_pos hu
      have hc : c5 = c2 + 1 + 1 := if_pos hu
      have ix := idx_next (xs := xs) w2.1 w2.2 (S1.set S.length (strm a b4 (c2 + 1 + 1) d))
      have ei : evE LD.T (callF LD.T (n + 9)) (.idx (.call 16 [(.var 4)]) (.call 10 [(.var 3), (.cst (.int 9))])) [some (.lst ns), some (.int (i : Nat)), some (.int x), some (.ref S.length), some (.tup (xs.map PV.int)), some (.tup (ys0.map PV.int)), v6, v7, v8, v9] (S1.set S.length (strm a b3 (c2 + 1) d)) = .ok (nextV xs u2) (S1.set S.length (strm a b4 (c2 + 1 + 1) d)) := by
        simp only [evE, evEs, List.getElem?_cons_zero, List.getElem?_cons_succ, Res.bnd_ok, nx, t2, ix]
      rw [s_iff_t (v := .bl true) (S1 := S1.set S.length (strm a b3 (c2 + 1) d)) (by simp (disch := omega) [runB, IP.start, evSs, evS, evE, evEs, liftE, bindT, bindTs, setO, nxO, setIx, idxP, seqOf, lstOf, ixN, truth, List.getElem?_cons_zero, List.getElem?_cons_succ, b_add, b_sub, b_mul, b_mod, b_div, c_lt, c_le, c_gt, c_ge, c_eqi, c_nei, Res.bnd_ok, t1, hu]) rfl, ss_one, s_asg ei (by simp), hz, hb, hc]
      rfl
    · have hz : zs0 = ys0 := if_neg hu
      have hb : b5 = b3 := if_neg hu
      have hc : c5 = c2 + 1 := if_neg hu
      rw [s_iff_f (v := .bl false) (S1 := S1.set S.length (strm a b3 (c2 + 1) d)) (by simp (disch := omega) [runB, IP.start, evSs, evS, evE, evEs, liftE, bindT, bindTs, setO, nxO, setIx, idxP, seqOf, lstOf, ixN, truth, List.getElem?_cons_zero, List.getElem?_cons_succ, b_add, b_sub, b_mul, b_mod, b_div, c_lt, c_le, c_gt, c_ge, c_eqi, c_nei, Res.bnd_ok, t1, hu]) rfl, hz, hb, hc]
      rfl
  rw [ss_nx p3]
  have p4 : evE LD.T (callF LD.T (n + 9)) (.ite (.and (.cmp .ne (.var 5) (.tup [])) (.cmp .lt (.bi false .len [(.var 5)]) (.cst (.int 8)))) (.var 5) (.var 4)) [some (.lst ns), some (.int (i : Nat)), some (.int x), some (.ref S.length), some (.tup (xs.map PV.int)), some (.tup (zs0.map PV.int)), v6, v7, v8, v9] (S1.set S.length (strm a b5 c5 d)) = .ok (.tup (ys.map PV.int)) (S1.set S.length (strm a b5 c5 d)) := by
    have ne := ne_emp zs0 (S1.set S.length (strm a b5 c5 d))
    by_cases h1 : 0 < zs0.length
    · by_cases h2 : zs0.length < 8
      · have hys : ys = zs0 := if_pos ⟨h1, h2⟩
        have h2' : decide (((zs0.length : Nat) : Int) < 8) = true := decide_eq_true (by omega)
        rw [decide_eq_true h1] at ne
        rw [hys]
        simp (disch := omega) [runB, IP.start, evSs, evS, evE, evEs, liftE, bindT, bindTs, setO, nxO, setIx, idxP, seqOf, lstOf, ixN, truth, List.getElem?_cons_zero, List.getElem?_cons_succ, b_add, b_sub, b_mul, b_mod, b_div, c_lt, c_le, c_gt, c_ge, c_eqi, c_nei, Res.bnd_ok, ne, biP, on1, lenP, List.length_map, h2']
      · have hys : ys = xs := if_neg (by omega)
        have h2' : decide (((zs0.length : Nat) : Int) < 8) = false := decide_eq_false (by omega)
        rw [decide_eq_true h1] at ne
        rw [hys]
        simp (disch := omega) [runB, IP.start, evSs, evS, evE, evEs, liftE, bindT, bindTs, setO, nxO, setIx, idxP, seqOf, lstOf, ixN, truth, List.getElem?_cons_zero, List.getElem?_cons_succ, b_add, b_sub, b_mul, b_mod, b_div, c_lt, c_le, c_gt, c_ge, c_eqi, c_nei, Res.bnd_ok, ne, biP, on1, lenP, List.length_map, h2']
    · have hys : ys = xs := if_neg (by omega)
      rw [decide_eq_false h1] at ne
      rw [hys]
      simp (disch := omega) [runB, IP.start, evSs, evS, evE, evEs, liftE, bindT, bindTs, setO, nxO, setIx, idxP, seqOf, lstOf, ixN, truth, List.getElem?_cons_zero, List.getElem?_cons_succ, b_add, b_sub, b_mul, b_mod, b_div, c_lt, c_le, c_gt, c_ge, c_eqi, c_nei, Res.bnd_ok, ne]
  rw [ss_as p4 (by simp)]
  simp only [List.set_cons_succ, List.set_cons_zero]
  rw [ss_as ec (by simp [σ0])]
  simp only [σ0, List.set_cons_succ, List.set_cons_zero]
  rw [ss_ff (S1 := S1.set S.length (strm a b6 c6 d)) (by simp (disch := omega) [runB, IP.start, evSs, evS, evE, evEs, liftE, bindT, bindTs, setO, nxO, setIx, idxP, seqOf, lstOf, ixN, truth, List.getElem?_cons_zero, List.getElem?_cons_succ, b_add, b_sub, b_mul, b_mod, b_div, c_lt, c_le, c_gt, c_ge, c_eqi, c_nei, Res.bnd_ok, m1, m2, isn_t])]
  rw [ss_ff (S1 := S1.set S.length (strm a b7 (c6 + 4) d)) (by simp (disch := omega) [runB, IP.start, evSs, evS, evE, evEs, liftE, bindT, bindTs, setO, nxO, setIx, idxP, seqOf, lstOf, ixN, truth, List.getElem?_cons_zero, List.getElem?_cons_succ, b_add, b_sub, b_mul, b_mod, b_div, c_lt, c_le, c_gt, c_ge, c_eqi, c_nei, Res.bnd_ok, er, en])]
  rw [ss_as (v := v) (S1 := S8) (by simp (disch := omega) [runB, IP.start, evSs, evS, evE, evEs, liftE, bindT, bindTs, setO, nxO, setIx, idxP, seqOf, lstOf, ixN, truth, List.getElem?_cons_zero, List.getElem?_cons_succ, b_add, b_sub, b_mul, b_mod, b_div, c_lt, c_le, c_gt, c_ge, c_eqi, c_nei, Res.bnd_ok, es]; rfl) (by simp)]
  simp only [List.set_cons_succ, List.set_cons_zero]
  rw [ss_ff (S1 := S8) (by simp (disch := omega) [runB, IP.start, evSs, evS, evE, evEs, liftE, bindT, bindTs, setO, nxO, setIx, idxP, seqOf, lstOf, ixN, truth, List.getElem?_cons_zero, List.getElem?_cons_succ, b_add, b_sub, b_mul, b_mod, b_div, c_lt, c_le, c_gt, c_ge, c_eqi, c_nei, Res.bnd_ok, k3, isn_f, g0, ne_emp2])]
  have p10 : ∀ w8 : Option PV, evS LD.T (callF LD.T (n + 9)) (.for (.nm 8) .rng [.cst (.int 0), (.cst (.int 4))] [.iff (.cmp .ne (.call 14 [(.var 8), (.var 7), (.idx (.lst false [(.var 5), (.var 6), (.var 6), (.var 5)]) (.var 8)), (.cst .non)]) (.cst (.str "members"))) [.ret (.cst (.bl false))] []]) [some (.lst ns), some (.int (i : Nat)), some (.int x), some (.ref S.length), some (.tup (xs.map PV.int)), some (.tup (ys.map PV.int)), some (.lst (zs.map PV.int)), some v, w8, v9] S8
      = .nx [some (.lst ns), some (.int (i : Nat)), some (.int x), some (.ref S.length), some (.tup (xs.map PV.int)), some (.tup (ys.map PV.int)), some (.lst (zs.map PV.int)), some v, some (.int 3), v9] S8 := fun w8 => by
    have r4 : rng 0 4 = [.int 0, .int 1, .int 2, .int 3] := rfl
    have ro : rngOk 0 4 = true := rfl
    rw [ev_for (vs := [.int 0, .int 4]) (xs := rng 0 4) rfl (by simp only [iterOf, ro, if_true]), r4]
    have st : ∀ S S' : Store, stays [.int 0, .int 4] S S' = true := fun _ _ => rfl
    have one : ∀ (j : Nat) (u8 : Option PV), j < 4 → evSs LD.T (callF LD.T (n + 9)) [.iff (.cmp .ne (.call 14 [(.var 8), (.var 7), (.idx (.lst false [(.var 5), (.var 6), (.var 6), (.var 5)]) (.var 8)), (.cst .non)]) (.cst (.str "members"))) [.ret (.cst (.bl false))] []] [some (.lst ns), some (.int (i : Nat)), some (.int x), some (.ref S.length), some (.tup (xs.map PV.int)), some (.tup (ys.map PV.int)), some (.lst (zs.map PV.int)), some v, some (.int j), v9] S8
        = .nx [some (.lst ns), some (.int (i : Nat)), some (.int x), some (.ref S.length), some (.tup (xs.map PV.int)), some (.tup (ys.map PV.int)), some (.lst (zs.map PV.int)), some v, some (.int j), v9] S8 := fun j u8 hj => by
      rw [ss_ff (S1 := S8)]
      · rfl
      · have hj' : j = 0 ∨ j = 1 ∨ j = 2 ∨ j = 3 := by omega
        rcases hj' with h | h | h | h <;> subst h <;> simp (disch := omega) [runB, IP.start, evSs, evS, evE, evEs, liftE, bindT, bindTs, setO, nxO, setIx, idxP, seqOf, lstOf, ixN, truth, List.getElem?_cons_zero, List.getElem?_cons_succ, b_add, b_sub, b_mul, b_mod, b_div, c_lt, c_le, c_gt, c_ge, c_eqi, c_nei, Res.bnd_ok, mkL, q0, q1, q2, q3, ne_mem]
    have go : ∀ (j : Int) (jn : Nat) (u8 : Option PV) (l : List PV), j = jn → jn < 4 → forL (bindT (.nm 8)) (evSs LD.T (callF LD.T (n + 9)) [.iff (.cmp .ne (.call 14 [(.var 8), (.var 7), (.idx (.lst false [(.var 5), (.var 6), (.var 6), (.var 5)]) (.var 8)), (.cst .non)]) (.cst (.str "members"))) [.ret (.cst (.bl false))] []]) (stays [.int 0, .int 4] S8) (.int j :: l) [some (.lst ns), some (.int (i : Nat)), some (.int x), some (.ref S.length), some (.tup (xs.map PV.int)), some (.tup (ys.map PV.int)), some (.lst (zs.map PV.int)), some v, u8, v9] S8
        = forL (bindT (.nm 8)) (evSs LD.T (callF LD.T (n + 9)) [.iff (.cmp .ne (.call 14 [(.var 8), (.var 7), (.idx (.lst false [(.var 5), (.var 6), (.var 6), (.var 5)]) (.var 8)), (.cst .non)]) (.cst (.str "members"))) [.ret (.cst (.bl false))] []]) (stays [.int 0, .int 4] S8) l [some (.lst ns), some (.int (i : Nat)), some (.int x), some (.ref S.length), some (.tup (xs.map PV.int)), some (.tup (ys.map PV.int)), some (.lst (zs.map PV.int)), some v, some (.int j), v9] S8 := fun j jn u8 l e hj => by
      subst e
      have o := one jn u8 hj
      conv => lhs; unfold forL
      simp only [bindT, setO, List.length_cons, List.length_nil]
      rw [if_pos (by omega)]
      simp only [List.set_cons_succ, List.set_cons_zero, o, st, if_true]
    rw [go 0 0 _ _ rfl (by omega), go 1 1 _ _ rfl (by omega), go 2 2 _ _ rfl (by omega), go 3 3 _ _ rfl (by omega)]
    rfl
  rw [ss_nx (p10 _)]
  rw [ss_ff (S1 := S8) (by simp (disch := omega) [runB, IP.start, evSs, evS, evE, evEs, liftE, bindT, bindTs, setO, nxO, setIx, idxP, seqOf, lstOf, ixN, truth, List.getElem?_cons_zero, List.getElem?_cons_succ, b_add, b_sub, b_mul, b_mod, b_div, c_lt, c_le, c_gt, c_ge, c_eqi, c_nei, Res.bnd_ok, q3b, q3, ne_mem])]
  rfl
theorem law_body (n : Nat) (ns : List Int) (h : ns.length ≤ 63) : ∃ S, callF LD.T (n + 10) 19 [.lst (ns.map PV.int)] [] = .ok (.bl true) S := by
  let xs : List PV := ((ns.map PV.int ++ [PV.int 0]).take 63).zipIdx.map fun p => .tup [.int (p.2 : Nat), p.1]
  have hit : evEs LD.T (callF LD.T (n + 9)) [(.slc false (.bin false .add (.var 0) (.lst false [(.cst (.int 0))])) [] [(.cst (.int 63))])] [some (.lst (ns.map PV.int)), none, none, none, none, none, none, none, none, none] [] = .ok [.lst ((ns.map PV.int ++ [PV.int 0]).take 63)] [] := by
    have hl : (ns.map PV.int).length + [PV.int 0].length ≤ lim := by simp [lim]; omega
    have e0 : ∀ S : Store, binP false .add (.lst (ns.map PV.int)) (.lst [.int 0]) S = .ok (.lst (ns.map PV.int ++ [PV.int 0])) S := fun S => by
      simp only [binP, addP, lstOf, if_pos hl, mkL]
    have ec : cut (ns.map PV.int ++ [PV.int 0]) none (some 63) = (ns.map PV.int ++ [PV.int 0]).take 63 := by
      simp only [cut, sIx]
      rw [if_neg (by omega)]
      simp only [List.drop_zero, Nat.sub_zero]
      have e : min (63 : Int).toNat (ns.map PV.int ++ [PV.int 0]).length = min 63 (ns.map PV.int ++ [PV.int 0]).length := rfl
      rw [e]
      by_cases hm : 63 ≤ (ns.map PV.int ++ [PV.int 0]).length
      · rw [Nat.min_eq_left hm]
      · rw [Nat.min_eq_right (by omega), List.take_of_length_le (Nat.le_refl _), List.take_of_length_le (by omega)]
    have g0 : evE LD.T (callF LD.T (n + 9)) (.bin false .add (.var 0) (.lst false [(.cst (.int 0))])) [some (.lst (ns.map PV.int)), none, none, none, none, none, none, none, none, none] [] = .ok (.lst (ns.map PV.int ++ [PV.int 0])) [] := by
      simp only [evE, evEs, List.getElem?_cons_zero, Res.bnd_ok, mkL, e0]
    refine es1 ?_
    rw [ev_slc g0 (l := none) (S2 := []) rfl (h := some 63) (S3 := []) rfl]
    simp only [slcP, lstOf, mkL, ec]
  have hx : ∀ i y, xs[i]? = some y → i < 63 ∧ ∃ c : Int, y = .tup [.int (i : Nat), .int c] := fun i y hy => by
    have hl : i < xs.length := (List.getElem?_eq_some_iff.mp hy).1
    have h63 : xs.length ≤ 63 := by simp [xs]; omega
    refine ⟨by omega, ?_⟩
    simp only [xs, List.getElem?_map, List.getElem?_zipIdx, Option.map_map] at hy
    obtain ⟨v, hv, rfl⟩ := Option.map_eq_some_iff.mp hy
    have hm : v ∈ ns.map PV.int ++ [PV.int 0] := List.mem_of_mem_take (List.mem_of_getElem? hv)
    have : ∃ c : Int, v = .int c := by
      simp only [List.mem_append, List.mem_map, List.mem_singleton] at hm
      rcases hm with ⟨c, _, rfl⟩ | rfl
      · exact ⟨c, rfl⟩
      · exact ⟨0, rfl⟩
    obtain ⟨c, rfl⟩ := this
    exact ⟨c, by simp⟩
  obtain ⟨σ', S', e, v1, v2, v3, v4, v5, v6, v7, v8, v9, hs⟩ := forL_inv (bd := bindT (.tp [.nm 1, .nm 2])) (body := evSs LD.T (callF LD.T (n + 9)) lawBody) (ck := stays [.lst ((ns.map PV.int ++ [PV.int 0]).take 63)] [])
    (I := fun _ σ _ => ∃ v1 v2 v3 v4 v5 v6 v7 v8 v9 : Option PV, σ = [some (.lst (ns.map PV.int)), v1, v2, v3, v4, v5, v6, v7, v8, v9]) xs 0 [some (.lst (ns.map PV.int)), none, none, none, none, none, none, none, none, none] []
    ⟨none, none, none, none, none, none, none, none, none, rfl⟩ (fun i y σ S hy hI => by
      obtain ⟨v1, v2, v3, v4, v5, v6, v7, v8, v9, rfl⟩ := hI
      obtain ⟨hi, c, rfl⟩ := hx i y hy
      obtain ⟨w3, w4, w5, w6, w7, w8, w9, S', e⟩ := turn_ok n (ns := ns.map PV.int) hi c v3 v4 v5 v6 v7 v8 v9 S
      exact ⟨_, by simp [bindT, bindTs, setO], _, _, e, rfl, _, _, _, _, _, _, _, _, _, rfl⟩)
  subst hs
  have io : iterOf .enum [.lst ((ns.map PV.int ++ [PV.int 0]).take 63)] [] = some xs := rfl
  have body : evSs LD.T (callF LD.T (n + 9)) f19_law.body (IP.start f19_law [.lst (ns.map PV.int)]) [] = .rt (.bl true) S' := by
    show evSs LD.T _ [.for _ _ _ lawBody, _] [some (.lst (ns.map PV.int)), none, none, none, none, none, none, none, none, none] _ = _
    rw [ss_nx ((ev_for hit io).trans e)]
    rfl
  rw [callF_at (d := f19_law) rfl, run_rt rfl body]
  exact ⟨_, by
    have : ∀ f S', (leave f [] (.bl true) S').1 = .bl true := fun f S' => by
      unfold leave
      have ht : thaw f [] S' (.bl true) = .bl true := rfl
      rw [ht]
      split <;> rfl
    rw [this]⟩
end Sp

set_option Elab.async false
set_option linter.all false
set_option maxRecDepth 100000
set_option maxHeartbeats 0
namespace K01
open PySem PySem.Spec PyProof.Rows L2 IP
def top (i : Nat) : Stmt := PySem.Challenge.pw_scribehall_k01_numbers_and_members.main.body.getD i (.Pass ⟨0, 0, 0, 0⟩)
def mkD (x : Str) (i : Nat) : He.DefD := ⟨(x, none), x, x, defArgs (top i), defBody (top i), defScope (top i), [], []⟩
def dfn : List He.DefD := ([mkD "is_whole" 21, mkD "is_among" 22, mkD "need_number" 23, mkD "are_members" 26, mkD "need_members" 27, mkD "many_of" 28, mkD "are_many" 29, mkD "is_one_apart" 30, mkD "_law_mixed" 32, mkD "_law_stream" 33, mkD "_law_take" 34, mkD "_law_members_by" 35, mkD "_law_word" 36, mkD "_law_asked" 37, mkD "_law_said" 38, mkD "_law_spoilt" 39, mkD "_law_nexts" 40, mkD "_law_number_right" 41, mkD "_law_members_right" 42, mkD "law" 43] : List He.DefD)
abbrev RR : PySem.W.OpenRow := PySem.W.OpenLaw.row PySem.Challenge.rw_scribehall_k01_numbers_and_members
abbrev hk : PySem.W.Hook := hookE 5 LD.fa dfn LD.ex
def ob (s : PySem.W.SharedT) : AlE := obsE 5 LD.fa dfn LD.ex (HandSHeadRun.getT s)
theorem ob_eq (s : PySem.W.SharedT) : ob s = hk.obs s.abs := obsE_eq (HandSHeadRun.getT_eq s)
def loose : List Str := (["ScribeError", "BadNumber", "BadMembers", "BadDeed", "BadAsk", "BadFold", "BadLetter", "BadKept", "NoPlace", "NotHead", "NotYet", "NoScribe", "NoLetter", "BadPaper", "BadHistory", "BadText", "BadLine", "Away", "LAST_SCRIBE", "is_whole", "is_among", "need_number", "MOST_MEMBERS", "are_members", "need_members"] : List Str) ++
  (["many_of", "are_many", "is_one_apart", "_law_mixed", "_law_stream", "_law_take", "_law_members_by", "_law_word", "_law_asked", "_law_said", "_law_spoilt", "_law_nexts", "_law_number_right", "_law_members_right"] : List Str)
theorem run (w : World) : HandSHeadRun.RunEq RR (PySem.W.view RR.prog [43]) hk ob 6000 loose w := by
  intro os
  kernel_rfl
theorem df_0 : DfOk LD dfn 0 0 f0_is_whole := ⟨mkD "is_whole" 21, rfl, rfl, rfl, by decide +kernel, fun kV doc pm an cdv ct us hl => match us, hl with | [_], _ => rfl⟩
theorem df_1 : DfOk LD dfn 1 1 f1_is_among := ⟨mkD "is_among" 22, rfl, rfl, rfl, by decide +kernel, fun kV doc pm an cdv ct us hl => match us, hl with | [_, _, _], _ => rfl⟩
theorem df_2 : DfOk LD dfn 2 2 f2_need_number := ⟨mkD "need_number" 23, rfl, rfl, rfl, by decide +kernel, fun kV doc pm an cdv ct us hl => match us, hl with | [_, _, _], _ => rfl⟩
theorem df_3 : DfOk LD dfn 3 3 f3_are_members := ⟨mkD "are_members" 26, rfl, rfl, rfl, by decide +kernel, fun kV doc pm an cdv ct us hl => match us, hl with | [_], _ => rfl⟩
theorem df_4 : DfOk LD dfn 4 4 f4_need_members := ⟨mkD "need_members" 27, rfl, rfl, rfl, by decide +kernel, fun kV doc pm an cdv ct us hl => match us, hl with | [_], _ => rfl⟩
theorem df_5 : DfOk LD dfn 5 5 f5_many_of := ⟨mkD "many_of" 28, rfl, rfl, rfl, by decide +kernel, fun kV doc pm an cdv ct us hl => match us, hl with | [_], _ => rfl⟩
theorem df_6 : DfOk LD dfn 6 6 f6_are_many := ⟨mkD "are_many" 29, rfl, rfl, rfl, by decide +kernel, fun kV doc pm an cdv ct us hl => match us, hl with | [_, _], _ => rfl⟩
theorem df_7 : DfOk LD dfn 7 7 f7_is_one_apart := ⟨mkD "is_one_apart" 30, rfl, rfl, rfl, by decide +kernel, fun kV doc pm an cdv ct us hl => match us, hl with | [_, _], _ => rfl⟩
theorem df_8 : DfOk LD dfn 8 8 f8_l_mixed := ⟨mkD "_law_mixed" 32, rfl, rfl, rfl, by decide +kernel, fun kV doc pm an cdv ct us hl => match us, hl with | [_, _], _ => rfl⟩
theorem df_9 : DfOk LD dfn 9 9 f9_l_stream := ⟨mkD "_law_stream" 33, rfl, rfl, rfl, by decide +kernel, fun kV doc pm an cdv ct us hl => match us, hl with | [_, _, _], _ => rfl⟩
theorem df_10 : DfOk LD dfn 10 10 f10_l_take := ⟨mkD "_law_take" 34, rfl, rfl, rfl, by decide +kernel, fun kV doc pm an cdv ct us hl => match us, hl with | [_, _], _ => rfl⟩
theorem df_11 : DfOk LD dfn 11 11 f11_l_members_by := ⟨mkD "_law_members_by" 35, rfl, rfl, rfl, by decide +kernel, fun kV doc pm an cdv ct us hl => match us, hl with | [_], _ => rfl⟩
theorem df_12 : DfOk LD dfn 12 12 f12_l_word := ⟨mkD "_law_word" 36, rfl, rfl, rfl, by decide +kernel, fun kV doc pm an cdv ct us hl => match us, hl with | [_], _ => rfl⟩
theorem df_13 : DfOk LD dfn 13 13 f13_l_asked := ⟨mkD "_law_asked" 37, rfl, rfl, rfl, by decide +kernel, fun kV doc pm an cdv ct us hl => match us, hl with | [_, _, _, _], _ => rfl⟩
theorem df_14 : DfOk LD dfn 14 14 f14_l_said := ⟨mkD "_law_said" 38, rfl, rfl, rfl, by decide +kernel, fun kV doc pm an cdv ct us hl => match us, hl with | [_, _, _, _], _ => rfl⟩
theorem df_15 : DfOk LD dfn 15 15 f15_l_spoilt := ⟨mkD "_law_spoilt" 39, rfl, rfl, rfl, by decide +kernel, fun kV doc pm an cdv ct us hl => match us, hl with | [_, _], _ => rfl⟩
theorem df_16 : DfOk LD dfn 16 16 f16_l_nexts := ⟨mkD "_law_nexts" 40, rfl, rfl, rfl, by decide +kernel, fun kV doc pm an cdv ct us hl => match us, hl with | [_], _ => rfl⟩
theorem df_17 : DfOk LD dfn 17 17 f17_l_number_right := ⟨mkD "_law_number_right" 41, rfl, rfl, rfl, by decide +kernel, fun kV doc pm an cdv ct us hl => match us, hl with | [_], _ => rfl⟩
theorem df_18 : DfOk LD dfn 18 18 f18_l_members_right := ⟨mkD "_law_members_right" 42, rfl, rfl, rfl, by decide +kernel, fun kV doc pm an cdv ct us hl => match us, hl with | [_, _, _], _ => rfl⟩
theorem df_19 : DfOk LD dfn 19 19 f19_law := ⟨mkD "law" 43, rfl, rfl, rfl, by decide +kernel, fun kV doc pm an cdv ct us hl => match us, hl with | [_], _ => rfl⟩
theorem dfs : ∀ j f d, LD.ids[j]? = some f → LD.fns[j]? = some d → DfOk LD dfn j f d := fun j f d h1 h2 => match j, h1, h2 with
  | 0, h1, h2 => by cases h1; cases h2; exact df_0
  | 1, h1, h2 => by cases h1; cases h2; exact df_1
  | 2, h1, h2 => by cases h1; cases h2; exact df_2
  | 3, h1, h2 => by cases h1; cases h2; exact df_3
  | 4, h1, h2 => by cases h1; cases h2; exact df_4
  | 5, h1, h2 => by cases h1; cases h2; exact df_5
  | 6, h1, h2 => by cases h1; cases h2; exact df_6
  | 7, h1, h2 => by cases h1; cases h2; exact df_7
  | 8, h1, h2 => by cases h1; cases h2; exact df_8
  | 9, h1, h2 => by cases h1; cases h2; exact df_9
  | 10, h1, h2 => by cases h1; cases h2; exact df_10
  | 11, h1, h2 => by cases h1; cases h2; exact df_11
  | 12, h1, h2 => by cases h1; cases h2; exact df_12
  | 13, h1, h2 => by cases h1; cases h2; exact df_13
  | 14, h1, h2 => by cases h1; cases h2; exact df_14
  | 15, h1, h2 => by cases h1; cases h2; exact df_15
  | 16, h1, h2 => by cases h1; cases h2; exact df_16
  | 17, h1, h2 => by cases h1; cases h2; exact df_17
  | 18, h1, h2 => by cases h1; cases h2; exact df_18
  | 19, h1, h2 => by cases h1; cases h2; exact df_19
  | n + 20, h1, h2 => by cases h1
end K01

set_option Elab.async false
set_option linter.all false
set_option maxRecDepth 100000
set_option maxHeartbeats 0
open PySem PySem.W PySem.Calls PyProof.Rows
theorem PySem.Challenge.cw_scribehall_k01_numbers_and_members_holds : PySem.Challenge.rw_scribehall_k01_numbers_and_members.Holds := by
  w_on; o_law
  refine HandSHeadRun.head_any (r := OpenLaw.row PySem.Challenge.rw_scribehall_k01_numbers_and_members) (q := view (OpenLaw.row PySem.Challenge.rw_scribehall_k01_numbers_and_members).prog [43]) (H := K01.hk) (ob := K01.ob) (M := 6000) (loose := K01.loose) (d := HandSHeadRun.topDef (OpenLaw.row PySem.Challenge.rw_scribehall_k01_numbers_and_members).prog 43) (kwd := []) K01.ob_eq
    (by kernel_rfl) (fun s => by kernel_rfl) K01.run (by kernel_rfl) (by kernel_rfl) (by kernel_rfl) (by rfl) (by first | assumption | decide +kernel) (by decide +kernel) ⟨rfl, rfl, rfl, rfl, rfl, by decide +kernel⟩ ?hw ?hc
  case hw => w_witness2
  case hc =>
    exact IP.walk_law (l := PySem.Challenge.rw_scribehall_k01_numbers_and_members) (L := K01.LD) (fn := K01.dfn) (n := 63) (fuel := 10) (lawI := 19) (j := 19) (m := 5) (x := "_law_script") (ld := K01.f19_law) rfl (by decide) (by kernel_rfl) ⟨rfl, by decide, by decide⟩ K01.dfs
      rfl rfl rfl rfl (by kernel_rfl) (by kernel_rfl) (fun ns hns => Sp.law_body 0 ns hns)

