import PyProof.Rows.All
import Wide.All
import OpenK.AllK
import Wide.FinOn
import HandS.ForMost
import HandS.ForExc
import HandS.Deep
import HandS.TupAny
import HandS.TupLe
import HandS.Conv
import HandS.IsInst
import HandS.Style
import HandS.ExcValue
import HandS.Zip
import HandS.Defaults
import HandS.HeadHook1
import HandS.HeadHook2
import HandS.HeadEnd
import HandS.Head0
import HandS.Head1
import HandS.Head2
import PySem.Challenge.RW_screenbacks_k01_whole_runs
set_option Elab.async false
set_option linter.all false
set_option maxRecDepth 100000
set_option maxHeartbeats 0
set_option autoImplicit false
/-! pure data, the virtual heap, the small syntax and its evaluator -/
namespace Sb
open PySem

abbrev lim : Nat := 16777216

/-- data: tuples are values, what can change is a place in the virtual heap; fls: a list that nobody changes (the script) -/
inductive D where
  | non
  | bl (b : Bool)
  | int (i : Int)
  | str (x : Str)
  | tup (xs : List D)
  | ref (n : Nat)
  | fls (xs : List Int)

mutual
def D.beq : D → D → Bool
  | .non, .non => true
  | .bl a, .bl b => a == b
  | .int a, .int b => a == b
  | .str a, .str b => decide (a = b)
  | .tup a, .tup b => D.beqs a b
  | .ref a, .ref b => a == b
  | .fls a, .fls b => decide (a = b)
  | _, _ => false
def D.beqs : List D → List D → Bool
  | [], [] => true
  | a :: as, b :: bs => D.beq a b && D.beqs as bs
  | _, _ => false
end
mutual
theorem D.beq_eq : ∀ a b : D, D.beq a b = true → a = b
  | .non, b, h => by cases b <;> first | rfl | (simp [D.beq] at h)
  | .bl a, b, h => by cases b <;> simp [D.beq] at h <;> subst h <;> rfl
  | .int a, b, h => by cases b <;> simp [D.beq] at h <;> subst h <;> rfl
  | .str a, b, h => by cases b <;> simp [D.beq] at h <;> subst h <;> rfl
  | .tup a, b, h => by
    cases b <;> simp [D.beq] at h
    rw [D.beqs_eq _ _ h]
  | .ref a, b, h => by cases b <;> simp [D.beq] at h <;> subst h <;> rfl
  | .fls a, b, h => by cases b <;> simp [D.beq] at h <;> subst h <;> rfl
theorem D.beqs_eq : ∀ a b : List D, D.beqs a b = true → a = b
  | [], b, h => by cases b <;> first | rfl | (simp [D.beqs] at h)
  | a :: as, b, h => by
    cases b with
    | nil => simp [D.beqs] at h
    | cons b bs =>
      simp only [D.beqs, Bool.and_eq_true] at h
      rw [D.beq_eq _ _ h.1, D.beqs_eq _ _ h.2]
end
mutual
theorem D.beq_refl : ∀ a : D, D.beq a a = true
  | .non => rfl
  | .bl a => by simp [D.beq]
  | .int a => by simp [D.beq]
  | .str a => by simp [D.beq]
  | .tup a => by simp only [D.beq]; exact D.beqs_refl a
  | .ref a => by simp [D.beq]
  | .fls a => by simp [D.beq]
theorem D.beqs_refl : ∀ a : List D, D.beqs a a = true
  | [] => rfl
  | a :: as => by simp only [D.beqs, Bool.and_eq_true]; exact ⟨D.beq_refl a, D.beqs_refl as⟩
end
instance : DecidableEq D := fun a b => if h : D.beq a b = true then isTrue (D.beq_eq a b h) else isFalse fun e => h (e ▸ D.beq_refl a)
inductive Cell where
  | lst (xs : List D)
  | dct (kvs : List (D × D))
  | ins (c : Str) (fs : List (Str × D))
  | exc (c : Str)
  deriving DecidableEq

abbrev VH := List Cell
inductive Res (α : Type) where
  | ok (a : α)
  | ex (c : Str)
abbrev R (α : Type) := Option (Res α × VH)
def R.bind {α β : Type} (r : R α) (f : α → VH → R β) : R β := match r with
  | some (.ok a, h) => f a h
  | some (.ex c, h) => some (.ex c, h)
  | none => none
theorem R.bind_ok {α β : Type} (a : α) (h : VH) (f : α → VH → R β) : R.bind (some (.ok a, h)) f = f a h := rfl
theorem R.bind_ex {α β : Type} (c : Str) (h : VH) (f : α → VH → R β) : R.bind (some (.ex c, h)) f = some (.ex c, h) := rfl
theorem R.bind_none {α β : Type} (f : α → VH → R β) : R.bind none f = none := rfl
/-- a value's operation: no exception -/
def lift (o : Option D) (h : VH) : R D := match o with
  | some d => some (.ok d, h)
  | none => none
theorem lift_some (d : D) (h : VH) : lift (some d) h = some (.ok d, h) := rfl
theorem lift_none (h : VH) : lift none h = none := rfl

/-- by a truth value that may be unknown -/
def brB {α : Type} (o : Option Bool) (f g : R α) : R α := match o with
  | some true => f
  | some false => g
  | none => none
theorem brB_true {α : Type} (f g : R α) : brB (some true) f g = f := rfl
theorem brB_false {α : Type} (f g : R α) : brB (some false) f g = g := rfl
def toB (o : Option Bool) (h : VH) : R Bool := match o with
  | some b => some (.ok b, h)
  | none => none
theorem toB_some (b : Bool) (h : VH) : toB (some b) h = some (.ok b, h) := rfl
inductive Bin where
  | add | sub | mul | fdiv | mod | pow
  deriving DecidableEq
inductive Cmp where
  | eq | ne | lt | le | gt | ge | isin | notin | is | isnot
  deriving DecidableEq
/-- built-in functions and methods (the receiver first) -/
inductive BF where
  | len | list | tuple | str | int | all | any | sum | max | min | sorted | set | dict | max2 | min2
  | append | extend | pop | pop0 | clear | count | index | get | setdefault | join | split | values
  deriving DecidableEq
/-- the classes that isinstance asks of -/
inductive Ty where
  | int | bool | str | tuple | list | value_error | own (c : Str)
  deriving DecidableEq

mutual
inductive E where
  | var (i : Nat)
  | cst (d : D)
  | glb (x : Str)
  | tup (es : List E)
  | lst (es : List E)
  | dct (es : List E)
  | bin (o : Bin) (a b : E)
  | neg (a : E)
  | cmp (o : Cmp) (a b : E)
  | chn (o o' : Cmp) (a b c : E)
  | and (a b : E)
  | or (a b : E)
  | not (a : E)
  | ite (c a b : E)
  | idx (a i : E)
  | slc (a : E) (lo hi : Option E)
  | rev (a : E)
  | cal (f : Str) (as : List E)
  | mth (c m : Str) (o : E) (as : List E)
  | new (c : Str) (as : List E)
  | fld (o : E) (f : Str)
  | bfn (f : BF) (as : List E)
  | bmt (f : BF) (o : E) (as : List E)
  | isi (a : E) (t : Ty)
  | cpr (vs : List Nat) (g : T) (it : I) (c : Option E) (e : E)
inductive T where
  | nm (i : Nat)
  | tp (ts : List T)
  | sub (o i : E)
inductive I where
  | seq (e : E)
  | rng (as : List E)
  | enm (e : E)
  | zip (a b : E)
  | vals (e : E)
end
inductive S where
  | set (t : T) (e : E)
  | aug (i : Nat) (o : Bin) (e : E)
  | sta (o : E) (f : Str) (e : E)
  | exp (e : E)
  | ret (e : E)
  | ite (c : E) (a b : List S)
  | for (t : T) (it : I) (b : List S)
  | whl (c : E) (b : List S)
  | rse (c : Str)
  | tri (t : Option Nat) (e : E) (c : Str) (ie ic : Nat)
  | pas

abbrev Fr := List (Option D)
abbrev Ct := List D → VH → R D
/-- what is known of the program: contracts of its defs, its methods (by class), its constants -/
structure Env where
  fn : Str → Option Ct
  mt : Str → Str → Option Ct
  cst : Str → Option D
  sub : Str → Str → Option Bool
  wf : Nat

/-! ### values -/
def D.isTup : D → Bool
  | .tup _ => true
  | _ => false
def lstAt (h : VH) (n : Nat) : Option (List D) := match h[n]? with
  | some (.lst xs) => some xs
  | _ => none
def dctAt (h : VH) (n : Nat) : Option (List (D × D)) := match h[n]? with
  | some (.dct xs) => some xs
  | _ => none
def insAt (h : VH) (n : Nat) : Option (Str × List (Str × D)) := match h[n]? with
  | some (.ins c fs) => some (c, fs)
  | _ => none
def excAt (h : VH) (n : Nat) : Option Str := match h[n]? with
  | some (.exc c) => some c
  | _ => none
/-- all of a list -/
def travO {α β : Type} (f : α → Option β) : List α → Option (List β)
  | [] => some []
  | d :: ds => match f d, travO f ds with
    | some p, some ps => some (p :: ps)
    | _, _ => none
/-- as plain data, lists by their contents; n: how deep -/
def rfy (h : VH) : Nat → D → Option PyData
  | 0, _ => none
  | n + 1, d => match d with
    | .non => some .none
    | .bl b => some (.bool b)
    | .int i => some (.int i)
    | .str x => if PyData.strOk x = true then some (.str x) else none
    | .tup xs => (travO (rfy h n) xs).map .tuple
    | .ref m => match lstAt h m with
      | some xs => (travO (rfy h n) xs).map .list
      | none => none
    | .fls xs => some (.list (xs.map .int))
abbrev rfys (h : VH) (n : Nat) (l : List D) : Option (List PyData) := travO (rfy h n) l
def eqF (h : VH) (a b : D) : Option Bool := match rfy h 12 a, rfy h 12 b with
  | some p, some q => some (PyData.eqv p q)
  | _, _ => none
def flat : D → Option PyData
  | .non => some .none
  | .bl b => some (.bool b)
  | .int i => some (.int i)
  | .str x => some (.str x)
  | _ => none
def flats : List D → Option (List PyData)
  | [] => some []
  | d :: ds => match flat d, flats ds with
    | some p, some ps => some (p :: ps)
    | _, _ => none
def isKey : D → Bool
  | .int _ => true
  | .str _ => true
  | _ => false
mutual
/-- the same key -/
def keq : D → D → Bool
  | .int i, .int j => i == j
  | .str x, .str y => x == y
  | .tup xs, .tup ys => keqs xs ys
  | .non, .non => true
  | _, _ => false
def keqs : List D → List D → Bool
  | [], [] => true
  | x :: xs, y :: ys => keq x y && keqs xs ys
  | _, _ => false
end
def dget (kvs : List (D × D)) (k : D) : Option D := match kvs with
  | [] => none
  | (q, v) :: r => if keq q k = true then some v else dget r k
def dput (kvs : List (D × D)) (k v : D) : List (D × D) := match kvs with
  | [] => [(k, v)]
  | (q, u) :: r => if keq q k = true then (q, v) :: r else (q, u) :: dput r k v
/-- the keys of this dict are of one kind with k: ints and texts -/
def dok (kvs : List (D × D)) (k : D) : Bool := isKey k && kvs.all fun p => isKey p.1

def pairsD : List D → Option (List (D × D))
  | [] => some []
  | k :: v :: r => (pairsD r).map ((k, v) :: ·)
  | _ => none
def dmerge (acc : List (D × D)) : List (D × D) → List (D × D)
  | [] => acc
  | (k, v) :: r => dmerge (dput acc k v) r
def binF (o : Bin) (a b : D) (h : VH) : R D := match o, a, b with
  | .add, .int i, .int j => some (.ok (.int (i + j)), h)
  | .add, .str x, .str y => if x.length + y.length ≤ lim then some (.ok (.str (x ++ y)), h) else none
  | .add, .tup xs, .tup ys => if xs.length + ys.length ≤ lim then some (.ok (.tup (xs ++ ys)), h) else none
  | .add, .ref m, .ref n => (match lstAt h m, lstAt h n with
    | some xs, some ys => if xs.length + ys.length ≤ lim then some (.ok (.ref h.length), h ++ [.lst (xs ++ ys)]) else none
    | _, _ => none)
  | .sub, .int i, .int j => some (.ok (.int (i - j)), h)
  | .mul, .int i, .int j => if (-(2 ^ 64) < i ∧ i < 2 ^ 64) ∨ (-(2 ^ 64) < j ∧ j < 2 ^ 64) then some (.ok (.int (i * j)), h) else none
  | .mul, .ref m, .int k => (match lstAt h m with
    | some xs => if -(2 ^ 63) ≤ k ∧ k < 2 ^ 63 ∧ xs.length * k.toNat ≤ lim then some (.ok (.ref h.length), h ++ [.lst (List.replicate k.toNat xs).flatten]) else none
    | none => none)
  | .fdiv, .int i, .int j => if 0 < j ∧ j < 1073741824 then some (.ok (.int (i / j)), h) else none
  | .mod, .int i, .int j => if 0 < j then some (.ok (.int (i % j)), h) else none
  | .pow, .int i, .int j => if 0 ≤ j ∧ j ≤ 1000000 ∧ i.natAbs < 2 ^ 64 then some (.ok (.int (i ^ j.toNat)), h) else none
  | _, _, _ => none
/-- a op= b -/
def augF (o : Bin) (a b : D) (h : VH) : R D := match o, a, b with
  | .add, .int i, .int j => some (.ok (.int (i + j)), h)
  | .add, .ref m, .ref n => (match lstAt h m, lstAt h n with
    | some xs, some ys => if xs.length + ys.length ≤ lim then some (.ok (.ref m), h.set m (.lst (xs ++ ys))) else none
    | _, _ => none)
  | _, _, _ => none
def inF (a b : D) (h : VH) : Option Bool := match b with
  | .tup xs => (match flat a, flats xs with
    | some p, some ps => some (ps.any fun z => PyData.eqv z p)
    | _, _ => none)
  | .ref n => (match h[n]? with
    | some (.lst xs) => (match rfy h 12 a, rfys h 12 xs with
      | some p, some ps => some (ps.any fun z => PyData.eqv z p)
      | _, _ => none)
    | some (.dct kvs) => if dok kvs a = true then some (dget kvs a).isSome else none
    | _ => none)
  | .str y => (match a with
    | .str x => some (!(Builtin.Str.occurrences y x 0 y.length 1).isEmpty)
    | _ => none)
  | _ => none
def isF (a b : D) : Option Bool := match a, b with
  | .non, .non => some true
  | .bl _, .non => some false
  | .int _, .non => some false
  | .str _, .non => some false
  | .tup _, .non => some false
  | .ref _, .non => some false
  | .bl x, .bl y => some (decide (x = y))
  | _, _ => none
def cmpF (o : Cmp) (a b : D) (h : VH) : Option Bool := match o with
  | .eq => eqF h a b
  | .ne => (eqF h a b).map (!·)
  | .isin => inF a b h
  | .notin => (inF a b h).map (!·)
  | .is => isF a b
  | .isnot => (isF a b).map (!·)
  | .lt => (match a, b with | .int i, .int j => some (decide (i < j)) | _, _ => none)
  | .le => (match a, b with | .int i, .int j => some (decide (i ≤ j)) | _, _ => none)
  | .gt => (match a, b with | .int i, .int j => some (decide (j < i)) | _, _ => none)
  | .ge => (match a, b with | .int i, .int j => some (decide (j ≤ i)) | _, _ => none)
def truF (d : D) : Option Bool := match d with
  | .bl b => some b
  | _ => none
def ixN (n : Nat) (i : Int) : Option Nat := if 0 ≤ i then (if i < n then some i.toNat else none) else if -(n : Int) ≤ i then some (i + n).toNat else none
def atI {α : Type} (xs : List α) (i : Int) : Option α := (ixN xs.length i).bind fun j => xs[j]?
def idxF (a i : D) (h : VH) : Option D := match a, i with
  | .tup xs, .int k => atI xs k
  | .str x, .int k => if x.length ≤ lim then (atI x.cps.toList k).map fun c => .str ⟨#[c]⟩ else none
  | .ref n, i => (match h[n]?, i with
    | some (.lst xs), .int k => atI xs k
    | some (.dct kvs), i => if dok kvs i = true then dget kvs i else none
    | _, _ => none)
  | _, _ => none
def sIx (n d : Nat) : Option Int → Nat
  | none => d
  | some v => if v < 0 then (v + (n : Int)).toNat else min v.toNat n
def cut {α : Type} (xs : List α) (lo hi : Option Int) : List α := (xs.drop (sIx xs.length 0 lo)).take (sIx xs.length xs.length hi - sIx xs.length 0 lo)
def slcF (a : D) (lo hi : Option Int) (h : VH) : R D := match a with
  | .tup xs => some (.ok (.tup (cut xs lo hi)), h)
  | .ref n => (match lstAt h n with
    | some xs => some (.ok (.ref h.length), h ++ [.lst (cut xs lo hi)])
    | none => none)
  | _ => none
def revF (a : D) (h : VH) : R D := match a with
  | .ref n => (match lstAt h n with
    | some xs => some (.ok (.ref h.length), h ++ [.lst xs.reverse])
    | none => none)
  | _ => none
def intOf : D → Option Int
  | .int i => some i
  | _ => none
def getS (fs : List (Str × D)) (f : Str) : Option D := match fs with
  | [] => none
  | (g, d) :: r => if g = f then some d else getS r f
def putS (f : Str) (v : D) : List (Str × D) → List (Str × D)
  | [] => [(f, v)]
  | (g, x) :: r => if g = f then (g, v) :: r else (g, x) :: putS f v r
def fldF (a : D) (f : Str) (h : VH) : Option D := match a with
  | .ref n => (match insAt h n with
    | some (_, fs) => getS fs f
    | none => none)
  | _ => none
def allB : List D → Option Bool
  | [] => some true
  | .bl b :: r => (allB r).map (b && ·)
  | _ => none
def anyB : List D → Option Bool
  | [] => some false
  | .bl b :: r => (anyB r).map (b || ·)
  | _ => none
def intsD : List D → Option (List Int)
  | [] => some []
  | .int i :: r => (intsD r).map (i :: ·)
  | _ => none
/-- built-in functions -/
def bfF (f : BF) (as : List D) (h : VH) : R D := match f, as with
  | .len, [.str x] => if x.length ≤ lim then some (.ok (.int x.length), h) else none
  | .len, [.tup xs] => some (.ok (.int xs.length), h)
  | .len, [.fls xs] => some (.ok (.int xs.length), h)
  | .len, [.ref n] => (match h[n]? with
    | some (.lst xs) => some (.ok (.int xs.length), h)
    | some (.dct kvs) => some (.ok (.int kvs.length), h)
    | _ => none)
  | .list, [.ref n] => (match lstAt h n with
    | some xs => some (.ok (.ref h.length), h ++ [.lst xs])
    | none => none)
  | .list, [.tup xs] => some (.ok (.ref h.length), h ++ [.lst xs])
  | .list, [.fls xs] => some (.ok (.ref h.length), h ++ [.lst (xs.map .int)])
  | .tuple, [.ref n] => (match lstAt h n with
    | some xs => some (.ok (.tup xs), h)
    | none => none)
  | .tuple, [.tup xs] => some (.ok (.tup xs), h)
  | .all, [.ref n] => (match lstAt h n with
    | some xs => lift ((allB xs).map .bl) h
    | none => none)
  | .any, [.ref n] => (match lstAt h n with
    | some xs => lift ((anyB xs).map .bl) h
    | none => none)
  | .append, [.ref n, d] => (match lstAt h n with
    | some xs => if xs.length < lim then some (.ok .non, h.set n (.lst (xs ++ [d]))) else none
    | none => none)
  | .extend, [.ref n, .ref m] => (match lstAt h n, lstAt h m with
    | some xs, some ys => if xs.length + ys.length ≤ lim then some (.ok .non, h.set n (.lst (xs ++ ys))) else none
    | _, _ => none)
  | .pop, [.ref n] => (match lstAt h n with
    | some xs => (match xs[xs.length - 1]? with
      | some d => some (.ok d, h.set n (.lst xs.dropLast))
      | none => none)
    | none => none)
  | .pop0, [.ref n, .int k] => (match lstAt h n with
    | some (d :: xs) => if k = 0 then some (.ok d, h.set n (.lst xs)) else none
    | _ => none)
  | .clear, [.ref n] => (match lstAt h n with
    | some _ => some (.ok .non, h.set n (.lst []))
    | none => none)
  | _, _ => none

/-- the receiver of a method -/
def rcv (f : BF) (d : D) (h : VH) : Bool := match f, d with
  | .append, .ref n => (lstAt h n).isSome
  | .extend, .ref n => (lstAt h n).isSome
  | .pop, .ref n => (lstAt h n).isSome
  | .pop0, .ref n => (lstAt h n).isSome
  | .clear, .ref n => (lstAt h n).isSome
  | _, _ => false
/-! ### loops -/
def noEx {α : Type} (r : R α) : R α := match r with
  | some (.ok a, h) => some (.ok a, h)
  | _ => none
theorem noEx_ok {α : Type} (a : α) (h : VH) : noEx (some (.ok a, h)) = some (.ok a, h) := rfl
def grd (h : VH) (gs : List (Nat × Cell)) : Bool := gs.all fun p => decide (h[p.1]? = some p.2)
/-- a comprehension's turns: n is the list that grows -/
def loopC (gs : List (Nat × Cell)) (n : Nat) (f : D → VH → R (Option D)) : List D → VH → R D
  | [], h => if grd h gs = true then some (.ok (.ref n), h) else none
  | d :: ds, h => if grd h gs = true then (noEx (f d h)).bind (fun o h => (match o with
    | some y => (match lstAt h n with
      | some acc => if acc.length < lim then loopC gs n f ds (h.set n (.lst (acc ++ [y]))) else none
      | none => none)
    | none => loopC gs n f ds h)) else none
inductive Out where
  | nxt (fr : Fr)
  | ret (d : D)
/-- a for's turns -/
def loopF (gs : List (Nat × Cell)) (f : D → Fr → VH → R Out) : List D → Fr → VH → R Out
  | [], fr, h => if grd h gs = true then some (.ok (.nxt fr), h) else none
  | d :: ds, fr, h => if grd h gs = true then (f d fr h).bind fun o h => (match o with
    | .nxt fr => loopF gs f ds fr h
    | .ret d => some (.ok (.ret d), h)) else none
/-- a while's turns -/
def loopW (c : Fr → VH → R Bool) (f : Fr → VH → R Out) : Nat → Fr → VH → R Out
  | 0, _, _ => none
  | n + 1, fr, h => (c fr h).bind fun b h => if b = true then (f fr h).bind (fun o h => (match o with
    | .nxt fr => loopW c f n fr h
    | .ret d => some (.ok (.ret d), h))) else some (.ok (.nxt fr), h)
def wipeF (fr : Fr) : List Nat → Fr
  | [] => fr
  | v :: vs => (wipeF fr vs).set v none
def iota (lo : Int) : Nat → List D
  | 0 => []
  | n + 1 => .int lo :: iota (lo + 1) n
def enumD : Nat → List D → List D
  | _, [] => []
  | i, d :: ds => .tup [.int i, d] :: enumD (i + 1) ds
def zipD : List D → List D → List D
  | a :: as, b :: bs => .tup [a, b] :: zipD as bs
  | _, _ => []
abbrev Its := List D × List (Nat × Cell)
def seqF (d : D) (h : VH) : R Its := match d with
  | .tup xs => some (.ok (xs, []), h)
  | .str x => some (.ok (x.cps.toList.map fun c => .str ⟨#[c]⟩, []), h)
  | .ref n => (match h[n]? with
    | some (.lst xs) => some (.ok (xs, [(n, .lst xs)]), h)
    | _ => none)
  | _ => none
def rngF (as : List D) (h : VH) : R Its := match as with
  | [.int j] => if -(2 ^ 62) ≤ j ∧ j < 2 ^ 62 then some (.ok (iota 0 j.toNat, []), h) else none
  | _ => none
def enmF (d : D) (h : VH) : R Its := match d with
  | .ref n => (match lstAt h n with
    | some xs => some (.ok (enumD 0 xs, [(n, .lst xs)]), h)
    | _ => none)
  | _ => none
def zipF (a b : D) (h : VH) : R Its := match a, b with
  | .ref m, .ref n => (match lstAt h m, lstAt h n with
    | some xs, some ys => some (.ok (zipD xs ys, [(m, .lst xs), (n, .lst ys)]), h)
    | _, _ => none)
  | .tup xs, .tup ys => some (.ok (zipD xs ys, []), h)
  | _, _ => none
def valsF (d : D) (h : VH) : R Its := match d with
  | .ref n => (match dctAt h n with
    | some kvs => some (.ok (kvs.map (·.2), [(n, .dct kvs)]), h)
    | none => none)
  | _ => none
def setF (o i d : D) (h : VH) : Option VH := match o with
  | .ref n => (match h[n]?, i with
    | some (.lst xs), .int k => (ixN xs.length k).map fun j => h.set n (.lst (xs.set j d))
    | some (.dct kvs), i => if dok kvs i = true ∧ kvs.length < lim then some (h.set n (.dct (dput kvs i d))) else none
    | _, _ => none)
  | _ => none
def isiF (d : D) (t : Ty) (h : VH) : Option Bool := match d, t with
  | .non, .own _ => some false
  | .non, .value_error => some false
  | .non, _ => some false
  | .bl _, .int => some true
  | .bl _, .bool => some true
  | .bl _, .str => some false
  | .bl _, .tuple => some false
  | .bl _, .list => some false
  | .int _, .int => some true
  | .int _, .bool => some false
  | .int _, .str => some false
  | .int _, .tuple => some false
  | .int _, .list => some false
  | .str _, .str => some true
  | .str _, .int => some false
  | .str _, .bool => some false
  | .str _, .tuple => some false
  | .str _, .list => some false
  | .tup _, .tuple => some true
  | .tup _, .int => some false
  | .tup _, .bool => some false
  | .tup _, .str => some false
  | .tup _, .list => some false
  | .ref n, t => (match h[n]?, t with
    | some (.lst _), .list => some true
    | some (.lst _), .int => some false
    | some (.lst _), .bool => some false
    | some (.lst _), .str => some false
    | some (.lst _), .tuple => some false
    | _, _ => none)
  | _, _ => none

/-! ### the evaluator -/
mutual
def ev (Γ : Env) : E → Fr → VH → R D
  | .var i, fr, h => (match fr[i]? with
    | some (some d) => some (.ok d, h)
    | _ => none)
  | .cst d, _, h => some (.ok d, h)
  | .glb x, _, h => lift (Γ.cst x) h
  | .tup es, fr, h => (evs Γ es fr h).bind fun xs h => some (.ok (.tup xs), h)
  | .lst es, fr, h => (evs Γ es fr h).bind fun xs h => some (.ok (.ref h.length), h ++ [.lst xs])
  | .dct es, fr, h => (evs Γ es fr (h ++ [.dct []])).bind fun xs h' => (match dctAt h' h.length, pairsD xs with
    | some [], some kvs => if kvs.all (fun p => isKey p.1) = true then some (.ok (.ref h.length), h'.set h.length (.dct (dmerge [] kvs))) else none
    | _, _ => none)
  | .bin o a b, fr, h => (ev Γ a fr h).bind fun x h => (ev Γ b fr h).bind fun y h => binF o x y h
  | .neg a, fr, h => (ev Γ a fr h).bind fun x h => lift ((intOf x).map fun i => .int (-i)) h
  | .cmp o a b, fr, h => (ev Γ a fr h).bind fun x h => (ev Γ b fr h).bind fun y h => lift ((cmpF o x y h).map .bl) h
  | .chn o o' a b c, fr, h => (ev Γ a fr h).bind fun x h => (ev Γ b fr h).bind fun y h => brB (cmpF o x y h) ((ev Γ c fr h).bind fun z h => lift ((cmpF o' y z h).map .bl) h) (some (.ok (.bl false), h))
  | .and a b, fr, h => (ev Γ a fr h).bind fun x h => brB (truF x) (ev Γ b fr h) (some (.ok (.bl false), h))
  | .or a b, fr, h => (ev Γ a fr h).bind fun x h => brB (truF x) (some (.ok (.bl true), h)) (ev Γ b fr h)
  | .not a, fr, h => (ev Γ a fr h).bind fun x h => lift ((truF x).map fun b => .bl (!b)) h
  | .ite c a b, fr, h => (ev Γ c fr h).bind fun x h => brB (truF x) (ev Γ a fr h) (ev Γ b fr h)
  | .idx a i, fr, h => (ev Γ a fr h).bind fun x h => (ev Γ i fr h).bind fun y h => lift (idxF x y h) h
  | .slc a lo hi, fr, h => (ev Γ a fr h).bind fun x h => (evo Γ lo fr h).bind fun l h => (evo Γ hi fr h).bind fun u h => slcF x l u h
  | .rev a, fr, h => (ev Γ a fr h).bind fun x h => revF x h
  | .cal f as, fr, h => (evs Γ as fr h).bind fun xs h => (match Γ.fn f with
    | some m => m xs h
    | none => none)
  | .mth c m o as, fr, h => (ev Γ o fr h).bind fun x h => (match x with
    | .ref n => (match insAt h n with
      | some (c', fs) => if c' = c ∧ getS fs m = none then (evs Γ as fr h).bind (fun xs h => (match Γ.mt c m with
        | some f => f (.ref n :: xs) h
        | none => none)) else none
      | none => none)
    | _ => none)
  | .new c as, fr, h => (evs Γ as fr h).bind fun xs h => (match Γ.mt c "__init__" with
    | some f => (f (.ref h.length :: xs) (h ++ [.ins c []])).bind fun _ h' => some (.ok (.ref h.length), h')
    | none => none)
  | .fld o f, fr, h => (ev Γ o fr h).bind fun x h => lift (fldF x f h) h
  | .bfn f as, fr, h => (evs Γ as fr h).bind fun xs h => bfF f xs h
  | .bmt f o as, fr, h => (ev Γ o fr h).bind fun x h => if rcv f x h = true then (evs Γ as fr h).bind (fun xs h => bfF f (x :: xs) h) else none
  | .isi a t, fr, h => (ev Γ a fr h).bind fun x h => lift ((isiF x t h).map .bl) h
  | .cpr vs g it c e, fr, h => (evI Γ it fr h).bind fun its h =>
      loopC its.2 h.length (fun d h => (asg Γ g d (wipeF fr vs) h).bind fun fr' h => (evc Γ c fr' h).bind fun b h =>
        if b = true then (ev Γ e fr' h).bind (fun y h => some (.ok (some y), h)) else some (.ok none, h)) its.1 (h ++ [.lst []])
def evs (Γ : Env) : List E → Fr → VH → R (List D)
  | [], _, h => some (.ok [], h)
  | e :: es, fr, h => (ev Γ e fr h).bind fun x h => (evs Γ es fr h).bind fun xs h => some (.ok (x :: xs), h)
/-- a slice's part -/
def evo (Γ : Env) : Option E → Fr → VH → R (Option Int)
  | none, _, h => some (.ok none, h)
  | some e, fr, h => (ev Γ e fr h).bind fun x h => (match intOf x with
    | some i => some (.ok (some i), h)
    | none => none)
/-- a comprehension's test -/
def evc (Γ : Env) : Option E → Fr → VH → R Bool
  | none, _, h => some (.ok true, h)
  | some e, fr, h => (ev Γ e fr h).bind fun x h => toB (truF x) h
def evI (Γ : Env) : I → Fr → VH → R Its
  | .seq e, fr, h => (ev Γ e fr h).bind fun x h => seqF x h
  | .rng es, fr, h => (evs Γ es fr h).bind fun xs h => rngF xs h
  | .enm e, fr, h => (ev Γ e fr h).bind fun x h => enmF x h
  | .zip a b, fr, h => (ev Γ a fr h).bind fun x h => (ev Γ b fr h).bind fun y h => zipF x y h
  | .vals e, fr, h => (ev Γ e fr h).bind fun x h => valsF x h
def asg (Γ : Env) : T → D → Fr → VH → R Fr
  | .nm i, d, fr, h => some (.ok (fr.set i (some d)), h)
  | .tp ts, d, fr, h => (match d with
    | .tup ds => if ts.length = ds.length then asgs Γ ts ds fr h else none
    | _ => none)
  | .sub o i, d, fr, h => (ev Γ o fr h).bind fun x h => (ev Γ i fr h).bind fun y h => (match setF x y d h with
    | some h => some (.ok fr, h)
    | none => none)
def asgs (Γ : Env) : List T → List D → Fr → VH → R Fr
  | [], [], fr, h => some (.ok fr, h)
  | t :: ts, d :: ds, fr, h => (asg Γ t d fr h).bind fun fr h => asgs Γ ts ds fr h
  | _, _, _, _ => none
end
mutual
def run (Γ : Env) : S → Fr → VH → R Out
  | .set t e, fr, h => (ev Γ e fr h).bind fun d h => (asg Γ t d fr h).bind fun fr h => some (.ok (.nxt fr), h)
  | .aug i o e, fr, h => (match fr[i]? with
    | some (some x) => (ev Γ e fr h).bind fun y h => (augF o x y h).bind fun z h => some (.ok (.nxt (fr.set i (some z))), h)
    | _ => none)
  | .sta o f e, fr, h => (ev Γ e fr h).bind fun d h => (ev Γ o fr h).bind fun x h => (match x with
    | .ref n => (match insAt h n with
      | some (c, fs) => if fs.length < 1000 then some (.ok (.nxt fr), h.set n (.ins c (putS f d fs))) else none
      | none => none)
    | _ => none)
  | .exp e, fr, h => (ev Γ e fr h).bind fun _ h => some (.ok (.nxt fr), h)
  | .ret e, fr, h => (ev Γ e fr h).bind fun d h => some (.ok (.ret d), h)
  | .ite c a b, fr, h => (ev Γ c fr h).bind fun x h => brB (truF x) (runs Γ a fr h) (runs Γ b fr h)
  | .for t it b, fr, h => (evI Γ it fr h).bind fun its h => loopF its.2 (fun d fr h => (asg Γ t d fr h).bind fun fr h => runs Γ b fr h) its.1 fr h
  | .whl c b, fr, h => loopW (fun fr h => (ev Γ c fr h).bind fun x h => toB (truF x) h) (fun fr h => runs Γ b fr h) Γ.wf fr h
  | .rse c, _, h => some (.ex c, h)
  | .tri t e c ie ic, fr, h => (match ev Γ e fr h with
    | some (.ok d, h) => some (.ok (.nxt (match t with | some i => fr.set i (some d) | none => fr)), h)
    | some (.ex c', h) => (match Γ.sub c' c with
      | some true => some (.ok (.nxt (((fr.set ie (some (.ref h.length))).set ic (some (.ref h.length))).set ie none)), h ++ [.exc c'])
      | some false => some (.ex c', h)
      | none => none)
    | none => none)
  | .pas, fr, h => some (.ok (.nxt fr), h)
def runs (Γ : Env) : List S → Fr → VH → R Out
  | [], fr, h => some (.ok (.nxt fr), h)
  | s :: ss, fr, h => (run Γ s fr h).bind fun o h => (match o with
    | .nxt fr => runs Γ ss fr h
    | .ret d => some (.ok (.ret d), h))
end
/-- a def's body with its arguments; n: how many slots -/
def body (Γ : Env) (n : Nat) (b : List S) (as : List D) (h : VH) : R D :=
  (runs Γ b (as.map some ++ List.replicate (n - as.length) none) h).bind fun o h => (match o with
    | .nxt _ => some (.ok .non, h)
    | .ret d => some (.ok d, h))
end Sb

/-! the relation between the virtual state and the layer's abstract one -/
namespace Sb
open PySem PySem.Spec PyProof.Rows L2

/-- what never changes -/
def Imm : HO → Prop
  | .tup _ => True
  | .frz _ (.lst _) => True
  | .frz _ (.tup _) => True
  | _ => False
def Keep (H H' : Hp) : Prop := ∀ b u, Imm u → H b = some u → H' b = some u
theorem Keep.refl (H : Hp) : Keep H H := fun _ _ _ h => h
theorem Keep.trans {H H1 H2 : Hp} (a : Keep H H1) (b : Keep H1 H2) : Keep H H2 := fun c u i h => b c u i (a c u i h)
theorem Keep.new {H : Hp} {p : Addr} {o : HO} (h : H p = none) : Keep H (upd H p o) := fun b u _ e => by
  rw [upd_ne (ne_of_none e h)]; exact e
theorem Keep.put {H : Hp} {p : Addr} {o u : HO} (h : H p = some u) (n : ¬ Imm u) : Keep H (upd H p o) := fun b w i e => by
  have : b ≠ p := fun z => by subst z; rw [h] at e; cases e; exact n i
  rw [upd_ne this]; exact e
/-- a list that nobody changes -/
def SqF (K : PySem.W.Frag) (H : Hp) (a : Addr) (xs : List V) : Prop :=
  (∃ o, H a = some (.frz o (.lst xs))) ∨
    ∃ (o : Obj) (its : Array Value) (n : Nat), K.lookup a = some o ∧ o.cls = .type "list" ∧ o.dict = none ∧ o.data = .seq its n ∧ its.size ≤ sizeLine ∧ Vals xs its.toList
theorem SqF.sql {K : PySem.W.Frag} {H : Hp} {a : Addr} {xs : List V} (h : SqF K H a xs) : SqL K H a xs := by
  rcases h with ⟨o, h⟩ | h
  · exact .inl (.inr ⟨o, h⟩)
  · exact .inr h
theorem SqF.keep {K : PySem.W.Frag} {H H' : Hp} {a : Addr} {xs : List V} (k : Keep H H') (h : SqF K H a xs) : SqF K H' a xs := by
  rcases h with ⟨o, h⟩ | h
  · exact .inl ⟨o, k _ _ trivial h⟩
  · exact .inr h
theorem SqT_keep {K : PySem.W.Frag} {H H' : Hp} {a : Addr} {xs : List V} (k : Keep H H') (h : SqT K H a xs) : SqT K H' a xs := by
  rcases h with (h | ⟨o, h⟩) | h
  · exact .inl (.inl (k _ _ trivial h))
  · exact .inl (.inr ⟨o, k _ _ trivial h⟩)
  · exact .inr h
mutual
inductive RelD (K : PySem.W.Frag) (μ : List Addr) (H : Hp) : D → V → Prop
  | non : RelD K μ H .non .non
  | bl (b : Bool) : RelD K μ H (.bl b) (.bl b)
  | int (i : Int) : RelD K μ H (.int i) (.int i)
  | str (x : Str) : RelD K μ H (.str x) (.str x)
  | tup {a : Addr} {xs : List V} {ds : List D} : SqT K H a xs → RelDs K μ H ds xs → RelD K μ H (.tup ds) (.ref a)
  | ref {n : Nat} {a : Addr} : μ[n]? = some a → RelD K μ H (.ref n) (.ref a)
  | fls {a : Addr} {ns : List Int} : SqF K H a (ns.map V.int) → RelD K μ H (.fls ns) (.ref a)
inductive RelDs (K : PySem.W.Frag) (μ : List Addr) (H : Hp) : List D → List V → Prop
  | nil : RelDs K μ H [] []
  | cons {d : D} {ds : List D} {v : V} {vs : List V} : RelD K μ H d v → RelDs K μ H ds vs → RelDs K μ H (d :: ds) (v :: vs)
end
section
variable {K : PySem.W.Frag} {μ μ' : List Addr} {H H' : Hp}
theorem pre_get {μ μ' : List Addr} (p : μ <+: μ') {n : Nat} {a : Addr} (h : μ[n]? = some a) : μ'[n]? = some a := by
  obtain ⟨t, rfl⟩ := p
  rw [List.getElem?_append_left (List.getElem?_eq_some_iff.mp h).1]; exact h
mutual
theorem RelD.mono (p : μ <+: μ') (k : Keep H H') : ∀ {d : D} {v : V}, RelD K μ H d v → RelD K μ' H' d v
  | _, _, .non => .non
  | _, _, .bl b => .bl b
  | _, _, .int i => .int i
  | _, _, .str x => .str x
  | _, _, .tup h r => .tup (SqT_keep k h) (RelDs.mono p k r)
  | _, _, .ref h => .ref (pre_get p h)
  | _, _, .fls h => .fls (h.keep k)
theorem RelDs.mono (p : μ <+: μ') (k : Keep H H') : ∀ {d : List D} {v : List V}, RelDs K μ H d v → RelDs K μ' H' d v
  | _, _, .nil => .nil
  | _, _, .cons h r => .cons (RelD.mono p k h) (RelDs.mono p k r)
end
theorem RelDs.length : ∀ {ds : List D} {vs : List V}, RelDs K μ H ds vs → ds.length = vs.length
  | _, _, .nil => rfl
  | _, _, .cons _ r => by rw [List.length_cons, List.length_cons, r.length]
theorem RelDs.append : ∀ {ds es : List D} {vs ws : List V}, RelDs K μ H ds vs → RelDs K μ H es ws → RelDs K μ H (ds ++ es) (vs ++ ws)
  | _, _, _, _, .nil, s => s
  | _, _, _, _, .cons h r, s => .cons h (RelDs.append r s)
theorem RelDs.get : ∀ {ds : List D} {vs : List V} {i : Nat} {d : D}, RelDs K μ H ds vs → ds[i]? = some d → ∃ v, vs[i]? = some v ∧ RelD K μ H d v
  | _, _, _, _, .nil, e => by simp at e
  | _, _, 0, _, .cons h _, e => by simp at e; subst e; exact ⟨_, rfl, h⟩
  | _, _, i + 1, d, .cons _ r, e => by
    obtain ⟨v, h1, h2⟩ := RelDs.get (i := i) (d := d) r (by simpa using e)
    exact ⟨v, by simpa using h1, h2⟩
theorem RelDs.getV : ∀ {ds : List D} {vs : List V} {i : Nat} {v : V}, RelDs K μ H ds vs → vs[i]? = some v → ∃ d, ds[i]? = some d ∧ RelD K μ H d v
  | _, _, _, _, .nil, e => by simp at e
  | _, _, 0, _, .cons h _, e => by simp at e; subst e; exact ⟨_, rfl, h⟩
  | _, _, i + 1, d, .cons _ r, e => by
    obtain ⟨v, h1, h2⟩ := RelDs.getV (i := i) (v := d) r (by simpa using e)
    exact ⟨v, by simpa using h1, h2⟩
theorem RelDs.take : ∀ {ds : List D} {vs : List V} (n : Nat), RelDs K μ H ds vs → RelDs K μ H (ds.take n) (vs.take n)
  | _, _, 0, _ => .nil
  | _, _, _ + 1, .nil => .nil
  | _, _, n + 1, .cons h r => .cons h (RelDs.take n r)
theorem RelDs.drop : ∀ {ds : List D} {vs : List V} (n : Nat), RelDs K μ H ds vs → RelDs K μ H (ds.drop n) (vs.drop n)
  | _, _, 0, r => r
  | _, _, _ + 1, .nil => .nil
  | _, _, n + 1, .cons _ r => RelDs.drop n r
theorem RelDs.set {d : D} {v : V} (h : RelD K μ H d v) : ∀ {ds : List D} {vs : List V} (n : Nat), RelDs K μ H ds vs → RelDs K μ H (ds.set n d) (vs.set n v)
  | _, _, _, .nil => .nil
  | _, _, 0, .cons _ r => .cons h r
  | _, _, n + 1, .cons q r => .cons q (RelDs.set h n r)
theorem RelDs.dropLast {ds : List D} {vs : List V} (h : RelDs K μ H ds vs) : RelDs K μ H ds.dropLast vs.dropLast := by
  rw [List.dropLast_eq_take, List.dropLast_eq_take, h.length]; exact h.take _
theorem RelDs.reverse : ∀ {ds : List D} {vs : List V}, RelDs K μ H ds vs → RelDs K μ H ds.reverse vs.reverse
  | _, _, .nil => .nil
  | _, _, .cons h r => by
    rw [List.reverse_cons, List.reverse_cons]
    exact (RelDs.reverse r).append (.cons h .nil)
theorem RelDs.rep {ds : List D} {vs : List V} (h : RelDs K μ H ds vs) : ∀ k : Nat, RelDs K μ H (List.replicate k ds).flatten (List.replicate k vs).flatten
  | 0 => .nil
  | k + 1 => by
    rw [List.replicate_succ, List.replicate_succ, List.flatten_cons, List.flatten_cons]
    exact h.append (h.rep k)
theorem RelDs.one {d : D} {vs : List V} (h : RelDs K μ H [d] vs) : ∃ v, vs = [v] ∧ RelD K μ H d v := by
  cases h with | cons h r => cases r; exact ⟨_, rfl, h⟩
theorem RelDs.two {d e : D} {vs : List V} (h : RelDs K μ H [d, e] vs) : ∃ v w, vs = [v, w] ∧ RelD K μ H d v ∧ RelD K μ H e w := by
  cases h with | cons h r => cases r with | cons h' r => cases r; exact ⟨_, _, rfl, h, h'⟩
theorem relDs_ints : ∀ ns : List Int, RelDs K μ H (ns.map D.int) (ns.map V.int)
  | [] => .nil
  | n :: ns => .cons (.int n) (relDs_ints ns)
end

/-- an exception object that was caught -/
def XO (C a : Addr) : HO := .ext fun h => ∃ (oe : Obj) (vs : Array Value), h.get? a = some oe ∧ Zc (.ref C) none oe ∧ oe.data = .fields vs
/-- the program, the written part, and what is known of its defs -/
structure GC where
  P : Program
  w : World
  K : PySem.W.Frag
  mg : Str → Option Value
  base : Heap
  cl : Str → Addr
  okc : Str → Bool
  Γ : Env

def KvR (K : PySem.W.Frag) (μ : List Addr) (H : Hp) : D × D → Key × V → Prop := fun p q => RelD K μ H p.1 (kV q.1) ∧ RelD K μ H p.2 q.2
def FsR (K : PySem.W.Frag) (μ : List Addr) (H : Hp) : Str × D → Str × V → Prop := fun p q => p.1 = q.1 ∧ RelD K μ H p.2 q.2
def CellR (G : GC) (μ : List Addr) (H : Hp) (a : Addr) : Cell → Prop
  | .lst ds => ∃ xs, H a = some (.lst xs) ∧ RelDs G.K μ H ds xs
  | .dct kvs => ∃ kvs', H a = some (.dK kvs') ∧ Paired (KvR G.K μ H) kvs kvs'
  | .ins c fs => G.okc c = true ∧ ∃ dx fs', H a = some (.ins (G.cl c) dx fs') ∧ Paired (FsR G.K μ H) fs fs'
  | .exc c => H a = some (XO (G.cl c) a)
theorem CellR.some {G : GC} {μ : List Addr} {H : Hp} {a : Addr} {c : Cell} (h : CellR G μ H a c) : ∃ o, H a = some o ∧ ¬ Imm o := by
  cases c with
  | lst ds => obtain ⟨_, e, _⟩ := h; exact ⟨_, e, fun z => z⟩
  | dct ds => obtain ⟨_, e, _⟩ := h; exact ⟨_, e, fun z => z⟩
  | ins c fs => obtain ⟨_, _, _, e, _⟩ := h; exact ⟨_, e, fun z => z⟩
  | exc c => exact ⟨_, h, fun z => z⟩
theorem CellR.mono {G : GC} {μ μ' : List Addr} {H H' : Hp} {a : Addr} {c : Cell} (p : μ <+: μ') (k : Keep H H') (e : H' a = H a) (h : CellR G μ H a c) : CellR G μ' H' a c := by
  cases c with
  | lst ds => obtain ⟨xs, q, r⟩ := h; exact ⟨xs, e.trans q, r.mono p k⟩
  | dct ds => obtain ⟨xs, q, r⟩ := h; exact ⟨xs, e.trans q, Paired.mapP r fun _ _ z => ⟨z.1.mono p k, z.2.mono p k⟩⟩
  | ins c fs => obtain ⟨ok, dx, xs, q, r⟩ := h; exact ⟨ok, dx, xs, e.trans q, Paired.mapP r fun _ _ z => ⟨z.1, z.2.mono p k⟩⟩
  | exc c => exact e.trans h
theorem nodup_ixA {μ : List Addr} (hN : μ.Nodup) {i j : Nat} {x : Addr} (a : μ[i]? = some x) (b : μ[j]? = some x) : i = j := by
  obtain ⟨h1, e1⟩ := List.getElem?_eq_some_iff.mp a
  obtain ⟨h2, e2⟩ := List.getElem?_eq_some_iff.mp b
  exact (List.getElem_inj hN).mp (e1.trans e2.symm)
structure Rl (G : GC) (μ : List Addr) (vh : VH) (H : Hp) : Prop where
  len : μ.length = vh.length
  nd : μ.Nodup
  cell : ∀ (n : Nat) (a : Addr) (c : Cell), μ[n]? = some a → vh[n]? = some c → CellR G μ H a c
section
variable {G : GC} {μ μ' : List Addr} {vh vh' : VH} {H H' : Hp}
theorem Rl.addr (r : Rl G μ vh H) {n : Nat} {c : Cell} (h : vh[n]? = some c) : ∃ a, μ[n]? = some a ∧ CellR G μ H a c := by
  have hn : n < μ.length := by rw [r.len]; exact (List.getElem?_eq_some_iff.mp h).1
  exact ⟨μ[n], List.getElem?_eq_getElem hn, r.cell n _ c (List.getElem?_eq_getElem hn) h⟩
theorem Rl.at (r : Rl G μ vh H) {n : Nat} {a : Addr} {c : Cell} (ha : μ[n]? = some a) (h : vh[n]? = some c) : CellR G μ H a c := r.cell n a c ha h
theorem Rl.fresh (r : Rl G μ vh H) {p : Addr} (h : H p = none) : p ∉ μ := fun hm => by
  obtain ⟨n, hn, e⟩ := List.mem_iff_getElem.mp hm
  have hv : n < vh.length := by rw [← r.len]; exact hn
  obtain ⟨o, q, _⟩ := (r.cell n p vh[n] (by rw [List.getElem?_eq_getElem hn, e]) (List.getElem?_eq_getElem hv)).some
  rw [h] at q; cases q
/-- a new cell -/
theorem Rl.alloc (r : Rl G μ vh H) {p : Addr} {o : HO} {c : Cell} (h : H p = none) (new : CellR G (μ ++ [p]) (upd H p o) p c) : Rl G (μ ++ [p]) (vh ++ [c]) (upd H p o) := by
  refine ⟨by simp [r.len], ?_, fun n a c' ha hc => ?_⟩
  · rw [List.nodup_append]
    exact ⟨r.nd, by simp, fun a ha b hb => by rw [List.mem_singleton.mp hb]; exact fun z => r.fresh h (z ▸ ha)⟩
  · by_cases hn : n < μ.length
    · rw [List.getElem?_append_left hn] at ha
      rw [List.getElem?_append_left (by rw [← r.len]; exact hn)] at hc
      have q := r.cell n a c' ha hc
      have ne : a ≠ p := fun z => by obtain ⟨u, e, _⟩ := q.some; rw [z, h] at e; cases e
      exact q.mono (List.prefix_append _ _) (Keep.new h) (upd_ne ne)
    · have e1 : n = μ.length := by
        have := (List.getElem?_eq_some_iff.mp ha).1
        rw [List.length_append, List.length_singleton] at this
        omega
      subst e1
      rw [List.getElem?_append_right (Nat.le_refl _)] at ha
      rw [List.getElem?_append_right (Nat.le_of_eq r.len.symm)] at hc
      simp [r.len] at ha hc
      subst ha; subst hc
      exact new
/-- a cell is written -/
theorem Rl.write (r : Rl G μ vh H) {n : Nat} {a : Addr} {c0 c : Cell} {o : HO} (ha : μ[n]? = some a) (hc : vh[n]? = some c0) (new : CellR G μ (upd H a o) a c) : Rl G μ (vh.set n c) (upd H a o) := by
  obtain ⟨u, hu, nu⟩ := (r.cell n a c0 ha hc).some
  refine ⟨by simp [r.len], r.nd, fun m b c' hb hc' => ?_⟩
  by_cases hm : m = n
  · subst hm
    rw [ha] at hb; cases hb
    rw [List.getElem?_set_self (List.getElem?_eq_some_iff.mp hc).1] at hc'
    cases hc'
    exact new
  · rw [List.getElem?_set_ne (Ne.symm hm)] at hc'
    have ne : b ≠ a := fun z => hm (nodup_ixA r.nd hb (z ▸ ha))
    exact (r.cell m b c' hb hc').mono (List.prefix_refl _) (Keep.put hu nu) (upd_ne ne)
end
/-- frames -/
structure FrR (K : PySem.W.Frag) (μ : List Addr) (H : Hp) (fr : Fr) (σ : L2.St) : Prop where
  len : fr.length = σ.length
  get : ∀ (i : Nat) (d : D), fr[i]? = some (some d) → ∃ v, σ[i]? = some (some v) ∧ RelD K μ H d v
theorem FrR.mono {K : PySem.W.Frag} {μ μ' : List Addr} {H H' : Hp} {fr : Fr} {σ : L2.St} (p : μ <+: μ') (k : Keep H H') (h : FrR K μ H fr σ) : FrR K μ' H' fr σ :=
  ⟨h.len, fun i d e => let ⟨v, a, b⟩ := h.get i d e; ⟨v, a, b.mono p k⟩⟩
theorem FrR.set {K : PySem.W.Frag} {μ : List Addr} {H : Hp} {fr : Fr} {σ : L2.St} {d : D} {v : V} (i : Nat) (h : FrR K μ H fr σ) (r : RelD K μ H d v) : FrR K μ H (fr.set i (some d)) (σ.set i (some v)) := by
  refine ⟨by simp [h.len], fun j e q => ?_⟩
  by_cases hj : i = j
  · subst hj
    by_cases hi : i < fr.length
    · rw [List.getElem?_set_self hi] at q
      cases q
      exact ⟨v, List.getElem?_set_self (by rw [← h.len]; exact hi), r⟩
    · rw [List.getElem?_eq_none (by simpa using hi)] at q; cases q
  · rw [List.getElem?_set_ne hj] at q
    rw [List.getElem?_set_ne hj]
    exact h.get j e q
theorem FrR.unset {K : PySem.W.Frag} {μ : List Addr} {H : Hp} {fr : Fr} {σ : L2.St} (i : Nat) (h : FrR K μ H fr σ) : FrR K μ H (fr.set i none) (σ.set i none) := by
  refine ⟨by simp [h.len], fun j e q => ?_⟩
  by_cases hj : i = j
  · subst hj
    by_cases hi : i < fr.length
    · rw [List.getElem?_set_self hi] at q; cases q
    · rw [List.getElem?_eq_none (by simpa using hi)] at q; cases q
  · rw [List.getElem?_set_ne hj] at q
    rw [List.getElem?_set_ne hj]
    exact h.get j e q
theorem FrR.wipe {K : PySem.W.Frag} {μ : List Addr} {H : Hp} {fr : Fr} {σ : L2.St} (h : FrR K μ H fr σ) : ∀ vs : List Nat, FrR K μ H (wipeF fr vs) (wipe σ vs)
  | [] => h
  | v :: vs => (h.wipe vs).unset v

structure Sr (G : GC) (μ0 : List Addr) (H0 : Hp) (μ : List Addr) (vh : VH) (H : Hp) : Prop where
  pre : μ0 <+: μ
  keep : Keep H0 H
  rl : Rl G μ vh H
theorem Sr.refl {G : GC} {μ : List Addr} {vh : VH} {H : Hp} (r : Rl G μ vh H) : Sr G μ H μ vh H := ⟨List.prefix_refl _, Keep.refl H, r⟩
theorem Sr.trans {G : GC} {μ0 μ1 μ2 : List Addr} {vh1 vh2 : VH} {H0 H1 H2 : Hp} (a : Sr G μ0 H0 μ1 vh1 H1) (b : Sr G μ1 H1 μ2 vh2 H2) : Sr G μ0 H0 μ2 vh2 H2 := ⟨a.pre.trans b.pre, a.keep.trans b.keep, b.rl⟩
/-- what is wanted behind an evaluation: rel tells how its value is related -/
def AfR (G : GC) {α β : Type} (rel : List Addr → Hp → α → β → Prop) (X : Str → Hp → Prop) (μ0 : List Addr) (H0 : Hp) (Q : β → Hp → Prop) : R α → Prop
  | some (.ok a, vh) => ∀ μ H b, Sr G μ0 H0 μ vh H → rel μ H a b → Q b H
  | some (.ex c, vh) => ∀ μ H, Sr G μ0 H0 μ vh H → X c H
  | none => False
section
variable {G : GC} {α β α' β' : Type} {rel : List Addr → Hp → α → β → Prop} {rel' : List Addr → Hp → α' → β' → Prop} {X : Str → Hp → Prop} {μ0 μ1 : List Addr} {H0 H1 : Hp}
theorem AfR.base {Q : β → Hp → Prop} {r : R α} {vh1 : VH} (s : Sr G μ0 H0 μ1 vh1 H1) (h : AfR G rel X μ0 H0 Q r) : AfR G rel X μ1 H1 Q r := by
  match r, h with
  | some (.ok a, vh), h => exact fun μ H b sr q => h μ H b (s.trans sr) q
  | some (.ex c, vh), h => exact fun μ H sr => h μ H (s.trans sr)
theorem AfR.imp {Q Q' : β → Hp → Prop} {r : R α} (h : AfR G rel X μ0 H0 Q r) (f : ∀ b H, Q b H → Q' b H) : AfR G rel X μ0 H0 Q' r := by
  match r, h with
  | some (.ok a, vh), h => exact fun μ H b sr q => f _ _ (h μ H b sr q)
  | some (.ex c, vh), h => exact h
/-- behind a step: its value, and what is wanted of the rest -/
theorem AfR.bind {Q : β' → Hp → Prop} {r : R α} {f : α → VH → R α'} (h : AfR G rel' X μ0 H0 Q (r.bind f)) :
    AfR G rel X μ0 H0 (fun b H1 => ∃ a vh1 μ1, r = some (.ok a, vh1) ∧ Sr G μ0 H0 μ1 vh1 H1 ∧ rel μ1 H1 a b ∧ AfR G rel' X μ1 H1 Q (f a vh1)) r := by
  match r, h with
  | some (.ok a, vh), h => exact fun μ H b sr q => ⟨a, vh, μ, rfl, sr, q, h.base sr⟩
  | some (.ex c, vh), h => exact h
end
abbrev XW (G : GC) (W : WX) (σ : L2.St) : Str → Hp → Prop := fun c H => W (.ref (G.cl c)) none σ H
/-- an expression's reading by the evaluator -/
def tE (G : GC) (W : WX) (e : E) : TE := fun σ H Q => ∃ μ vh fr, Rl G μ vh H ∧ FrR G.K μ H fr σ ∧ AfR G (RelD G.K) (XW G W σ) μ H Q (ev G.Γ e fr vh)
def tEs (G : GC) (W : WX) (es : List E) : TA := fun σ H Q => ∃ μ vh fr, Rl G μ vh H ∧ FrR G.K μ H fr σ ∧ AfR G (RelDs G.K) (XW G W σ) μ H Q (evs G.Γ es fr vh)
/-- the evaluator's test -/
def evb (Γ : Env) (e : E) (fr : Fr) (h : VH) : R Bool := (ev Γ e fr h).bind fun x h => toB (truF x) h
abbrev relE {α : Type} : List Addr → Hp → α → α → Prop := fun _ _ a b => a = b
def tB' (G : GC) (W : WX) (e : E) : TT := fun σ H Q => ∃ μ vh fr, Rl G μ vh H ∧ FrR G.K μ H fr σ ∧ AfR G relE (XW G W σ) μ H Q (evb G.Γ e fr vh)
def tO (G : GC) (W : WX) (e : Option E) : TO := fun σ H Q => ∃ μ vh fr, Rl G μ vh H ∧ FrR G.K μ H fr σ ∧ AfR G relE (XW G W σ) μ H Q (evo G.Γ e fr vh)
end Sb

/-! operations on values -/
namespace Sb
open PySem PySem.Spec PyProof.Rows L2
theorem lim_eq : lim = sizeLine := by decide
theorem lstAt_some {h : VH} {n : Nat} {xs : List D} (e : lstAt h n = some xs) : h[n]? = some (.lst xs) := by
  unfold lstAt at e
  split at e
  · rename_i ys q; cases e; exact q
  · cases e
theorem dctAt_some {h : VH} {n : Nat} {xs : List (D × D)} (e : dctAt h n = some xs) : h[n]? = some (.dct xs) := by
  unfold dctAt at e
  split at e
  · rename_i ys q; cases e; exact q
  · cases e
theorem insAt_some {h : VH} {n : Nat} {c : Str} {fs : List (Str × D)} (e : insAt h n = some (c, fs)) : h[n]? = some (.ins c fs) := by
  unfold insAt at e
  split at e
  · rename_i c' ys q; cases e; exact q
  · cases e
section
variable {G : GC} {μ : List Addr} {vh : VH} {H : Hp}
theorem Rl.lst (r : Rl G μ vh H) {n : Nat} {a : Addr} {ds : List D} (ha : μ[n]? = some a) (h : lstAt vh n = some ds) : ∃ xs, H a = some (.lst xs) ∧ RelDs G.K μ H ds xs := r.at ha (lstAt_some h)
theorem Rl.dct (r : Rl G μ vh H) {n : Nat} {a : Addr} {ds : List (D × D)} (ha : μ[n]? = some a) (h : dctAt vh n = some ds) : ∃ xs, H a = some (.dK xs) ∧ Paired (KvR G.K μ H) ds xs := r.at ha (dctAt_some h)
theorem Rl.ins (r : Rl G μ vh H) {n : Nat} {a : Addr} {c : Str} {fs : List (Str × D)} (ha : μ[n]? = some a) (h : insAt vh n = some (c, fs)) : G.okc c = true ∧ ∃ dx fs', H a = some (.ins (G.cl c) dx fs') ∧ Paired (FsR G.K μ H) fs fs' := r.at ha (insAt_some h)
/-- a new list -/
theorem Rl.newL (r : Rl G μ vh H) {p : Addr} {ds : List D} {xs : List V} (h : H p = none) (rd : RelDs G.K μ H ds xs) : Sr G μ H (μ ++ [p]) (vh ++ [.lst ds]) (upd H p (.lst xs)) :=
  ⟨List.prefix_append _ _, Keep.new h, r.alloc h ⟨xs, upd_same, rd.mono (List.prefix_append _ _) (Keep.new h)⟩⟩
theorem Rl.newD (r : Rl G μ vh H) {p : Addr} {ds : List (D × D)} {xs : List (Key × V)} (h : H p = none) (rd : Paired (KvR G.K μ H) ds xs) : Sr G μ H (μ ++ [p]) (vh ++ [.dct ds]) (upd H p (.dK xs)) :=
  ⟨List.prefix_append _ _, Keep.new h, r.alloc h ⟨xs, upd_same, Paired.mapP rd fun _ _ z => ⟨z.1.mono (List.prefix_append _ _) (Keep.new h), z.2.mono (List.prefix_append _ _) (Keep.new h)⟩⟩⟩
theorem new_at (r : Rl G μ vh H) {p : Addr} : (μ ++ [p])[vh.length]? = some p := by
  rw [← r.len]; simp
/-- a list written -/
theorem Rl.putL (r : Rl G μ vh H) {n : Nat} {a : Addr} {ds0 ds : List D} {xs : List V} (ha : μ[n]? = some a) (h : lstAt vh n = some ds0) (rd : RelDs G.K μ H ds xs) : Sr G μ H μ (vh.set n (.lst ds)) (upd H a (.lst xs)) := by
  obtain ⟨ys, hy, _⟩ := r.lst ha h
  have k : Keep H (upd H a (.lst xs)) := Keep.put hy fun z => z
  exact ⟨List.prefix_refl _, k, r.write ha (lstAt_some h) ⟨xs, upd_same, rd.mono (List.prefix_refl _) k⟩⟩
theorem Rl.putD (r : Rl G μ vh H) {n : Nat} {a : Addr} {ds0 ds : List (D × D)} {xs : List (Key × V)} (ha : μ[n]? = some a) (h : vh[n]? = some (.dct ds0)) (rd : Paired (KvR G.K μ H) ds xs) : Sr G μ H μ (vh.set n (.dct ds)) (upd H a (.dK xs)) := by
  obtain ⟨ys, hy, _⟩ := r.at ha h
  have k : Keep H (upd H a (.dK xs)) := Keep.put hy fun z => z
  exact ⟨List.prefix_refl _, k, r.write ha h ⟨xs, upd_same, Paired.mapP rd fun _ _ z => ⟨z.1.mono (List.prefix_refl _) k, z.2.mono (List.prefix_refl _) k⟩⟩⟩
theorem Rl.newT (r : Rl G μ vh H) {p : Addr} {xs : List V} (h : H p = none) : Sr G μ H μ vh (upd H p (.tup xs)) :=
  ⟨List.prefix_refl _, Keep.new h, ⟨r.len, r.nd, fun n a c ha hc => by
    have q := r.cell n a c ha hc
    have ne : a ≠ p := fun z => by obtain ⟨u, e, _⟩ := q.some; rw [z, h] at e; cases e
    exact q.mono (List.prefix_refl _) (Keep.new h) (upd_ne ne)⟩⟩
/-- a tuple made of parts -/
theorem newT_rel {p : Addr} {ds : List D} {xs : List V} (h : H p = none) (rd : RelDs G.K μ H ds xs) : RelD G.K μ (upd H p (.tup xs)) (.tup ds) (.ref p) :=
  .tup (SqT.of upd_same) (rd.mono (List.prefix_refl _) (Keep.new h))
end
def opOf : Bin → Operator
  | .add => .Add | .sub => .Sub | .mul => .Mult | .fdiv => .FloorDiv | .mod => .Mod | .pow => .Pow
/-- an operation of two values by the evaluator -/
def rV2 (G : GC) (f : D → D → VH → R D) : R2 := fun x y H Q => ∃ (Xc : Str → Hp → Prop) (μ : List Addr) (vh : VH) (d e : D), Rl G μ vh H ∧ RelD G.K μ H d x ∧ RelD G.K μ H e y ∧ AfR G (RelD G.K) Xc μ H Q (f d e vh)
section
variable {G : GC} {X : Cx}
theorem op_binF (hK : X.K = G.K) (o : Bin) : OpR X (binaryOp (opOf o)) (rV2 G (binF o)) := by
  intro pins s σ H x y v u Q I rx ry ⟨Xc, μ, vh, d, e, hl, r1, r2, h⟩
  cases o with
  | add =>
    cases r1 <;> cases r2 <;> simp only [binF] at h <;> try exact (show False from h).elim
    · exact op_add pins s σ H _ _ v u Q I rx ry ⟨_, _, rfl, rfl, h μ H _ (Sr.refl hl) (.int _)⟩
    · split at h
      · rename_i hz
        exact op_add_str pins s σ H _ _ v u Q I rx ry ⟨_, _, rfl, rfl, hz, h μ H _ (Sr.refl hl) (.str _)⟩
      · exact h.elim
    · rename_i a xs ds t1 q1 b ys es t2 q2
      split at h
      · rename_i hz
        refine op_catA pins s σ H _ _ v u Q I rx ry ⟨a, b, xs, ys, rfl, rfl, hK ▸ t1, hK ▸ t2, by rw [← q1.length, ← q2.length]; exact hz, fun e => ?_, fun _ e => ?_, fun _ _ p hp => ?_⟩
        · subst e
          cases q1
          exact h μ H _ (Sr.refl hl) (.tup t2 q2)
        · subst e
          cases q2
          exact h μ H _ (Sr.refl hl) (.tup t1 (by rw [List.append_nil]; exact q1))
        · exact h μ _ _ (hl.newT hp) (newT_rel hp (q1.append q2))
      · exact h.elim
    · rename_i m a ha n b hb
      split at h
      · rename_i xs ys e1 e2
        split at h
        · rename_i hz
          obtain ⟨vs, hv, rv⟩ := hl.lst ha e1
          obtain ⟨ws, hw, rw'⟩ := hl.lst hb e2
          refine op_cat pins s σ H _ _ v u Q I rx ry ⟨a, b, vs, ws, rfl, rfl, hv, hw, by rw [← rv.length, ← rw'.length]; exact hz, fun p hp => ?_⟩
          exact h _ _ _ (hl.newL hp (rv.append rw')) (.ref (new_at hl))
        · exact h.elim
      · exact h.elim
  | sub =>
    cases r1 <;> cases r2 <;> simp only [binF] at h <;> try exact (show False from h).elim
    exact op_sub pins s σ H _ _ v u Q I rx ry ⟨_, _, rfl, rfl, h μ H _ (Sr.refl hl) (.int _)⟩
  | mul =>
    cases r1 <;> cases r2 <;> simp only [binF] at h <;> try exact (show False from h).elim
    · split at h
      · rename_i hz
        exact op_mul pins s σ H _ _ v u Q I rx ry ⟨_, _, rfl, rfl, hz, h μ H _ (Sr.refl hl) (.int _)⟩
      · exact h.elim
    · rename_i m a ha i
      split at h
      · rename_i xs e1
        split at h
        · rename_i hz
          obtain ⟨vs, hv, rv⟩ := hl.lst ha e1
          refine op_rep pins s σ H _ _ v u Q I rx ry ⟨a, _, vs, rfl, rfl, hv, hz.1, hz.2.1, by rw [← rv.length]; exact hz.2.2, fun p hp => ?_⟩
          exact h _ _ _ (hl.newL hp (rv.rep _)) (.ref (new_at hl))
        · exact h.elim
      · exact h.elim
  | fdiv =>
    cases r1 <;> cases r2 <;> simp only [binF] at h <;> try exact (show False from h).elim
    split at h
    · rename_i hz
      exact op_fdiv pins s σ H _ _ v u Q I rx ry ⟨_, _, rfl, rfl, hz, h μ H _ (Sr.refl hl) (.int _)⟩
    · exact h.elim
  | mod =>
    cases r1 <;> cases r2 <;> simp only [binF] at h <;> try exact (show False from h).elim
    split at h
    · rename_i hz
      exact op_mod pins s σ H _ _ v u Q I rx ry ⟨_, _, rfl, rfl, hz, h μ H _ (Sr.refl hl) (.int _)⟩
    · exact h.elim
  | pow =>
    cases r1 <;> cases r2 <;> simp only [binF] at h <;> try exact (show False from h).elim
    split at h
    · rename_i hz
      exact op_pow pins s σ H _ _ v u Q I rx ry ⟨_, _, rfl, rfl, hz, h μ H _ (Sr.refl hl) (.int _)⟩
    · exact h.elim
theorem iop_augF (hK : X.K = G.K) (o : Bin) : OpR X (inplaceOp (opOf o)) (rV2 G (augF o)) := by
  intro pins s σ H x y v u Q I rx ry ⟨Xc, μ, vh, d, e, hl, r1, r2, h⟩
  cases o with
  | add =>
    cases r1 <;> cases r2 <;> simp only [augF] at h <;> try exact (show False from h).elim
    · exact iop_add pins s σ H _ _ v u Q I rx ry ⟨_, _, rfl, rfl, h μ H _ (Sr.refl hl) (.int _)⟩
    · rename_i m a ha n b hb
      split at h
      · rename_i xs ys e1 e2
        split at h
        · rename_i hz
          obtain ⟨vs, hv, rv⟩ := hl.lst ha e1
          obtain ⟨ws, hw, rw'⟩ := hl.lst hb e2
          refine iop_ext pins s σ H _ _ v u Q I rx ry ⟨a, b, vs, ws, rfl, rfl, hv, hw, by rw [← rv.length, ← rw'.length]; exact hz, ?_⟩
          exact h _ _ _ (hl.putL ha e1 (rv.append rw')) (.ref ha)
        · exact h.elim
      · exact h.elim
  | sub => cases d <;> exact (show False from h).elim
  | mul => cases d <;> exact (show False from h).elim
  | fdiv => cases d <;> exact (show False from h).elim
  | mod => cases d <;> exact (show False from h).elim
  | pow => cases d <;> exact (show False from h).elim
end
mutual
theorem rfy_dp {G : GC} {μ : List Addr} {vh : VH} {H : Hp} (hl : Rl G μ vh H) : ∀ (n : Nat) (d : D) (p : PyData) (v : V), rfy vh n d = some p → RelD G.K μ H d v → Dp G.K H v p
  | 0, _, _, _, e, _ => by simp [rfy] at e
  | n + 1, d, p, v, e, r => by
    cases r with
    | non => simp only [rfy] at e; cases e; exact .non
    | bl b => simp only [rfy] at e; cases e; exact .bl b
    | int b => simp only [rfy] at e; cases e; exact .int b
    | str b =>
      simp only [rfy] at e
      split at e
      · cases e; exact .str b
      · cases e
    | tup t q =>
      simp only [rfy] at e
      cases h : travO (rfy vh n) _ with
      | none => rw [h] at e; cases e
      | some ps => rw [h] at e; cases e; exact .tup t (rfys_dp hl n _ _ _ h q)
    | ref ha =>
      simp only [rfy] at e
      split at e
      · rename_i ds e1
        obtain ⟨vs, hv, rv⟩ := hl.lst ha e1
        cases h : travO (rfy vh n) ds with
        | none => rw [h] at e; cases e
        | some ps => rw [h] at e; cases e; exact .lst (SqL.of hv) (rfys_dp hl n _ _ _ h rv)
      · cases e
    | fls ha =>
      simp only [rfy] at e
      cases e
      exact .lst ha.sql (ints_dp _)
theorem rfys_dp {G : GC} {μ : List Addr} {vh : VH} {H : Hp} (hl : Rl G μ vh H) : ∀ (n : Nat) (d : List D) (p : List PyData) (v : List V), rfys vh n d = some p → RelDs G.K μ H d v → DpAll G.K H v p
  | n, [], p, v, e, r => by
    cases r
    simp only [rfys, travO] at e
    cases e
    exact .nil
  | n, d :: ds, p, v, e, r => by
    cases r with
    | cons h t =>
      simp only [rfys, travO] at e
      split at e
      · rename_i a b e1 e2
        cases e
        exact .cons (rfy_dp hl n d _ _ e1 h) (rfys_dp hl n ds _ _ e2 t)
      · cases e
theorem ints_dp {K : PySem.W.Frag} {H : Hp} : ∀ ns : List Int, DpAll K H (ns.map V.int) (ns.map PyData.int)
  | [] => .nil
  | n :: ns => .cons (.int n) (ints_dp ns)
end
theorem lay_ints : ∀ ns : List Int, PyData.canLayAll0 (ns.map PyData.int) = true
  | [] => rfl
  | n :: ns => by simp only [List.map_cons, PyData.canLayAll0, PyData.canLay0, lay_ints ns, Bool.and_self]
theorem dep_ints : ∀ ns : List Int, PyData.depthAll (ns.map PyData.int) = 0
  | [] => rfl
  | n :: ns => by simp only [List.map_cons, PyData.depthAll, PyData.depth, dep_ints ns, Nat.max_self]
mutual
theorem rfy_shape {vh : VH} : ∀ (n : Nat) (d : D) (p : PyData), rfy vh n d = some p → p.canLay0 = true ∧ p.depth ≤ n
  | 0, _, _, e => by simp [rfy] at e
  | n + 1, d, p, e => by
    cases d with
    | non => simp only [rfy] at e; cases e; exact ⟨rfl, Nat.zero_le _⟩
    | bl b => simp only [rfy] at e; cases e; exact ⟨rfl, Nat.zero_le _⟩
    | int b => simp only [rfy] at e; cases e; exact ⟨rfl, Nat.zero_le _⟩
    | str b =>
      simp only [rfy] at e
      split at e
      · rename_i q
        cases e; exact ⟨by simp only [PyData.canLay0]; exact q, Nat.zero_le _⟩
      · cases e
    | tup ds =>
      simp only [rfy] at e
      cases h : travO (rfy vh n) ds with
      | none => rw [h] at e; cases e
      | some ps =>
        rw [h] at e; cases e
        obtain ⟨h1, h2⟩ := rfys_shape n ds ps h
        exact ⟨by simp only [PyData.canLay0]; exact h1, by simp only [PyData.depth]; omega⟩
    | ref m =>
      simp only [rfy] at e
      split at e
      · rename_i ds e1
        cases h : travO (rfy vh n) ds with
        | none => rw [h] at e; cases e
        | some ps =>
          rw [h] at e; cases e
          obtain ⟨h1, h2⟩ := rfys_shape n ds ps h
          exact ⟨by simp only [PyData.canLay0]; exact h1, by simp only [PyData.depth]; omega⟩
      · cases e
    | fls ns =>
      simp only [rfy] at e
      cases e
      exact ⟨by simp only [PyData.canLay0]; exact lay_ints ns, by simp only [PyData.depth, dep_ints]; omega⟩
theorem rfys_shape {vh : VH} : ∀ (n : Nat) (d : List D) (p : List PyData), rfys vh n d = some p → PyData.canLayAll0 p = true ∧ PyData.depthAll p ≤ n
  | n, [], p, e => by
    simp only [rfys, travO] at e
    cases e
    exact ⟨rfl, Nat.zero_le _⟩
  | n, d :: ds, p, e => by
    simp only [rfys, travO] at e
    split at e
    · rename_i a b e1 e2
      cases e
      obtain ⟨h1, h2⟩ := rfy_shape n d _ e1
      obtain ⟨h3, h4⟩ := rfys_shape n ds _ e2
      exact ⟨by simp only [PyData.canLayAll0, h1, h3, Bool.and_self], by simp only [PyData.depthAll]; omega⟩
    · cases e
end
theorem shaped_rfy {vh : VH} {n : Nat} {d : D} {p : PyData} (hn : n ≤ 64) (e : rfy vh n d = some p) : SeqAt.shaped p = true := by
  obtain ⟨h1, h2⟩ := rfy_shape n d p e
  unfold SeqAt.shaped
  rw [h1, decide_eq_true (by omega)]; rfl
theorem flat_V {K : PySem.W.Frag} {μ : List Addr} {H : Hp} {d : D} {p : PyData} {v : V} (e : flat d = some p) (r : RelD K μ H d v) : flatV v = true ∧ ∀ (d' : D) (p' : PyData) (v' : V), flat d' = some p' → RelD K μ H d' v' → eqV v' v = PyData.eqv p' p := by
  cases r <;> simp only [flat] at e <;> cases e
  all_goals
    refine ⟨rfl, fun d' p' v' e' r' => ?_⟩
    cases r' <;> simp only [flat] at e' <;> cases e' <;> first | rfl | (simp [eqV, PyData.eqv])
theorem flats_V {K : PySem.W.Frag} {μ : List Addr} {H : Hp} {d : D} {p : PyData} {v : V} (e : flat d = some p) (r : RelD K μ H d v) : ∀ {ds : List D} {ps : List PyData} {vs : List V}, flats ds = some ps → RelDs K μ H ds vs → vs.all flatV = true ∧ inV v vs = ps.any fun z => PyData.eqv z p
  | [], ps, vs, h, q => by
    simp only [flats] at h
    cases h
    cases q
    exact ⟨rfl, rfl⟩
  | d' :: ds, ps, vs, h, q => by
    simp only [flats] at h
    split at h
    · rename_i a b e1 e2
      cases h
      cases q with
      | cons q1 q2 =>
        obtain ⟨h1, h2⟩ := flats_V e r e2 q2
        have h3 := flat_V e1 q1
        have h4 := (flat_V e r).2 d' a _ e1 q1
        refine ⟨by rw [List.all_cons, h3.1, h1]; rfl, ?_⟩
        unfold inV at h2 ⊢
        rw [List.any_cons, List.any_cons, h4, h2]
    · cases h
def cmpOf : Cmp → CmpOp
  | .eq => .Eq | .ne => .NotEq | .lt => .Lt | .le => .LtE | .gt => .Gt | .ge => .GtE | .isin => .In | .notin => .NotIn | .is => .Is | .isnot => .IsNot
/-- a comparison by the evaluator -/
def rCm (G : GC) (f : D → D → VH → Option Bool) : R2 := fun x y H Q => ∃ (μ : List Addr) (vh : VH) (d e : D) (b : Bool), Rl G μ vh H ∧ RelD G.K μ H d x ∧ RelD G.K μ H e y ∧ f d e vh = some b ∧ Q (.bl b) H
/-! ### dicts with plain keys -/
def keyD : Key → D
  | .inl i => .int i
  | .inr x => .str x
theorem relD_key {K : PySem.W.Frag} {μ : List Addr} {H : Hp} {d : D} {k : Key} (r : RelD K μ H d (kV k)) : d = keyD k := by
  cases k <;> (simp only [kV] at r; cases r; rfl)
theorem isKey_key {K : PySem.W.Frag} {μ : List Addr} {H : Hp} {d : D} {v : V} (h : isKey d = true) (r : RelD K μ H d v) : ∃ k, v = kV k ∧ d = keyD k := by
  cases r <;> simp only [isKey] at h <;> try exact Bool.noConfusion h
  · rename_i i; exact ⟨.inl i, rfl, rfl⟩
  · rename_i x; exact ⟨.inr x, rfl, rfl⟩
theorem keq_key (a b : Key) : keq (keyD a) (keyD b) = decide (a = b) := by
  cases a <;> cases b <;> simp [keyD, keq, Bool.beq_eq_decide_eq]
section
variable {K : PySem.W.Frag} {μ : List Addr} {H : Hp}
theorem kv_val : ∀ {kvs : List (D × D)} {kvs' : List (Key × V)} (k : Key), Paired (KvR K μ H) kvs kvs' →
    (dget kvs (keyD k) = none ∧ valV kvs' k = none) ∨ ∃ d v, dget kvs (keyD k) = some d ∧ valV kvs' k = some v ∧ RelD K μ H d v
  | _, _, k, .nil => .inl ⟨rfl, rfl⟩
  | (q, d) :: r, (q', v) :: r', k, .cons h t => by
    have e := relD_key h.1
    simp only at e
    subst e
    unfold dget
    rw [keq_key]
    by_cases hk : q' = k
    · rw [if_pos (decide_eq_true hk)]
      exact .inr ⟨d, v, rfl, valV_pos (p := (q', v)) hk, h.2⟩
    · rw [if_neg (by simp [hk])]
      rw [show valV ((q', v) :: r') k = valV r' k from valV_neg (p := (q', v)) hk]
      exact kv_val k t
theorem putK_cons_pos {q : Key} {v y : V} {r : List (Key × V)} (nd : ∀ p ∈ r, p.1 ≠ q) : putK ((q, v) :: r) q y = (q, y) :: r := by
  unfold putK
  rw [if_pos (by simp)]
  simp only [List.map_cons, if_true, List.cons.injEq, true_and]
  conv => rhs; rw [← List.map_id r]
  exact List.map_congr_left fun p hp => by rw [if_neg (nd p hp)]; rfl
theorem putK_cons_neg {q k : Key} {v y : V} {r : List (Key × V)} (h : q ≠ k) : putK ((q, v) :: r) k y = (q, v) :: putK r k y := by
  unfold putK
  simp only [List.any_cons, decide_eq_false h, Bool.false_or, List.map_cons, if_neg h]
  split <;> simp
theorem kv_put {k : Key} {d : D} {v : V} (rd : RelD K μ H d v) : ∀ {kvs : List (D × D)} {kvs' : List (Key × V)}, Paired (KvR K μ H) kvs kvs' → (kvs'.map (·.1)).Nodup → Paired (KvR K μ H) (dput kvs (keyD k) d) (putK kvs' k v)
  | _, _, .nil, _ => .cons ⟨by cases k; exact .int _; exact .str _, rd⟩ .nil
  | (q, e) :: r, (q', u) :: r', .cons h t, nd => by
    have e1 := relD_key h.1
    simp only at e1
    subst e1
    rw [List.map_cons, List.nodup_cons] at nd
    unfold dput
    rw [keq_key]
    by_cases hk : q' = k
    · subst hk
      rw [if_pos (decide_eq_true rfl), putK_cons_pos fun p hp z => nd.1 (List.mem_map.mpr ⟨p, hp, z⟩)]
      exact .cons ⟨h.1, rd⟩ t
    · rw [if_neg (by simp [hk]), putK_cons_neg hk]
      exact .cons h (kv_put rd t nd.2)
theorem pair_len {α β : Type} {F : α → β → Prop} : ∀ {l : List α} {m : List β}, Paired F l m → l.length = m.length
  | _, _, .nil => rfl
  | _, _, .cons _ t => by rw [List.length_cons, List.length_cons, pair_len t]
end
theorem dok_key {kvs : List (D × D)} {k : D} (h : dok kvs k = true) : isKey k = true := (Bool.and_eq_true_iff.mp h).1
section
variable {G : GC} {X : Cx}
theorem in_ok (hK : X.K = G.K) (hu : X.A.units + 65 < cLine) {pins : List (Addr × Obj)} {s : Shared} {σ : L2.St} {H : Hp} {x y : V} {v u : Value} {Q : VK} {μ : List Addr} {vh : VH} {d e : D} {c : Bool} (neg : Bool)
    (I : Inv X pins σ H s) (rx : RelV x v) (ry : RelV y u) (hl : Rl G μ vh H) (r1 : RelD G.K μ H d x) (r2 : RelD G.K μ H e y) (h : inF d e vh = some c) (q : Q (.bl (if neg = true then !c else c)) H) :
    wpAny (model X.prog X.w) X.A (compareOp (if neg = true then .NotIn else .In) v u) (EP X pins σ Q) X.xe s := by
  cases r2 <;> simp only [inF] at h <;> try contradiction
  · -- a text
    cases r1 <;> simp only at h <;> cases h
    cases neg
    · exact op_in_str pins s σ H _ _ v u Q I rx ry ⟨_, _, rfl, rfl, q⟩
    · exact op_notin_str pins s σ H _ _ v u Q I rx ry ⟨_, _, rfl, rfl, q⟩
  · -- a tuple
    rename_i a xs ds t qs
    split at h
    · rename_i p ps e1 e2
      cases h
      obtain ⟨h1, h2⟩ := flats_V e1 r1 e2 qs
      have h3 := (flat_V e1 r1).1
      cases neg
      · exact op_in_seq pins s σ H _ _ v u Q I rx ry ⟨a, xs, rfl, .inr (hK ▸ t), h3, h1, by rw [if_neg (by simp), h2]; exact q⟩
      · exact op_notIn_seq pins s σ H _ _ v u Q I rx ry ⟨a, xs, rfl, .inr (hK ▸ t), h3, h1, by rw [if_pos rfl, h2]; exact q⟩
    · cases h
  · -- a place
    rename_i n a ha
    split at h
    · rename_i ds e1
      split at h
      · rename_i p ps e2 e3
        cases h
        obtain ⟨vs, hv, rv⟩ := hl.at ha e1
        have dp1 := rfy_dp hl 12 d p x e2 r1
        have dp2 : Dp G.K H (.ref a) (.list ps) := .lst (SqL.of hv) (rfys_dp hl 12 ds ps vs e3 rv)
        have sh : SeqAt.shaped (.list ps) = true := by
          obtain ⟨h1, h2⟩ := rfys_shape 12 ds ps e3
          unfold SeqAt.shaped
          rw [show (PyData.list ps).canLay0 = true by simp only [PyData.canLay0]; exact h1, decide_eq_true (show (PyData.list ps).depth ≤ 64 by simp only [PyData.depth]; omega)]; rfl
        cases neg
        · exact op_inD hu pins s σ H _ _ v u Q I rx ry ⟨p, ps, hK ▸ dp1, hK ▸ dp2, shaped_rfy (by decide) e2, sh, q⟩
        · exact op_notInD hu pins s σ H _ _ v u Q I rx ry ⟨p, ps, hK ▸ dp1, hK ▸ dp2, shaped_rfy (by decide) e2, sh, q⟩
      · cases h
    · rename_i kvs e1
      split at h
      · rename_i hd
        cases h
        obtain ⟨kvs', hv, rv⟩ := hl.at ha e1
        obtain ⟨k, rfl, rfl⟩ := isKey_key (dok_key hd) r1
        have es : (dget kvs (keyD k)).isSome = (valV kvs' k).isSome := by
          rcases kv_val k rv with ⟨h1, h2⟩ | ⟨_, _, h1, h2, _⟩ <;> rw [h1, h2] <;> rfl
        cases ry
        cases neg
        · exact d_in (by omega) I (DGet.k (k := k) hv) rx fun s' I' => ⟨.bl _, H, I', rfl, by rw [← es]; exact q⟩
        · exact d_notIn (by omega) I (DGet.k (k := k) hv) rx fun s' I' => ⟨.bl _, H, I', rfl, by rw [← es]; exact q⟩
      · cases h
    · cases h
theorem op_cmpF (hK : X.K = G.K) (hu : X.A.units + 65 < cLine) (o : Cmp) : OpR X (compareOp (cmpOf o)) (rCm G (cmpF o)) := by
  intro pins s σ H x y v u Q I rx ry ⟨μ, vh, d, e, b, hl, r1, r2, h, q⟩
  have eqv : ∀ c, eqF vh d e = some c → ∃ p q, Dp X.K H x p ∧ Dp X.K H y q ∧ SeqAt.shaped p = true ∧ SeqAt.shaped q = true ∧ PyData.eqv p q = c := fun c h => by
    unfold eqF at h
    split at h
    · rename_i p q e1 e2
      cases h
      exact ⟨p, q, hK ▸ rfy_dp hl 12 d p x e1 r1, hK ▸ rfy_dp hl 12 e q y e2 r2, shaped_rfy (by decide) e1, shaped_rfy (by decide) e2, rfl⟩
    · cases h
  cases o with
  | eq =>
    obtain ⟨p, q', h1, h2, h3, h4, rfl⟩ := eqv b h
    exact op_eqD (by omega) pins s σ H _ _ v u Q I rx ry ⟨p, q', h1, h2, h3, h4, q⟩
  | ne =>
    cases h' : eqF vh d e with
    | none => simp only [cmpF, h'] at h; cases h
    | some c =>
      simp only [cmpF, h', Option.map_some] at h
      cases h
      obtain ⟨p, q', h1, h2, h3, h4, rfl⟩ := eqv c h'
      exact op_neD (by omega) pins s σ H _ _ v u Q I rx ry ⟨p, q', h1, h2, h3, h4, q⟩
  | lt =>
    cases r1 <;> cases r2 <;> simp only [cmpF] at h <;> cases h
    exact op_lt pins s σ H _ _ v u Q I rx ry ⟨_, _, rfl, rfl, q⟩
  | le =>
    cases r1 <;> cases r2 <;> simp only [cmpF] at h <;> cases h
    exact op_le pins s σ H _ _ v u Q I rx ry ⟨_, _, rfl, rfl, q⟩
  | gt =>
    cases r1 <;> cases r2 <;> simp only [cmpF] at h <;> cases h
    exact op_gt pins s σ H _ _ v u Q I rx ry ⟨_, _, rfl, rfl, q⟩
  | ge =>
    cases r1 <;> cases r2 <;> simp only [cmpF] at h <;> cases h
    exact op_ge pins s σ H _ _ v u Q I rx ry ⟨_, _, rfl, rfl, q⟩
  | is =>
    simp only [cmpF, isF] at h
    cases r1 <;> cases r2 <;> simp only at h <;> cases h
    all_goals first
      | exact op_isN pins s σ H _ _ v u Q I rx ry ⟨rfl, q⟩
      | exact op_is_bl pins s σ H _ _ v u Q I rx ry ⟨_, _, rfl, rfl, q⟩
  | isnot =>
    simp only [cmpF, isF] at h
    cases r1 <;> cases r2 <;> simp only [Option.map_some, Option.map_none] at h <;> cases h
    all_goals first
      | exact op_notN pins s σ H _ _ v u Q I rx ry ⟨rfl, q⟩
      | exact op_isnot_bl pins s σ H _ _ v u Q I rx ry ⟨_, _, rfl, rfl, q⟩
  | isin => exact in_ok hK hu false I rx ry hl r1 r2 h q
  | notin =>
    cases h' : inF d e vh with
    | none => simp only [cmpF, h'] at h; cases h
    | some c =>
      simp only [cmpF, h', Option.map_some] at h
      cases h
      exact in_ok hK hu true I rx ry hl r1 r2 h' q
end
end Sb

/-! subscripts, slices, built-in functions and methods -/
namespace Sb
open PySem PySem.Spec PyProof.Rows L2
section
variable {K : PySem.W.Frag} {μ : List Addr} {H : Hp}
theorem atI_rel {ds : List D} {vs : List V} {i : Int} {d : D} (r : RelDs K μ H ds vs) (h : Sb.atI ds i = some d) : ∃ v, L2.atI vs i = some v ∧ RelD K μ H d v := by
  unfold Sb.atI at h
  cases hn : Sb.ixN ds.length i with
  | none => rw [hn] at h; cases h
  | some j =>
    rw [hn] at h
    obtain ⟨v, h1, h2⟩ := r.get (show ds[j]? = some d from h)
    refine ⟨v, ?_, h2⟩
    unfold L2.atI
    rw [show L2.ixN vs.length i = some j by rw [← r.length]; exact hn]
    exact h1
theorem cut_rel {ds : List D} {vs : List V} (lo hi : Option Int) (r : RelDs K μ H ds vs) : RelDs K μ H (cut ds lo hi) (cutV vs lo hi) := by
  have e : ∀ (n d : Nat) (o : Option Int), Sb.sIx n d o = HT.sIx n d o := fun n d o => by cases o <;> rfl
  unfold cut cutV
  rw [e, e, r.length]
  exact (r.drop _).take _
end
section
variable {G : GC} {X : Cx}
/-- a[b] by the evaluator -/
def rIxE (G : GC) : R2 := fun x y H Q => ∃ (μ : List Addr) (vh : VH) (d e z : D), Rl G μ vh H ∧ RelD G.K μ H d x ∧ RelD G.K μ H e y ∧ idxF d e vh = some z ∧ ∀ v, RelD G.K μ H z v → Q v H
theorem ix_dict {value slice : Expr} {pins : List (Addr × Obj)} {s : Shared} {σ : L2.St} {H : Hp} {a : Addr} {y v : V} {u : Value} {Q : VK} (hu : X.A.units + 1 < cLine) (I : Inv X pins σ H s) (g : DGet H a y (some v)) (ry : RelV y u) (q : Q v H)
    (hs : subscripted slice false (.ref a) u = operate [.ref a, u] (getItem (.ref a) u)) : wpAny (model X.prog X.w) X.A (subscriptTail value slice (.ref a) u) (EP X pins σ Q) X.xe s := by
  have hT := dict_typeIs I g
  unfold subscriptTail
  refine wpAny_bind ?_
  rw [getitemInPython_of_ne hT.not_modules]
  refine wpAny_bind (wpAny_specialOf hT PySem.F.slot_dict_getitem.lookup ?_)
  have fin : wpAny (model X.prog X.w) X.A (subscripted slice false (.ref a) u) (fun r s₃ => wpAny (model X.prog X.w) X.A (letTemporaryGo value (.ref a) r >>= fun _ => pure r) (EP X pins σ Q) X.xe s₃) X.xe s := by
    rw [hs]
    exact wpAny_operating (d_getItem hu I g ry fun r s₃ I₃ rr => wpAny_bind (wpAny_letTemporaryGo (wpAny_pure ⟨v, H, I₃, rr, q⟩)))
  first
    | exact wpAny_pure (wpAny_bind fin)
    | exact wpAny_bind (wpAny_pure (wpAny_bind fin))
    | exact wpAny_bind fin
theorem ix_idxF (hK : X.K = G.K) (hu : X.A.units + 65 < cLine) : IxR X (rIxE G) := by
  intro value slice pins s σ H x y v u Q I rx ry ⟨μ, vh, d, e, z, hl, r1, r2, h, q⟩ hs
  cases r1 with
  | non => simp [idxF] at h
  | bl b => simp [idxF] at h
  | int b => simp [idxF] at h
  | fls b => simp [idxF] at h
  | str b =>
    cases r2 <;> simp only [idxF] at h <;> try contradiction
    split at h
    · rename_i i hz
      cases hc : Sb.atI b.cps.toList i with
      | none => rw [hc] at h; cases h
      | some c =>
        rw [hc] at h; cases h
        exact ix_str value slice pins s σ H _ _ v u Q I rx ry ⟨b, i, c, rfl, rfl, hz, hc, q _ (.str _)⟩ hs
    · cases h
  | tup t qs =>
    rename_i a xs ds
    cases r2 <;> simp only [idxF] at h <;> try contradiction
    rename_i i
    obtain ⟨w, h1, h2⟩ := atI_rel qs h
    exact ix_tup value slice pins s σ H _ _ v u Q I rx ry ⟨a, xs, i, w, rfl, rfl, hK ▸ t, h1, q _ h2⟩ hs
  | ref ha =>
    rename_i n a
    simp only [idxF] at h
    split at h
    · rename_i ds k e1
      cases r2
      obtain ⟨vs, hv, rv⟩ := hl.at ha e1
      obtain ⟨w, h1, h2⟩ := atI_rel rv h
      exact ix_list value slice pins s σ H _ _ v u Q I rx ry ⟨a, vs, k, w, rfl, rfl, SqL.of hv, h1, q _ h2⟩ hs
    · rename_i kvs e1
      split at h
      · rename_i hd
        obtain ⟨kvs', hv, rv⟩ := hl.at ha e1
        obtain ⟨k, rfl, rfl⟩ := isKey_key (dok_key hd) r2
        rcases kv_val k rv with ⟨h1, h2⟩ | ⟨d', w, h1, h2, h3⟩
        · rw [h1] at h; cases h
        · rw [h1] at h; cases h
          cases rx
          exact ix_dict (by omega) I (by have := DGet.k (k := k) hv; rw [h2] at this; exact this) ry (q _ h3) hs
      · cases h
    · cases h
/-- a[lo:hi] by the evaluator -/
def rSlE (G : GC) : V → Option Int → Option Int → Hp → VK → Prop := fun x lo hi H Q => ∃ (Xc : Str → Hp → Prop) (μ : List Addr) (vh : VH) (d : D), Rl G μ vh H ∧ RelD G.K μ H d x ∧ AfR G (RelD G.K) Xc μ H Q (slcF d lo hi vh)
theorem sl_slcF (hK : X.K = G.K) : SlR X (rSlE G) := by
  intro pins s σ H x v vl vu lo hi sl Q I rx hs pl pu ⟨Xc, μ, vh, d, hl, r, h⟩
  cases r <;> simp only [slcF] at h <;> try exact (show False from h).elim
  · rename_i a xs ds t qs
    refine sl_tupA pins s σ H _ v vl vu lo hi sl Q I rx hs pl pu ⟨a, xs, rfl, hK ▸ t, fun e => ?_, fun _ p hp => ?_⟩
    · have e2 : cutV xs lo hi = xs := by
        unfold cutV
        rw [e.1, e.2]
        simp
      have := cut_rel lo hi qs
      rw [e2] at this
      exact h μ H _ (Sr.refl hl) (.tup t this)
    · exact h μ _ _ (hl.newT hp) (newT_rel hp (cut_rel lo hi qs))
  · rename_i n a ha
    split at h
    · rename_i ds e1
      obtain ⟨vs, hv, rv⟩ := hl.lst ha e1
      exact sl_list pins s σ H _ v vl vu lo hi sl Q I rx hs pl pu ⟨a, vs, rfl, SqL.of hv, fun p hp => h _ _ _ (hl.newL hp (cut_rel lo hi rv)) (.ref (new_at hl))⟩
    · exact h.elim
/-- a built-in's call by the evaluator -/
def rBf (G : GC) (f : BF) : List V → Hp → VK → Prop := fun xs H Q => ∃ (Xc : Str → Hp → Prop) (μ : List Addr) (vh : VH) (ds : List D), Rl G μ vh H ∧ RelDs G.K μ H ds xs ∧ AfR G (RelD G.K) Xc μ H Q (bfF f ds vh)
theorem cr_len (hK : X.K = G.K) : CallR X (.builtin "len") (rBf G .len) := by
  intro pins s σ H xs us Q I rv ⟨Xc, μ, vh, ds, hl, r, h⟩
  cases r with
  | nil => exact h.elim
  | cons r t =>
    cases t with
    | cons _ _ => cases r <;> exact (show False from h).elim
    | nil =>
      cases r <;> simp only [bfF] at h <;> try exact (show False from h).elim
      · split at h
        · rename_i x hz
          exact call_len_str pins s σ H _ us Q I rv ⟨x, rfl, hz, h μ H _ (Sr.refl hl) (.int _)⟩
        · exact h.elim
      · rename_i a xs ds t q
        exact call_len_seq pins s σ H _ us Q I rv ⟨a, xs, rfl, .inr (hK ▸ t), h μ H _ (Sr.refl hl) (by rw [← q.length]; exact .int _)⟩
      · rename_i n a ha
        split at h
        · rename_i ds e1
          obtain ⟨vs, hv, rv'⟩ := hl.at ha e1
          exact call_len_seq pins s σ H _ us Q I rv ⟨a, vs, rfl, .inl (SqL.of hv), h μ H _ (Sr.refl hl) (by rw [← rv'.length]; exact .int _)⟩
        · rename_i kvs e1
          obtain ⟨kvs', hv, rv'⟩ := hl.at ha e1
          obtain ⟨u, rfl, ru⟩ := vals1 rv
          cases ru
          exact d_len I (.inl hv) fun tk s' I' => ⟨.int _, H, I', ⟨tk, rfl⟩, h μ H _ (Sr.refl hl) (by rw [← pair_len rv']; exact .int _)⟩
        · exact h.elim
      · rename_i a ns q
        exact call_len_seq pins s σ H _ us Q I rv ⟨a, ns.map V.int, rfl, .inl (hK ▸ q.sql), h μ H _ (Sr.refl hl) (by rw [List.length_map]; exact .int _)⟩
theorem cr_list (hK : X.K = G.K) : CallR X (.type "list") (rBf G .list) := by
  intro pins s σ H xs us Q I rv ⟨Xc, μ, vh, ds, hl, r, h⟩
  cases r with
  | nil => exact h.elim
  | cons r t =>
    cases t with
    | cons _ _ => cases r <;> exact (show False from h).elim
    | nil =>
      cases r <;> simp only [bfF] at h <;> try exact (show False from h).elim
      · rename_i a xs ds t q
        exact call_list_of pins s σ H _ us Q I rv ⟨a, xs, rfl, .inr (hK ▸ t), fun p hp => h _ _ _ (hl.newL hp q) (.ref (new_at hl))⟩
      · rename_i n a ha
        split at h
        · rename_i ds e1
          obtain ⟨vs, hv, rv'⟩ := hl.lst ha e1
          exact call_list_of pins s σ H _ us Q I rv ⟨a, vs, rfl, .inl (SqL.of hv), fun p hp => h _ _ _ (hl.newL hp rv') (.ref (new_at hl))⟩
        · exact h.elim
      · rename_i a ns q
        exact call_list_of pins s σ H _ us Q I rv ⟨a, ns.map V.int, rfl, .inl (hK ▸ q.sql), fun p hp => h _ _ _ (hl.newL hp (relDs_ints ns)) (.ref (new_at hl))⟩
theorem cr_tuple (hK : X.K = G.K) : CallR X (.type "tuple") (rBf G .tuple) := by
  intro pins s σ H xs us Q I rv ⟨Xc, μ, vh, ds, hl, r, h⟩
  cases r with
  | nil => exact h.elim
  | cons r t =>
    cases t with
    | cons _ _ => cases r <;> exact (show False from h).elim
    | nil =>
      cases r <;> simp only [bfF] at h <;> try exact (show False from h).elim
      · rename_i a xs ds t q
        exact call_tuple_of pins s σ H _ us Q I rv ⟨a, xs, rfl, .inr ⟨hK ▸ t, h μ H _ (Sr.refl hl) (.tup t q)⟩⟩
      · rename_i n a ha
        split at h
        · rename_i ds e1
          obtain ⟨vs, hv, rv'⟩ := hl.lst ha e1
          exact call_tuple_of pins s σ H _ us Q I rv ⟨a, vs, rfl, .inl ⟨SqL.of hv, fun p hp => h _ _ _ (hl.newT hp) (newT_rel hp rv')⟩⟩
        · exact h.elim
theorem allB_rel {K : PySem.W.Frag} {μ : List Addr} {H : Hp} : ∀ {ds : List D} {vs : List V} {b : Bool}, RelDs K μ H ds vs → allB ds = some b → ∃ bs : List Bool, vs = bs.map V.bl ∧ b = bs.all id
  | _, _, _, .nil, e => by simp only [allB] at e; cases e; exact ⟨[], rfl, rfl⟩
  | _, _, b, .cons h t, e => by
    cases h <;> simp only [allB] at e <;> try contradiction
    rename_i ds vs c
    cases hq : allB ds with
    | none => rw [hq] at e; cases e
    | some b' =>
      rw [hq] at e; cases e
      obtain ⟨bs, rfl, rfl⟩ := allB_rel t hq
      exact ⟨c :: bs, rfl, rfl⟩
theorem anyB_rel {K : PySem.W.Frag} {μ : List Addr} {H : Hp} : ∀ {ds : List D} {vs : List V} {b : Bool}, RelDs K μ H ds vs → anyB ds = some b → ∃ bs : List Bool, vs = bs.map V.bl ∧ b = bs.any id
  | _, _, _, .nil, e => by simp only [anyB] at e; cases e; exact ⟨[], rfl, rfl⟩
  | _, _, b, .cons h t, e => by
    cases h <;> simp only [anyB] at e <;> try contradiction
    rename_i ds vs c
    cases hq : anyB ds with
    | none => rw [hq] at e; cases e
    | some b' =>
      rw [hq] at e; cases e
      obtain ⟨bs, rfl, rfl⟩ := anyB_rel t hq
      exact ⟨c :: bs, rfl, rfl⟩
theorem cr_allE (hK : X.K = G.K) (hc : X.calm = true) : CallR X (.builtin "all") (rBf G .all) := by
  intro pins s σ H xs us Q I rv ⟨Xc, μ, vh, ds, hl, r, h⟩
  cases r with
  | nil => exact h.elim
  | cons r t =>
    cases t with
    | cons _ _ => cases r <;> exact (show False from h).elim
    | nil =>
      cases r <;> simp only [bfF] at h <;> try exact (show False from h).elim
      rename_i n a ha
      split at h
      · rename_i ds e1
        obtain ⟨vs, hv, rv'⟩ := hl.lst ha e1
        cases hb : allB ds with
        | none => rw [hb] at h; exact h.elim
        | some b =>
          rw [hb] at h
          obtain ⟨bs, rfl, rfl⟩ := allB_rel rv' hb
          exact cr_all hc pins s σ H _ us Q I rv ⟨a, bs, rfl, SqL.of hv, h μ H _ (Sr.refl hl) (.bl _)⟩
      · exact h.elim
theorem cr_anyE (hK : X.K = G.K) (hc : X.calm = true) : CallR X (.builtin "any") (rBf G .any) := by
  intro pins s σ H xs us Q I rv ⟨Xc, μ, vh, ds, hl, r, h⟩
  cases r with
  | nil => exact h.elim
  | cons r t =>
    cases t with
    | cons _ _ => cases r <;> exact (show False from h).elim
    | nil =>
      cases r <;> simp only [bfF] at h <;> try exact (show False from h).elim
      rename_i n a ha
      split at h
      · rename_i ds e1
        obtain ⟨vs, hv, rv'⟩ := hl.lst ha e1
        cases hb : anyB ds with
        | none => rw [hb] at h; exact h.elim
        | some b =>
          rw [hb] at h
          obtain ⟨bs, rfl, rfl⟩ := anyB_rel rv' hb
          exact cr_any hc pins s σ H _ us Q I rv ⟨a, bs, rfl, SqL.of hv, h μ H _ (Sr.refl hl) (.bl _)⟩
      · exact h.elim
/-! methods: the receiver is the first of the list -/
def rMt (G : GC) (f : BF) : V → List V → Hp → VK → Prop := fun x xs H Q => rBf G f (x :: xs) H Q
theorem mt_appendE : MtR X "list.append" (rMt G .append) := by
  intro pins s σ H x xs v us Q I rx rv ⟨Xc, μ, vh, ds, hl, r, h⟩
  cases r with
  | cons r t =>
    cases t with
    | nil => cases r <;> exact (show False from h).elim
    | cons r2 t =>
      cases t with
      | cons _ _ => cases r <;> exact (show False from h).elim
      | nil =>
        cases r <;> simp only [bfF] at h <;> try exact (show False from h).elim
        rename_i n a ha
        split at h
        · rename_i ds e1
          split at h
          · rename_i hz
            obtain ⟨vs, hv, rv'⟩ := hl.lst ha e1
            exact mt_append pins s σ H _ _ v us Q I rx rv ⟨a, vs, _, rfl, rfl, hv, by rw [← rv'.length]; exact hz, h _ _ _ (hl.putL ha e1 (rv'.append (.cons r2 .nil))) .non⟩
          · exact h.elim
        · exact h.elim
theorem mt_extendE : MtR X "list.extend" (rMt G .extend) := by
  intro pins s σ H x xs v us Q I rx rv ⟨Xc, μ, vh, ds, hl, r, h⟩
  cases r with
  | cons r t =>
    cases t with
    | nil => cases r <;> exact (show False from h).elim
    | cons r2 t =>
      cases t with
      | cons _ _ => cases r <;> cases r2 <;> exact (show False from h).elim
      | nil =>
        cases r <;> cases r2 <;> simp only [bfF] at h <;> try exact (show False from h).elim
        rename_i n a ha m b hb
        split at h
        · rename_i ds es e1 e2
          split at h
          · rename_i hz
            obtain ⟨vs, hv, rv'⟩ := hl.lst ha e1
            obtain ⟨ws, hw, rw'⟩ := hl.lst hb e2
            exact mt_extend pins s σ H _ _ v us Q I rx rv ⟨a, b, vs, ws, rfl, rfl, hv, hw, by rw [← rv'.length, ← rw'.length]; exact hz, h _ _ _ (hl.putL ha e1 (rv'.append rw')) .non⟩
          · exact h.elim
        · exact h.elim
theorem mt_popE : MtR X "list.pop" (rMt G .pop) := by
  intro pins s σ H x xs v us Q I rx rv ⟨Xc, μ, vh, ds, hl, r, h⟩
  cases r with
  | cons r t =>
    cases t with
    | cons _ _ => cases r <;> exact (show False from h).elim
    | nil =>
      cases r <;> simp only [bfF] at h <;> try exact (show False from h).elim
      rename_i n a ha
      split at h
      · rename_i ds e1
        split at h
        · rename_i d e2
          obtain ⟨vs, hv, rv'⟩ := hl.lst ha e1
          obtain ⟨w, h1, h2⟩ := rv'.get e2
          have sr := hl.putL ha e1 rv'.dropLast
          exact mt_pop pins s σ H _ _ v us Q I rx rv ⟨a, vs, w, rfl, rfl, hv, by rw [← rv'.length]; exact h1, h _ _ _ sr (h2.mono sr.pre sr.keep)⟩
        · exact h.elim
      · exact h.elim
theorem mt_pop0E : MtR X "list.pop" (rMt G .pop0) := by
  intro pins s σ H x xs v us Q I rx rv ⟨Xc, μ, vh, ds, hl, r, h⟩
  cases r with
  | cons r t =>
    cases t with
    | nil => cases r <;> exact (show False from h).elim
    | cons r2 t =>
      cases t with
      | cons _ _ => cases r <;> cases r2 <;> exact (show False from h).elim
      | nil =>
        cases r <;> cases r2 <;> simp only [bfF] at h <;> try exact (show False from h).elim
        rename_i n a ha k
        split at h
        · rename_i d ds e1
          split at h
          · rename_i hz
            subst hz
            obtain ⟨vs, hv, rv'⟩ := hl.lst ha e1
            cases rv' with
            | cons q qs =>
              rename_i w ws
              have sr := hl.putL ha e1 qs
              refine mt_popAt pins s σ H _ _ v us Q I rx rv ⟨a, w :: ws, 0, 0, w, rfl, rfl, hv, by decide, by decide, ?_, rfl, h _ _ _ sr (q.mono sr.pre sr.keep)⟩
              have := seqIndex_of (k := 0) (n := (w :: ws).length) (by decide) (by rw [List.length_cons]; omega)
              simpa using this
          · exact h.elim
        · exact h.elim
theorem mt_clearE : MtR X "list.clear" (rMt G .clear) := by
  intro pins s σ H x xs v us Q I rx rv ⟨Xc, μ, vh, ds, hl, r, h⟩
  cases r with
  | cons r t =>
    cases t with
    | cons _ _ => cases r <;> exact (show False from h).elim
    | nil =>
      cases r <;> simp only [bfF] at h <;> try exact (show False from h).elim
      rename_i n a ha
      split at h
      · rename_i ds e1
        obtain ⟨vs, hv, rv'⟩ := hl.lst ha e1
        exact mt_clear pins s σ H _ _ v us Q I rx rv ⟨a, vs, rfl, rfl, hv, h _ _ _ (hl.putL ha e1 .nil) .non⟩
      · exact h.elim
/-! o[i] = d -/
def rSetE (G : GC) : V → V → V → Hp → (Hp → Prop) → Prop := fun o i v H Q => ∃ (μ : List Addr) (vh : VH) (x y d : D) (vh' : VH), Rl G μ vh H ∧ RelD G.K μ H x o ∧ RelD G.K μ H y i ∧ RelD G.K μ H d v ∧ setF x y d vh = some vh' ∧ ∀ H', Sr G μ H μ vh' H' → Q H'
theorem set_setF (hu : X.A.units + 65 < cLine) : PSet X (rSetE G) := by
  intro pins s σ H o i v ov iv u Q I ro ri rv ⟨μ, vh, x, y, d, vh', hl, rx, ry, rd, h, q⟩
  cases rx <;> simp only [setF] at h <;> try contradiction
  rename_i n a ha
  split at h
  · rename_i ds k e1
    cases ry
    cases hj : Sb.ixN ds.length k with
    | none => rw [hj] at h; cases h
    | some j =>
      rw [hj] at h; cases h
      obtain ⟨vs, hv, rv'⟩ := hl.at ha e1
      have e1' : lstAt vh n = some ds := by unfold lstAt; rw [e1]
      exact set_list pins s σ H _ _ v ov iv u Q I ro ri rv ⟨a, vs, k, j, rfl, rfl, hv, by rw [← rv'.length]; exact hj, q _ (hl.putL ha e1' (rv'.set rd j))⟩
  · rename_i kvs e1
    split at h
    · rename_i hd
      cases h
      obtain ⟨kvs', hv, rv'⟩ := hl.at ha e1
      obtain ⟨k, rfl, rfl⟩ := isKey_key (dok_key hd.1) ry
      cases ro
      have nd : (kvs'.map (·.1)).Nodup := by
        obtain ⟨_, _, vs, rel, dd⟩ := dk_of I.hok hv
        rw [KV.keys rel]
        obtain ⟨_, _, _, _, _, _, _, _, nd⟩ := dd
        exact nd
      exact d_setItem (by omega) I (DPut.k (k := k) hv (by rw [← pair_len rv']; exact hd.2)) ri rv fun s' I' => ⟨_, I', q _ (hl.putD ha e1 (kv_put rd rv' nd))⟩
    · cases h
  · cases h
end
end Sb

/-! from the program's text to the small syntax -/
namespace Sb
open PySem
structure Tab where
  fns : List Str
  mts : List (Str × Str)
  cls : List Str
  exc : List Str
  csts : List Str
  flds : List Str
  blts : List Str
def slotFrom : List Str → Str → Nat → Option Nat
  | [], _, _ => none
  | y :: r, x, i => if y = x then some i else slotFrom r x (i + 1)
def slot (N : List Str) (x : Str) : Option Nat := slotFrom N x 0
theorem slotFrom_get : ∀ {N : List Str} {x : Str} {i j : Nat}, slotFrom N x i = some j → i ≤ j ∧ N[j - i]? = some x
  | [], _, _, _, h => by cases h
  | y :: r, x, i, j, h => by
    unfold slotFrom at h
    split at h
    · rename_i e; cases h; subst e; exact ⟨Nat.le_refl _, by simp⟩
    · obtain ⟨h1, h2⟩ := slotFrom_get h
      refine ⟨by omega, ?_⟩
      rw [show j - i = (j - (i + 1)) + 1 by omega, List.getElem?_cons_succ]
      exact h2
theorem slot_get {N : List Str} {x : Str} {j : Nat} (h : slot N x = some j) : N[j]? = some x := by
  have := (slotFrom_get h).2
  simpa using this
def binOf : Operator → Option Bin
  | .Add => some .add | .Sub => some .sub | .Mult => some .mul | .FloorDiv => some .fdiv | .Mod => some .mod | .Pow => some .pow
  | _ => none
def cmOf : CmpOp → Cmp
  | .Eq => .eq | .NotEq => .ne | .Lt => .lt | .LtE => .le | .Gt => .gt | .GtE => .ge | .In => .isin | .NotIn => .notin | .Is => .is | .IsNot => .isnot
def notSet : Expr → Bool
  | .Set .. => false
  | _ => true
def notSlice : Expr → Bool
  | .Slice .. => false
  | _ => true
def notIf : Expr → Bool
  | .IfExp .. => false
  | _ => true
def notCall0 : Expr → Bool
  | .Call (.Name _ _) [] [] _ => false
  | _ => true
def isTupE : Expr → Bool
  | .Tuple .. => true
  | _ => false
/-- a built-in by its name and the number of its arguments -/
def bfOf (x : Str) (n : Nat) : Option BF :=
  if n = 1 then
    (if x = "len" then some .len else if x = "list" then some .list else if x = "tuple" then some .tuple else if x = "all" then some .all else if x = "any" then some .any
    else none)
  else none
/-- a built-in's method by its name and the number of its arguments -/
def bmOf (x : Str) (n : Nat) : Option BF :=
  if x = "append" ∧ n = 1 then some .append else if x = "extend" ∧ n = 1 then some .extend else if x = "pop" ∧ n = 0 then some .pop else if x = "pop" ∧ n = 1 then some .pop0
  else if x = "clear" ∧ n = 0 then some .clear else none
def tyOf (tb : Tab) (x : Str) : Option Ty :=
  if x = "int" then some .int else if x = "bool" then some .bool else if x = "str" then some .str else if x = "tuple" then some .tuple else if x = "list" then some .list
  else none
def okName (x : Str) : Bool := !(x == ("__debug__" : Str)) && !(x == ("__classdict__" : Str)) && !(x == ("__name__" : Str))
def ownOf (N : List Str) (scope : Scope) : List (Str × Nat) := scope.names.filterMap fun y => match y.2 with
  | .local => (slot N y.1).map fun i => (y.1, i)
  | .cell => (slot N y.1).map fun i => (y.1, i)
  | _ => none
mutual
def slotsT : T → List Nat
  | .nm i => [i]
  | .tp ts => slotsTs ts
  | .sub _ _ => []
def slotsTs : List T → List Nat
  | [] => []
  | t :: ts => slotsT t ++ slotsTs ts
end
def storable (osc : Scope) (x : Str) : Bool := match osc.names.lookup x with
  | some .local => true
  | some .cell => true
  | _ => false
mutual
def cE (tb : Tab) (N : List Str) : Nat → Scope → Expr → Option E
  | 0, _, _ => none
  | n + 1, sc, e => match e with
    | .Name x _ => if okName x = true then (match sc.names.lookup x with
        | some .local => (slot N x).map .var
        | some .cell => (slot N x).map .var
        | some .free => (slot N x).map .var
        | some .globalImplicit => if tb.csts.contains x = true then some (.glb x) else none
        | _ => none) else none
    | .Constant (.int i) _ _ => some (.cst (.int i))
    | .Constant (.bool b) _ _ => some (.cst (.bl b))
    | .Constant (.str x) _ _ => some (.cst (.str x))
    | .Constant .none _ _ => some (.cst .non)
    | .Tuple es _ _ => if es.length ≤ 1000 then (cEs tb N n sc es).map .tup else none
    | .List es _ => if es.length ≤ 1000 then (cEs tb N n sc es).map .lst else none
    | .Dict ks vs _ => if ks.length ≤ 15 ∧ ks.length = vs.length then (cP tb N n sc ks vs).map .dct else none
    | .BinOp a op b _ => (match binOf op, cE tb N n sc a, cE tb N n sc b with
        | some o, some a, some b => some (.bin o a b)
        | _, _, _ => none)
    | .UnaryOp .USub a _ => (cE tb N n sc a).map .neg
    | .UnaryOp .Not a _ => if notIf a = true then (cE tb N n sc a).map .not else none
    | .Compare a [op] [b] _ => if notSet b = true then (match cE tb N n sc a, cE tb N n sc b with
        | some a, some b => some (.cmp (cmOf op) a b)
        | _, _ => none) else none
    | .Compare a [op, op'] [b, c] _ => if notSet b = true ∧ notSet c = true then (match cE tb N n sc a, cE tb N n sc b, cE tb N n sc c with
        | some a, some b, some c => some (.chn (cmOf op) (cmOf op') a b c)
        | _, _, _ => none) else none
    | .BoolOp op vs _ => cB tb N n sc op vs
    | .IfExp c a b _ => if notIf c = true then (match cE tb N n sc c, cE tb N n sc a, cE tb N n sc b with
        | some c, some a, some b => some (.ite c a b)
        | _, _, _ => none) else none
    | .Subscript a (.Slice lo hi none _) _ => (match cE tb N n sc a, cO tb N n sc lo, cO tb N n sc hi with
        | some a, some lo, some hi => some (.slc a lo hi)
        | _, _, _ => none)
    | .Subscript a (.Slice none none (some (.UnaryOp .USub (.Constant (.int 1) _ _) _)) _) _ => (cE tb N n sc a).map .rev
    | .Subscript a i _ => if notSlice i = true then (match cE tb N n sc a, cE tb N n sc i with
        | some a, some i => some (.idx a i)
        | _, _ => none) else none
    | .Call (.Name x _) args [] _ => if okName x = true ∧ sc.names.lookup x = some .globalImplicit then
        (if tb.fns.contains x = true then (cEs tb N n sc args).map (.cal x)
        else if tb.blts.contains x = false then none
        else if x = "isinstance" then (match args with
          | [a, .Name t _] => if okName t = true ∧ sc.names.lookup t = some .globalImplicit ∧ tb.blts.contains t = true then (match cE tb N n sc a, tyOf tb t with
            | some a, some t => some (.isi a t)
            | _, _ => none) else none
          | _ => none)
        else match bfOf x args.length with
          | some f => (cEs tb N n sc args).map (.bfn f)
          | none => none) else none
    | .Call (.Attribute o m apos) args [] pos => if notCall0 o = true ∧ args.length < 20 then (match cE tb N n sc o, cEs tb N n sc args with
        | some o, some args => (match tb.mts.lookup m with
          | some c => none
          | none => if (apos.endLine == pos.line) = true then (match bmOf m args.length with
            | some f => some (.bmt f o args)
            | none => none) else none)
        | _, _ => none) else none
    | .ListComp elt [⟨tg, iter, ifs, 0⟩] scope _ =>
        let own := ownOf N scope
        let sc' := L2.relS scope sc
        if L2.blkC N sc scope own = true ∧ notSet iter = true then
          (match cT tb N n sc' scope tg, cI tb N n sc tg iter, cC tb N n sc' ifs, cE tb N n sc' elt with
          | some g, some it, some c, some e => if (slotsT g).all (fun i => (own.map (·.2)).contains i) = true then some (.cpr (own.map (·.2)) g it c e) else none
          | _, _, _, _ => none) else none
    | _ => none
def cEs (tb : Tab) (N : List Str) : Nat → Scope → List Expr → Option (List E)
  | 0, _, _ => none
  | _ + 1, _, [] => some []
  | n + 1, sc, e :: es => (match cE tb N n sc e, cEs tb N n sc es with
    | some e, some es => some (e :: es)
    | _, _ => none)
def cP (tb : Tab) (N : List Str) : Nat → Scope → List (Option Expr) → List Expr → Option (List E)
  | 0, _, _, _ => none
  | _ + 1, _, [], [] => some []
  | n + 1, sc, some k :: ks, v :: vs => (match cE tb N n sc k, cE tb N n sc v, cP tb N n sc ks vs with
    | some k, some v, some r => some (k :: v :: r)
    | _, _, _ => none)
  | _, _, _, _ => none
def cB (tb : Tab) (N : List Str) : Nat → Scope → BoolOp → List Expr → Option E
  | 0, _, _, _ => none
  | n + 1, sc, op, [a] => if notIf a = true then cE tb N n sc a else none
  | n + 1, sc, op, a :: b :: rest => if notIf a = true then (match cE tb N n sc a, cB tb N n sc op (b :: rest) with
    | some a, some b => some (match op with | .And => .and a b | .Or => .or a b)
    | _, _ => none) else none
  | _, _, _, _ => none
def cO (tb : Tab) (N : List Str) : Nat → Scope → Option Expr → Option (Option E)
  | 0, _, _ => none
  | _ + 1, _, none => some none
  | n + 1, sc, some e => (cE tb N n sc e).map some
/-- a comprehension's tests -/
def cC (tb : Tab) (N : List Str) : Nat → Scope → List Expr → Option (Option E)
  | 0, _, _ => none
  | _ + 1, _, [] => some none
  | n + 1, sc, [e] => if notIf e = true then (cE tb N n sc e).map some else none
  | _, _, _ => none
def cT (tb : Tab) (N : List Str) : Nat → Scope → Scope → Expr → Option T
  | 0, _, _, _ => none
  | n + 1, sc, osc, e => match e with
    | .Name x _ => if storable osc x = true then (slot N x).map .nm else none
    | .Tuple es _ _ => (cTs tb N n sc osc es).map .tp
    | .Subscript o i _ => if notSlice i = true then (match cE tb N n sc o, cE tb N n sc i with
      | some o, some i => some (.sub o i)
      | _, _ => none) else none
    | _ => none
def cTs (tb : Tab) (N : List Str) : Nat → Scope → Scope → List Expr → Option (List T)
  | 0, _, _, _ => none
  | _ + 1, _, _, [] => some []
  | n + 1, sc, osc, e :: es => (match cT tb N n sc osc e, cTs tb N n sc osc es with
    | some e, some es => some (e :: es)
    | _, _ => none)
def cI (tb : Tab) (N : List Str) : Nat → Scope → Expr → Expr → Option I
  | 0, _, _, _ => none
  | n + 1, sc, tg, e => match e with
    | .Call (.Name x _) args [] _ =>
      if x = "range" ∧ tb.blts.contains x = true ∧ sc.names.lookup x = some .globalImplicit ∧ args.length = 1 then (cEs tb N n sc args).map .rng
      else if x = "enumerate" ∧ tb.blts.contains x = true ∧ sc.names.lookup x = some .globalImplicit then (match args with
        | [a] => if isTupE tg = true then (cE tb N n sc a).map .enm else none
        | _ => none)
      else if x = "zip" ∧ tb.blts.contains x = true ∧ sc.names.lookup x = some .globalImplicit then (match args with
        | [a, b] => if isTupE tg = true then (match cE tb N n sc a, cE tb N n sc b with
          | some a, some b => some (.zip a b)
          | _, _ => none) else none
        | _ => none)
      else (cE tb N n sc e).map .seq
    | e => (cE tb N n sc e).map .seq
end
end Sb

/-! expressions: the evaluator is sound -/
namespace Sb
open PySem PySem.Spec PyProof.Rows L2
section
variable {X : Cx}
theorem PE_of {e : Expr} {t t' : TE} (h : PE X e t) (f : ∀ σ H Q, t' σ H Q → t σ H Q) : PE X e t' := ⟨fun pins s σ H Q I q => h.run pins s σ H Q I (f σ H Q q)⟩
theorem PT_of {e : Expr} {t t' : TT} (h : PT X e t) (f : ∀ σ H Q, t' σ H Q → t σ H Q) : PT X e t' := ⟨fun pins s σ H Q I q => h.run pins s σ H Q I (f σ H Q q)⟩
theorem PA_of {e : List Expr} {t t' : TA} (h : PA X e t) (f : ∀ σ H Q, t' σ H Q → t σ H Q) : PA X e t' := ⟨fun pos pins s σ H Q I q => h.run pos pins s σ H Q I (f σ H Q q)⟩
theorem PO_of {e : Option Expr} {t t' : TO} (h : PO X e t) (f : ∀ σ H Q, t' σ H Q → t σ H Q) : PO X e t' := ⟨fun pins s σ H Q I q => h.run pins s σ H Q I (f σ H Q q)⟩
end
/-- a def's promise by its contract -/
def spOf (G : GC) (m : Ct) (n : Nat) : Sp := fun vs H Q E => vs.length = n ∧ ∃ (μ : List Addr) (vh : VH) (ds : List D), Rl G μ vh H ∧ RelDs G.K μ H ds vs ∧ AfR G (RelD G.K) (fun c H' => E (.ref (G.cl c)) none H') μ H Q (m ds vh)
/-- what is known of the program's own names -/
structure Gok (G : GC) (tb : Tab) (k : Nat) : Prop where
  fn : ∀ x, tb.fns.contains x = true → ∃ (m : Ct) (f : Addr) (fd : FuncData) (ps : List Str), G.Γ.fn x = some m ∧ (∀ ds vh, m ds vh ≠ none → ds.length = ps.length) ∧ FnOk G.P G.w G.K G.mg G.base (L2.CX G.P G.w) k f fd ps (spOf G m ps.length) ∧ G.mg x = some (.ref f) ∧ PySem.W.keepIn G.K (.ref f) = true ∧ Binds G.K fd ps []
  cst : ∀ x, tb.csts.contains x = true → ∃ (d : D) (v : V) (u : Value), G.Γ.cst x = some d ∧ G.mg x = some u ∧ RelV v u ∧ ∀ μ H, RelD G.K μ H d v
  blt : ∀ x, tb.blts.contains x = true → G.mg x = none
/-- a place in the program where expressions stand -/
structure Cok (G : GC) (tb : Tab) (k : Nat) (N : List Str) (sc osc : Scope) (W : WX) (X : Cx) : Prop where
  P : X.prog = G.P
  w : X.w = G.w
  K : X.K = G.K
  mg : X.mg = G.mg
  base : X.base = G.base
  hN : X.N = N
  nd : N.Nodup
  sc : X.env.scope = sc
  calm : X.calm = true
  room : Room k X.A
  tk : Takes X W
  st : ∀ x, storable osc x = true → Loc X.env.scope x ∧ (X.fn x = true ∨ X.env.scope.names.lookup x = some .local)
section
variable {G : GC} {tb : Tab} {k : Nat} {N : List Str} {sc osc : Scope} {W : WX} {X : Cx}
theorem Cok.un (C : Cok G tb k N sc osc W X) : X.A.units + 65 < cLine := by
  have := C.room.un
  omega
theorem okName_debug {x : Str} (h : okName x = true) : (x == ("__debug__" : Str)) = false ∧ (x == ("__classdict__" : Str)) = false ∧ x ≠ "__name__" := by
  unfold okName at h
  simp only [Bool.and_eq_true, Bool.not_eq_true'] at h
  exact ⟨h.1.1, h.1.2, fun e => by rw [e] at h; simp at h⟩
/-! ### simple expressions -/
theorem se_var {i : Nat} {x : Str} {pos : Pos} (C : Cok G tb k N sc osc W X) (hi : slot N x = some i) (hv : Vis X.env.scope x) (hx : okName x = true) : PE X (.Name x pos) (tE G W (.var i)) := by
  refine PE_of (pe_var (i := i) (by rw [C.hN]; exact slot_get hi) hv (okName_debug hx).1 (okName_debug hx).2.1) fun σ H Q ⟨μ, vh, fr, hl, hf, h⟩ => ?_
  simp only [ev] at h
  split at h
  · rename_i d e
    obtain ⟨v, e1, r⟩ := hf.get i d e
    exact ⟨v, e1, h μ H v (Sr.refl hl) r⟩
  · exact h.elim
theorem se_cst {e : Expr} {v : V} {d : D} (p : PE X e (tC v)) (r : ∀ μ H, RelD G.K μ H d v) : PE X e (tE G W (.cst d)) :=
  PE_of p fun σ H Q ⟨μ, vh, fr, hl, hf, h⟩ => h μ H v (Sr.refl hl) (r μ H)
theorem se_glb {x : Str} {pos : Pos} (O : Gok G tb k) (C : Cok G tb k N sc osc W X) (hg : sc.names.lookup x = some .globalImplicit) (hx : okName x = true) (hc : tb.csts.contains x = true) : PE X (.Name x pos) (tE G W (.glb x)) := by
  obtain ⟨d, v, u, h1, h2, h3, h4⟩ := O.cst x hc
  refine PE_of (pe_glob (v := v) (show X.env.kindOf x = _ by unfold Env.kindOf; rw [C.sc]; exact hg) (by rw [C.mg]; exact h2) h3 (okName_debug hx).1) fun σ H Q ⟨μ, vh, fr, hl, hf, h⟩ => ?_
  simp only [ev, h1, lift] at h
  exact h μ H v (Sr.refl hl) (h4 μ H)
theorem evs_len {Γ : Env} : ∀ {es : List E} {fr : Fr} {vh vh' : VH} {ds : List D}, evs Γ es fr vh = some (.ok ds, vh') → ds.length = es.length
  | [], fr, vh, vh', ds, h => by simp only [evs] at h; cases h; rfl
  | e :: es, fr, vh, vh', ds, h => by
    simp only [evs] at h
    cases h1 : ev Γ e fr vh with
    | none => rw [h1] at h; cases h
    | some p =>
      obtain ⟨r, vh1⟩ := p
      cases r with
      | ex c => rw [h1] at h; cases h
      | ok d =>
        rw [h1, R.bind_ok] at h
        cases h2 : evs Γ es fr vh1 with
        | none => rw [h2] at h; cases h
        | some p =>
          obtain ⟨r, vh2⟩ := p
          cases r with
          | ex c => rw [h2] at h; cases h
          | ok ds' => rw [h2, R.bind_ok] at h; cases h; rw [List.length_cons, List.length_cons, evs_len h2]
/-! ### lists of expressions -/
theorem sa_nil : PA X [] (tEs G W []) := PA_of pa_nil fun σ H Q ⟨μ, vh, fr, hl, hf, h⟩ => by
  simp only [evs] at h
  exact h μ H [] (Sr.refl hl) .nil
def notStar : Expr → Bool
  | .Starred .. => false
  | _ => true
theorem star_cons {e : Expr} {es : List Expr} {env : PySem.Env} (h : notStar e = true) : starEach (e :: es) env = (false, eval e env) :: starEach es env := by
  cases e <;> first | rfl | (simp [notStar] at h)
theorem star_any {env : PySem.Env} {pos : Pos} : ∀ {es : List Expr}, es.all notStar = true → (backTo pos (starEach es env)).any (·.1) = false
  | [], _ => rfl
  | e :: es, h => by
    rw [List.all_cons, Bool.and_eq_true] at h
    rw [star_cons h.1]
    have := star_any (env := env) (pos := pos) h.2
    unfold backTo at this ⊢
    rw [List.map_cons, List.any_cons, this]
    rfl
theorem star_all {env : PySem.Env} {pos : Pos} : ∀ {es : List Expr}, es.all notStar = true → (backTo pos (starEach es env)).all (fun x => !x.1) = true
  | [], _ => rfl
  | e :: es, h => by
    rw [List.all_cons, Bool.and_eq_true] at h
    rw [star_cons h.1]
    have := star_all (env := env) (pos := pos) h.2
    unfold backTo at this ⊢
    rw [List.map_cons, List.all_cons, this]
    rfl
theorem sa_cons {e : Expr} {es : List Expr} {e' : E} {es' : List E} (h1 : PE X e (tE G W e')) (h2 : PA X es (tEs G W es')) (hs : notStar e = true) : PA X (e :: es) (tEs G W (e' :: es')) := by
  refine PA_of (pa_cons h1 h2 (star_cons hs)) fun σ H Q ⟨μ, vh, fr, hl, hf, h⟩ => ?_
  simp only [evs] at h
  refine ⟨μ, vh, fr, hl, hf, h.bind.imp fun x H1 ⟨d, vh1, μ1, _, sr, rd, h1⟩ => ?_⟩
  refine ⟨μ1, vh1, fr, sr.rl, hf.mono sr.pre sr.keep, h1.bind.imp fun xs H2 ⟨ds, vh2, μ2, _, sr2, rds, h2⟩ => ?_⟩
  exact h2 μ2 H2 _ (Sr.refl sr2.rl) (.cons (rd.mono sr2.pre sr2.keep) rds)
theorem se_tup {es : List Expr} {es' : List E} {x1 : Nat} {pos : Pos} (h1 : PA X es (tEs G W es')) (hz : es'.length ≤ 1000) : PE X (.Tuple es x1 pos) (tE G W (.tup es')) := by
  refine PE_of (pe_tup h1) fun σ H Q ⟨μ, vh, fr, hl, hf, h⟩ => ?_
  simp only [ev] at h
  refine ⟨μ, vh, fr, hl, hf, h.bind.imp fun xs H1 ⟨ds, vh1, μ1, e, sr, rd, h1⟩ => ⟨?_, fun p hp => h1 μ1 _ _ (sr.rl.newT hp) (newT_rel hp rd)⟩⟩
  rw [← rd.length, evs_len e]
  exact Nat.le_trans hz (by decide)
theorem se_lst {es : List Expr} {es' : List E} {pos : Pos} (h1 : PA X es (tEs G W es')) (hz : es'.length ≤ 1000) : PE X (.List es pos) (tE G W (.lst es')) := by
  refine PE_of (pe_lst h1) fun σ H Q ⟨μ, vh, fr, hl, hf, h⟩ => ?_
  simp only [ev] at h
  refine ⟨μ, vh, fr, hl, hf, h.bind.imp fun xs H1 ⟨ds, vh1, μ1, e, sr, rd, h1⟩ => ⟨?_, fun p hp => h1 _ _ _ (sr.rl.newL hp rd) (.ref (new_at sr.rl))⟩⟩
  rw [← rd.length, evs_len e]
  exact Nat.le_trans hz (by decide)
/-! ### operators -/
/-- two parts, then something with their values -/
theorem two {a b : E} {σ : L2.St} {H : Hp} {μ : List Addr} {vh : VH} {fr : Fr} {α β : Type} {rel : List Addr → Hp → α → β → Prop} {Q : β → Hp → Prop} {f : D → D → VH → R α} {R2' : V → V → Hp → Prop} (hl : Rl G μ vh H) (hf : FrR G.K μ H fr σ)
    (h : AfR G rel (XW G W σ) μ H Q ((ev G.Γ a fr vh).bind fun x h => (ev G.Γ b fr h).bind fun y h => f x y h))
    (k : ∀ x y H2 d e vh2 μ2, Rl G μ2 vh2 H2 → RelD G.K μ2 H2 d x → RelD G.K μ2 H2 e y → FrR G.K μ2 H2 fr σ → AfR G rel (XW G W σ) μ2 H2 Q (f d e vh2) → R2' x y H2) :
    tE G W a σ H fun x H1 => tE G W b σ H1 fun y H2 => R2' x y H2 := by
  refine ⟨μ, vh, fr, hl, hf, h.bind.imp fun x H1 ⟨d, vh1, μ1, _, sr, rd, h1⟩ => ?_⟩
  refine ⟨μ1, vh1, fr, sr.rl, hf.mono sr.pre sr.keep, h1.bind.imp fun y H2 ⟨e, vh2, μ2, _, sr2, re, h2⟩ => ?_⟩
  exact k x y H2 d e vh2 μ2 sr2.rl (rd.mono sr2.pre sr2.keep) re (hf.mono (sr.trans sr2).pre (sr.trans sr2).keep) h2
theorem one {a : E} {σ : L2.St} {H : Hp} {μ : List Addr} {vh : VH} {fr : Fr} {α β : Type} {rel : List Addr → Hp → α → β → Prop} {Q : β → Hp → Prop} {f : D → VH → R α} {R1 : V → Hp → Prop} (hl : Rl G μ vh H) (hf : FrR G.K μ H fr σ)
    (h : AfR G rel (XW G W σ) μ H Q ((ev G.Γ a fr vh).bind fun x h => f x h))
    (k : ∀ x H1 d vh1 μ1, Sr G μ H μ1 vh1 H1 → RelD G.K μ1 H1 d x → FrR G.K μ1 H1 fr σ → AfR G rel (XW G W σ) μ1 H1 Q (f d vh1) → R1 x H1) : tE G W a σ H R1 := by
  refine ⟨μ, vh, fr, hl, hf, h.bind.imp fun x H1 ⟨d, vh1, μ1, _, sr, rd, h1⟩ => ?_⟩
  exact k x H1 d vh1 μ1 sr rd (hf.mono sr.pre sr.keep) h1
variable {a b c : Expr} {a' b' c' : E} {pos : Pos}
theorem se_bin {op : Operator} {o : Bin} (C : Cok G tb k N sc osc W X) (ho : binOf op = some o) (ha : PE X a (tE G W a')) (hb : PE X b (tE G W b')) : PE X (.BinOp a op b pos) (tE G W (.bin o a' b')) := by
  have e : op = opOf o := by cases op <;> simp only [binOf] at ho <;> cases ho <;> rfl
  subst e
  refine PE_of (pe_op (op_binF C.K o) ha hb) fun σ H Q ⟨μ, vh, fr, hl, hf, h⟩ => ?_
  simp only [ev] at h
  exact two hl hf h fun x y H2 d e vh2 μ2 hl2 r1 r2 _ h2 => ⟨_, μ2, vh2, d, e, hl2, r1, r2, h2⟩
theorem lift_ok {α : Type} {rel : List Addr → Hp → D → V → Prop} {Xc : Str → Hp → Prop} {μ : List Addr} {H : Hp} {Q : V → Hp → Prop} {o : Option α} {f : α → D} {vh : VH} (h : AfR G rel Xc μ H Q (lift (o.map f) vh)) : ∃ z, o = some z ∧ AfR G rel Xc μ H Q (some (.ok (f z), vh)) := by
  cases o with
  | none => exact h.elim
  | some z => exact ⟨z, rfl, h⟩
theorem se_neg (ha : PE X a (tE G W a')) : PE X (.UnaryOp .USub a pos) (tE G W (.neg a')) := by
  refine PE_of (pe_un un_neg ha) fun σ H Q ⟨μ, vh, fr, hl, hf, h⟩ => ?_
  simp only [ev] at h
  refine one hl hf h fun x H1 d vh1 μ1 hl1 r1 _ h1 => ?_
  obtain ⟨z, e, h2⟩ := lift_ok h1
  cases r1 <;> simp only [intOf] at e <;> cases e
  exact ⟨_, rfl, h2 μ1 H1 _ (Sr.refl hl1.rl) (.int _)⟩
theorem se_not (ha : PE X a (tE G W a')) : PE X (.UnaryOp .Not a pos) (tE G W (.not a')) := by
  refine PE_of (pe_not ha) fun σ H Q ⟨μ, vh, fr, hl, hf, h⟩ => ?_
  simp only [ev] at h
  refine one hl hf h fun x H1 d vh1 μ1 hl1 r1 _ h1 => ?_
  obtain ⟨z, e, h2⟩ := lift_ok h1
  cases r1 <;> simp only [truF] at e <;> cases e
  exact ⟨_, rfl, h2 μ1 H1 _ (Sr.refl hl1.rl) (.bl _)⟩
theorem cmOf_eq (op : CmpOp) : op = cmpOf (cmOf op) := by cases op <;> rfl
theorem noMark {op : CmpOp} {b : Expr} (h : notSet b = true) : behindInMarks op b = false := by
  cases b <;> first | rfl | (simp [notSet] at h)
/-- a test's reading, as an expression's -/
theorem tB_tE {e : E} {σ : L2.St} {H : Hp} {Q : Bool → Hp → Prop} (h : tB' G W e σ H Q) : tE G W e σ H fun x H1 => ∃ k, x = .bl k ∧ Q k H1 := by
  obtain ⟨μ, vh, fr, hl, hf, h⟩ := h
  unfold evb at h
  refine one hl hf h fun x H1 d vh1 μ1 sr r1 _ h1 => ?_
  cases r1 <;> simp only [truF, toB] at h1 <;> try exact (show False from h1).elim
  exact ⟨_, rfl, h1 μ1 H1 _ (Sr.refl sr.rl) rfl⟩
theorem cmp_imp {o : Cmp} {σ : L2.St} {H : Hp} {Q : VK} (h : tE G W (.cmp o a' b') σ H Q) : tOp (rCm G (cmpF o)) (tE G W a') (tE G W b') σ H Q := by
  obtain ⟨μ, vh, fr, hl, hf, h⟩ := h
  simp only [ev] at h
  refine two hl hf h fun x y H2 d e vh2 μ2 hl2 r1 r2 _ h2 => ?_
  obtain ⟨z, e1, h3⟩ := lift_ok h2
  exact ⟨μ2, vh2, d, e, z, hl2, r1, r2, e1, h3 μ2 H2 _ (Sr.refl hl2) (.bl _)⟩
theorem chn_imp {o o' : Cmp} {σ : L2.St} {H : Hp} {Q : VK} (h : tE G W (.chn o o' a' b' c') σ H Q) : tChain (rCm G (cmpF o)) (rCm G (cmpF o')) (tE G W a') (tE G W b') (tE G W c') σ H Q := by
  obtain ⟨μ, vh, fr, hl, hf, h⟩ := h
  simp only [ev] at h
  refine two hl hf h fun x y H2 d e vh2 μ2 hl2 r1 r2 hf2 h2 => ?_
  unfold brB at h2
  split at h2
  · rename_i e1
    refine ⟨μ2, vh2, d, e, true, hl2, r1, r2, e1, true, rfl, ?_⟩
    rw [if_pos rfl]
    refine one hl2 hf2 h2 fun w' H3 d3 vh3 μ3 hl3 r3 _ h3 => ?_
    obtain ⟨z, e3, h4⟩ := lift_ok h3
    exact ⟨μ3, vh3, e, d3, z, hl3.rl, r2.mono hl3.pre hl3.keep, r3, e3, h4 μ3 H3 _ (Sr.refl hl3.rl) (.bl _)⟩
  · rename_i e1
    refine ⟨μ2, vh2, d, e, false, hl2, r1, r2, e1, false, rfl, ?_⟩
    rw [if_neg (by simp)]
    exact h2 μ2 H2 _ (Sr.refl hl2) (.bl _)
  · exact h2.elim
theorem se_cmp {op : CmpOp} (C : Cok G tb k N sc osc W X) (hs : notSet b = true) (ha : PE X a (tE G W a')) (hb : PE X b (tE G W b')) : PE X (.Compare a [op] [b] pos) (tE G W (.cmp (cmOf op) a' b')) := by
  have O : OpR X (compareOp op) (rCm G (cmpF (cmOf op))) := by
    have := op_cmpF (G := G) C.K C.un (cmOf op)
    rw [← cmOf_eq] at this
    exact this
  exact PE_of (pe_cmpR O ha hb (noMark hs)) fun σ H Q => cmp_imp
theorem st_cmp {op : CmpOp} (C : Cok G tb k N sc osc W X) (hs : notSet b = true) (ha : PE X a (tE G W a')) (hb : PE X b (tE G W b')) : PT X (.Compare a [op] [b] pos) (tB' G W (.cmp (cmOf op) a' b')) := by
  have O : OpR X (compareOp op) (rCm G (cmpF (cmOf op))) := by
    have := op_cmpF (G := G) C.K C.un (cmOf op)
    rw [← cmOf_eq] at this
    exact this
  exact PT_of (pt_cmpR O ha hb (noMark hs)) fun σ H Q h => cmp_imp (tB_tE h)
theorem se_chn {op op' : CmpOp} (C : Cok G tb k N sc osc W X) (hs : notSet b = true) (hs' : notSet c = true) (ha : PE X a (tE G W a')) (hb : PE X b (tE G W b')) (hc : PE X c (tE G W c')) :
    PE X (.Compare a [op, op'] [b, c] pos) (tE G W (.chn (cmOf op) (cmOf op') a' b' c')) := by
  have O : ∀ op : CmpOp, OpR X (compareOp op) (rCm G (cmpF (cmOf op))) := fun op => by
    have := op_cmpF (G := G) C.K C.un (cmOf op)
    rw [← cmOf_eq] at this
    exact this
  exact PE_of (pe_chain (O op) (O op') ha hb hc (show lastMarks [op'] [c] = false from noMark hs')) fun σ H Q => chn_imp
theorem st_chn {op op' : CmpOp} (C : Cok G tb k N sc osc W X) (hs : notSet b = true) (hs' : notSet c = true) (ha : PE X a (tE G W a')) (hb : PE X b (tE G W b')) (hc : PE X c (tE G W c')) :
    PT X (.Compare a [op, op'] [b, c] pos) (tB' G W (.chn (cmOf op) (cmOf op') a' b' c')) := by
  have O : ∀ op : CmpOp, OpR X (compareOp op) (rCm G (cmpF (cmOf op))) := fun op => by
    have := op_cmpF (G := G) C.K C.un (cmOf op)
    rw [← cmOf_eq] at this
    exact this
  exact PT_of (pt_chain (O op) (O op') ha hb hc (show lastMarks [op'] [c] = false from noMark hs')) fun σ H Q h => chn_imp (tB_tE h)
/-! ### tests -/
/-- an expression whose test is its value's truth -/
def plainT : Expr → Bool
  | .UnaryOp .Not _ _ => false
  | .BoolOp .. => false
  | .IfExp .. => false
  | .Compare .. => false
  | _ => true
theorem st_plain {e : Expr} {e' : E} (h : PE X e (tE G W e')) (hp : plainT e = true) : PT X e (tB' G W e') := by
  refine PT_of (pt_val h fun whole => ?_) fun σ H Q h => tB_tE h
  cases e with
  | UnaryOp op x p => cases op <;> first | rfl | (simp [plainT] at hp)
  | _ => first | rfl | (simp [plainT] at hp)
theorem R.bind_assoc {α β γ : Type} (r : R α) (f : α → VH → R β) (g : β → VH → R γ) : (r.bind f).bind g = r.bind fun a h => (f a h).bind g := by
  match r with
  | some (.ok a, h) => rfl
  | some (.ex c, h) => rfl
  | none => rfl
/-- a test, then something by its answer -/
theorem oneB {e : E} {σ : L2.St} {H : Hp} {μ : List Addr} {vh : VH} {fr : Fr} {α β : Type} {rel : List Addr → Hp → α → β → Prop} {Q : β → Hp → Prop} {f : Bool → VH → R α} {R1 : Bool → Hp → Prop} (hl : Rl G μ vh H) (hf : FrR G.K μ H fr σ)
    (h : AfR G rel (XW G W σ) μ H Q ((evb G.Γ e fr vh).bind fun x h => f x h))
    (k : ∀ c H1 vh1 μ1, Sr G μ H μ1 vh1 H1 → FrR G.K μ1 H1 fr σ → AfR G rel (XW G W σ) μ1 H1 Q (f c vh1) → R1 c H1) : tB' G W e σ H R1 := by
  refine ⟨μ, vh, fr, hl, hf, h.bind.imp fun x H1 ⟨d, vh1, μ1, _, sr, rd, h1⟩ => ?_⟩
  subst rd
  exact k d H1 vh1 μ1 sr (hf.mono sr.pre sr.keep) h1
theorem evb_match {α : Type} {Γ : Env} {e : E} {fr : Fr} {vh : VH} {f g : VH → R α} : ((ev Γ e fr vh).bind fun x h => brB (truF x) (f h) (g h)) = (evb Γ e fr vh).bind fun c h => if c = true then f h else g h := by
  unfold evb
  rw [R.bind_assoc]
  congr 1
  funext x h
  cases x <;> try rfl
  rename_i b
  cases b <;> rfl
theorem st_not (ha : PT X a (tB' G W a')) : PT X (.UnaryOp .Not a pos) (tB' G W (.not a')) := by
  refine PT_of (pt_not ha) fun σ H Q ⟨μ, vh, fr, hl, hf, h⟩ => ?_
  have e : evb G.Γ (.not a') fr vh = (evb G.Γ a' fr vh).bind fun c h => some (.ok (!c), h) := by
    unfold evb
    simp only [ev]
    rw [R.bind_assoc, R.bind_assoc]
    congr 1
    funext x h
    cases x <;> rfl
  rw [e] at h
  exact oneB hl hf h fun c H1 vh1 μ1 sr _ h1 => h1 μ1 H1 _ (Sr.refl sr.rl) rfl
theorem sw_one {op : BoolOp} (ha : PT X a (tB' G W a')) : PW X (.BoolOp op [a] pos) (tB' G W a') := by
  cases op
  · exact pw_and1 ha
  · exact pw_or1 ha
theorem evb_and {Γ : Env} {fr : Fr} {vh : VH} : evb Γ (.and a' b') fr vh = (evb Γ a' fr vh).bind fun c h => if c = true then evb Γ b' fr h else some (.ok false, h) := by
  show ((ev Γ (.and a' b') fr vh).bind _) = _
  simp only [ev]
  rw [evb_match, R.bind_assoc]
  congr 1
  funext c h
  cases c <;> rfl
theorem evb_or {Γ : Env} {fr : Fr} {vh : VH} : evb Γ (.or a' b') fr vh = (evb Γ a' fr vh).bind fun c h => if c = true then some (.ok true, h) else evb Γ b' fr h := by
  show ((ev Γ (.or a' b') fr vh).bind _) = _
  simp only [ev]
  rw [evb_match, R.bind_assoc]
  congr 1
  funext c h
  cases c <;> rfl
variable {rest : List Expr}
theorem sw_and (ha : PT X a (tB' G W a')) (hb : PW X (.BoolOp .And (b :: rest) pos) (tB' G W b')) : PW X (.BoolOp .And (a :: b :: rest) pos) (tB' G W (.and a' b')) := by
  refine ⟨fun wh pins s σ H Q I ⟨μ, vh, fr, hl, hf, h⟩ => (pw_and ha hb).run wh pins s σ H Q I ?_⟩
  rw [evb_and] at h
  refine oneB hl hf h fun c H1 vh1 μ1 sr hf1 h1 => ?_
  cases c
  · rw [if_neg (by simp)] at h1 ⊢
    exact h1 μ1 H1 _ (Sr.refl sr.rl) rfl
  · rw [if_pos rfl] at h1 ⊢
    exact ⟨μ1, vh1, fr, sr.rl, hf1, h1⟩
theorem sw_or (ha : PT X a (tB' G W a')) (hb : PW X (.BoolOp .Or (b :: rest) pos) (tB' G W b')) : PW X (.BoolOp .Or (a :: b :: rest) pos) (tB' G W (.or a' b')) := by
  refine ⟨fun wh pins s σ H Q I ⟨μ, vh, fr, hl, hf, h⟩ => (pw_or ha hb).run wh pins s σ H Q I ?_⟩
  rw [evb_or] at h
  refine oneB hl hf h fun c H1 vh1 μ1 sr hf1 h1 => ?_
  cases c
  · rw [if_neg (by simp)] at h1 ⊢
    exact ⟨μ1, vh1, fr, sr.rl, hf1, h1⟩
  · rw [if_pos rfl] at h1 ⊢
    exact h1 μ1 H1 _ (Sr.refl sr.rl) rfl
theorem se_and (ha : PE X a (tE G W a')) (hb : PE X (.BoolOp .And (b :: rest) pos) (tE G W b')) : PE X (.BoolOp .And (a :: b :: rest) pos) (tE G W (.and a' b')) := by
  refine PE_of (pe_and ha hb) fun σ H Q ⟨μ, vh, fr, hl, hf, h⟩ => ?_
  simp only [ev] at h
  refine one hl hf h fun x H1 d vh1 μ1 sr r1 hf1 h1 => ?_
  cases r1 <;> simp only [truF, brB] at h1 <;> try exact (show False from h1).elim
  rename_i c
  refine ⟨c, rfl, ?_⟩
  cases c
  · rw [if_neg (by simp)]
    exact h1 μ1 H1 _ (Sr.refl sr.rl) (.bl _)
  · rw [if_pos rfl]
    exact ⟨μ1, vh1, fr, sr.rl, hf1, h1⟩
theorem se_or (ha : PE X a (tE G W a')) (hb : PE X (.BoolOp .Or (b :: rest) pos) (tE G W b')) : PE X (.BoolOp .Or (a :: b :: rest) pos) (tE G W (.or a' b')) := by
  refine PE_of (pe_or ha hb) fun σ H Q ⟨μ, vh, fr, hl, hf, h⟩ => ?_
  simp only [ev] at h
  refine one hl hf h fun x H1 d vh1 μ1 sr r1 hf1 h1 => ?_
  cases r1 <;> simp only [truF, brB] at h1 <;> try exact (show False from h1).elim
  rename_i c
  refine ⟨c, rfl, ?_⟩
  cases c
  · rw [if_neg (by simp)]
    exact ⟨μ1, vh1, fr, sr.rl, hf1, h1⟩
  · rw [if_pos rfl]
    exact h1 μ1 H1 _ (Sr.refl sr.rl) (.bl _)
theorem se_ite (hc : PT X c (tB' G W c')) (ha : PE X a (tE G W a')) (hb : PE X b (tE G W b')) : PE X (.IfExp c a b pos) (tE G W (.ite c' a' b')) := by
  refine PE_of (pe_ifExp hc ha hb) fun σ H Q ⟨μ, vh, fr, hl, hf, h⟩ => ?_
  simp only [ev] at h
  rw [evb_match] at h
  refine oneB hl hf h fun c H1 vh1 μ1 sr hf1 h1 => ?_
  cases c
  · rw [if_neg (by simp)] at h1 ⊢
    exact ⟨μ1, vh1, fr, sr.rl, hf1, h1⟩
  · rw [if_pos rfl] at h1 ⊢
    exact ⟨μ1, vh1, fr, sr.rl, hf1, h1⟩
/-! ### subscripts -/
theorem plainIx {i : Expr} (h : notSlice i = true) : PlainIx i := fun o v => by cases i <;> first | rfl | (simp [notSlice] at h)
theorem se_idx (C : Cok G tb k N sc osc W X) (ha : PE X a (tE G W a')) (hb : PE X b (tE G W b')) (hs : notSlice b = true) : PE X (.Subscript a b pos) (tE G W (.idx a' b')) := by
  refine PE_of (pe_ix (ix_idxF C.K C.un) ha hb (plainIx hs)) fun σ H Q ⟨μ, vh, fr, hl, hf, h⟩ => ?_
  simp only [ev] at h
  refine two hl hf h fun x y H2 d e vh2 μ2 hl2 r1 r2 _ h2 => ?_
  cases hz : idxF d e vh2 with
  | none => rw [hz] at h2; exact h2.elim
  | some z => rw [hz] at h2; exact ⟨μ2, vh2, d, e, z, hl2, r1, r2, hz, fun v rv => h2 μ2 H2 v (Sr.refl hl2) rv⟩
theorem so_none : PO X none (tO G W none) := PO_of po_none fun σ H Q ⟨μ, vh, fr, hl, hf, h⟩ => by
  simp only [evo] at h
  exact h μ H _ (Sr.refl hl) rfl
theorem so_some (ha : PE X a (tE G W a')) : PO X (some a) (tO G W (some a')) := PO_of (po_some ha) fun σ H Q ⟨μ, vh, fr, hl, hf, h⟩ => by
  simp only [evo] at h
  refine one hl hf h fun x H1 d vh1 μ1 sr r1 hf1 h1 => ?_
  cases r1 <;> simp only [intOf] at h1 <;> try exact (show False from h1).elim
  exact ⟨_, rfl, h1 μ1 H1 _ (Sr.refl sr.rl) rfl⟩
theorem se_slc {lo hi : Option Expr} {lo' hi' : Option E} {p2 : Pos} (C : Cok G tb k N sc osc W X) (ha : PE X a (tE G W a')) (hl : PO X lo (tO G W lo')) (hu : PO X hi (tO G W hi')) : PE X (.Subscript a (.Slice lo hi none p2) pos) (tE G W (.slc a' lo' hi')) := by
  refine PE_of (pe_slice (sl_slcF C.K) ha hl hu) fun σ H Q ⟨μ, vh, fr, hl, hf, h⟩ => ?_
  simp only [ev] at h
  refine one hl hf h fun x H1 d vh1 μ1 sr r1 hf1 h1 => ?_
  refine ⟨μ1, vh1, fr, sr.rl, hf1, h1.bind.imp fun l H2 ⟨l', vh2, μ2, _, sr2, el, h2⟩ => ?_⟩
  subst el
  have hf2 := hf1.mono sr2.pre sr2.keep
  refine ⟨μ2, vh2, fr, sr2.rl, hf2, h2.bind.imp fun u H3 ⟨u', vh3, μ3, _, sr3, eu, h3⟩ => ?_⟩
  subst eu
  exact ⟨_, μ3, vh3, d, sr3.rl, r1.mono (sr2.trans sr3).pre (sr2.trans sr3).keep, h3⟩
theorem se_rev {j : Nat} {p1 p2 p3 : Pos} (C : Cok G tb k N sc osc W X) (ha : PE X a (tE G W a')) : PE X (.Subscript a (.Slice none none (some (.UnaryOp .USub (.Constant (.int 1) j p1) p2)) p3) pos) (tE G W (.rev a')) := by
  refine PE_of (pe_revL ha) fun σ H Q ⟨μ, vh, fr, hl, hf, h⟩ => ?_
  simp only [ev] at h
  refine one hl hf h fun x H1 d vh1 μ1 sr r1 hf1 h1 => ?_
  cases r1 <;> simp only [revF] at h1 <;> try exact (show False from h1).elim
  rename_i n a ha
  split at h1
  · rename_i ds e1
    obtain ⟨vs, hv, rv⟩ := sr.rl.lst ha e1
    exact ⟨a, vs, rfl, SqL.of hv, fun p hp => h1 _ _ _ (sr.rl.newL hp rv.reverse) (.ref (new_at sr.rl))⟩
  · exact h1.elim
/-! ### calls -/
theorem pe_callS0 {CX : CXT} {f : Addr} {fd : FuncData} {ps : List Str} {sp : Sp} {Es : L2.St → XK} {x : Str} {p : Pos} (F : FnOk X.prog X.w X.K X.mg X.base CX k f fd ps sp) (hr : Room k X.A) (hg : Gl X x) (hm : X.mg x = some (.ref f)) (hk : PySem.W.keepIn X.K (.ref f) = true) (hb : Binds X.K fd ps []) (hx : ∀ σ, PassesAt CX X σ (Es σ))
    (hdb : (x == ("__debug__" : Str)) = false) : PE X (.Call (.Name x p) [] [] pos) (tCallS sp Es tNil) := by
  refine ⟨fun pins s σ H Q I h => ?_⟩
  refine wpAny_Call_Name_kw (ld_glob I hg hm ?_ hdb)
  exact PySem.W.callWith_K0 I.kIn hk (run_fnS (us := []) F hr hb (hx σ) I .nil h)
theorem se_cal {x : Str} {p : Pos} {es : List Expr} {es' : List E} (O : Gok G tb k) (C : Cok G tb k N sc osc W X) (hf : tb.fns.contains x = true) (hg : sc.names.lookup x = some .globalImplicit) (hx : okName x = true) (ha : PA X es (tEs G W es')) (hst : es.all notStar = true) (hes : es.length = es'.length) :
    PE X (.Call (.Name x p) es [] pos) (tE G W (.cal x es')) := by
  obtain ⟨m, f, fd, ps, h1, ar, F, h2, h3, h4⟩ := O.fn x hf
  rw [← C.P, ← C.w, ← C.K, ← C.mg, ← C.base] at F
  have hgl : Gl X x := by unfold Gl Env.kindOf; rw [C.sc]; exact hg
  have imp : ∀ σ H Q, tE G W (.cal x es') σ H Q → tCallS (spOf G m ps.length) (WE W) (tEs G W es') σ H Q := fun σ H Q ⟨μ, vh, fr, hl, hf, h⟩ => by
    simp only [ev, h1] at h
    refine ⟨μ, vh, fr, hl, hf, h.bind.imp fun xs H1 ⟨ds, vh1, μ1, e, sr, rd, h5⟩ => ?_⟩
    exact ⟨by rw [← rd.length]; exact ar ds vh1 fun z => by (rw [z] at h5; exact h5), μ1, vh1, ds, sr.rl, rd, h5⟩
  cases es with
  | nil =>
    refine PE_of (pe_callS0 F C.room hgl (by rw [C.mg]; exact h2) (by rw [C.K]; exact h3) (by rw [C.K]; exact h4) (fun σ => passAt C.tk σ) (okName_debug hx).1) fun σ H Q h => ?_
    obtain ⟨μ, vh, fr, hl, hf, h⟩ := imp σ H Q h
    cases es' with
    | nil => simp only [evs] at h; exact h μ H _ (Sr.refl hl) .nil
    | cons e es' => cases hes
  | cons e es =>
    rw [List.all_cons, Bool.and_eq_true] at hst
    exact PE_of (pe_callS F C.room hgl (by rw [C.mg]; exact h2) (by rw [C.K]; exact h3) (by rw [C.K]; exact h4) (fun σ => passAt C.tk σ) ha (okName_debug hx).1 (star_cons hst.1) (star_any hst.2)) imp
end
end Sb

/-! built-ins, targets, iterables, comprehensions -/
namespace Sb
open PySem PySem.Spec PyProof.Rows L2
section
variable {G : GC} {tb : Tab} {k : Nat} {N : List Str} {sc osc : Scope} {W : WX} {X : Cx} {a b c : Expr} {a' b' c' : E} {pos : Pos}
theorem Cok.gl (C : Cok G tb k N sc osc W X) {x : Str} (h : sc.names.lookup x = some .globalImplicit) : Gl X x := by unfold Gl Env.kindOf; rw [C.sc]; exact h
theorem bfn_imp {f : BF} {es' : List E} {σ : L2.St} {H : Hp} {Q : VK} (h : tE G W (.bfn f es') σ H Q) : tCB (rBf G f) (tEs G W es') σ H Q := by
  obtain ⟨μ, vh, fr, hl, hf, h⟩ := h
  simp only [ev] at h
  exact ⟨μ, vh, fr, hl, hf, h.bind.imp fun xs H1 ⟨ds, vh1, μ1, _, sr, rd, h1⟩ => ⟨_, μ1, vh1, ds, sr.rl, rd, h1⟩⟩
theorem se_bfn {f : BF} {x : Str} {p : Pos} {es : List Expr} {es' : List E} (O : Gok G tb k) (C : Cok G tb k N sc osc W X) (hb : bfOf x es.length = some f) (hm : tb.blts.contains x = true) (hg : sc.names.lookup x = some .globalImplicit) (hx : okName x = true)
    (ha : PA X es (tEs G W es')) (hst : es.all notStar = true) : PE X (.Call (.Name x p) es [] pos) (tE G W (.bfn f es')) := by
  obtain ⟨hd, _, hn⟩ := okName_debug hx
  have hm' : X.mg x = none := by rw [C.mg]; exact O.blt x hm
  have hg' := C.gl hg
  cases es with
  | nil => simp [bfOf] at hb
  | cons e es =>
    rw [List.all_cons, Bool.and_eq_true] at hst
    have h1 := star_cons (env := X.env) (es := es) hst.1
    have h2 := star_any (env := X.env) (pos := pos) hst.2
    unfold bfOf at hb
    split at hb
    · split at hb
      · rename_i e1; cases hb; subst e1; exact PE_of (pe_callB (cr_len C.K) hg' hm' (by decide +kernel) ha hn hd h1 h2) fun σ H Q => bfn_imp
      split at hb
      · rename_i e1; cases hb; subst e1; exact PE_of (pe_callTy (cr_list C.K) hg' hm' (by decide +kernel) ha hn hd h1 h2) fun σ H Q => bfn_imp
      split at hb
      · rename_i e1; cases hb; subst e1; exact PE_of (pe_callTy (cr_tuple C.K) hg' hm' (by decide +kernel) ha hn hd h1 h2) fun σ H Q => bfn_imp
      split at hb
      · rename_i e1; cases hb; subst e1; exact PE_of (pe_callB (cr_allE C.K C.calm) hg' hm' (by decide +kernel) ha hn hd h1 h2) fun σ H Q => bfn_imp
      split at hb
      · rename_i e1; cases hb; subst e1; exact PE_of (pe_callB (cr_anyE C.K C.calm) hg' hm' (by decide +kernel) ha hn hd h1 h2) fun σ H Q => bfn_imp
      cases hb
    · cases hb
/-! ### methods of built-ins -/
theorem attrBase {o : Expr} {m : Str} {env : PySem.Env} {wh : Sem Value} (h : notCall0 o = true) : attributeBase o m env wh = wh := by
  cases o <;> try rfl
  rename_i f as ks p
  cases f <;> try rfl
  cases as <;> try rfl
  cases ks <;> first | rfl | (simp [notCall0] at h)
theorem bmt_imp {f : BF} {T : String} {es' : List E} {σ : L2.St} {H : Hp} {Q : VK} (ht : ∀ d vh x H μ, Rl G μ vh H → RelD G.K μ H d x → rcv f d vh = true → tyV G.K T x H) (h : tE G W (.bmt f a' es') σ H Q) : tBM G.K T (rMt G f) (tE G W a') (tEs G W es') σ H Q := by
  obtain ⟨μ, vh, fr, hl, hf, h⟩ := h
  simp only [ev] at h
  refine one hl hf h fun x H1 d vh1 μ1 sr r1 hf1 h1 => ?_
  split at h1
  · rename_i hr
    refine ⟨ht d vh1 x H1 μ1 sr.rl r1 hr, μ1, vh1, fr, sr.rl, hf1, h1.bind.imp fun xs H2 ⟨ds, vh2, μ2, _, sr2, rd, h2⟩ => ?_⟩
    exact ⟨_, μ2, vh2, d :: ds, sr2.rl, .cons (r1.mono sr2.pre sr2.keep) rd, h2⟩
  · exact h1.elim
theorem bmt_imp0 {f : BF} {T : String} {σ : L2.St} {H : Hp} {Q : VK} (ht : ∀ d vh x H μ, Rl G μ vh H → RelD G.K μ H d x → rcv f d vh = true → tyV G.K T x H) (h : tE G W (.bmt f a' []) σ H Q) : tBM0 G.K T (rMt G f) (tE G W a') σ H Q := by
  obtain ⟨μ, vh, fr, hl, hf, h⟩ := h
  simp only [ev] at h
  refine one hl hf h fun x H1 d vh1 μ1 sr r1 hf1 h1 => ?_
  split at h1
  · rename_i hr
    simp only [evs, R.bind_ok] at h1
    exact ⟨ht d vh1 x H1 μ1 sr.rl r1 hr, _, μ1, vh1, [d], sr.rl, .cons r1 .nil, h1⟩
  · exact h1.elim
/-- the methods of lists -/
theorem rcv_list {f : BF} (hf : f = .append ∨ f = .extend ∨ f = .pop ∨ f = .pop0 ∨ f = .clear) : ∀ d vh x H μ, Rl G μ vh H → RelD G.K μ H d x → rcv f d vh = true → tyV G.K "list" x H := by
  intro d vh x H μ hl r h
  have : ∃ n ds, d = .ref n ∧ lstAt vh n = some ds := by
    rcases hf with rfl | rfl | rfl | rfl | rfl <;> (cases d <;> simp only [rcv] at h <;> try contradiction)
    all_goals
      rename_i n
      obtain ⟨ds, e⟩ := Option.isSome_iff_exists.mp h
      exact ⟨n, ds, rfl, e⟩
  obtain ⟨n, ds, rfl, e⟩ := this
  cases r with
  | ref ha =>
    obtain ⟨vs, hv, _⟩ := hl.lst ha e
    exact .inl ⟨rfl, vs, SqL.of hv⟩
theorem se_bmt {f : BF} {m : Str} {apos : Pos} {es : List Expr} {es' : List E} (C : Cok G tb k N sc osc W X) (hb : bmOf m es.length = some f) (ha : PE X a (tE G W a')) (has : PA X es (tEs G W es')) (hst : es.all notStar = true) (h20 : es.length < 20)
    (hc : notCall0 a = true) (hline : (apos.endLine == pos.line) = true) (hes : es.length = es'.length) : PE X (.Call (.Attribute a m apos) es [] pos) (tE G W (.bmt f a' es')) := by
  have hbase := attrBase (m := m) (env := X.env) (wh := eval a X.env) hc
  unfold bmOf at hb
  cases es with
  | nil =>
    have e' : es' = [] := by cases es' with | nil => rfl | cons _ _ => simp at hes
    subst e'
    split at hb
    · rename_i e1; simp at e1
    split at hb
    · rename_i e1; simp at e1
    split at hb
    · rename_i e1
      cases hb; obtain ⟨rfl, _⟩ := e1
      refine PE_of (pe_bm0 PySem.F.plainAttrs_list PySem.F.slot_list_pop PySem.F.type_list_pop (mt_popE (G := G)) ha hbase hline) fun σ H Q h => ?_
      rw [C.K]; exact bmt_imp0 (rcv_list (by simp)) h
    split at hb
    · rename_i e1; simp at e1
    split at hb
    · rename_i e1
      cases hb; obtain ⟨rfl, _⟩ := e1
      refine PE_of (pe_bm0 PySem.F.plainAttrs_list PySem.F.slot_list_clear PySem.F.type_list_clear (mt_clearE (G := G)) ha hbase hline) fun σ H Q h => ?_
      rw [C.K]; exact bmt_imp0 (rcv_list (by simp)) h
    cases hb
  | cons e es =>
    have hst' := hst
    rw [List.all_cons, Bool.and_eq_true] at hst
    have h1 := star_cons (env := X.env) (es := es) hst.1
    have h2 := star_any (env := X.env) (pos := pos) hst.2
    have h3 : ((backTo pos (starEach (e :: es) X.env)).all (fun x => !x.1) && (backToKw pos (keywordEach [] X.env)).all (fun x => x.1.isSome)
        && decide ((e :: es).length + ([] : List Keyword).length + (if ([] : List Keyword).isEmpty then 0 else 1) < 30)) = true := by
      rw [star_all hst']
      simp only [keywordEach, backToKw, List.map_nil, List.all_nil, List.length_nil, Bool.true_and, List.isEmpty_nil, if_true, Nat.add_zero, decide_eq_true_eq]
      omega
    split at hb
    · rename_i e1
      cases hb; obtain ⟨rfl, _⟩ := e1
      refine PE_of (pe_bm PySem.F.plainAttrs_list PySem.F.slot_list_append PySem.F.type_list_append (mt_appendE (G := G)) ha has hbase h3 hline h1 h2) fun σ H Q h => ?_
      rw [C.K]; exact bmt_imp (rcv_list (by simp)) h
    split at hb
    · rename_i e1
      cases hb; obtain ⟨rfl, _⟩ := e1
      refine PE_of (pe_bm PySem.F.plainAttrs_list PySem.F.slot_list_extend PySem.F.type_list_extend (mt_extendE (G := G)) ha has hbase h3 hline h1 h2) fun σ H Q h => ?_
      rw [C.K]; exact bmt_imp (rcv_list (by simp)) h
    split at hb
    · rename_i e1; simp at e1
    split at hb
    · rename_i e1
      cases hb; obtain ⟨rfl, _⟩ := e1
      refine PE_of (pe_bm PySem.F.plainAttrs_list PySem.F.slot_list_pop PySem.F.type_list_pop (mt_pop0E (G := G)) ha has hbase h3 hline h1 h2) fun σ H Q h => ?_
      rw [C.K]; exact bmt_imp (rcv_list (by simp)) h
    split at hb
    · rename_i e1; simp at e1
    cases hb
/-! ### isinstance -/
theorem relD_ty {μ : List Addr} {H : Hp} {vh : VH} {d : D} {x : V} (hl : Rl G μ vh H) (r : RelD G.K μ H d x) : (∃ n, d = .ref n ∧ lstAt vh n = none) ∨ (∃ xs, d = .fls xs) ∨ ∃ T : String, TyX G.K H x (.type T) ∧
    ((d = .non ∧ T = "NoneType") ∨ ((∃ b, d = .bl b) ∧ T = "bool") ∨ ((∃ b, d = .int b) ∧ T = "int") ∨ ((∃ b, d = .str b) ∧ T = "str") ∨ ((∃ b, d = .tup b) ∧ T = "tuple") ∨ ((∃ n, d = .ref n) ∧ T = "list")) := by
  cases r with
  | non => exact .inr (.inr ⟨_, .base .non, .inl ⟨rfl, rfl⟩⟩)
  | bl b => exact .inr (.inr ⟨_, .base (.bl b), .inr (.inl ⟨⟨b, rfl⟩, rfl⟩)⟩)
  | int b => exact .inr (.inr ⟨_, .base (.int b), .inr (.inr (.inl ⟨⟨b, rfl⟩, rfl⟩))⟩)
  | str b => exact .inr (.inr ⟨_, .base (.str b), .inr (.inr (.inr (.inl ⟨⟨b, rfl⟩, rfl⟩)))⟩)
  | tup t q =>
    refine .inr (.inr ⟨"tuple", ?_, .inr (.inr (.inr (.inr (.inl ⟨⟨_, rfl⟩, rfl⟩))))⟩)
    rcases t with (t | ⟨o, t⟩) | ⟨o, its, n, h1, h2, _⟩
    · exact .base (.tup t)
    · exact .fTuple t
    · exact .kTuple h1 h2
  | ref ha =>
    rename_i n a
    cases e : lstAt vh n with
    | none => exact .inl ⟨n, rfl, e⟩
    | some ds =>
      obtain ⟨vs, hv, _⟩ := hl.lst ha e
      exact .inr (.inr ⟨"list", .base (.lst hv), .inr (.inr (.inr (.inr (.inr ⟨⟨n, rfl⟩, rfl⟩))))⟩)
  | fls h => exact .inr (.inl ⟨_, rfl⟩)
def tyStr : Ty → Option String
  | .int => some "int" | .bool => some "bool" | .str => some "str" | .tuple => some "tuple" | .list => some "list"
  | _ => none
theorem isi_kit {μ : List Addr} {H : Hp} {vh : VH} {d : D} {x : V} {t : Ty} {T : String} {bb : Bool} (hl : Rl G μ vh H) (r : RelD G.K μ H d x) (ht : tyStr t = some T) (h : isiF d t vh = some bb) : ∃ u, TyX G.K H x u ∧ PySem.W.kitOne G.K u (.type T) = some bb := by
  rcases relD_ty hl r with ⟨n, rfl, e⟩ | ⟨xs, rfl⟩ | ⟨U, hU, hd⟩
  · have : ∀ xs, vh[n]? ≠ some (.lst xs) := fun xs z => by unfold lstAt at e; rw [z] at e; cases e
    simp only [isiF] at h
    split at h <;> first | (rename_i z; exact absurd z (this _)) | cases h
  · cases t <;> simp [isiF] at h
  · refine ⟨_, hU, kit_ty ?_⟩
    rcases hd with ⟨rfl, rfl⟩ | ⟨⟨_, rfl⟩, rfl⟩ | ⟨⟨_, rfl⟩, rfl⟩ | ⟨⟨_, rfl⟩, rfl⟩ | ⟨⟨_, rfl⟩, rfl⟩ | ⟨⟨n, rfl⟩, rfl⟩
    · cases t <;> simp only [tyStr] at ht <;> cases ht <;> simp only [isiF] at h <;> cases h <;> decide +kernel
    · cases t <;> simp only [tyStr] at ht <;> cases ht <;> simp only [isiF] at h <;> cases h <;> decide +kernel
    · cases t <;> simp only [tyStr] at ht <;> cases ht <;> simp only [isiF] at h <;> cases h <;> decide +kernel
    · cases t <;> simp only [tyStr] at ht <;> cases ht <;> simp only [isiF] at h <;> cases h <;> decide +kernel
    · cases t <;> simp only [tyStr] at ht <;> cases ht <;> simp only [isiF] at h <;> cases h <;> decide +kernel
    · simp only [isiF] at h
      split at h <;> cases h <;> simp only [tyStr] at ht <;> cases ht <;> decide +kernel
theorem se_isi {t : Str} {ty : Ty} {p p2 : Pos} (O : Gok G tb k) (C : Cok G tb k N sc osc W X) (hm : tb.blts.contains "isinstance" = true) (hg : sc.names.lookup ("isinstance" : Str) = some .globalImplicit) (hm2 : tb.blts.contains t = true) (hg2 : sc.names.lookup t = some .globalImplicit)
    (hx : okName t = true) (ht : tyOf tb t = some ty) (ha : PE X a (tE G W a')) (hst : notStar a = true) : PE X (.Call (.Name "isinstance" p) [a, .Name t p2] [] pos) (tE G W (.isi a' ty)) := by
  obtain ⟨hd, _, hn⟩ := okName_debug hx
  have hm' : X.mg t = none := by rw [C.mg]; exact O.blt t hm2
  have key : ∃ T : String, tyStr ty = some T ∧ bootBuiltins t = some (.type T) := by
    unfold tyOf at ht
    split at ht
    · rename_i e; cases ht; subst e; exact ⟨_, rfl, by decide +kernel⟩
    split at ht
    · rename_i e; cases ht; subst e; exact ⟨_, rfl, by decide +kernel⟩
    split at ht
    · rename_i e; cases ht; subst e; exact ⟨_, rfl, by decide +kernel⟩
    split at ht
    · rename_i e; cases ht; subst e; exact ⟨_, rfl, by decide +kernel⟩
    split at ht
    · rename_i e; cases ht; subst e; exact ⟨_, rfl, by decide +kernel⟩
    cases ht
  obtain ⟨T, h1, h2⟩ := key
  have hP : PE X (.Name t p2) (tC (.ty T)) := pe_bltn (v := .ty T) (C.gl hg2) hm' h2 rfl hn hd
  refine PE_of (pe_callB (x := "isinstance") (call_isi (X := X)) (C.gl hg) (by rw [C.mg]; exact O.blt _ hm) (by decide +kernel) (pa_cons ha (pa_cons hP pa_nil) (star_cons hst)) (by decide) (by decide) (star_cons hst) rfl) fun σ H Q ⟨μ, vh, fr, hl, hf, h⟩ => ?_
  simp only [ev] at h
  refine one hl hf h fun x H1 d vh1 μ1 sr r1 hf1 h1' => ?_
  obtain ⟨z, e, h3⟩ := lift_ok h1'
  obtain ⟨u, q1, q2⟩ := isi_kit sr.rl r1 h1 e
  exact ⟨x, .ty T, u, .type T, z, rfl, .ty T, by rw [C.K]; exact q1, by rw [C.K]; exact q2, h3 μ1 H1 _ (Sr.refl sr.rl) (.bl _)⟩
end
end Sb

/-! targets, iterables, comprehensions -/
namespace Sb
open PySem PySem.Spec PyProof.Rows L2
section
variable {G : GC} {tb : Tab} {k : Nat} {N : List Str} {sc osc : Scope} {W : WX} {X : Cx} {a b c : Expr} {a' b' c' : E} {pos : Pos}
/-- whatever the slots -/
abbrev XA (G : GC) (W : WX) : Str → Hp → Prop := fun c H => ∀ σ, W (.ref (G.cl c)) none σ H
theorem AfR.ximp {α β : Type} {rel : List Addr → Hp → α → β → Prop} {Y Z : Str → Hp → Prop} {μ0 : List Addr} {H0 : Hp} {Q : β → Hp → Prop} {r : R α} (h : AfR G rel Y μ0 H0 Q r) (f : ∀ c H, Y c H → Z c H) : AfR G rel Z μ0 H0 Q r := by
  match r, h with
  | some (.ok a, vh), h => exact h
  | some (.ex c, vh), h => exact fun μ H sr => f _ _ (h μ H sr)
theorem wipe_get : ∀ (vs : List Nat) (σ : L2.St) (j : Nat), (wipe σ vs)[j]? = if j ∈ vs then σ[j]?.map (fun _ => none) else σ[j]?
  | [], σ, j => by simp [wipe]
  | v :: vs, σ, j => by
    unfold wipe
    by_cases h : v = j
    · subst h
      rw [if_pos List.mem_cons_self, List.getElem?_set]
      simp only [if_true, wipe_length]
      by_cases h2 : v < σ.length
      · rw [if_pos h2, List.getElem?_eq_getElem h2]; rfl
      · rw [if_neg h2, List.getElem?_eq_none (by omega)]; rfl
    · rw [List.getElem?_set_ne h, wipe_get vs σ j]
      simp only [List.mem_cons, Ne.symm h, false_or]
/-- the slots outside sl are as they were -/
def SameW (sl : List Nat) (σ σ2 : L2.St) : Prop := ∀ vs : List Nat, (∀ i ∈ sl, i ∈ vs) → wipe σ2 vs = wipe σ vs
theorem SameW.refl {sl : List Nat} (σ : L2.St) : SameW sl σ σ := fun _ _ => rfl
theorem SameW.set {σ : L2.St} {i : Nat} {x : Option V} : SameW [i] σ (σ.set i x) := fun vs h => by
  apply List.ext_getElem?
  intro j
  rw [wipe_get, wipe_get]
  have hi := h i (by simp)
  by_cases hj : j ∈ vs
  · rw [if_pos hj, if_pos hj]
    by_cases e : i = j
    · subst e
      by_cases h2 : i < σ.length
      · rw [List.getElem?_set_self h2, List.getElem?_eq_getElem h2]; rfl
      · rw [List.getElem?_eq_none (by simpa using h2), List.getElem?_eq_none (by omega)]
    · rw [List.getElem?_set_ne e]
  · rw [if_neg hj, if_neg hj]
    have e : i ≠ j := fun e => hj (e ▸ hi)
    rw [List.getElem?_set_ne e]
theorem SameW.trans {s1 s2 : List Nat} {σ σ1 σ2 : L2.St} (a : SameW s1 σ σ1) (b : SameW s2 σ1 σ2) : SameW (s1 ++ s2) σ σ2 := fun vs h =>
  (b vs fun i hi => h i (List.mem_append_right _ hi)).trans (a vs fun i hi => h i (List.mem_append_left _ hi))
def tG (G : GC) (W : WX) (t : T) : TG := fun v σ H Q => ∃ (μ : List Addr) (vh : VH) (fr : Fr) (d : D), Rl G μ vh H ∧ FrR G.K μ H fr σ ∧ RelD G.K μ H d v ∧ AfR G (FrR G.K) (XA G W) μ H (fun σ2 H2 => SameW (slotsT t) σ σ2 → Q σ2 H2) (asg G.Γ t d fr vh)
def tGs (G : GC) (W : WX) (ts : List T) : TGs := fun vs σ H Q => ∃ (μ : List Addr) (vh : VH) (fr : Fr) (ds : List D), Rl G μ vh H ∧ FrR G.K μ H fr σ ∧ RelDs G.K μ H ds vs ∧ AfR G (FrR G.K) (XA G W) μ H (fun σ2 H2 => SameW (slotsTs ts) σ σ2 → Q σ2 H2) (asgs G.Γ ts ds fr vh)
theorem PG_of {e : Expr} {t t' : TG} (h : PG X e t) (f : ∀ v σ H Q, t' v σ H Q → t v σ H Q) : PG X e t' := ⟨fun pins s σ H v u Q I r q => h.run pins s σ H v u Q I r (f v σ H Q q)⟩
theorem PGs_of {e : List Expr} {t t' : TGs} (h : PGs X e t) (f : ∀ v σ H Q, t' v σ H Q → t v σ H Q) : PGs X e t' := ⟨fun pins s σ H v u Q I r q => h.run pins s σ H v u Q I r (f v σ H Q q)⟩
theorem sg_name {x : Str} {i : Nat} (C : Cok G tb k N sc osc W X) (hs : storable osc x = true) (hi : slot N x = some i) : PG X (.Name x pos) (tG G W (.nm i)) := by
  obtain ⟨h1, h2⟩ := C.st x hs
  refine PG_of (pg_name (i := i) (by rw [C.hN]; exact C.nd) (by rw [C.hN]; exact slot_get hi) h1 h2) fun v σ H Q ⟨μ, vh, fr, d, hl, hf, rd, h⟩ => ?_
  simp only [asg] at h
  exact h μ H _ (Sr.refl hl) (hf.set i rd) (by simp only [slotsT]; exact SameW.set)
theorem assign_len {env : PySem.Env} : ∀ {es : List Expr}, es.all notStar = true → (assignEach es env).length = es.length ∧ (assignEach es env).findIdx? (·.1) = none
  | [], _ => ⟨rfl, rfl⟩
  | e :: es, h => by
    rw [List.all_cons, Bool.and_eq_true] at h
    obtain ⟨h1, h2⟩ := assign_len (env := env) h.2
    have e1 : assignEach (e :: es) env = (false, assign e env) :: assignEach es env := by
      cases e <;> first | rfl | (simp [notStar] at h)
    rw [e1]
    refine ⟨by rw [List.length_cons, List.length_cons, h1], ?_⟩
    rw [List.findIdx?_cons, h2]
    rfl
theorem sgs_nil : PGs X [] (tGs G W []) := PGs_of pgs_nil fun v σ H Q ⟨μ, vh, fr, ds, hl, hf, rd, h⟩ => by
  cases rd with
  | nil => simp only [asgs] at h; exact ⟨rfl, h μ H _ (Sr.refl hl) hf (SameW.refl σ)⟩
  | cons _ _ => simp only [asgs] at h; exact h.elim
theorem sgs_cons {e : Expr} {es : List Expr} {t : T} {ts : List T} (h1 : PG X e (tG G W t)) (h2 : PGs X es (tGs G W ts)) (hs : notStar e = true) : PGs X (e :: es) (tGs G W (t :: ts)) := by
  refine PGs_of (pgs_cons h1 h2 (by cases e <;> first | rfl | (simp [notStar] at hs))) fun v σ H Q ⟨μ, vh, fr, ds, hl, hf, rd, h⟩ => ?_
  cases rd with
  | nil => simp only [asgs] at h; exact h.elim
  | cons rd rds =>
    simp only [asgs] at h
    refine ⟨_, _, rfl, μ, vh, fr, _, hl, hf, rd, h.bind.imp fun σ1 H1 ⟨fr1, vh1, μ1, _, sr, hf1, h3⟩ sw => ?_⟩
    exact ⟨μ1, vh1, fr1, _, sr.rl, hf1, rds.mono sr.pre sr.keep, h3.imp fun σ2 H2 q sw2 => q (by simp only [slotsTs]; exact sw.trans sw2)⟩
theorem sg_tup {es : List Expr} {ts : List T} {x1 : Nat} (C : Cok G tb k N sc osc W X) (h : PGs X es (tGs G W ts)) (hs : es.all notStar = true) (hl : es.length = ts.length) : PG X (.Tuple es x1 pos) (tG G W (.tp ts)) := by
  obtain ⟨h1, h2⟩ := assign_len (env := X.env) hs
  refine PG_of (pg_tup (n := es.length) C.calm h h1 h2) fun v σ H Q ⟨μ, vh, fr, d, hl', hf, rd, h⟩ => ?_
  cases rd <;> simp only [asg] at h <;> try exact (show False from h).elim
  rename_i a xs ds t q _
  split at h
  · rename_i e
    exact ⟨a, xs, rfl, by rw [C.K]; exact t, by rw [← q.length, ← e, hl], μ, vh, fr, ds, hl', hf, q, by simp only [slotsT] at h; exact h⟩
  · exact h.elim
theorem sg_sub {o i : Expr} {o' i' : E} (C : Cok G tb k N sc osc W X) (ho : PE X o (tE G W o')) (hi : PE X i (tE G W i')) (hs : notSlice i = true) : PG X (.Subscript o i pos) (tG G W (.sub o' i')) := by
  refine PG_of (pg_sub ho hi (set_setF (G := G) C.un) (fun v => by cases i <;> first | rfl | (simp [notSlice] at hs))) fun v σ H Q ⟨μ, vh, fr, d, hl, hf, rd, h⟩ => ?_
  simp only [asg] at h
  have h' := h.ximp (Z := XW G W σ) fun c H q => q σ
  refine ⟨μ, vh, fr, hl, hf, h'.bind.imp fun x H1 ⟨d1, vh1, μ1, _, sr, r1, h1⟩ => ?_⟩
  have hf1 := hf.mono sr.pre sr.keep
  refine ⟨μ1, vh1, fr, sr.rl, hf1, h1.bind.imp fun y H2 ⟨d2, vh2, μ2, _, sr2, r2, h2⟩ => ?_⟩
  split at h2
  · rename_i vh3 e
    refine ⟨μ2, vh2, d1, d2, d, vh3, sr2.rl, r1.mono sr2.pre sr2.keep, r2, rd.mono (sr.trans sr2).pre (sr.trans sr2).keep, e, fun H' sr3 => ?_⟩
    exact h2 μ2 H' _ sr3 ((hf1.mono sr2.pre sr2.keep).mono sr3.pre sr3.keep) (SameW.refl σ)
  · exact h2.elim
/-! ### what is walked -/
def ItR (G : GC) (μ : List Addr) (H : Hp) (its : Its) (J : It) : Prop := ∀ (i : Nat) (μ' : List Addr) (vh' : VH) (H' : Hp), Sr G μ H μ' vh' H' → grd vh' its.2 = true →
  (∀ d, its.1[i]? = some d → J.go i H' ∧ ∀ x H'', J.yld i H' x H'' → Sr G μ' H' μ' vh' H'' ∧ RelD G.K μ' H'' d x) ∧ (its.1.length = i → J.stop i H')
def tI (G : GC) (W : WX) (it : I) : TI := fun σ H R => ∃ (μ : List Addr) (vh : VH) (fr : Fr), Rl G μ vh H ∧ FrR G.K μ H fr σ ∧ AfR G (ItR G) (XW G W σ) μ H R (evI G.Γ it fr vh)
theorem grd_one {h : VH} {n : Nat} {c : Cell} (e : grd h [(n, c)] = true) : h[n]? = some c := by
  simp only [grd, List.all_cons, List.all_nil, Bool.and_true, decide_eq_true_eq] at e
  exact e
theorem grd_two {h : VH} {n m : Nat} {c c' : Cell} (e : grd h [(n, c), (m, c')] = true) : h[n]? = some c ∧ h[m]? = some c' := by
  simp only [grd, List.all_cons, List.all_nil, Bool.and_true, Bool.and_eq_true, decide_eq_true_eq] at e
  exact e
theorem itr_tup {μ : List Addr} {H : Hp} {a : Addr} {xs : List V} {ds : List D} (t : SqT G.K H a xs) (q : RelDs G.K μ H ds xs) : ItR G μ H (ds, []) (Itt G.K a) := by
  intro i μ' vh' H' sr _
  have t' := SqT_keep sr.keep t
  have q' := q.mono sr.pre sr.keep
  refine ⟨fun d e => ?_, fun e => ⟨xs, t', by rw [← q.length]; exact Nat.le_of_eq e⟩⟩
  obtain ⟨v, e1, r⟩ := q'.get e
  refine ⟨⟨xs, v, t', e1⟩, fun x H'' ⟨e2, y⟩ => ?_⟩
  subst e2
  have := y xs t'
  rw [e1] at this
  cases this
  exact ⟨Sr.refl sr.rl, r⟩
theorem itr_list {μ : List Addr} {H : Hp} {a : Addr} {n : Nat} {ds : List D} (ha : μ[n]? = some a) : ItR G μ H (ds, [(n, .lst ds)]) (Itl G.K a) := by
  intro i μ' vh' H' sr g
  obtain ⟨vs, hv, q⟩ := sr.rl.at (pre_get sr.pre ha) (grd_one g)
  have t' : SqL G.K H' a vs := SqL.of hv
  refine ⟨fun d e => ?_, fun e => ⟨vs, t', by rw [← q.length]; exact Nat.le_of_eq e⟩⟩
  obtain ⟨v, e1, r⟩ := q.get e
  refine ⟨⟨vs, v, t', e1⟩, fun x H'' ⟨e2, y⟩ => ?_⟩
  subst e2
  have := y vs t'
  rw [e1] at this
  cases this
  exact ⟨Sr.refl sr.rl, r⟩
theorem itr_str {μ : List Addr} {H : Hp} {x : Str} : ItR G μ H (x.cps.toList.map fun c => .str ⟨#[c]⟩, []) (L2.Its x) := by
  intro i μ' vh' H' sr _
  refine ⟨fun d e => ?_, fun e => ?_⟩
  · rw [List.getElem?_map] at e
    cases hc : x.cps.toList[i]? with
    | none => rw [hc] at e; cases e
    | some c =>
      rw [hc] at e
      cases e
      have hi : i < x.cps.size := by
        have := (List.getElem?_eq_some_iff.mp hc).1
        simpa using this
      refine ⟨hi, fun v H'' ⟨e2, c', e3, e4⟩ => ?_⟩
      subst e2 e4
      have : x.cps.toList[i]? = some c' := by rw [Array.getElem?_toList]; exact e3
      rw [hc] at this
      cases this
      exact ⟨Sr.refl sr.rl, .str _⟩
  · show x.cps.size ≤ i
    rw [← e]
    simp
theorem iota_get : ∀ (lo : Int) (n i : Nat) (d : D), (iota lo n)[i]? = some d → i < n ∧ d = .int (lo + i)
  | lo, 0, i, d, h => by simp [iota] at h
  | lo, n + 1, 0, d, h => by simp [iota] at h; subst h; exact ⟨Nat.succ_pos _, by simp⟩
  | lo, n + 1, i + 1, d, h => by
    simp only [iota, List.getElem?_cons_succ] at h
    obtain ⟨h1, h2⟩ := iota_get (lo + 1) n i d h
    exact ⟨by omega, by rw [h2]; congr 1; omega⟩
theorem iota_len : ∀ (lo : Int) (n : Nat), (iota lo n).length = n
  | _, 0 => rfl
  | lo, n + 1 => by simp only [iota, List.length_cons, iota_len]
theorem itr_range {μ : List Addr} {H : Hp} (lo : Int) (n : Nat) : ItR G μ H (iota lo n, []) (Itr lo n) := by
  intro i μ' vh' H' sr _
  refine ⟨fun d e => ?_, fun e => ?_⟩
  · obtain ⟨h1, rfl⟩ := iota_get lo n i d e
    refine ⟨h1, fun v H'' ⟨e2, e3⟩ => ?_⟩
    subst e2 e3
    exact ⟨Sr.refl sr.rl, .int _⟩
  · show n ≤ i
    rw [iota_len] at e
    omega
theorem enumD_get : ∀ (ds : List D) (j i : Nat) (d : D), (enumD j ds)[i]? = some d → ∃ e, ds[i]? = some e ∧ d = .tup [.int (j + i : Nat), e]
  | [], j, i, d, h => by simp [enumD] at h
  | e :: ds, j, 0, d, h => by simp [enumD] at h; subst h; exact ⟨e, rfl, by simp⟩
  | e :: ds, j, i + 1, d, h => by
    simp only [enumD, List.getElem?_cons_succ] at h
    obtain ⟨e', h1, h2⟩ := enumD_get ds (j + 1) i d h
    exact ⟨e', by simpa using h1, by rw [h2, show j + 1 + i = j + (i + 1) by omega]⟩
theorem enumD_len : ∀ (ds : List D) (j : Nat), (enumD j ds).length = ds.length
  | [], _ => rfl
  | e :: ds, j => by simp only [enumD, List.length_cons, enumD_len]
theorem pair_rel {μ : List Addr} {vh : VH} {H : Hp} {T : Addr} {d e : D} {v w : V} (hl : Rl G μ vh H) (hT : H T = none) (r1 : RelD G.K μ H d v) (r2 : RelD G.K μ H e w) : Sr G μ H μ vh (upd H T (.tup [v, w])) ∧ RelD G.K μ (upd H T (.tup [v, w])) (.tup [d, e]) (.ref T) :=
  ⟨hl.newT hT, newT_rel hT (.cons r1 (.cons r2 .nil))⟩
theorem itr_enum {μ : List Addr} {H : Hp} {a : Addr} {n : Nat} {ds : List D} (ha : μ[n]? = some a) : ItR G μ H (enumD 0 ds, [(n, .lst ds)]) (Ite G.K a) := by
  intro i μ' vh' H' sr g
  obtain ⟨vs, hv, q⟩ := sr.rl.at (pre_get sr.pre ha) (grd_one g)
  have t' : SqL G.K H' a vs := SqL.of hv
  refine ⟨fun d e => ?_, fun e => ⟨vs, t', by rw [← q.length, ← enumD_len ds 0]; exact Nat.le_of_eq e⟩⟩
  obtain ⟨e', h1, rfl⟩ := enumD_get ds 0 i d e
  obtain ⟨v, e1, r⟩ := q.get h1
  refine ⟨⟨vs, v, t', e1⟩, fun x H'' ⟨T, w, e2, hT, e3, y⟩ => ?_⟩
  subst e2 e3
  have := y vs t'
  rw [e1] at this
  cases this
  rw [Nat.zero_add]
  exact pair_rel sr.rl hT (.int _) r
theorem zipD_get : ∀ (as bs : List D) (i : Nat) (d : D), (zipD as bs)[i]? = some d → ∃ x y, as[i]? = some x ∧ bs[i]? = some y ∧ d = .tup [x, y]
  | [], _, i, d, h => by simp [zipD] at h
  | _ :: _, [], i, d, h => by simp [zipD] at h
  | a :: as, b :: bs, 0, d, h => by simp [zipD] at h; subst h; exact ⟨a, b, rfl, rfl, rfl⟩
  | a :: as, b :: bs, i + 1, d, h => by
    simp only [zipD, List.getElem?_cons_succ] at h
    obtain ⟨x, y, h1, h2, h3⟩ := zipD_get as bs i d h
    exact ⟨x, y, by simpa using h1, by simpa using h2, h3⟩
theorem zipD_len : ∀ (as bs : List D), as.length ≤ (zipD as bs).length ∨ bs.length ≤ (zipD as bs).length
  | [], _ => .inl (Nat.zero_le _)
  | _ :: _, [] => .inr (Nat.zero_le _)
  | a :: as, b :: bs => by
    simp only [zipD, List.length_cons]
    rcases zipD_len as bs with h | h
    · exact .inl (by omega)
    · exact .inr (by omega)
theorem itr_zip {μ : List Addr} {H : Hp} {a b : Addr} {m n : Nat} {ds es : List D} (ha : μ[m]? = some a) (hb : μ[n]? = some b) : ItR G μ H (zipD ds es, [(m, .lst ds), (n, .lst es)]) (Itz G.K a b) := by
  intro i μ' vh' H' sr g
  obtain ⟨g1, g2⟩ := grd_two g
  obtain ⟨vs, hv, q⟩ := sr.rl.at (pre_get sr.pre ha) g1
  obtain ⟨ws, hw, q2⟩ := sr.rl.at (pre_get sr.pre hb) g2
  have t1 : SqL G.K H' a vs := SqL.of hv
  have t2 : SqL G.K H' b ws := SqL.of hw
  refine ⟨fun d e => ?_, fun e => ⟨vs, ws, t1, t2, ?_⟩⟩
  · obtain ⟨x, y, h1, h2, rfl⟩ := zipD_get ds es i d e
    obtain ⟨v, e1, r1⟩ := q.get h1
    obtain ⟨w, e2, r2⟩ := q2.get h2
    refine ⟨⟨vs, ws, v, w, t1, t2, e1, e2⟩, fun x' H'' ⟨T, v', w', e3, hT, e4, y1, y2⟩ => ?_⟩
    subst e3 e4
    have z1 := y1 vs t1
    have z2 := y2 ws t2
    rw [e1] at z1
    rw [e2] at z2
    cases z1; cases z2
    exact pair_rel sr.rl hT r1 r2
  · subst e
    rcases zipD_len ds es with h | h
    · exact .inl (by rw [← q.length]; exact h)
    · exact .inr (by rw [← q2.length]; exact h)
theorem PI_of {tg it : Expr} {t t' : TI} (h : PI X tg it t) (f : ∀ σ H R, t' σ H R → t σ H R) : PI X tg it t' := ⟨fun pins s σ H R I q => h.run pins s σ H R I (f σ H R q)⟩
theorem si_seq {tg e : Expr} {e' : E} (C : Cok G tb k N sc osc W X) (ha : PE X e (tE G W e')) : PI X tg e (tI G W (.seq e')) := by
  refine ⟨fun pins s σ H R I ⟨μ, vh, fr, hl, hf, h⟩ => ?_⟩
  simp only [evI] at h
  cases hr : ev G.Γ e' fr vh with
  | none => rw [hr] at h; exact h.elim
  | some p =>
    obtain ⟨r, vh1⟩ := p
    cases r with
    | ex c =>
      refine (pi_list ha).run pins s σ H R I ⟨μ, vh, fr, hl, hf, ?_⟩
      rw [hr] at h ⊢
      exact h
    | ok d =>
      rw [hr, Sb.R.bind_ok] at h
      cases d with
      | non => exact h.elim
      | bl _ => exact h.elim
      | int _ => exact h.elim
      | fls _ => exact h.elim
      | str x =>
        refine (pi_str ha).run pins s σ H R I ⟨μ, vh, fr, hl, hf, ?_⟩
        rw [hr]
        intro μ1 H1 v sr rd
        cases rd
        exact ⟨x, rfl, h μ1 H1 _ sr itr_str⟩
      | tup ds =>
        refine (pi_tup ha).run pins s σ H R I ⟨μ, vh, fr, hl, hf, ?_⟩
        rw [hr]
        intro μ1 H1 v sr rd
        cases rd with
        | tup t q => exact ⟨_, rfl, ⟨_, by rw [C.K]; exact t⟩, by rw [C.K]; exact h μ1 H1 _ sr (itr_tup t q)⟩
      | ref n =>
        simp only [seqF] at h
        split at h
        · rename_i ds e1
          refine (pi_list ha).run pins s σ H R I ⟨μ, vh, fr, hl, hf, ?_⟩
          rw [hr]
          intro μ1 H1 v sr rd
          cases rd with
          | ref ha' =>
            obtain ⟨vs, hv, _⟩ := sr.rl.at ha' e1
            exact ⟨_, rfl, ⟨vs, SqL.of hv⟩, by rw [C.K]; exact h μ1 H1 _ sr (itr_list ha')⟩
        · exact h.elim
theorem si_rng {tg : Expr} {e : Expr} {e' : E} {p : Pos} (O : Gok G tb k) (C : Cok G tb k N sc osc W X) (hm : tb.blts.contains "range" = true) (hg : sc.names.lookup ("range" : Str) = some .globalImplicit) (ha : PA X [e] (tEs G W [e'])) (hs : notStar e = true) :
    PI X tg (.Call (.Name "range" p) [e] [] pos) (tI G W (.rng [e'])) := by
  refine PI_of (pi_range1 (C.gl hg) (by rw [C.mg]; exact O.blt _ hm) ha (star_cons hs)) fun σ H R ⟨μ, vh, fr, hl, hf, h⟩ => ?_
  simp only [evI] at h
  refine ⟨μ, vh, fr, hl, hf, h.bind.imp fun xs H1 ⟨ds, vh1, μ1, e, sr, rd, h1⟩ => ?_⟩
  cases rd with
  | nil => exact h1.elim
  | cons rd rds =>
    cases rds with
    | cons _ _ => cases rd <;> exact (show False from h1).elim
    | nil =>
      cases rd <;> simp only [rngF] at h1 <;> try exact (show False from h1).elim
      rename_i j _
      split at h1
      · rename_i hj
        exact ⟨j, rfl, hj.1, hj.2, h1 μ1 H1 _ (Sr.refl sr.rl) (itr_range 0 _)⟩
      · exact h1.elim
theorem si_enm {elts : List Expr} {kk : Nat} {tpos : Pos} {e : Expr} {e' : E} {p : Pos} (O : Gok G tb k) (C : Cok G tb k N sc osc W X) (hm : tb.blts.contains "enumerate" = true) (hg : sc.names.lookup ("enumerate" : Str) = some .globalImplicit) (ha : PE X e (tE G W e')) (hs : notStar e = true) :
    PI X (.Tuple elts kk tpos) (.Call (.Name "enumerate" p) [e] [] pos) (tI G W (.enm e')) := by
  refine PI_of (pi_enum (C.gl hg) (by rw [C.mg]; exact O.blt _ hm) (pa_cons ha pa_nil (star_cons hs)) (star_cons hs)) fun σ H R ⟨μ, vh, fr, hl, hf, h⟩ => ?_
  simp only [evI] at h
  refine one hl hf h fun x H1 d vh1 μ1 sr r1 hf1 h1 => ?_
  cases r1 <;> simp only [enmF] at h1 <;> try exact (show False from h1).elim
  rename_i n a ha'
  split at h1
  · rename_i ds e1
    obtain ⟨vs, hv, _⟩ := sr.rl.lst ha' e1
    exact ⟨a, vs, rfl, by rw [C.K]; exact SqL.of hv, by rw [C.K]; exact h1 μ1 H1 _ (Sr.refl sr.rl) (itr_enum ha')⟩
  · exact h1.elim
theorem itr_zipT {μ : List Addr} {H : Hp} {a b : Addr} {vs ws : List V} {ds es : List D} (t1 : SqT G.K H a vs) (q1 : RelDs G.K μ H ds vs) (t2 : SqT G.K H b ws) (q2 : RelDs G.K μ H es ws) : ItR G μ H (zipD ds es, []) (RZ.ItzT G.K a b) := by
  intro i μ' vh' H' sr _
  have t1' := SqT_keep sr.keep t1
  have t2' := SqT_keep sr.keep t2
  have q1' := q1.mono sr.pre sr.keep
  have q2' := q2.mono sr.pre sr.keep
  refine ⟨fun d e => ?_, fun e => ⟨vs, ws, t1', t2', ?_⟩⟩
  · obtain ⟨x, y, h1, h2, rfl⟩ := zipD_get ds es i d e
    obtain ⟨v, e1, r1⟩ := q1'.get h1
    obtain ⟨w, e2, r2⟩ := q2'.get h2
    refine ⟨⟨vs, ws, v, w, t1', t2', e1, e2⟩, fun x' H'' ⟨T, v', w', e3, hT, e4, y1, y2⟩ => ?_⟩
    subst e3 e4
    have z1 := y1 vs t1'
    have z2 := y2 ws t2'
    rw [e1] at z1
    rw [e2] at z2
    cases z1; cases z2
    exact pair_rel sr.rl hT r1 r2
  · subst e
    rcases zipD_len ds es with h | h
    · exact .inl (by rw [← q1.length]; exact h)
    · exact .inr (by rw [← q2.length]; exact h)
theorem si_zip {elts : List Expr} {kk : Nat} {tpos : Pos} {p : Pos} (O : Gok G tb k) (C : Cok G tb k N sc osc W X) (hm : tb.blts.contains "zip" = true) (hg : sc.names.lookup ("zip" : Str) = some .globalImplicit) (ha : PE X a (tE G W a')) (hb : PE X b (tE G W b')) (hs : notStar a = true) (hs2 : notStar b = true) :
    PI X (.Tuple elts kk tpos) (.Call (.Name "zip" p) [a, b] [] pos) (tI G W (.zip a' b')) := by
  refine PI_of (RZ.pi_zipA (C.gl hg) (by rw [C.mg]; exact O.blt _ hm) (pa_cons ha (pa_cons hb pa_nil (star_cons hs2)) (star_cons hs)) (star_cons hs) (by rw [star_cons hs2]; rfl)) fun σ H R ⟨μ, vh, fr, hl, hf, h⟩ => ?_
  simp only [evI] at h
  refine two hl hf h fun x y H2 d e vh2 μ2 hl2 r1 r2 hf2 h2 => ?_
  cases r1 <;> cases r2 <;> simp only [zipF] at h2 <;> try exact (show False from h2).elim
  · rename_i a xs ds t q b ys es t' q'
    exact ⟨a, b, xs, ys, rfl, .inr ⟨by rw [C.K]; exact t, by rw [C.K]; exact t', by rw [C.K]; exact h2 μ2 H2 _ (Sr.refl hl2) (itr_zipT t q t' q')⟩⟩
  · rename_i m a ha n b hb
    split at h2
    · rename_i ds es e1 e2
      obtain ⟨vs, hv, _⟩ := hl2.lst ha e1
      obtain ⟨ws, hw, _⟩ := hl2.lst hb e2
      exact ⟨a, b, vs, ws, rfl, .inl ⟨by rw [C.K]; exact SqL.of hv, by rw [C.K]; exact SqL.of hw, by rw [C.K]; exact h2 μ2 H2 _ (Sr.refl hl2) (itr_zip ha hb)⟩⟩
    · exact h2.elim
/-! ### comprehensions -/
theorem noEx_bind {α β : Type} (r : R α) (f : α → VH → R β) : noEx (r.bind f) = (noEx r).bind fun a h => noEx (f a h) := by
  match r with
  | some (.ok a, h) => rfl
  | some (.ex c, h) => rfl
  | none => rfl
theorem AfR.noEx {α β : Type} {rel : List Addr → Hp → α → β → Prop} {Y Z : Str → Hp → Prop} {μ0 : List Addr} {H0 : Hp} {Q : β → Hp → Prop} {r : R α} (h : AfR G rel Y μ0 H0 Q (Sb.noEx r)) : AfR G rel Z μ0 H0 Q r := by
  match r, h with
  | some (.ok a, vh), h => exact h
  | some (.ex c, vh), h => exact h.elim
/-- a comprehension's context -/
theorem Cok.blk {scope : Scope} {s : Shared} {H : Hp} {C0 : Addr} {cl : List (Str × Addr)} {fp : List Addr} (C : Cok G tb k N sc osc W X) : Cok G tb k N (relS scope sc) scope (fun _ _ _ _ => False) (X.blk s H scope (compEnvC scope cl C0 X.env) fp) where
  P := C.P
  w := C.w
  K := C.K
  mg := C.mg
  base := C.base
  hN := C.hN
  nd := C.nd
  sc := by
    show relabel scope X.env = relS scope sc
    rw [← C.sc]
    rfl
  calm := C.calm
  room := C.room
  tk := fun u s' x => by
    obtain ⟨_, _, _, _, _, _, _, _, _, _, _, _, _, _, _, _, w⟩ := x
    exact w.elim
  st := fun x h => by
    show Loc (relabel scope X.env) x ∧ ((scope.names.lookup x == some .cell) = true ∨ (relabel scope X.env).names.lookup x = some .local)
    have e : (relabel scope X.env).names = scope.names.map fun (n, k) => if (k == NameKind.free && X.env.scope.kind == .function && X.env.scope.names.lookup n == some .cell) then (n, NameKind.cell) else (n, k) := rfl
    unfold storable at h
    split at h
    · rename_i q
      have := lookup_relS_keep (sc := X.env.scope) (k := .local) (by decide) q
      exact ⟨.inl (by rw [e]; exact this), .inr (by rw [e]; exact this)⟩
    · rename_i q
      have := lookup_relS_keep (sc := X.env.scope) (k := .cell) (by decide) q
      exact ⟨.inr (by rw [e]; exact this), .inl (by rw [q]; rfl)⟩
    · cases h
def relOV (G : GC) : List Addr → Hp → Option D → Option V → Prop := fun μ H o o' => match o, o' with
  | some d, some v => RelD G.K μ H d v
  | none, none => True
  | _, _ => False
abbrev W0 : WX := fun _ _ _ _ => False
/-- a comprehension's tests -/
def tC' (G : GC) (W : WX) (c : Option E) : TT := fun σ H Q => ∃ (μ : List Addr) (vh : VH) (fr : Fr), Rl G μ vh H ∧ FrR G.K μ H fr σ ∧ AfR G relE (XW G W σ) μ H Q (evc G.Γ c fr vh)
theorem stc_none : PTs X [] (tC' G W none) := ⟨fun pins s σ H Q I ⟨μ, vh, fr, hl, hf, h⟩ => pts_nil.run pins s σ H Q I (by simp only [evc] at h; exact h μ H _ (Sr.refl hl) rfl)⟩
theorem stc_some (h : PT X a (tB' G W a')) : PTs X [a] (tC' G W (some a')) := ⟨fun pins s σ H Q I ⟨μ, vh, fr, hl, hf, h'⟩ => (pts_one h).run pins s σ H Q I ⟨μ, vh, fr, hl, hf, h'⟩⟩
theorem lc_imp {vs : List Nat} {g : T} {it : I} {cc : Option E} {e : E} (hsl : (slotsT g).all (fun i => vs.contains i) = true) {σ : L2.St} {H : Hp} {Q : VK} (h : tE G W (.cpr vs g it cc e) σ H Q) :
    tLc (tI G W it) (tG G W0 g) (tC' G W0 cc) (tE G W0 e) vs σ H Q := by
  obtain ⟨μ, vh, fr, hl, hf, h⟩ := h
  simp only [ev] at h
  refine ⟨μ, vh, fr, hl, hf, h.bind.imp fun J H1 ⟨its, vh1, μ1, _, sr1, iJ, h1⟩ D hD => ?_⟩
  have hf1 := hf.mono sr1.pre sr1.keep
  have sD := sr1.rl.newL (ds := []) (xs := []) hD .nil
  have nAt := new_at (p := D) sr1.rl
  refine ⟨fun i m H' => ∃ μ' vh', Sr G (μ1 ++ [D]) (upd H1 D (.lst [])) μ' vh' H' ∧ m = its.1.length - i ∧ i ≤ its.1.length ∧ AfR G (RelD G.K) (XW G W σ) μ' H' Q (loopC its.2 vh1.length (fun d h => (asg G.Γ g d (wipeF fr vs) h).bind fun fr' h => (evc G.Γ cc fr' h).bind fun b h =>
        if b = true then (ev G.Γ e fr' h).bind (fun y h => some (.ok (some y), h)) else some (.ok none, h)) (its.1.drop i) vh'), ⟨its.1.length, μ1 ++ [D], vh1 ++ [.lst []], Sr.refl sD.rl, by simp, Nat.zero_le _, ?_⟩, ?_⟩
  · rw [List.drop_zero]
    exact h1.base sD
  · rintro i m H' ⟨μ', vh', sr, rfl, hi, h2⟩
    have srJ : Sr G μ1 H1 μ' vh' H' := sD.trans sr
    have hD' : μ'[vh1.length]? = some D := pre_get sr.pre nAt
    by_cases hlt : i < its.1.length
    · rw [List.drop_eq_getElem_cons hlt] at h2
      simp only [loopC] at h2
      split at h2
      · rename_i hg
        obtain ⟨h3, _⟩ := iJ i μ' vh' H' srJ hg
        obtain ⟨h4, h5⟩ := h3 _ (List.getElem?_eq_getElem hlt)
        refine .inr ⟨h4, fun H'' => ∃ m', m' < its.1.length - i ∧ _, fun H'' q => q, fun x H5 y => ?_⟩
        obtain ⟨sr5, r5⟩ := h5 x H5 y
        have h6 := (h2.base sr5).bind (rel := relOV G)
        have h7 := AfR.noEx (Z := XA G W0) h6
        have hf5 := ((hf1.mono srJ.pre srJ.keep).mono sr5.pre sr5.keep).wipe vs
        refine ⟨μ', vh', wipeF fr vs, _, sr5.rl, hf5, r5, h7.bind.imp fun σ6 H6 ⟨fr6, vh6, μ6, _, sr6, hf6, h8⟩ sw => ⟨?_, ?_⟩⟩
        · have := sw vs fun i hi => by
            have := List.all_eq_true.mp hsl i hi
            simpa using this
          rw [this]
          apply List.ext_getElem?
          intro j
          rw [wipe_get, wipe_get]
          by_cases hj : j ∈ vs
          · rw [if_pos hj, if_pos hj]
            cases σ[j]? <;> rfl
          · rw [if_neg hj, if_neg hj]
        · refine ⟨μ6, vh6, fr6, sr6.rl, hf6, (h8.ximp fun c H q => q σ6).bind.imp fun bb H7 ⟨b', vh7, μ7, _, sr7, eb, h9⟩ => ?_⟩
          subst eb
          cases b' with
          | false =>
            rw [if_neg (by simp)]
            rw [if_neg (by simp)] at h9
            obtain ⟨oA, vhA, μA, _, srA, rA, hA⟩ := h9 μ7 H7 none (Sr.refl sr7.rl) trivial
            cases oA with
            | some dA => exact rA.elim
            | none => exact ⟨its.1.length - (i + 1), by omega, μA, vhA, (sr.trans sr5).trans srA, rfl, hlt, hA⟩
          | true =>
            rw [if_pos rfl]
            rw [if_pos rfl] at h9
            refine ⟨μ7, vh7, fr6, sr7.rl, hf6.mono sr7.pre sr7.keep, h9.bind.imp fun y H8 ⟨d8, vh8, μ8, _, sr8, r8, h10⟩ => ?_⟩
            obtain ⟨oA, vhA, μA, _, srA, rA, hA⟩ := h10 μ8 H8 (some y) (Sr.refl sr8.rl) r8
            cases oA with
            | none => exact rA.elim
            | some dA =>
              have rA' : RelD G.K μA H8 dA y := rA
              simp only at hA
              split at hA
              · rename_i acc e1
                split at hA
                · rename_i hz
                  have hDA : μA[vh1.length]? = some D := pre_get ((sr.trans sr5).trans srA).pre nAt
                  obtain ⟨ws, hw, rw'⟩ := srA.rl.lst hDA e1
                  have srP := srA.rl.putL hDA e1 (rw'.append (.cons rA' .nil))
                  exact ⟨ws, hw, by rw [← rw'.length]; exact hz, its.1.length - (i + 1), by omega, μA, _, ((sr.trans sr5).trans srA).trans srP, rfl, hlt, hA.base srP⟩
                · exact hA.elim
              · exact hA.elim
      · exact h2.elim
    · have e : i = its.1.length := by omega
      subst e
      rw [List.drop_length] at h2
      simp only [loopC] at h2
      split at h2
      · rename_i hg
        exact .inl ⟨(iJ _ μ' vh' H' srJ hg).2 rfl, h2 μ' H' _ (Sr.refl sr.rl) (.ref hD')⟩
      · exact h2.elim
theorem se_cpr {elt tg iter : Expr} {ifs : List Expr} {scope : Scope} {g : T} {it : I} {cc : Option E} {e : E} (C : Cok G tb k N sc osc W X) (hb : blkC N sc scope (ownOf N scope) = true) (hn : notSet iter = true) (hi : PI X tg iter (tI G W it))
    (hg : ∀ {X' : Cx}, Cok G tb k N (relS scope sc) scope W0 X' → PG X' tg (tG G W0 g)) (ht : ∀ {X' : Cx}, Cok G tb k N (relS scope sc) scope W0 X' → PTs X' ifs (tC' G W0 cc)) (he : ∀ {X' : Cx}, Cok G tb k N (relS scope sc) scope W0 X' → PE X' elt (tE G W0 e))
    (hsl : (slotsT g).all (fun i => ((ownOf N scope).map (·.2)).contains i) = true) : PE X (.ListComp elt [⟨tg, iter, ifs, 0⟩] scope pos) (tE G W (.cpr ((ownOf N scope).map (·.2)) g it cc e)) := by
  have ok : BlkOk X.N X.env.scope scope (ownOf N scope) := by rw [C.hN, C.sc]; exact blkOk_by hb
  exact PE_of (pe_lc C.calm (by rw [C.hN]; exact C.nd) hi ok (fun s H C0 cl fp => hg C.blk) (fun s H C0 cl fp => ht C.blk) (fun s H C0 cl fp => he C.blk) (fun x => by cases iter <;> first | rfl | (simp [notSet] at hn))) fun σ H Q => lc_imp hsl
end
end Sb

/-! dict displays -/
namespace Sb
open PySem PySem.Spec PyProof.Rows L2
section
variable {K : PySem.W.Frag} {μ : List Addr} {H : Hp}
theorem nodup_putK (kvs : List (Key × V)) (k : Key) (v : V) (h : (kvs.map (·.1)).Nodup) : ((putK kvs k v).map (·.1)).Nodup := by
  unfold putK
  split
  · rw [List.map_map]
    have : (kvs.map ((·.1) ∘ fun kv => if kv.1 = k then (kv.1, v) else kv)) = kvs.map (·.1) := List.map_congr_left fun p _ => by
      simp only [Function.comp]; split <;> rfl
    rw [this]; exact h
  · rename_i hn
    rw [List.map_append, List.nodup_append]
    refine ⟨h, by simp, fun a ha b hb => ?_⟩
    simp at hb
    subst hb
    obtain ⟨p, hp, rfl⟩ := List.mem_map.mp ha
    intro e
    exact hn (List.any_eq_true.mpr ⟨p, hp, decide_eq_true e⟩)
theorem kv_merge : ∀ {kvs : List (D × D)} {kvs' : List (Key × V)} {acc : List (D × D)} {acc' : List (Key × V)}, Paired (KvR K μ H) kvs kvs' → Paired (KvR K μ H) acc acc' → (acc'.map (·.1)).Nodup → Paired (KvR K μ H) (dmerge acc kvs) (mergeK acc' kvs')
  | _, _, _, _, .nil, a, _ => a
  | (q, d) :: r, (q', v) :: r', acc, acc', .cons h t, a, nd => by
    have e := relD_key h.1
    simp only at e
    subst e
    show Paired (KvR K μ H) (dmerge (dput acc (keyD q') d) r) (mergeK (putK acc' q' v) r')
    exact kv_merge t (kv_put h.2 a nd) (nodup_putK _ _ _ nd)
theorem pairs_rel : ∀ {xs : List D} {vs : List V} {kvs : List (D × D)}, RelDs K μ H xs vs → pairsD xs = some kvs → (kvs.all fun p => isKey p.1) = true → ∃ kvs' : List (Key × V), Paired (KvR K μ H) kvs kvs' ∧ vs = kvs'.flatMap fun p => [kV p.1, p.2]
  | _, _, kvs, .nil, e, _ => by simp only [pairsD] at e; cases e; exact ⟨[], .nil, rfl⟩
  | _, _, kvs, .cons _ .nil, e, _ => by simp only [pairsD] at e; cases e
  | _, _, kvs, .cons (d := k) h (.cons (d := v) h' (ds := ds) t), e, hk => by
    simp only [pairsD] at e
    cases hp : pairsD ds with
    | none => rw [hp] at e; cases e
    | some kvs0 =>
      rw [hp] at e
      cases e
      rw [List.all_cons, Bool.and_eq_true] at hk
      obtain ⟨key, rfl, rfl⟩ := isKey_key hk.1 h
      obtain ⟨kvs', h1, rfl⟩ := pairs_rel t hp hk.2
      exact ⟨(key, _) :: kvs', .cons ⟨h, h'⟩ h1, rfl⟩
end
theorem flat_len : ∀ kvs' : List (Key × V), (kvs'.flatMap fun p => [kV p.1, p.2]).length = 2 * kvs'.length
  | [] => rfl
  | q :: r => by rw [List.flatMap_cons, List.length_append, flat_len r, List.length_cons]; simp only [List.length_cons, List.length_nil]; omega
def pairUp : List V → List (V × V)
  | k :: v :: r => (k, v) :: pairUp r
  | _ => []
theorem pairUp_flat : ∀ kvs : List (Key × V), pairUp (kvs.flatMap fun p => [kV p.1, p.2]) = kvs.map fun kv => (kV kv.1, kv.2)
  | [] => rfl
  | p :: r => by
    rw [List.flatMap_cons]
    show (kV p.1, p.2) :: pairUp (r.flatMap fun p => [kV p.1, p.2]) = _
    rw [pairUp_flat r]; rfl
section
variable {G : GC} {tb : Tab} {k : Nat} {N : List Str} {sc osc : Scope} {W : WX} {X : Cx} {pos : Pos}
def trsOf (G : GC) (W : WX) : List E → List (TE × TE)
  | k :: v :: r => (tE G W k, tE G W v) :: trsOf G W r
  | _ => []
theorem pairs_imp : ∀ (es : List E) {σ : L2.St} {H : Hp} {μ : List Addr} {vh : VH} {fr : Fr} {Q : List (V × V) → Hp → Prop}, Rl G μ vh H → FrR G.K μ H fr σ → AfR G (RelDs G.K) (XW G W σ) μ H (fun vs H1 => Q (pairUp vs) H1) (evs G.Γ es fr vh) → es.length % 2 = 0 → tPairs (trsOf G W es) σ H Q
  | [], σ, H, μ, vh, fr, Q, hl, hf, h, _ => by
    simp only [evs] at h
    exact h μ H [] (Sr.refl hl) .nil
  | [_], _, _, _, _, _, _, _, _, _, e => by simp at e
  | k :: v :: r, σ, H, μ, vh, fr, Q, hl, hf, h, e => by
    simp only [evs] at h
    refine ⟨μ, vh, fr, hl, hf, h.bind.imp fun x H1 ⟨d1, vh1, μ1, _, sr1, r1, h1⟩ => ?_⟩
    have hf1 := hf.mono sr1.pre sr1.keep
    rw [R.bind_assoc] at h1
    refine ⟨μ1, vh1, fr, sr1.rl, hf1, h1.bind.imp fun y H2 ⟨d2, vh2, μ2, _, sr2, r2, h2⟩ => ?_⟩
    have hf2 := hf1.mono sr2.pre sr2.keep
    rw [R.bind_assoc] at h2
    refine pairs_imp r sr2.rl hf2 (h2.bind.imp fun vs H3 ⟨ds, vh3, μ3, _, sr3, r3, h3⟩ => ?_) (by simp only [List.length_cons] at e; omega)
    have r1' := r1.mono (sr2.trans sr3).pre (sr2.trans sr3).keep
    have r2' := r2.mono sr3.pre sr3.keep
    exact h3 μ3 H3 (x :: y :: vs) (Sr.refl sr3.rl) (.cons r1' (.cons r2' r3))
theorem dct_imp {es : List E} (he : es.length % 2 = 0) (hz : es.length ≤ 30) {σ : L2.St} {H : Hp} {Q : VK} (h : tE G W (.dct es) σ H Q) : tDisp (trsOf G W es) σ H Q := by
  obtain ⟨μ, vh, fr, hl, hf, h⟩ := h
  simp only [ev] at h
  intro p hp
  have sD := hl.newD (ds := []) (xs := []) hp .nil
  have nAt := new_at (p := p) hl
  have h1 := h.base sD
  refine pairs_imp es sD.rl (hf.mono sD.pre sD.keep) (h1.bind.imp fun vs H2 ⟨xs, vh2, μ2, e2, sr2, rx, h2⟩ => ?_) he
  split at h2
  · rename_i kvs e3 e4
    split at h2
    · rename_i hk
      have hp2 : μ2[vh.length]? = some p := pre_get sr2.pre nAt
      obtain ⟨kv0, hv, r0⟩ := sr2.rl.dct hp2 e3
      cases r0
      obtain ⟨kvs', h3, rfl⟩ := pairs_rel rx e4 hk
      refine ⟨hv, kvs', pairUp_flat kvs', ?_, ?_⟩
      · have l1 := rx.length
        have l2 := evs_len e2
        have l3 := flat_len kvs'
        omega
      · have m1 : Paired (KvR G.K μ2 H2) (dmerge [] kvs) (mergeK [] kvs') := kv_merge h3 .nil List.nodup_nil
        exact h2 μ2 _ _ (sr2.rl.putD hp2 (dctAt_some e3) m1) (.ref hp2)
    · exact h2.elim
  · exact h2.elim
theorem dct_imp0 {σ : L2.St} {H : Hp} {Q : VK} (h : tE G W (.dct []) σ H Q) : tDNewK σ H Q := by
  obtain ⟨μ, vh, fr, hl, hf, h⟩ := h
  simp only [ev, evs, R.bind_ok] at h
  intro p hp
  have sD := hl.newD (ds := []) (xs := []) hp .nil
  have e1 : dctAt (vh ++ [Cell.dct []]) vh.length = some [] := by unfold dctAt; simp
  rw [e1] at h
  simp only [pairsD, List.all_nil, if_true, dmerge] at h
  have e2 : (vh ++ [Cell.dct []]).set vh.length (Cell.dct []) = vh ++ [Cell.dct []] := by
    apply List.ext_getElem?
    intro j
    by_cases hj : vh.length = j
    · subst hj; rw [List.getElem?_set_self (by simp)]; simp
    · rw [List.getElem?_set_ne hj]
  rw [e2] at h
  exact h _ _ _ sD (.ref (new_at hl))
end
end Sb

/-! all expressions -/
namespace Sb
open PySem PySem.Spec PyProof.Rows L2
theorem cE_star {tb : Tab} {N : List Str} {n : Nat} {sc : Scope} {e : Expr} {e' : E} (h : cE tb N n sc e = some e') : notStar e = true := by
  cases n with
  | zero => simp [cE] at h
  | succ n => cases e <;> first | rfl | (simp [cE] at h)
theorem cT_star {tb : Tab} {N : List Str} {n : Nat} {sc osc : Scope} {e : Expr} {t : T} (h : cT tb N n sc osc e = some t) : notStar e = true := by
  cases n with
  | zero => simp [cT] at h
  | succ n => cases e <;> first | rfl | (simp [cT] at h)
section
variable (G : GC) (tb : Tab) (k : Nat) (N : List Str)
structure Main (n : Nat) : Prop where
  pE : ∀ {sc osc : Scope} {W : WX} {X : Cx} {e : Expr} {e' : E}, Cok G tb k N sc osc W X → cE tb N n sc e = some e' → PE X e (tE G W e') ∧ (notIf e = true → PT X e (tB' G W e'))
  pEs : ∀ {sc osc : Scope} {W : WX} {X : Cx} {es : List Expr} {es' : List E}, Cok G tb k N sc osc W X → cEs tb N n sc es = some es' → PA X es (tEs G W es') ∧ es.all notStar = true ∧ es.length = es'.length
  pP : ∀ {sc osc : Scope} {W : WX} {X : Cx} {ks : List (Option Expr)} {vs : List Expr} {es' : List E} {pos : Pos}, Cok G tb k N sc osc W X → cP tb N n sc ks vs = some es' → PPs X pos ks vs (trsOf G W es') ∧ ks.all (·.isSome) = true ∧ es'.length = 2 * ks.length
  pB : ∀ {sc osc : Scope} {W : WX} {X : Cx} {op : BoolOp} {es : List Expr} {e' : E} {pos : Pos}, Cok G tb k N sc osc W X → cB tb N n sc op es = some e' → PE X (.BoolOp op es pos) (tE G W e') ∧ PW X (.BoolOp op es pos) (tB' G W e')
  pO : ∀ {sc osc : Scope} {W : WX} {X : Cx} {e : Option Expr} {e' : Option E}, Cok G tb k N sc osc W X → cO tb N n sc e = some e' → PO X e (tO G W e')
  pC : ∀ {sc osc : Scope} {W : WX} {X : Cx} {es : List Expr} {e' : Option E}, Cok G tb k N sc osc W X → cC tb N n sc es = some e' → PTs X es (tC' G W e')
  pT : ∀ {sc osc : Scope} {W : WX} {X : Cx} {e : Expr} {t : T}, Cok G tb k N sc osc W X → cT tb N n sc osc e = some t → PG X e (tG G W t)
  pTs : ∀ {sc osc : Scope} {W : WX} {X : Cx} {es : List Expr} {ts : List T}, Cok G tb k N sc osc W X → cTs tb N n sc osc es = some ts → PGs X es (tGs G W ts) ∧ es.all notStar = true ∧ es.length = ts.length
  pI : ∀ {sc osc : Scope} {W : WX} {X : Cx} {tg e : Expr} {it : I}, Cok G tb k N sc osc W X → cI tb N n sc tg e = some it → PI X tg e (tI G W it)
end
variable {G : GC} {tb : Tab} {k : Nat} {N : List Str}
theorem both {W : WX} {X : Cx} {e : Expr} {e' : E} (q : PE X e (tE G W e')) (hp : plainT e = true) : PE X e (tE G W e') ∧ (notIf e = true → PT X e (tB' G W e')) := ⟨q, fun _ => st_plain q hp⟩
theorem main (O : Gok G tb k) : ∀ n, Main G tb k N n
  | 0 => ⟨fun _ h => by simp [cE] at h, fun _ h => by simp [cEs] at h, fun _ h => by simp [cP] at h, fun _ h => by simp [cB] at h, fun _ h => by simp [cO] at h, fun _ h => by simp [cC] at h, fun _ h => by simp [cT] at h, fun _ h => by simp [cTs] at h, fun _ h => by simp [cI] at h⟩
  | n + 1 => by
    have M := main O n
    refine ⟨?_, ?_, ?_, ?_, ?_, ?_, ?_, ?_, ?_⟩
    · intro sc osc W X e e' C h
      have vis : ∀ {x : Str}, sc.names.lookup x = some .local ∨ sc.names.lookup x = some .cell ∨ sc.names.lookup x = some .free → Vis X.env.scope x := fun h => by rw [C.sc]; exact h
      simp only [cE] at h
      split at h
      · -- a name
        rename_i x p
        split at h
        · rename_i hx
          have fin : ∀ {e' : E}, PE X (.Name x p) (tE G W e') → PE X (.Name x p) (tE G W e') ∧ (notIf (.Name x p) = true → PT X (.Name x p) (tB' G W e')) := fun q => ⟨q, fun _ => st_plain q rfl⟩
          split at h
          · rename_i hk
            cases hs : slot N x with
            | none => rw [hs] at h; cases h
            | some i => rw [hs] at h; cases h; exact fin (se_var C hs (vis (.inl hk)) hx)
          · rename_i hk
            cases hs : slot N x with
            | none => rw [hs] at h; cases h
            | some i => rw [hs] at h; cases h; exact fin (se_var C hs (vis (.inr (.inl hk))) hx)
          · rename_i hk
            cases hs : slot N x with
            | none => rw [hs] at h; cases h
            | some i => rw [hs] at h; cases h; exact fin (se_var C hs (vis (.inr (.inr hk))) hx)
          · rename_i hk
            split at h
            · rename_i hc
              cases h
              exact fin (se_glb O C hk hx hc)
            · cases h
          · cases h
        · cases h
      · cases h
        exact both (se_cst pe_int fun μ H => .int _) rfl
      · cases h
        exact both (se_cst pe_bl fun μ H => .bl _) rfl
      · cases h
        exact both (se_cst pe_str fun μ H => .str _) rfl
      · cases h
        exact both (se_cst pe_non fun μ H => .non) rfl
      · -- a tuple
        split at h
        · rename_i hz
          cases hs : cEs tb N n sc _ with
          | none => rw [hs] at h; cases h
          | some es' =>
            rw [hs] at h; cases h
            obtain ⟨h1, _, h3⟩ := M.pEs C hs
            exact both (se_tup (G := G) (W := W) h1 (by rw [← h3]; exact hz)) rfl
        · cases h
      · split at h
        · rename_i hz
          cases hs : cEs tb N n sc _ with
          | none => rw [hs] at h; cases h
          | some es' =>
            rw [hs] at h; cases h
            obtain ⟨h1, _, h3⟩ := M.pEs C hs
            exact both (se_lst (G := G) (W := W) h1 (by rw [← h3]; exact hz)) rfl
        · cases h
      · -- a dict
        rename_i ks vs p
        split at h
        · rename_i hz
          cases hs : cP tb N n sc ks vs with
          | none => rw [hs] at h; cases h
          | some es' =>
            rw [hs] at h; cases h
            obtain ⟨q1, q2, q3⟩ := M.pP (pos := p) C hs
            cases ks with
            | nil =>
              cases vs with
              | cons _ _ => simp at hz
              | nil =>
                have e0 : es' = [] := by cases es' with | nil => rfl | cons _ _ => simp at q3
                subst e0
                exact both (PE_of pe_dnewK fun σ H Q => dct_imp0) rfl
            | cons k0 ks => exact both (PE_of (pe_disp q1 q2 hz.2 (by simp) hz.1) fun σ H Q => dct_imp (by omega) (by omega)) rfl
        · cases h
      · -- an operator
        split at h
        · rename_i o a' b' h1 h2 h3
          cases h
          exact both (se_bin C h1 (M.pE C h2).1 (M.pE C h3).1) rfl
        · cases h
      · cases hs : cE tb N n sc _ with
        | none => rw [hs] at h; cases h
        | some a' =>
          rw [hs] at h; cases h
          exact both (se_neg (M.pE C hs).1) rfl
      · split at h
        · rename_i hi
          cases hs : cE tb N n sc _ with
          | none => rw [hs] at h; cases h
          | some a' =>
            rw [hs] at h; cases h
            exact ⟨se_not (M.pE C hs).1, fun _ => st_not ((M.pE C hs).2 hi)⟩
        · cases h
      · split at h
        · rename_i hn
          split at h
          · rename_i a' b' h1 h2
            cases h
            exact ⟨se_cmp C hn (M.pE C h1).1 (M.pE C h2).1, fun _ => st_cmp C hn (M.pE C h1).1 (M.pE C h2).1⟩
          · cases h
        · cases h
      · split at h
        · rename_i hn
          split at h
          · rename_i a' b' c' h1 h2 h3
            cases h
            exact ⟨se_chn C hn.1 hn.2 (M.pE C h1).1 (M.pE C h2).1 (M.pE C h3).1, fun _ => st_chn C hn.1 hn.2 (M.pE C h1).1 (M.pE C h2).1 (M.pE C h3).1⟩
          · cases h
        · cases h
      · exact ⟨(M.pB C h).1, fun _ => (M.pB C h).2.pt⟩
      · split at h
        · rename_i hi
          split at h
          · rename_i c' a' b' h1 h2 h3
            cases h
            exact ⟨se_ite ((M.pE C h1).2 hi) (M.pE C h2).1 (M.pE C h3).1, fun z => by simp [notIf] at z⟩
          · cases h
        · cases h
      · split at h
        · rename_i a' lo' hi' h1 h2 h3
          cases h
          exact both (se_slc C (M.pE C h1).1 (M.pO C h2) (M.pO C h3)) rfl
        · cases h
      · cases hs : cE tb N n sc _ with
        | none => rw [hs] at h; cases h
        | some a' =>
          rw [hs] at h; cases h
          exact both (se_rev C (M.pE C hs).1) rfl
      · split at h
        · rename_i hn
          split at h
          · rename_i a' i' h1 h2
            cases h
            exact both (se_idx C (M.pE C h1).1 (M.pE C h2).1 hn) rfl
          · cases h
        · cases h
      · -- a call by name
        split at h
        · rename_i hx
          split at h
          · rename_i hf
            cases hs : cEs tb N n sc _ with
            | none => rw [hs] at h; cases h
            | some es' =>
              rw [hs] at h; cases h
              obtain ⟨h1, h2, h3⟩ := M.pEs C hs
              exact both (se_cal O C hf hx.2 hx.1 h1 h2 h3) rfl
          · split at h
            · cases h
            · rename_i hb
              have hb' := (Bool.not_eq_false _).mp hb
              split at h
              · rename_i e1
                subst e1
                split at h
                · split at h
                  · rename_i ht
                    split at h
                    · rename_i a' t' h1 h2
                      cases h
                      exact both (se_isi O C hb' hx.2 ht.2.2 ht.2.1 ht.1 h2 (M.pE C h1).1 (cE_star h1)) rfl
                    · cases h
                  · cases h
                · cases h
              · split at h
                · rename_i f hf'
                  cases hs : cEs tb N n sc _ with
                  | none => rw [hs] at h; cases h
                  | some es' =>
                    rw [hs] at h; cases h
                    obtain ⟨h1, h2, h3⟩ := M.pEs C hs
                    exact both (se_bfn O C hf' hb' hx.2 hx.1 h1 h2) rfl
                · cases h
        · cases h
      · -- a method
        split at h
        · rename_i hx
          split at h
          · rename_i o' as' h1 h2
            split at h
            · cases h
            · split at h
              · rename_i hline
                split at h
                · rename_i f hf
                  cases h
                  obtain ⟨h3, h4, h5⟩ := M.pEs C h2
                  rw [← h5] at hf
                  exact both (se_bmt C hf (M.pE C h1).1 h3 h4 hx.2 hx.1 hline h5) rfl
                · cases h
              · cases h
          · cases h
        · cases h
      · -- a comprehension
        split at h
        · rename_i hb
          split at h
          · rename_i g it c e h1 h2 h3 h4
            split at h
            · rename_i hsl
              cases h
              exact both (se_cpr (pos := _) C hb.1 hb.2 (M.pI C h2) (fun C' => M.pT C' h1) (fun C' => M.pC C' h3) (fun C' => (M.pE C' h4).1) hsl) rfl
            · cases h
          · cases h
        · cases h
      · cases h
    · intro sc osc W X es es' C h
      cases es with
      | nil => simp only [cEs] at h; cases h; exact ⟨sa_nil, rfl, rfl⟩
      | cons e es =>
        simp only [cEs] at h
        split at h
        · rename_i e' es' h1 h2
          cases h
          obtain ⟨q1, q2, q3⟩ := M.pEs C h2
          exact ⟨sa_cons (M.pE C h1).1 q1 (cE_star h1), by rw [List.all_cons, cE_star h1, q2]; rfl, by rw [List.length_cons, List.length_cons, q3]⟩
        · cases h
    · intro sc osc W X ks vs es' pos C h
      match ks, vs, h with
      | [], [], h => simp only [cP] at h; cases h; exact ⟨pps_nil, rfl, rfl⟩
      | [], _ :: _, h => simp [cP] at h
      | none :: _, _, h => simp [cP] at h
      | some _ :: _, [], h => simp [cP] at h
      | some k0 :: ks, v0 :: vs, h =>
        simp only [cP] at h
        split at h
        · rename_i k' v' r h1 h2 h3
          cases h
          obtain ⟨q1, q2, q3⟩ := M.pP (pos := pos) C h3
          exact ⟨pps_cons (M.pE C h1).1 (M.pE C h2).1 q1, by rw [List.all_cons, q2]; rfl, by simp only [List.length_cons]; omega⟩
        · cases h
    · intro sc osc W X op es e' pos C h
      cases es with
      | nil => simp [cB] at h
      | cons a es =>
        cases es with
        | nil =>
          simp only [cB] at h
          split at h
          · rename_i hi
            exact ⟨pe_one (M.pE C h).1, sw_one ((M.pE C h).2 hi)⟩
          · cases h
        | cons b rest =>
          simp only [cB] at h
          split at h
          · rename_i hi
            split at h
            · rename_i a' b' h1 h2
              cases h
              cases op
              · exact ⟨se_and (M.pE C h1).1 (M.pB C h2).1, sw_and ((M.pE C h1).2 hi) (M.pB C h2).2⟩
              · exact ⟨se_or (M.pE C h1).1 (M.pB C h2).1, sw_or ((M.pE C h1).2 hi) (M.pB C h2).2⟩
            · cases h
          · cases h
    · intro sc osc W X e e' C h
      cases e with
      | none => simp only [cO] at h; cases h; exact so_none
      | some e =>
        simp only [cO] at h
        cases hs : cE tb N n sc e with
        | none => rw [hs] at h; cases h
        | some a' => rw [hs] at h; cases h; exact so_some (M.pE C hs).1
    · intro sc osc W X es e' C h
      cases es with
      | nil => simp only [cC] at h; cases h; exact stc_none
      | cons e es =>
        cases es with
        | nil =>
          simp only [cC] at h
          split at h
          · rename_i hi
            cases hs : cE tb N n sc e with
            | none => rw [hs] at h; cases h
            | some a' => rw [hs] at h; cases h; exact stc_some ((M.pE C hs).2 hi)
          · cases h
        | cons _ _ => simp [cC] at h
    · intro sc osc W X e t C h
      simp only [cT] at h
      split at h
      · split at h
        · rename_i hst
          cases hs : slot N _ with
          | none => rw [hs] at h; cases h
          | some i => rw [hs] at h; cases h; exact sg_name C hst hs
        · cases h
      · cases hs : cTs tb N n sc osc _ with
        | none => rw [hs] at h; cases h
        | some ts =>
          rw [hs] at h; cases h
          obtain ⟨q1, q2, q3⟩ := M.pTs C hs
          exact sg_tup C q1 q2 q3
      · split at h
        · rename_i hn
          split at h
          · rename_i o' i' h1 h2
            cases h
            exact sg_sub C (M.pE C h1).1 (M.pE C h2).1 hn
          · cases h
        · cases h
      · cases h
    · intro sc osc W X es ts C h
      cases es with
      | nil => simp only [cTs] at h; cases h; exact ⟨sgs_nil, rfl, rfl⟩
      | cons e es =>
        simp only [cTs] at h
        split at h
        · rename_i t ts' h1 h2
          cases h
          obtain ⟨q1, q2, q3⟩ := M.pTs C h2
          exact ⟨sgs_cons (M.pT C h1) q1 (cT_star h1), by rw [List.all_cons, cT_star h1, q2]; rfl, by rw [List.length_cons, List.length_cons, q3]⟩
        · cases h
    · intro sc osc W X tg e it C h
      have seq : ∀ {it : I}, (cE tb N n sc e).map I.seq = some it → PI X tg e (tI G W it) := fun {it} h => by
        cases hs : cE tb N n sc e with
        | none => rw [hs] at h; cases h
        | some a' => rw [hs] at h; cases h; exact si_seq C (M.pE C hs).1
      simp only [cI] at h
      split at h
      · rename_i x p args pos
        split at h
        · rename_i e1
          obtain ⟨rfl, hb, hg, hl⟩ := e1
          cases hs : cEs tb N n sc args with
          | none => rw [hs] at h; cases h
          | some es' =>
            rw [hs] at h; cases h
            obtain ⟨q1, q2, q3⟩ := M.pEs C hs
            match args, es', hl, q1, q2, q3 with
            | [a], [a'], _, q1, q2, _ => exact si_rng O C hb hg q1 (by simpa using q2)
        · split at h
          · rename_i e1
            obtain ⟨rfl, hb, hg⟩ := e1
            split at h
            · split at h
              · rename_i ht
                cases hs : cE tb N n sc _ with
                | none => rw [hs] at h; cases h
                | some a' =>
                  rw [hs] at h; cases h
                  cases tg <;> try (simp [isTupE] at ht)
                  exact si_enm O C hb hg (M.pE C hs).1 (cE_star hs)
              · cases h
            · cases h
          · split at h
            · rename_i e1
              obtain ⟨rfl, hb, hg⟩ := e1
              split at h
              · split at h
                · rename_i ht
                  split at h
                  · rename_i a' b' h1 h2
                    cases h
                    cases tg <;> try (simp [isTupE] at ht)
                    exact si_zip O C hb hg (M.pE C h1).1 (M.pE C h2).1 (cE_star h1) (cE_star h2)
                  · cases h
                · cases h
              · cases h
            · exact seq h
      · exact seq h
end Sb

/-! statements -/
namespace Sb
open PySem PySem.Spec PyProof.Rows L2
/-! ### from the text -/
def isComp : Expr → Bool
  | .ListComp .. => true
  | .SetComp .. => true
  | .DictComp .. => true
  | _ => false
def swNames (sc : Scope) (ts : List Expr) : List Str := ts.filterMap fun
  | .Name id pos => if sc.names.lookup id == some .local && pos.line == (ts.head?.map (·.pos.line)).getD 0 then some id else none
  | _ => none
/-- how a, b = x, y is stored: 0 from the left, 1 from the right, 2 not told -/
def swKind (sc : Scope) (ts vs : List Expr) : Nat :=
  if (!(ts.length == 2 || ts.length == 3) || vs.length != ts.length) = true then 0
  else if (vs.any fun | .Starred .. => true | _ => false) = true then 0
  else if ((swNames sc ts).length != ts.length || (swNames sc ts).eraseDups.length != (swNames sc ts).length) = true then 0
  else if vs.all (foldedForSure 8) = true then 0
  else if vs.all (constantsAlone 8) = true then 2 else 1
mutual
def cS (tb : Tab) (N : List Str) : Nat → Scope → Stmt → Option S
  | 0, _, _ => none
  | n + 1, sc, s => match s with
    | .Assign [.Name x px] (.ListComp elt gs scope p) _ => if sc.names.lookup x = some .local ∧ (px.line == p.line) = true ∧ (scope.names.any fun (n, k) => n == x && (k == .local || k == .cell)) = false then (match slot N x, cE tb N n sc (.ListComp elt gs scope p) with
        | some i, some e => some (.set (.nm i) e)
        | _, _ => none)
      else if sc.names.lookup x = some .cell then (match slot N x, cE tb N n sc (.ListComp elt gs scope p) with
        | some i, some e => some (.set (.nm i) e)
        | _, _ => none) else none
    | .Assign [.Tuple ts x1 p1] (.Tuple vs x2 p2) _ => if swKind sc ts vs = 0 then (match cT tb N n sc sc (.Tuple ts x1 p1), cE tb N n sc (.Tuple vs x2 p2) with
        | some t, some e => some (.set t e)
        | _, _ => none)
      else if swKind sc ts vs = 1 then (match ts, vs with
        | [.Name x _, .Name y _], [a, b] => if x = y then none else (match slot N x, slot N y, cE tb N n sc a, cE tb N n sc b with
          | some i, some j, some a, some b => some (.set (.tp [.nm i, .nm j]) (.tup [a, b]))
          | _, _, _, _ => none)
        | [.Name x _, .Name y _, .Name z _], [a, b, c] => if x = y ∨ x = z ∨ y = z then none else (match slot N x, slot N y, slot N z, cE tb N n sc a, cE tb N n sc b, cE tb N n sc c with
          | some i, some j, some l, some a, some b, some c => some (.set (.tp [.nm i, .nm j, .nm l]) (.tup [a, b, c]))
          | _, _, _, _, _, _ => none)
        | _, _ => none)
      else none
    | .Assign [tg] e _ => if isComp e = false ∧ (isTupE tg = true → isTupE e = false) then (match cT tb N n sc sc tg, cE tb N n sc e with
        | some t, some e => some (.set t e)
        | _, _ => none) else none
    | .AugAssign (.Name x _) op e _ => if storable sc x = true then (match slot N x, binOf op, cE tb N n sc e with
        | some i, some o, some e => some (.aug i o e)
        | _, _, _ => none) else none
    | .Expr e _ => if isComp e = false then (cE tb N n sc e).map .exp else none
    | .Return (some e) _ => (cE tb N n sc e).map .ret
    | .If c a b _ => if notIf c = true then (match cE tb N n sc c, cSs tb N n sc a, cSs tb N n sc b with
        | some c, some a, some b => some (.ite c a b)
        | _, _, _ => none) else none
    | .For tg it b [] _ => if notSet it = true then (match cT tb N n sc sc tg, cI tb N n sc tg it, cSs tb N n sc b with
        | some t, some i, some b => some (.for t i b)
        | _, _, _ => none) else none
    | .While c b [] _ => if notIf c = true then (match cE tb N n sc c, cSs tb N n sc b with
        | some c, some b => some (.whl c b)
        | _, _ => none) else none
    | .Raise (some (.Call (.Name x _) [.Constant (.str _) _ _] [] _)) none _ => if okName x = true ∧ sc.names.lookup x = some .globalImplicit ∧ tb.exc.contains x = true then some (.rse x) else none
    | .Pass _ => some .pas
    | _ => none
def cSs (tb : Tab) (N : List Str) : Nat → Scope → List Stmt → Option (List S)
  | 0, _, _ => none
  | _ + 1, _, [] => some []
  | n + 1, sc, s :: ss => (match cS tb N n sc s, cSs tb N n sc ss with
    | some s, some ss => some (s :: ss)
    | _, _ => none)
end
/-! ### readings -/
def relOut (G : GC) : List Addr → Hp → Out → L2.St ⊕ V → Prop := fun μ H o p => match o, p with
  | .nxt fr, .inl σ => FrR G.K μ H fr σ
  | .ret d, .inr v => RelD G.K μ H d v
  | _, _ => False
def outQ (D : Ends) : L2.St ⊕ V → Hp → Prop := fun p H => match p with
  | .inl σ => D.nx σ H
  | .inr v => D.rt v H
def tS (G : GC) (W : WX) (s : S) : TS := fun D σ H => ∃ (μ : List Addr) (vh : VH) (fr : Fr), Rl G μ vh H ∧ FrR G.K μ H fr σ ∧ AfR G (relOut G) (XA G W) μ H (outQ D) (run G.Γ s fr vh)
def tSs (G : GC) (W : WX) (ss : List S) : TS := fun D σ H => ∃ (μ : List Addr) (vh : VH) (fr : Fr), Rl G μ vh H ∧ FrR G.K μ H fr σ ∧ AfR G (relOut G) (XA G W) μ H (outQ D) (runs G.Γ ss fr vh)
/-- a place where statements stand -/
structure CokS (G : GC) (tb : Tab) (k : Nat) (N : List Str) (s0 : Scope) (W : WX) (X : Cx) : Prop extends Cok G tb k N s0 s0 W X where
  ps : PassesOwn (model X.prog X.w) X.A X.env X.xe
  kd : s0.kind = .function
structure GokS (G : GC) (tb : Tab) (k : Nat) : Prop extends Gok G tb k where
  exc : ∀ x, tb.exc.contains x = true → PySem.W.excIn G.K (G.cl x) He.veBase "ValueError.__new__" = true ∧ PySem.W.keepIn G.K (.ref (G.cl x)) = true ∧ PySem.W.subIn G.K (.ref (G.cl x)) (.type "BaseException") = some true ∧ PySem.W.typeIn G.K (.ref (G.cl x)) = some (.type "type") ∧ G.mg x = some (.ref (G.cl x))
section
variable {G : GC} {tb : Tab} {k : Nat} {N : List Str} {sc : Scope} {W : WX} {X : Cx} {a b c e : Expr} {a' b' c' e' : E} {pos : Pos}
theorem PS_of {s : Stmt} {t t' : TS} (h : PS X s t) (f : ∀ D σ H, t' D σ H → t D σ H) : PS X s t' := ⟨fun pins s σ H D I q => h.run pins s σ H D I (f D σ H q)⟩
theorem PSs_of {s : List Stmt} {t t' : TS} (h : PSs X s t) (f : ∀ D σ H, t' D σ H → t D σ H) : PSs X s t' := ⟨fun pins s σ H D I q => h.run pins s σ H D I (f D σ H q)⟩
/-- an expression first -/
theorem oneS {a : E} {σ : L2.St} {H : Hp} {μ : List Addr} {vh : VH} {fr : Fr} {α β : Type} {rel : List Addr → Hp → α → β → Prop} {Q : β → Hp → Prop} {f : D → VH → R α} {R1 : V → Hp → Prop} (hl : Rl G μ vh H) (hf : FrR G.K μ H fr σ)
    (h : AfR G rel (XA G W) μ H Q ((ev G.Γ a fr vh).bind fun x h => f x h))
    (k : ∀ x H1 d vh1 μ1, Sr G μ H μ1 vh1 H1 → RelD G.K μ1 H1 d x → FrR G.K μ1 H1 fr σ → AfR G rel (XA G W) μ1 H1 Q (f d vh1) → R1 x H1) : tE G W a σ H R1 := by
  refine ⟨μ, vh, fr, hl, hf, (h.bind.imp fun x H1 ⟨d, vh1, μ1, _, sr, rd, h1⟩ => ?_).ximp fun c H q => q σ⟩
  exact k x H1 d vh1 μ1 sr rd (hf.mono sr.pre sr.keep) h1
theorem oneSB {a : E} {σ : L2.St} {H : Hp} {μ : List Addr} {vh : VH} {fr : Fr} {α β : Type} {rel : List Addr → Hp → α → β → Prop} {Q : β → Hp → Prop} {f : Bool → VH → R α} {R1 : Bool → Hp → Prop} (hl : Rl G μ vh H) (hf : FrR G.K μ H fr σ)
    (h : AfR G rel (XA G W) μ H Q ((evb G.Γ a fr vh).bind fun x h => f x h))
    (k : ∀ c H1 vh1 μ1, Sr G μ H μ1 vh1 H1 → FrR G.K μ1 H1 fr σ → AfR G rel (XA G W) μ1 H1 Q (f c vh1) → R1 c H1) : tB' G W a σ H R1 := by
  refine ⟨μ, vh, fr, hl, hf, (h.bind.imp fun x H1 ⟨d, vh1, μ1, _, sr, rd, h1⟩ => ?_).ximp fun c H q => q σ⟩
  subst rd
  exact k d H1 vh1 μ1 sr (hf.mono sr.pre sr.keep) h1
theorem ss_nil : PSs X [] (tSs G W []) := PSs_of pss_nil fun D σ H ⟨μ, vh, fr, hl, hf, h⟩ => by
  simp only [runs] at h
  exact h μ H (.inl σ) (Sr.refl hl) hf
theorem ss_cons {s : Stmt} {ss : List Stmt} {s' : S} {ss' : List S} (h1 : PS X s (tS G W s')) (h2 : PSs X ss (tSs G W ss')) : PSs X (s :: ss) (tSs G W (s' :: ss')) := by
  refine PSs_of (pss_cons h1 h2) fun D σ H ⟨μ, vh, fr, hl, hf, h⟩ => ?_
  simp only [runs] at h
  refine ⟨μ, vh, fr, hl, hf, (h.bind (rel := relOut G)).imp fun p H1 ⟨o, vh1, μ1, _, sr, ro, h1⟩ => ?_⟩
  cases o with
  | nxt fr1 =>
    cases p with
    | inr v => exact ro.elim
    | inl σ1 => exact ⟨μ1, vh1, fr1, sr.rl, ro, h1⟩
  | ret d =>
    cases p with
    | inl σ1 => exact ro.elim
    | inr v => exact h1 μ1 H1 (.inr v) (Sr.refl sr.rl) ro
theorem sS_pass : PS X (.Pass pos) (tS G W .pas) := PS_of ps_pass fun D σ H ⟨μ, vh, fr, hl, hf, h⟩ => by
  simp only [run] at h
  exact h μ H (.inl σ) (Sr.refl hl) hf
theorem notComp_sw {t : Option Expr} {l : Nat} {env : PySem.Env} (h : isComp e = false) : swapsWith e t l env = pure false := by
  cases e <;> first | rfl | (simp [isComp] at h)
theorem sS_expr (he : PE X e (tE G W e')) (hc : isComp e = false) : PS X (.Expr e pos) (tS G W (.exp e')) := by
  refine PS_of (ps_expr he (notComp_sw hc)) fun D σ H ⟨μ, vh, fr, hl, hf, h⟩ => ?_
  simp only [run] at h
  exact oneS hl hf h fun x H1 d vh1 μ1 sr rd hf1 h1 => h1 μ1 H1 (.inl σ) (Sr.refl sr.rl) hf1
theorem sS_ret (he : PE X e (tE G W e')) : PS X (.Return (some e) pos) (tS G W (.ret e')) := by
  refine PS_of (ps_ret he) fun D σ H ⟨μ, vh, fr, hl, hf, h⟩ => ?_
  simp only [run] at h
  exact oneS hl hf h fun x H1 d vh1 μ1 sr rd hf1 h1 => h1 μ1 H1 (.inr x) (Sr.refl sr.rl) rd
theorem sS_if {A B : List Stmt} {A' B' : List S} (hc : PT X c (tB' G W c')) (ha : PSs X A (tSs G W A')) (hb : PSs X B (tSs G W B')) : PS X (.If c A B pos) (tS G W (.ite c' A' B')) := by
  refine PS_of (ps_if hc ha hb) fun D σ H ⟨μ, vh, fr, hl, hf, h⟩ => ?_
  simp only [run] at h
  rw [evb_match] at h
  refine oneSB hl hf h fun c H1 vh1 μ1 sr hf1 h1 => ?_
  cases c
  · rw [if_neg (by simp)] at h1 ⊢
    exact ⟨μ1, vh1, fr, sr.rl, hf1, h1⟩
  · rw [if_pos rfl] at h1 ⊢
    exact ⟨μ1, vh1, fr, sr.rl, hf1, h1⟩
/-- what a target does behind a value -/
theorem set_imp {t : T} {D : Ends} {σ : L2.St} {H : Hp} (h : tS G W (.set t e') D σ H) : tAsg (tE G W e') (tG G W t) D σ H := by
  obtain ⟨μ, vh, fr, hl, hf, h⟩ := h
  simp only [run] at h
  refine oneS hl hf h fun x H1 d vh1 μ1 sr rd hf1 h1 => ?_
  exact ⟨μ1, vh1, fr, d, sr.rl, hf1, rd, h1.bind.imp fun σ2 H2 ⟨fr2, vh2, μ2, _, sr2, hf2, h2⟩ _ => h2 μ2 H2 (.inl σ2) (Sr.refl sr2.rl) hf2⟩
theorem sS_asg {tg : Expr} {t : T} (hg : PG X tg (tG G W t)) (he : PE X e (tE G W e')) (hc : isComp e = false) (hw : swappedStores [tg] e X.env = pure none) (hs : notStar tg = true) : PS X (.Assign [tg] e pos) (tS G W (.set t e')) :=
  PS_of (ps_asg he hg (notComp_sw hc) hw (by cases tg <;> first | rfl | (simp [notStar] at hs))) fun D σ H => set_imp
theorem sS_setCell {x : Str} {px p : Pos} {i : Nat} {elt : Expr} {gs : List Comprehension} {scope : Scope} (C : Cok G tb k N sc sc W X) (hi : slot N x = some i) (hx : sc.names.lookup x = some .cell) (he : PE X (.ListComp elt gs scope p) (tE G W e')) :
    PS X (.Assign [.Name x px] (.ListComp elt gs scope p) pos) (tS G W (.set (.nm i) e')) := by
  have hk : (X.env.kindOf x == some .local) = false := by
    unfold Env.kindOf
    rw [C.sc, hx]
    rfl
  have hs : swapsWith (.ListComp elt gs scope p) (some (.Name x px)) pos.line X.env = pure false := by
    unfold swapsWith
    simp only [hk, Bool.and_false, Bool.false_and]
  exact PS_of (ps_asg he (sg_name C (by unfold storable; rw [hx]) hi) hs rfl rfl) fun D σ H => set_imp
theorem sS_aug {x : Str} {i : Nat} {op : Operator} {o : Bin} {p : Pos} (C : Cok G tb k N sc sc W X) (hs : storable sc x = true) (hi : slot N x = some i) (ho : binOf op = some o) (he : PE X e (tE G W e')) : PS X (.AugAssign (.Name x p) op e pos) (tS G W (.aug i o e')) := by
  have eo : op = opOf o := by cases op <;> simp only [binOf] at ho <;> cases ho <;> rfl
  subst eo
  obtain ⟨h1, h2⟩ := C.st x hs
  refine PS_of (ps_aug (i := i) (by rw [C.hN]; exact C.nd) (by rw [C.hN]; exact slot_get hi) h1 he (iop_augF (G := G) C.K o) h2) fun D σ H ⟨μ, vh, fr, hl, hf, h⟩ => ?_
  simp only [run] at h
  split at h
  · rename_i d e1
    obtain ⟨v, e2, r⟩ := hf.get i d e1
    refine ⟨v, e2, oneS hl hf h fun y H1 d1 vh1 μ1 sr rd hf1 h3 => ?_⟩
    refine ⟨_, μ1, vh1, d, d1, sr.rl, r.mono sr.pre sr.keep, rd, h3.bind.imp fun z H2 ⟨dz, vh2, μ2, _, sr2, rz, h4⟩ => ?_⟩
    exact h4 μ2 H2 (.inl _) (Sr.refl sr2.rl) ((hf1.mono sr2.pre sr2.keep).set i rz)
  · exact h.elim
theorem sS_raise {x m : Str} {j : Nat} {p p2 p3 : Pos} (O : GokS G tb k) (C : Cok G tb k N sc sc W X) (hx : okName x = true) (hg : sc.names.lookup x = some .globalImplicit) (he : tb.exc.contains x = true) : PS X (.Raise (some (.Call (.Name x p) [.Constant (.str m) j p2] [] p3)) none pos) (tS G W (.rse x)) := by
  obtain ⟨h1, h2, h3, h4, h5⟩ := O.exc x he
  have hP := pmk_own (X := X) (C := G.cl x) (x := x) (m := m) (j := j) (p := p) (p2 := p2) (pos := p3) PySem.F.excBase_ValueError (by rw [C.K]; exact h1) (by rw [C.mg]; exact h5) (by rw [C.K]; exact h2) (raises_own (by rw [C.K]; exact h3) (by rw [C.K]; exact h4)) (C.gl hg) (okName_debug hx).1
  refine PS_of (ps_raise C.calm C.tk hP) fun D σ H ⟨μ, vh, fr, hl, hf, h⟩ => ?_
  simp only [run] at h
  exact h μ H (Sr.refl hl) σ
/-! ### loops -/
theorem sS_while {B : List Stmt} {B' : List S} (C : CokS G tb k N sc W X) (hc : PT X c (tB' G W c')) (hb : PSs X B (tSs G W B')) : PS X (.While c B [] pos) (tS G W (.whl c' B')) := by
  refine PS_of (ps_while C.ps hc hb) fun D σ H ⟨μ, vh, fr, hl, hf, h⟩ => ?_
  simp only [run] at h
  refine ⟨fun m σ H => ∃ (μ : List Addr) (vh : VH) (fr : Fr), Rl G μ vh H ∧ FrR G.K μ H fr σ ∧ AfR G (relOut G) (XA G W) μ H (outQ D) (loopW (fun fr h => evb G.Γ c' fr h) (fun fr h => runs G.Γ B' fr h) m fr vh), ⟨G.Γ.wf, μ, vh, fr, hl, hf, h⟩, ?_⟩
  rintro m σ1 H1 ⟨μ1, vh1, fr1, hl1, hf1, h1⟩
  cases m with
  | zero => exact h1.elim
  | succ m =>
    simp only [loopW] at h1
    refine oneSB hl1 hf1 h1 fun b H2 vh2 μ2 sr hf2 h2 => ?_
    cases b
    · rw [if_neg (by simp)] at h2 ⊢
      exact h2 μ2 H2 (.inl σ1) (Sr.refl sr.rl) hf2
    · rw [if_pos rfl] at h2 ⊢
      refine ⟨fun σ' H' => ∃ m', m' < m + 1 ∧ _, fun σ' H' q => q, μ2, vh2, fr1, sr.rl, hf2, (h2.bind (rel := relOut G)).imp fun p H3 ⟨o, vh3, μ3, _, sr3, ro, h3⟩ => ?_⟩
      cases o with
      | nxt fr3 =>
        cases p with
        | inr v => exact ro.elim
        | inl σ3 => exact ⟨m, Nat.lt_succ_self m, μ3, vh3, fr3, sr3.rl, ro, h3⟩
      | ret d =>
        cases p with
        | inl σ3 => exact ro.elim
        | inr v => exact h3 μ3 H3 (.inr v) (Sr.refl sr3.rl) ro
theorem sS_for {tg iter : Expr} {t : T} {it : I} {B : List Stmt} {B' : List S} (C : CokS G tb k N sc W X) (hn : notSet iter = true) (hi : PI X tg iter (tI G W it)) (hg : PG X tg (tG G W t)) (hb : PSs X B (tSs G W B')) : PS X (.For tg iter B [] pos) (tS G W (.for t it B')) := by
  refine PS_of (ps_for C.ps C.calm hi hg hb (fun x => by cases iter <;> first | rfl | (simp [notSet] at hn))) fun D σ H ⟨μ, vh, fr, hl, hf, h⟩ => ?_
  simp only [run] at h
  refine ⟨μ, vh, fr, hl, hf, ((h.bind (rel := ItR G)).imp fun J H1 ⟨its, vh1, μ1, _, sr1, iJ, h1⟩ => ?_).ximp fun c H q => q σ⟩
  have hf1 := hf.mono sr1.pre sr1.keep
  refine ⟨fun i m σ H => ∃ (μ' : List Addr) (vh' : VH) (fr' : Fr), Sr G μ1 H1 μ' vh' H ∧ FrR G.K μ' H fr' σ ∧ m = its.1.length - i ∧ i ≤ its.1.length ∧ AfR G (relOut G) (XA G W) μ' H (outQ D) (loopF its.2 (fun d fr h => (asg G.Γ t d fr h).bind fun fr h => runs G.Γ B' fr h) (its.1.drop i) fr' vh'),
    ⟨its.1.length, μ1, vh1, fr, Sr.refl sr1.rl, hf1, by simp, Nat.zero_le _, by rw [List.drop_zero]; exact h1⟩, ?_⟩
  rintro i m σ2 H2 ⟨μ2, vh2, fr2, sr2, hf2, rfl, hi2, h2⟩
  by_cases hlt : i < its.1.length
  · rw [List.drop_eq_getElem_cons hlt] at h2
    simp only [loopF] at h2
    split at h2
    · rename_i hgd
      obtain ⟨h3, _⟩ := iJ i μ2 vh2 H2 sr2 hgd
      obtain ⟨h4, h5⟩ := h3 _ (List.getElem?_eq_getElem hlt)
      refine .inr ⟨h4, fun σ' H' => ∃ m', m' < its.1.length - i ∧ _, fun σ' H' q => q, fun x H5 y => ?_⟩
      obtain ⟨sr5, r5⟩ := h5 x H5 y
      have h6 := h2.base sr5
      rw [R.bind_assoc] at h6
      refine ⟨μ2, vh2, fr2, _, sr5.rl, hf2.mono sr5.pre sr5.keep, r5, h6.bind.imp fun σ6 H6 ⟨fr6, vh6, μ6, _, sr6, hf6, h7⟩ _ => ?_⟩
      refine ⟨μ6, vh6, fr6, sr6.rl, hf6, (h7.bind (rel := relOut G)).imp fun p H8 ⟨o, vh8, μ8, _, sr8, ro, h8⟩ => ?_⟩
      cases o with
      | nxt fr8 =>
        cases p with
        | inr v => exact ro.elim
        | inl σ8 => exact ⟨its.1.length - (i + 1), by omega, μ8, vh8, fr8, ((sr2.trans sr5).trans sr6).trans sr8, ro, rfl, hlt, h8⟩
      | ret d =>
        cases p with
        | inl σ8 => exact ro.elim
        | inr v => exact h8 μ8 H8 (.inr v) (Sr.refl sr8.rl) ro
    · exact h2.elim
  · have e : i = its.1.length := by omega
    subst e
    rw [List.drop_length] at h2
    simp only [loopF] at h2
    split at h2
    · rename_i hgd
      exact .inl ⟨(iJ _ μ2 vh2 H2 sr2 hgd).2 rfl, h2 μ2 H2 (.inl σ2) (Sr.refl sr2.rl) hf2⟩
    · exact h2.elim
/-! ### x = [..], a, b = x, y -/
theorem sS_setLc {x : Str} {px : Pos} {i : Nat} {elt tg iter : Expr} {ifs : List Expr} {scope : Scope} {p : Pos} {g : T} {it : I} {cc : Option E} {ee : E} (C : CokS G tb k N sc W X) (hi : slot N x = some i) (hx : sc.names.lookup x = some .local) (hl : (px.line == p.line) = true)
    (ha : (scope.names.any fun (n, k) => n == x && (k == .local || k == .cell)) = false) (hb : blkC N sc scope (ownOf N scope) = true) (hn : notSet iter = true) (hI : PI X tg iter (tI G W it))
    (hg : ∀ {X' : Cx}, Cok G tb k N (relS scope sc) scope W0 X' → PG X' tg (tG G W0 g)) (ht : ∀ {X' : Cx}, Cok G tb k N (relS scope sc) scope W0 X' → PTs X' ifs (tC' G W0 cc)) (he : ∀ {X' : Cx}, Cok G tb k N (relS scope sc) scope W0 X' → PE X' elt (tE G W0 ee))
    (hsl : (slotsT g).all (fun i => ((ownOf N scope).map (·.2)).contains i) = true) : PS X (.Assign [.Name x px] (.ListComp elt [⟨tg, iter, ifs, 0⟩] scope p) pos) (tS G W (.set (.nm i) (.cpr ((ownOf N scope).map (·.2)) g it cc ee))) := by
  have ok : BlkOk X.N X.env.scope scope (ownOf N scope) := by rw [C.hN, C.sc]; exact blkOk_by hb
  have hxl : X.env.scope.names.lookup x = some .local := by rw [C.sc]; exact hx
  refine PS_of (ps_setLc (i := i) C.calm (by rw [C.hN]; exact C.nd) (by rw [C.hN]; exact slot_get hi) hxl (sw_true (by rw [C.sc]; exact C.kd) hxl hl ha) hI ok (fun s H C0 cl fp => hg C.toCok.blk) (fun s H C0 cl fp => ht C.toCok.blk) (fun s H C0 cl fp => he C.toCok.blk)
    (fun x => by cases iter <;> first | rfl | (simp [notSet] at hn))) fun D σ H ⟨μ, vh, fr, hl, hf, h⟩ => ?_
  simp only [run] at h
  refine lc_imp hsl (oneS hl hf h fun x H1 d vh1 μ1 sr rd hf1 h1 => ?_)
  simp only [asg, R.bind_ok] at h1
  exact h1 μ1 H1 (.inl _) (Sr.refl sr.rl) (hf1.set i rd)
theorem tup_parts {ts : List T} {es' : List E} {D : Ends} {σ : L2.St} {H : Hp} {R1 : List V → Hp → Prop} (h : tS G W (.set (.tp ts) (.tup es')) D σ H)
    (kk : ∀ vs H1 ds vh1 μ1 fr, Sr G μ1 H1 μ1 vh1 H1 → RelDs G.K μ1 H1 ds vs → FrR G.K μ1 H1 fr σ → ds.length = es'.length → AfR G (relOut G) (XA G W) μ1 H1 (outQ D) ((asg G.Γ (.tp ts) (.tup ds) fr vh1).bind fun fr h => some (.ok (.nxt fr), h)) → R1 vs H1) : tEs G W es' σ H R1 := by
  obtain ⟨μ, vh, fr, hl, hf, h⟩ := h
  simp only [run, ev] at h
  rw [R.bind_assoc] at h
  refine ⟨μ, vh, fr, hl, hf, (h.bind.imp fun vs H1 ⟨ds, vh1, μ1, e, sr, rd, h1⟩ => ?_).ximp fun c H q => q σ⟩
  rw [R.bind_ok] at h1
  exact kk vs H1 ds vh1 μ1 fr (Sr.refl sr.rl) rd (hf.mono sr.pre sr.keep) (evs_len e) h1
theorem sS_par {x y : Str} {px py p1 p2 : Pos} {x1 x2 i j : Nat} (C : CokS G tb k N sc W X) (hi : slot N x = some i) (hj : slot N y = some j) (hxy : x ≠ y) (hx : sc.names.lookup x = some .local) (hy : sc.names.lookup y = some .local) (ha : PA X [a, b] (tEs G W [a', b']))
    (hw : swappedStores [.Tuple [.Name x px, .Name y py] x1 p1] (.Tuple [a, b] x2 p2) X.env = pure (some [x, y])) : PS X (.Assign [.Tuple [.Name x px, .Name y py] x1 p1] (.Tuple [a, b] x2 p2) pos) (tS G W (.set (.tp [.nm i, .nm j]) (.tup [a', b']))) := by
  have hij : i ≠ j := fun z => by
    subst z
    have h1 := slot_get hi
    rw [slot_get hj] at h1
    cases h1
    exact hxy rfl
  refine PS_of (ps_par (i := i) (j := j) C.calm (by rw [C.hN]; exact C.nd) (by rw [C.hN]; exact slot_get hi) (by rw [C.hN]; exact slot_get hj) hij (by rw [C.sc]; exact hx) (by rw [C.sc]; exact hy) ha hw) fun D σ H h => ?_
  refine tup_parts h fun vs H1 ds vh1 μ1 fr sr rd hf1 hl h1 => ?_
  match ds, vs, rd, hl with
  | [d, e], [v, w], .cons r1 (.cons r2 .nil), _ =>
    simp only [asg, asgs, R.bind_ok, List.length_cons, List.length_nil, if_true] at h1
    exact ⟨v, w, rfl, h1 μ1 H1 (.inl _) sr ((hf1.set i r1).set j r2)⟩
theorem sS_par3 {x y z : Str} {px py pz p1 p2 : Pos} {x1 x2 i j l : Nat} (C : CokS G tb k N sc W X) (hi : slot N x = some i) (hj : slot N y = some j) (hl : slot N z = some l) (hxy : x ≠ y) (hxz : x ≠ z) (hyz : y ≠ z) (hx : sc.names.lookup x = some .local) (hy : sc.names.lookup y = some .local) (hz : sc.names.lookup z = some .local) (ha : PA X [a, b, c] (tEs G W [a', b', c']))
    (hw : swappedStores [.Tuple [.Name x px, .Name y py, .Name z pz] x1 p1] (.Tuple [a, b, c] x2 p2) X.env = pure (some [x, y, z])) : PS X (.Assign [.Tuple [.Name x px, .Name y py, .Name z pz] x1 p1] (.Tuple [a, b, c] x2 p2) pos) (tS G W (.set (.tp [.nm i, .nm j, .nm l]) (.tup [a', b', c']))) := by
  have dist : ∀ {u v : Str} {m n : Nat}, slot N u = some m → slot N v = some n → u ≠ v → m ≠ n := fun h1 h2 hne z => by
    subst z
    have h3 := slot_get h1
    rw [slot_get h2] at h3
    cases h3
    exact hne rfl
  refine PS_of (ps_par3 (i := i) (j := j) (l := l) C.calm (by rw [C.hN]; exact C.nd) (by rw [C.hN]; exact slot_get hi) (by rw [C.hN]; exact slot_get hj) (by rw [C.hN]; exact slot_get hl) (dist hi hj hxy) (dist hi hl hxz) (dist hj hl hyz) (by rw [C.sc]; exact hx) (by rw [C.sc]; exact hy) (by rw [C.sc]; exact hz) ha hw) fun D σ H h => ?_
  refine tup_parts h fun vs H1 ds vh1 μ1 fr sr rd hf1 hlen h1 => ?_
  match ds, vs, rd, hlen with
  | [d, e, f], [v, w, u], .cons r1 (.cons r2 (.cons r3 .nil)), _ =>
    simp only [asg, asgs, R.bind_ok, List.length_cons, List.length_nil, if_true] at h1
    exact ⟨v, w, u, rfl, h1 μ1 H1 (.inl _) sr (((hf1.set i r1).set j r2).set l r3)⟩
theorem sw_form {env : PySem.Env} {ts vs : List Expr} {x1 x2 : Nat} {p1 p2 : Pos} : swappedStores [.Tuple ts x1 p1] (.Tuple vs x2 p2) env =
   (if (!(ts.length == 2 || ts.length == 3) || vs.length != ts.length || env.blockKind != .function) = true then pure none
    else if (vs.any fun | .Starred .. => true | _ => false) = true then pure none
    else if ((swNames env.scope ts).length != ts.length || (swNames env.scope ts).eraseDups.length != (swNames env.scope ts).length) = true then pure none
    else if vs.all (foldedForSure 8) = true then pure none
    else if vs.all (constantsAlone 8) = true then (unsupported "assign.tuple-of-constant-expressions:order-of-the-stores" : Sem PUnit) >>= fun _ => pure (some (swNames env.scope ts))
    else pure (some (swNames env.scope ts))) := by
  unfold swappedStores
  simp only [pure_bind]
  rfl
theorem swapped_eq {env : PySem.Env} {ts vs : List Expr} {x1 x2 : Nat} {p1 p2 : Pos} (hs : env.scope = sc) (hk : sc.kind = .function) :
    (swKind sc ts vs = 0 → swappedStores [.Tuple ts x1 p1] (.Tuple vs x2 p2) env = pure none) ∧ (swKind sc ts vs = 1 → swappedStores [.Tuple ts x1 p1] (.Tuple vs x2 p2) env = pure (some (swNames sc ts)) ∧ (swNames sc ts).length = ts.length ∧ (swNames sc ts).eraseDups.length = (swNames sc ts).length) := by
  have hb : (env.blockKind != .function) = false := by
    unfold Env.blockKind
    rw [hs, hk]
    rfl
  subst hs
  rw [sw_form, hb, Bool.or_false]
  unfold swKind
  by_cases c1 : (!(ts.length == 2 || ts.length == 3) || vs.length != ts.length) = true
  · rw [if_pos c1, if_pos c1]; exact ⟨fun _ => rfl, fun h => absurd h (by decide)⟩
  rw [if_neg c1, if_neg c1]
  by_cases c2 : (vs.any fun | .Starred .. => true | _ => false) = true
  · rw [if_pos c2]
    exact ⟨fun _ => if_pos c2, fun h => absurd h (by decide)⟩
  rw [if_neg c2]
  by_cases c3 : ((swNames env.scope ts).length != ts.length || (swNames env.scope ts).eraseDups.length != (swNames env.scope ts).length) = true
  · rw [if_pos c3, if_pos c3]; exact ⟨fun _ => if_neg c2, fun h => absurd h (by decide)⟩
  rw [if_neg c3, if_neg c3]
  by_cases c4 : vs.all (foldedForSure 8) = true
  · rw [if_pos c4, if_pos c4]; exact ⟨fun _ => if_neg c2, fun h => absurd h (by decide)⟩
  rw [if_neg c4, if_neg c4]
  by_cases c5 : vs.all (constantsAlone 8) = true
  · rw [if_pos c5]; exact ⟨fun h => absurd h (by decide), fun h => absurd h (by decide)⟩
  rw [if_neg c5, if_neg c5]
  refine ⟨fun h => absurd h (by decide), fun _ => ⟨if_neg c2, ?_, ?_⟩⟩
  · simp only [Bool.or_eq_true, not_or, bne_iff_ne, ne_eq, Decidable.not_not] at c3
    exact c3.1
  · simp only [Bool.or_eq_true, not_or, bne_iff_ne, ne_eq, Decidable.not_not] at c3
    exact c3.2
theorem fm_len {α β : Type} {f : α → Option β} : ∀ {l : List α}, (l.filterMap f).length = l.length → ∀ x ∈ l, ∃ y, f x = some y
  | [], _, x, hx => nomatch hx
  | a :: l, h, x, hx => by
    have hle := List.length_filterMap_le f l
    cases ha : f a with
    | none => rw [List.filterMap_cons, ha, List.length_cons] at h; simp only at h; omega
    | some y =>
      rw [List.filterMap_cons, ha] at h
      simp only [List.length_cons, Nat.add_right_cancel_iff] at h
      rcases List.mem_cons.mp hx with rfl | hx
      · exact ⟨y, ha⟩
      · exact fm_len h x hx
theorem sw_local {ts : List Expr} {x : Str} {p : Pos} (h : (swNames sc ts).length = ts.length) (hm : Expr.Name x p ∈ ts) : sc.names.lookup x = some .local := by
  obtain ⟨y, hy⟩ := fm_len h _ hm
  simp only at hy
  split at hy
  · rename_i c
    simp only [Bool.and_eq_true, beq_iff_eq] at c
    exact c.1
  · cases hy
theorem sw_two {x y : Str} {px py : Pos} (h : (swNames sc [.Name x px, .Name y py]).length = 2) : swNames sc [.Name x px, .Name y py] = [x, y] := by
  have h1 := fm_len h (.Name x px) (by simp)
  have h2 := fm_len h (.Name y py) (by simp)
  obtain ⟨u, e1⟩ := h1
  obtain ⟨v, e2⟩ := h2
  unfold swNames
  rw [List.filterMap_cons, e1, List.filterMap_cons, e2]
  simp only at e1 e2
  split at e1
  · cases e1
    split at e2
    · cases e2; rfl
    · cases e2
  · cases e1
theorem sw_three {x y z : Str} {px py pz : Pos} (h : (swNames sc [.Name x px, .Name y py, .Name z pz]).length = 3) : swNames sc [.Name x px, .Name y py, .Name z pz] = [x, y, z] := by
  obtain ⟨u, e1⟩ := fm_len h (.Name x px) (by simp)
  obtain ⟨v, e2⟩ := fm_len h (.Name y py) (by simp)
  obtain ⟨w, e3⟩ := fm_len h (.Name z pz) (by simp)
  unfold swNames
  rw [List.filterMap_cons, e1, List.filterMap_cons, e2, List.filterMap_cons, e3]
  simp only at e1 e2 e3
  split at e1
  · cases e1
    split at e2
    · cases e2
      split at e3
      · cases e3; rfl
      · cases e3
    · cases e2
  · cases e1
theorem cE_comp {n : Nat} {elt : Expr} {gs : List Comprehension} {scope : Scope} {p : Pos} {e' : E} (h : cE tb N (n + 1) sc (.ListComp elt gs scope p) = some e') : ∃ (tg iter : Expr) (ifs : List Expr) (g : T) (it : I) (c : Option E) (e : E), gs = [⟨tg, iter, ifs, 0⟩] ∧ blkC N sc scope (ownOf N scope) = true ∧ notSet iter = true ∧
    cT tb N n (relS scope sc) scope tg = some g ∧ cI tb N n sc tg iter = some it ∧ cC tb N n (relS scope sc) ifs = some c ∧ cE tb N n (relS scope sc) elt = some e ∧ (slotsT g).all (fun i => ((ownOf N scope).map (·.2)).contains i) = true ∧ e' = .cpr ((ownOf N scope).map (·.2)) g it c e := by
  match gs, h with
  | [], h => simp [cE] at h
  | [⟨tg, iter, ifs, 0⟩], h =>
    simp only [cE] at h
    split at h
    · rename_i hb
      split at h
      · rename_i g it c e h1 h2 h3 h4
        split at h
        · rename_i hsl
          cases h
          exact ⟨tg, iter, ifs, g, it, c, e, rfl, hb.1, hb.2, h1, h2, h3, h4, hsl, rfl⟩
        · cases h
      · cases h
    · cases h
  | [⟨tg, iter, ifs, .ofNat (m + 1)⟩], h => exact nomatch (show (none : Option E) = some e' from h)
  | [⟨tg, iter, ifs, .negSucc m⟩], h => exact nomatch (show (none : Option E) = some e' from h)
  | _ :: _ :: _, h => simp [cE] at h
/-! ### all statements -/
section
variable (G tb k N)
structure MainS (n : Nat) : Prop where
  pS : ∀ {sc : Scope} {W : WX} {X : Cx} {s : Stmt} {s' : S}, CokS G tb k N sc W X → cS tb N n sc s = some s' → PS X s (tS G W s')
  pSs : ∀ {sc : Scope} {W : WX} {X : Cx} {s : List Stmt} {s' : List S}, CokS G tb k N sc W X → cSs tb N n sc s = some s' → PSs X s (tSs G W s')
end
theorem mainS (O : GokS G tb k) : ∀ n, MainS G tb k N n
  | 0 => ⟨fun _ h => by simp [cS] at h, fun _ h => by simp [cSs] at h⟩
  | n + 1 => by
    have M := mainS O n
    have ME : Main G tb k N n := main O.toGok n
    refine ⟨?_, ?_⟩
    · intro sc W X s s' C h
      simp only [cS] at h
      split at h
      · -- x = [..]
        split at h
        · rename_i hx
          split at h
          · rename_i i e h1 h2
            cases h
            cases n with
            | zero => simp [cE] at h2
            | succ n =>
              have ME' : Main G tb k N n := main O.toGok n
              obtain ⟨tg, iter, ifs, g, it, c, e, rfl, q1, q2, q3, q4, q5, q6, q7, rfl⟩ := cE_comp h2
              exact sS_setLc C h1 hx.1 hx.2.1 hx.2.2 q1 q2 (ME'.pI C.toCok q4) (fun C' => ME'.pT C' q3) (fun C' => ME'.pC C' q5) (fun C' => (ME'.pE C' q6).1) q7
          · cases h
        · split at h
          · rename_i hx
            split at h
            · rename_i i e h1 h2
              cases h
              exact sS_setCell C.toCok h1 hx (ME.pE C.toCok h2).1
            · cases h
          · cases h
      · -- a, b = x, y
        rename_i ts x1 p1 vs x2 p2 p3
        obtain ⟨w0, w1⟩ := swapped_eq (ts := ts) (vs := vs) (x1 := x1) (x2 := x2) (p1 := p1) (p2 := p2) C.sc C.kd
        split at h
        · rename_i hk
          split at h
          · rename_i t e h1 h2
            cases h
            exact sS_asg (ME.pT C.toCok h1) (ME.pE C.toCok h2).1 rfl (w0 hk) rfl
          · cases h
        · split at h
          · rename_i hk
            obtain ⟨w2, w3, w4⟩ := w1 hk
            split at h
            · rename_i x px y py a b _
              split at h
              · cases h
              rename_i hxy
              split at h
              · rename_i i j a' b' h1 h2 h3 h4
                cases h
                have lx := sw_local w3 (x := x) (p := px) (by simp)
                have ly := sw_local w3 (x := y) (p := py) (by simp)
                have en : swNames sc [.Name x px, .Name y py] = [x, y] := sw_two w3
                rw [en] at w2
                exact sS_par C h1 h2 hxy lx ly (sa_cons (ME.pE C.toCok h3).1 (sa_cons (ME.pE C.toCok h4).1 sa_nil (cE_star h4)) (cE_star h3)) w2
              · cases h
            · rename_i x px y py z pz a b c _
              split at h
              · cases h
              rename_i hne
              split at h
              · rename_i i j l a' b' c' h1 h2 h3 h4 h5 h6
                cases h
                have lx := sw_local w3 (x := x) (p := px) (by simp)
                have ly := sw_local w3 (x := y) (p := py) (by simp)
                have lz := sw_local w3 (x := z) (p := pz) (by simp)
                have en : swNames sc [.Name x px, .Name y py, .Name z pz] = [x, y, z] := sw_three w3
                rw [en] at w2
                exact sS_par3 C h1 h2 h3 (fun q => hne (.inl q)) (fun q => hne (.inr (.inl q))) (fun q => hne (.inr (.inr q))) lx ly lz (sa_cons (ME.pE C.toCok h4).1 (sa_cons (ME.pE C.toCok h5).1 (sa_cons (ME.pE C.toCok h6).1 sa_nil (cE_star h6)) (cE_star h5)) (cE_star h4)) w2
              · cases h
            · cases h
          · cases h
      · -- target = value
        rename_i tg e p hne1 hne2
        split at h
        · rename_i hc
          split at h
          · rename_i t e' h1 h2
            cases h
            refine sS_asg (ME.pT C.toCok h1) (ME.pE C.toCok h2).1 hc.1 ?_ (cT_star h1)
            cases tg with
            | Tuple es kk pp =>
              have ht := hc.2 rfl
              cases e <;> first | rfl | (simp [isTupE] at ht)
            | List es pp => cases n <;> simp [cT] at h1
            | _ => rfl
          · cases h
        · cases h
      · split at h
        · rename_i hs
          split at h
          · rename_i i o e h1 h2 h3
            cases h
            exact sS_aug C.toCok hs h1 h2 (ME.pE C.toCok h3).1
          · cases h
        · cases h
      · split at h
        · rename_i hc
          cases hs : cE tb N n sc _ with
          | none => rw [hs] at h; cases h
          | some e' => rw [hs] at h; cases h; exact sS_expr (ME.pE C.toCok hs).1 hc
        · cases h
      · cases hs : cE tb N n sc _ with
        | none => rw [hs] at h; cases h
        | some e' => rw [hs] at h; cases h; exact sS_ret (ME.pE C.toCok hs).1
      · split at h
        · rename_i hi
          split at h
          · rename_i c' a' b' h1 h2 h3
            cases h
            exact sS_if ((ME.pE C.toCok h1).2 hi) (M.pSs C h2) (M.pSs C h3)
          · cases h
        · cases h
      · split at h
        · rename_i hn
          split at h
          · rename_i t i b h1 h2 h3
            cases h
            exact sS_for C hn (ME.pI C.toCok h2) (ME.pT C.toCok h1) (M.pSs C h3)
          · cases h
        · cases h
      · split at h
        · rename_i hi
          split at h
          · rename_i c' b' h1 h2
            cases h
            exact sS_while C ((ME.pE C.toCok h1).2 hi) (M.pSs C h2)
          · cases h
        · cases h
      · split at h
        · rename_i hx
          cases h
          exact sS_raise O C.toCok hx.1 hx.2.1 hx.2.2
        · cases h
      · cases h; exact sS_pass
      · cases h
    · intro sc W X s s' C h
      cases s with
      | nil => simp only [cSs] at h; cases h; exact ss_nil
      | cons s ss =>
        simp only [cSs] at h
        split at h
        · rename_i s1 ss1 h1 h2
          cases h
          exact ss_cons (M.pS C h1) (M.pSs C h2)
        · cases h
end
end Sb

/-! defs by their contracts; the whole program -/
namespace Sb
open PySem PySem.Spec PyProof.Rows L2
/-- what was run (r') keeps what was told (r) -/
def Gc (vh : VH) (r r' : R D) : Prop := ∀ (G : GC) (μ : List Addr) (H : Hp) (Y : Str → Hp → Prop) (Q : V → Hp → Prop), Rl G μ vh H → AfR G (RelD G.K) Y μ H Q r → AfR G (RelD G.K) Y μ H Q r'
theorem Gc.refl {vh : VH} {r : R D} : Gc vh r r := fun _ _ _ _ _ _ h => h
theorem Gc.of_eq {vh : VH} {r r' : R D} (h : r' = r) : Gc vh r r' := h ▸ Gc.refl
/-! ### what has no place in it; what lies below n -/
mutual
def D.lt (n : Nat) : D → Bool
  | .ref m => decide (m < n)
  | .tup xs => D.lts n xs
  | _ => true
def D.lts (n : Nat) : List D → Bool
  | [] => true
  | d :: ds => D.lt n d && D.lts n ds
end
mutual
theorem D.lt_mono {m n : Nat} (h : m ≤ n) : ∀ d : D, D.lt m d = true → D.lt n d = true
  | .non, _ => rfl
  | .bl _, _ => rfl
  | .int _, _ => rfl
  | .str _, _ => rfl
  | .fls _, _ => rfl
  | .tup xs, e => by simp only [D.lt] at e ⊢; exact D.lts_mono h xs e
  | .ref k, e => by simp only [D.lt, decide_eq_true_eq] at e ⊢; omega
theorem D.lts_mono {m n : Nat} (h : m ≤ n) : ∀ d : List D, D.lts m d = true → D.lts n d = true
  | [], _ => rfl
  | d :: ds, e => by
    simp only [D.lts, Bool.and_eq_true] at e ⊢
    exact ⟨D.lt_mono h d e.1, D.lts_mono h ds e.2⟩
end
section
variable {K : PySem.W.Frag} {μ : List Addr} {H : Hp}
mutual
theorem RelD.cutTo {n : Nat} : ∀ {d : D} {v : V}, RelD K μ H d v → D.lt n d = true → RelD K (μ.take n) H d v
  | _, _, .non, _ => .non
  | _, _, .bl b, _ => .bl b
  | _, _, .int b, _ => .int b
  | _, _, .str b, _ => .str b
  | _, _, .fls b, _ => .fls b
  | _, _, .tup t q, h => .tup t (RelDs.cutTo q (by simpa only [D.lt] using h))
  | _, _, .ref (n := m) e, h => .ref (by
    simp only [D.lt, decide_eq_true_eq] at h
    rw [List.getElem?_take, if_pos h]; exact e)
theorem RelDs.cutTo {n : Nat} : ∀ {d : List D} {v : List V}, RelDs K μ H d v → D.lts n d = true → RelDs K (μ.take n) H d v
  | _, _, .nil, _ => .nil
  | _, _, .cons h r, e => by
    simp only [D.lts, Bool.and_eq_true] at e
    exact .cons (RelD.cutTo h e.1) (RelDs.cutTo r e.2)
end
mutual
theorem RelD.lt : ∀ {d : D} {v : V}, RelD K μ H d v → D.lt μ.length d = true
  | _, _, .non => rfl
  | _, _, .bl b => rfl
  | _, _, .int b => rfl
  | _, _, .str b => rfl
  | _, _, .fls b => rfl
  | _, _, .tup t q => by simp only [D.lt]; exact RelDs.lts q
  | _, _, .ref e => by simp only [D.lt, decide_eq_true_eq]; exact (List.getElem?_eq_some_iff.mp e).1
theorem RelDs.lts : ∀ {d : List D} {v : List V}, RelDs K μ H d v → D.lts μ.length d = true
  | _, _, .nil => rfl
  | _, _, .cons h r => by simp only [D.lts, RelD.lt h, RelDs.lts r, Bool.and_self]
end
end
def Cell.lt (n : Nat) : Cell → Bool
  | .lst xs => D.lts n xs
  | .dct kvs => kvs.all fun p => D.lt n p.1 && D.lt n p.2
  | .ins _ fs => fs.all fun p => D.lt n p.2
  | .exc _ => true
theorem paired_mem {α β : Type} {F G : α → β → Prop} : ∀ {l : List α} {m : List β}, Paired F l m → (∀ a b, a ∈ l → F a b → G a b) → Paired G l m
  | _, _, .nil, _ => .nil
  | _, _, .cons h t, f => .cons (f _ _ List.mem_cons_self h) (paired_mem t fun a b ha => f a b (List.mem_cons_of_mem _ ha))
theorem paired_all {α β : Type} {F : α → β → Prop} {P : α → Prop} : ∀ {l : List α} {m : List β}, Paired F l m → (∀ a b, F a b → P a) → ∀ a ∈ l, P a
  | _, _, .nil, _, _, ha => nomatch ha
  | _, _, .cons h t, f, a, ha => (List.mem_cons.mp ha).elim (fun e => e ▸ f _ _ h) fun ha => paired_all t f a ha
theorem CellR.cutTo {G : GC} {μ : List Addr} {H : Hp} {a : Addr} {c : Cell} {n : Nat} (r : CellR G μ H a c) (h : Cell.lt n c = true) : CellR G (μ.take n) H a c := by
  cases c with
  | lst ds => obtain ⟨xs, q, r⟩ := r; exact ⟨xs, q, r.cutTo h⟩
  | dct ds =>
    obtain ⟨xs, q, r⟩ := r
    refine ⟨xs, q, paired_mem r fun p q hp z => ?_⟩
    have := List.all_eq_true.mp h p hp
    simp only [Bool.and_eq_true] at this
    exact ⟨z.1.cutTo this.1, z.2.cutTo this.2⟩
  | ins c fs =>
    obtain ⟨ok, dx, xs, q, r⟩ := r
    exact ⟨ok, dx, xs, q, paired_mem r fun p q hp z => ⟨z.1, z.2.cutTo (List.all_eq_true.mp h p hp)⟩⟩
  | exc c => exact r
theorem CellR.lt {G : GC} {μ : List Addr} {H : Hp} {a : Addr} {c : Cell} (r : CellR G μ H a c) : Cell.lt μ.length c = true := by
  cases c with
  | lst ds => obtain ⟨xs, q, r⟩ := r; exact r.lts
  | dct ds =>
    obtain ⟨xs, q, r⟩ := r
    refine List.all_eq_true.mpr (paired_all r fun p q z => ?_)
    rw [z.1.lt, z.2.lt]; rfl
  | ins c fs =>
    obtain ⟨ok, dx, xs, q, r⟩ := r
    exact List.all_eq_true.mpr (paired_all r fun p q z => z.2.lt)
  | exc c => rfl
/-- all places named lie in the heap -/
def wfH (n : Nat) (vh : VH) : Prop := ∀ c ∈ vh, Cell.lt n c = true
theorem Rl.wf {G : GC} {μ : List Addr} {vh : VH} {H : Hp} (r : Rl G μ vh H) : wfH vh.length vh := fun c hc => by
  obtain ⟨n, hn, e⟩ := List.mem_iff_getElem.mp hc
  obtain ⟨a, _, q⟩ := r.addr (n := n) (c := c) (by rw [List.getElem?_eq_getElem hn, e])
  rw [← r.len]; exact q.lt
/-- the heap's end is forgotten -/
theorem Rl.cutTo {G : GC} {μ : List Addr} {vh junk : VH} {H : Hp} (r : Rl G μ (vh ++ junk) H) (w : wfH vh.length vh) : Rl G (μ.take vh.length) vh H := by
  refine ⟨?_, r.nd.sublist (List.take_sublist _ _), fun n a c ha hc => ?_⟩
  · rw [List.length_take, r.len, List.length_append]; omega
  · rw [List.getElem?_take] at ha
    split at ha
    · rename_i hn
      refine (r.cell n a c ha (by rw [List.getElem?_append_left hn]; exact hc)).cutTo (w c (List.mem_of_getElem? hc))
    · cases ha
/-- a value, and the heap as it was: what else was made is forgotten -/
theorem Gc.junk {vh vh' junk : VH} {d : D} (hv : vh.length = vh'.length) (w : wfH vh'.length vh') (hd : D.lt vh'.length d = true) : Gc vh (some (.ok d, vh')) (some (.ok d, vh' ++ junk)) := fun G μ H Y Q hl h μ' H' v sr rd => by
  refine h (μ'.take vh'.length) H' v ⟨?_, sr.keep, sr.rl.cutTo w⟩ (rd.cutTo hd)
  rw [← hv, ← hl.len]
  obtain ⟨t, rfl⟩ := sr.pre
  rw [List.take_left]
  exact List.prefix_refl _
/-- .. the heap not changed at all -/
theorem Gc.pure {vh junk : VH} {d : D} {r' : R D} (hd : D.lt 0 d = true) (e : r' = some (.ok d, vh ++ junk)) : Gc vh (some (.ok d, vh)) r' := fun G μ H Y Q hl h => by
  subst e
  exact Gc.junk rfl hl.wf (D.lt_mono (Nat.zero_le _) d hd) G μ H Y Q hl h
theorem Gc.ex {vh junk : VH} {c : Str} {r' : R D} (e : r' = some (.ex c, vh ++ junk)) : Gc vh (some (.ex c, vh)) r' := fun G μ H Y Q hl h => by
  subst e
  intro μ' H' sr
  refine h (μ'.take vh.length) H' ⟨?_, sr.keep, sr.rl.cutTo hl.wf⟩
  rw [← hl.len]
  obtain ⟨t, rfl⟩ := sr.pre
  rw [List.take_left]
  exact List.prefix_refl _
/-- a new list of data that names no place -/
theorem Gc.newL {vh junk : VH} {n : Nat} {ds : List D} {r' : R D} (hd : D.lts 0 ds = true) (hn : vh.length ≤ n) (e : r' = some (.ok (.ref n), vh ++ junk)) (hc : (vh ++ junk)[n]? = some (.lst ds)) : Gc vh (some (.ok (.ref vh.length), vh ++ [.lst ds])) r' := fun G μ H Y Q hl h => by
  subst e
  intro μ' H' v sr rd
  cases rd with
  | ref ha =>
    rename_i a
    have eμ : μ'.take vh.length = μ := by
      rw [← hl.len]
      obtain ⟨t, rfl⟩ := sr.pre
      exact List.take_left
    have r0 := sr.rl.cutTo hl.wf
    rw [eμ] at r0
    obtain ⟨xs, hx, rx⟩ := sr.rl.at ha hc
    have rx' : RelDs G.K [] H' ds xs := rx.cutTo hd
    have hna : a ∉ μ := fun hm => by
      obtain ⟨m, hm1, hm2⟩ := List.mem_iff_getElem.mp hm
      have h1 : μ'[m]? = some a := pre_get sr.pre (by rw [List.getElem?_eq_getElem hm1, hm2])
      have := nodup_ixA sr.rl.nd h1 ha
      rw [hl.len] at hm1
      omega
    refine h (μ ++ [a]) H' _ ⟨List.prefix_append _ _, sr.keep, ?_⟩ (.ref (by rw [← hl.len]; simp))
    refine ⟨by simp [hl.len], ?_, fun m b c hb hc' => ?_⟩
    · rw [List.nodup_append]
      exact ⟨hl.nd, by simp, fun x hx y hy => by rw [List.mem_singleton.mp hy]; exact fun z => hna (z ▸ hx)⟩
    · by_cases hm : m < μ.length
      · rw [List.getElem?_append_left hm] at hb
        rw [List.getElem?_append_left (by rw [← hl.len]; exact hm)] at hc'
        exact (r0.cell m b c hb hc').mono (List.prefix_append _ _) (Keep.refl _) rfl
      · have e1 : m = μ.length := by
          have := (List.getElem?_eq_some_iff.mp hb).1
          rw [List.length_append, List.length_singleton] at this
          omega
        subst e1
        rw [List.getElem?_append_right (Nat.le_refl _)] at hb
        rw [List.getElem?_append_right (Nat.le_of_eq hl.len.symm)] at hc'
        simp [hl.len] at hb hc'
        subst hb hc'
        exact ⟨xs, hx, rx'.mono (List.nil_prefix) (Keep.refl _)⟩
/-! ### a def -/
theorem start_fr {K : PySem.W.Frag} {μ : List Addr} {H : Hp} {N : List Str} {ds : List D} {vs : List V} (r : RelDs K μ H ds vs) : FrR K μ H (ds.map some ++ List.replicate (N.length - ds.length) none) (L2.start N vs) := by
  unfold L2.start
  refine ⟨by simp [r.length], fun i d h => ?_⟩
  by_cases hi : i < ds.length
  · rw [List.getElem?_append_left (by simpa using hi), List.getElem?_map] at h
    cases hd : ds[i]? with
    | none => rw [hd] at h; cases h
    | some d' =>
      rw [hd] at h
      cases h
      obtain ⟨v, e, q⟩ := r.get hd
      refine ⟨v, ?_, q⟩
      rw [List.getElem?_append_left (by rw [List.length_map, ← r.length]; exact hi), List.getElem?_map, e]
      rfl
  · rw [List.getElem?_append_right (by simpa using hi), List.getElem?_replicate] at h
    split at h <;> cases h
theorem loc_of {sc : Scope} {y : Str} (hy : storable sc y = true) : Loc sc y := by
  unfold storable at hy
  split at hy
  · rename_i q; exact .inl q
  · rename_i q; exact .inr q
  · cases hy
structure Ctr (Γ : Env) (n p : Nat) (b : List S) (m : Ct) : Prop where
  ar : ∀ ds vh, m ds vh ≠ none → ds.length = p
  ok : ∀ ds vh, m ds vh ≠ none → Gc vh (m ds vh) (body Γ n b ds vh)
theorem fn_ok {G : GC} {tb : Tab} {k n : Nat} {N ps : List Str} {x qual : Str} {params : Arguments} {bd : List Stmt} {scope : Scope} {f : Addr} {fd : FuncData} {dvs : List V} {kws : List (Str × V)} {b : List S} {m : Ct} (O : GokS G tb k)
    (F : FunD G.K x qual params bd scope dvs kws f fd) (S : FnScope N ps scope) (hc : cSs tb N n scope bd = some b) (hm : Ctr G.Γ N.length ps.length b m) : FnOk G.P G.w G.K G.mg G.base (L2.CX G.P G.w) (k + 1) f fd ps (spOf G m ps.length) := by
  refine F.ok S (fun vs H Q E h => h.1) fun cdv A outer s H vs Q E hr h => ?_
  obtain ⟨_, μ, vh, ds, hl, rd, h⟩ := h
  have C : CokS G tb k N scope (fun cls d _ H => E cls d H) (cxOf (L2.CX G.P G.w) G.P G.w G.K G.mg G.base N qual scope f cdv A outer s H E) :=
    { P := rfl, w := rfl, K := rfl, mg := rfl, base := rfl, hN := rfl, nd := S.nd, sc := rfl, calm := rfl, room := hr, tk := takes_of rfl rfl rfl rfl,
      st := fun y hy => ⟨loc_of hy, .inl rfl⟩, ps := passes_of rfl, kd := S.kind }
  refine ⟨_, (mainS O n).pSs C hc, μ, vh, _, hl, start_fr rd, ?_⟩
  have hne : m ds vh ≠ none := fun z => by rw [z] at h; exact h
  have h2 := hm.ok ds vh hne G μ H _ Q hl h
  unfold body at h2
  refine ((h2.bind (rel := relOut G)).imp fun p H1 ⟨o, vh1, μ1, _, sr, ro, h1⟩ => ?_).ximp fun c H q σ => q
  cases o with
  | nxt fr =>
    cases p with
    | inr v => exact ro.elim
    | inl σ => exact h1 μ1 H1 .non (Sr.refl sr.rl) .non
  | ret d =>
    cases p with
    | inl σ => exact ro.elim
    | inr v => exact h1 μ1 H1 v (Sr.refl sr.rl) ro
/-- one def more -/
theorem GokS.step {G : GC} {tb : Tab} {k n : Nat} {N ps : List Str} {x qual : Str} {params : Arguments} {bd : List Stmt} {scope : Scope} {f : Addr} {fd : FuncData} {dvs : List V} {kws : List (Str × V)} {b : List S} {m : Ct} (O : GokS G tb k)
    (F : FunD G.K x qual params bd scope dvs kws f fd) (S : FnScope N ps scope) (hc : cSs tb N n scope bd = some b) (hm : Ctr G.Γ N.length ps.length b m) (hΓ : G.Γ.fn x = some m) (hg : G.mg x = some (.ref f)) (hb : Binds G.K fd ps []) : GokS G { tb with fns := x :: tb.fns } (k + 1) where
  fn := fun y hy => by
    by_cases e : y = x
    · subst e
      exact ⟨m, f, fd, ps, hΓ, hm.ar, fn_ok O F S hc hm, hg, F.kp, hb⟩
    · obtain ⟨m', f', fd', ps', h1, h2, h3, h4⟩ := O.fn y (by
        simp only [List.contains_cons, Bool.or_eq_true, beq_iff_eq] at hy
        exact hy.resolve_left e)
      exact ⟨m', f', fd', ps', h1, h2, h3.mono (Nat.le_succ k), h4⟩
  cst := O.cst
  blt := O.blt
  exc := O.exc
end Sb

/-! the head: facts by names, tables too; the law's end -/
namespace Sb
open PySem PySem.Spec PyProof.Rows L2
abbrev AlX : Type := Bool × He.AlD
def obsX (fa : List He.Fa) (fn : List He.DefD) (ts : List (Str × List Str)) (K : PySem.W.Frag) : AlX := (ts.all fun t => He.tupB K t.1 (t.2.map .str), He.obsD fa fn K)
def valX (fn : List He.DefD) : AlX := (true, He.valD fn)
def SaysX (fa : List He.Fa) (fn : List He.DefD) (ts : List (Str × List Str)) (K : PySem.W.Frag) : Prop := obsX fa fn ts K = valX fn
def obsXG (n : Nat) (fa : List He.Fa) (fn : List He.DefD) (ts : List (Str × List Str)) (g : Addr → Option Obj) : AlX := obsX fa fn ts (He.frG g (He.asD g n))
def hookX (n : Nat) (fa : List He.Fa) (fn : List He.DefD) (ts : List (Str × List Str)) : PySem.W.Hook where
  α := AlX
  obs := fun s => obsXG n fa fn ts s.heap.get?
  val := fun _ => valX fn
  says := fun _ h => ∃ K : PySem.W.Frag, K.In h ∧ SaysX fa fn ts K
  of := fun _ _ e => ⟨_, He.frG_in, e⟩
  keeps := fun _ _ _ ⟨K, hK, c⟩ k => ⟨K, PySem.W.Frag.In.keeps hK k, c⟩
theorem obsXG_eq {n : Nat} {fa : List He.Fa} {fn : List He.DefD} {ts : List (Str × List Str)} {g : Addr → Option Obj} {s : Shared} (h : ∀ a, g a = s.heap.get? a) : obsXG n fa fn ts g = (hookX n fa fn ts).obs s := by
  have e : g = s.heap.get? := funext h
  rw [e] <;> rfl
section
variable {fa : List He.Fa} {fn : List He.DefD} {ts : List (Str × List Str)} {K : PySem.W.Frag}
theorem SaysX.d (c : SaysX fa fn ts K) : He.SaysD fa fn K := congrArg (fun z : AlX => z.2) c
theorem SaysX.tab (c : SaysX fa fn ts K) (i : Nat) {t : Str × List Str} (h : ts[i]? = some t := by rfl) : He.tupB K t.1 (t.2.map .str) = true := by
  have c1 : (ts.all fun t => He.tupB K t.1 (t.2.map .str)) = true := congrArg (fun z : AlX => z.1) c
  exact List.all_eq_true.mp c1 t (List.mem_of_getElem? h)
end
theorem walk_ofX {l : PySem.W.OpenLaw} {n k : Nat} {q : Program} {loose : List Str} {XP : (Str → Option Value) → Heap → Prop} {YP : World → Heap → Prop} {d : DefRec} {x : Str}
    (hn : l.most = some n) (hn2 : n ≤ sizeLine) (hdf : d.params.defaults = []) (hr : Room k callerA)
    (F : ∀ (w : World) (mg : Str → Option Value) (fa : Addr) (h : Heap), YP w h → h.Ns mainGlobals mg → mg d.name = some (.ref fa) →
      ∃ (K : PySem.W.Frag) (fd : FuncData) (sp : Sp), K.In h ∧ (∀ (s : Shared) (u : Value), BindsTo s fd ⟨[u], []⟩ [(x, u)]) ∧
        (∀ (H : Hp) (a : Addr) (ns : List Int), ns.length ≤ n → Only H → SqL K H a (ns.map V.int) → sp [.ref a] H (fun v _ => v = .bl true) fun _ _ _ => False) ∧
        ∀ base : Heap, K.In base → base.Ns mainGlobals mg → FnOk l.prog w K mg base (L2.CX l.prog w) k fa fd [x] sp) :
    PySem.W.WalkO q loose XP YP l.row.toRowW d [] (fun f vs => PySem.call f vs) := by
  refine Att.attach_call hn hdf fun w s₀ s₁ mg mb fa o pm cd doc a vs ns G Y ho hd hcd hmg hobj hints hlen hg => ?_
  obtain ⟨K, fd, sp, KX, hb, hsp, hF⟩ := F w mg fa _ Y G.T.g hmg
  exact law_call KX G.T.g G.T.b G.T.builtins G.T.nolimit hg hobj hints (Nat.le_trans hlen hn2) hr hF hb (fun H hO hS => hsp H a ns hlen hO hS) fun H e s' ⟨_, _, _, _, _, _, _, _, _, _, _, _, z⟩ => z
/-- the law's promise -/
def spLaw (K : PySem.W.Frag) : Sp := fun vs H Q _ => ∃ (a : Addr) (ns : List Int), vs = [.ref a] ∧ ns.length ≤ 63 ∧ SqF K H a (ns.map V.int) ∧ ∀ H', Q (.bl true) H'
theorem spLaw_of {G : GC} {m : Ct} (h : ∀ ns : List Int, ns.length ≤ 63 → ∃ vh', m [.fls ns] [] = some (.ok (.bl true), vh')) : ∀ vs H Q E, spLaw G.K vs H Q E → spOf G m 1 vs H Q E := fun vs H Q E ⟨a, ns, e, hl, hS, hQ⟩ => by
  subst e
  obtain ⟨vh', e⟩ := h ns hl
  refine ⟨rfl, [], [], [.fls ns], ⟨rfl, .nil, fun n a c ha => by simp at ha⟩, .cons (.fls hS) .nil, ?_⟩
  rw [e]
  intro μ H1 b _ r
  cases r
  exact hQ H1
theorem sqf_of {K : PySem.W.Frag} {H : Hp} {a : Addr} {xs : List V} (hO : Only H) (h : SqL K H a xs) : SqF K H a xs := by
  rcases h with (h | ⟨o, h⟩) | h
  · rcases hO a with q | ⟨o, ys, q⟩ <;> (rw [q] at h; cases h)
  · exact .inl ⟨o, h⟩
  · exact .inr h
/-! ### names in lists -/
theorem al0 {P : Str → Prop} : ∀ x, ([] : List Str).contains x = true → P x := fun x h => by simp at h
theorem al1 {P : Str → Prop} {a : Str} {l : List Str} (h : P a) (t : ∀ x, l.contains x = true → P x) : ∀ x, (a :: l).contains x = true → P x := fun x hx => by
  simp only [List.contains_cons, Bool.or_eq_true, beq_iff_eq] at hx
  rcases hx with rfl | hx
  · exact h
  · exact t x hx
def look {α : Type} : List (Str × α) → Str → Option α
  | [], _ => none
  | (y, a) :: r, x => if x = y then some a else look r x
theorem cst_tup {G : GC} {x : Str} {ws : List Str} (h : He.tupB G.K x (ws.map .str) = true) (hm : G.mg x = some (.ref (He.ga G.K x))) (hc : G.Γ.cst x = some (.tup (ws.map .str))) : ∃ (d : D) (v : V) (u : Value), G.Γ.cst x = some d ∧ G.mg x = some u ∧ RelV v u ∧ ∀ μ H, RelD G.K μ H d v := by
  refine ⟨_, .ref (He.ga G.K x), _, hc, hm, rfl, fun μ H => ?_⟩
  have q := He.tupB_ok h H
  refine .tup q ?_
  clear q h hc
  induction ws with
  | nil => exact .nil
  | cons a ws ih => exact .cons (.str a) ih
theorem cst_int {G : GC} {x : Str} {i : Int} {t : _} (hm : G.mg x = some (.int i t)) (hc : G.Γ.cst x = some (.int i)) : ∃ (d : D) (v : V) (u : Value), G.Γ.cst x = some d ∧ G.mg x = some u ∧ RelV v u ∧ ∀ μ H, RelD G.K μ H d v :=
  ⟨_, .int i, _, hc, hm, ⟨t, rfl⟩, fun μ H => .int i⟩
end Sb

/-! the program's mirror: ways, keys, states, steps -/
namespace Sb
open PySem
inductive Kd where | line | ring | deed | swap
  deriving DecidableEq
inductive Hm where | deed | bare | clear
  deriving DecidableEq
inductive Ky where | next | back | again | keep | home | pause
  deriving DecidableEq
def Kd.str : Kd → Str
  | .line => "line" | .ring => "ring" | .deed => "deed" | .swap => "swap"
def Hm.str : Hm → Str
  | .deed => "deed" | .bare => "bare" | .clear => "clear"
def Ky.str : Ky → Str
  | .next => "next" | .back => "back" | .again => "again" | .keep => "keep" | .home => "home" | .pause => "pause"
inductive K3 where | line | ring | deed
  deriving DecidableEq
def K3.kd : K3 → Kd
  | .line => .line | .ring => .ring | .deed => .deed
inductive Way where
  | three (k : K3) (two tog : Bool) (h : Hm)
  | swap (h : Hm)
  deriving DecidableEq
def Way.kd : Way → Kd
  | .three k _ _ _ => k.kd
  | .swap _ => .swap
def Way.hm : Way → Hm
  | .three _ _ _ h => h
  | .swap h => h
def Way.rm : Way → Int
  | .three _ two _ _ => if two then 2 else 1
  | .swap _ => 1
def Way.tg : Way → Int
  | .three _ _ tog _ => if tog then 1 else 0
  | .swap _ => 0
def encW : Way → D
  | .three k two tog h => .tup [.str k.kd.str, .int (if two then 2 else 1), .int (if tog then 1 else 0), .str h.str]
  | .swap h => .tup [.str Kd.swap.str, .str h.str]
structure Sta where
  v : Int
  m : Int
  f : List Int
  s : List Int
  g : Int
  deriving DecidableEq
def iv (l : List Int) : D := .tup (l.map .int)
def encS (x : Sta) : D := .tup [.int x.v, .int x.m, iv x.f, iv x.s, .int x.g]
def sta0 : Sta := ⟨0, 0, [], [], 0⟩
/-! ### values -/
theorem intOf_i (i : Int) : intOf (.int i) = some i := rfl
theorem slc_tup (xs : List D) (lo hi : Option Int) (h : VH) : slcF (.tup xs) lo hi h = some (.ok (.tup (cut xs lo hi)), h) := rfl
theorem cmp_eq (a b : D) (h : VH) : cmpF .eq a b h = eqF h a b := rfl
theorem cmp_ne (a b : D) (h : VH) : cmpF .ne a b h = (eqF h a b).map (!·) := rfl
theorem cmp_in (a b : D) (h : VH) : cmpF .isin a b h = inF a b h := rfl
theorem cmp_nin (a b : D) (h : VH) : cmpF .notin a b h = (inF a b h).map (!·) := rfl
theorem cmp_is (a b : D) (h : VH) : cmpF .is a b h = isF a b := rfl
theorem cmp_isn (a b : D) (h : VH) : cmpF .isnot a b h = (isF a b).map (!·) := rfl
theorem cmp_le (i j : Int) (h : VH) : cmpF .le (.int i) (.int j) h = some (decide (i ≤ j)) := rfl
theorem cmp_lt (i j : Int) (h : VH) : cmpF .lt (.int i) (.int j) h = some (decide (i < j)) := rfl
theorem cmp_gt (i j : Int) (h : VH) : cmpF .gt (.int i) (.int j) h = some (decide (j < i)) := rfl
theorem cmp_ge (i j : Int) (h : VH) : cmpF .ge (.int i) (.int j) h = some (decide (j ≤ i)) := rfl
theorem bin_add (i j : Int) (h : VH) : binF .add (.int i) (.int j) h = some (.ok (.int (i + j)), h) := rfl
theorem bin_sub (i j : Int) (h : VH) : binF .sub (.int i) (.int j) h = some (.ok (.int (i - j)), h) := rfl
theorem bin_addt (xs ys : List D) (h : VH) : binF .add (.tup xs) (.tup ys) h = if xs.length + ys.length ≤ lim then some (.ok (.tup (xs ++ ys)), h) else none := rfl
theorem bin_mod (i j : Int) (h : VH) : binF .mod (.int i) (.int j) h = if 0 < j then some (.ok (.int (i % j)), h) else none := rfl
theorem bin_fdiv (i j : Int) (h : VH) : binF .fdiv (.int i) (.int j) h = if 0 < j ∧ j < 1073741824 then some (.ok (.int (i / j)), h) else none := rfl
theorem tru_bl (b : Bool) : truF (.bl b) = some b := rfl
theorem eqF_nn (h : VH) : eqF h (.tup []) (.tup []) = some true := rfl
theorem atI_0 {α : Type} (a : α) (l : List α) : atI (a :: l) 0 = some a := by simp [atI, ixN]
theorem atI_1 {α : Type} (a b : α) (l : List α) : atI (a :: b :: l) 1 = some b := by
  unfold atI ixN
  rw [if_pos (by decide), if_pos (by simp only [List.length_cons]; omega)]
  rfl
theorem atI_2 {α : Type} (a b c : α) (l : List α) : atI (a :: b :: c :: l) 2 = some c := by
  unfold atI ixN
  rw [if_pos (by decide), if_pos (by simp only [List.length_cons]; omega)]
  rfl
theorem atI_3 {α : Type} (a b c d : α) (l : List α) : atI (a :: b :: c :: d :: l) 3 = some d := by
  unfold atI ixN
  rw [if_pos (by decide), if_pos (by simp only [List.length_cons]; omega)]
  rfl
theorem atI_4 {α : Type} (a b c d e : α) (l : List α) : atI (a :: b :: c :: d :: e :: l) 4 = some e := by
  unfold atI ixN
  rw [if_pos (by decide), if_pos (by simp only [List.length_cons]; omega)]
  rfl
theorem atI_m1 {α : Type} (l : List α) : atI l (-1) = l.getLast? := by
  unfold atI ixN
  rw [if_neg (by decide)]
  cases l with
  | nil => simp
  | cons a l =>
    rw [if_pos (by simp only [List.length_cons]; omega), List.getLast?_eq_getElem?]
    simp only [Option.bind_some, List.length_cons]
    congr 1
    omega
theorem idx_tup (xs : List D) (k : Int) (h : VH) : idxF (.tup xs) (.int k) h = atI xs k := rfl
theorem eqF_int (h : VH) (a b : Int) : eqF h (.int a) (.int b) = some (decide (a = b)) := by
  show some (PyData.eqv (.int a) (.int b)) = _
  simp only [PyData.eqv]
  rw [Bool.beq_eq_decide_eq]
theorem kd_eq (h : VH) (k : Kd) : eqF h (.str k.str) (.str "line") = some (decide (k = .line)) ∧ eqF h (.str k.str) (.str "ring") = some (decide (k = .ring)) ∧ eqF h (.str k.str) (.str "deed") = some (decide (k = .deed)) ∧ eqF h (.str k.str) (.str "swap") = some (decide (k = .swap)) := by
  cases k <;> (refine ⟨?_, ?_, ?_, ?_⟩ <;> kernel_rfl)
theorem hm_eq (h : VH) (k : Hm) : eqF h (.str k.str) (.str "deed") = some (decide (k = .deed)) ∧ eqF h (.str k.str) (.str "bare") = some (decide (k = .bare)) ∧ eqF h (.str k.str) (.str "clear") = some (decide (k = .clear)) := by
  cases k <;> (refine ⟨?_, ?_, ?_⟩ <;> kernel_rfl)
theorem ky_eq (h : VH) (k : Ky) : eqF h (.str k.str) (.str "next") = some (decide (k = .next)) ∧ eqF h (.str k.str) (.str "back") = some (decide (k = .back)) ∧ eqF h (.str k.str) (.str "again") = some (decide (k = .again)) ∧ eqF h (.str k.str) (.str "keep") = some (decide (k = .keep)) ∧ eqF h (.str k.str) (.str "home") = some (decide (k = .home)) ∧ eqF h (.str k.str) (.str "pause") = some (decide (k = .pause)) := by
  cases k <;> (refine ⟨?_, ?_, ?_, ?_, ?_, ?_⟩ <;> kernel_rfl)
theorem kd_lr (h : VH) (k : Kd) : inF (.str k.str) (.tup [.str "line", .str "ring"]) h = some (decide (k = .line ∨ k = .ring)) := by cases k <;> kernel_rfl
theorem rfy_int (h : VH) (n : Nat) (i : Int) : rfy h (n + 1) (.int i) = some (.int i) := rfl
theorem rfy_tup (h : VH) (n : Nat) (l : List D) : rfy h (n + 1) (.tup l) = (rfys h n l).map .tuple := rfl
theorem rfy_bl (h : VH) (n : Nat) (b : Bool) : rfy h (n + 1) (.bl b) = some (.bool b) := rfl
theorem rfy_non (h : VH) (n : Nat) : rfy h (n + 1) .non = some .none := rfl
theorem rfy_ref (h : VH) (n m : Nat) (l : List D) (e : lstAt h m = some l) : rfy h (n + 1) (.ref m) = (rfys h n l).map .list := by
  have : rfy h (n + 1) (.ref m) = (match lstAt h m with | some xs => (travO (rfy h n) xs).map PyData.list | none => none) := rfl
  rw [this, e]
theorem rfys_nil (h : VH) (n : Nat) : rfys h n [] = some [] := rfl
theorem rfys_cons (h : VH) (n : Nat) (d : D) (l : List D) (p : PyData) (ps : List PyData) (h1 : rfy h n d = some p) (h2 : rfys h n l = some ps) : rfys h n (d :: l) = some (p :: ps) := by
  have h2' : travO (rfy h n) l = some ps := h2
  unfold rfys travO
  rw [h1, h2']
theorem rfys_ints (h : VH) (n : Nat) : ∀ l : List Int, rfys h (n + 1) (l.map .int) = some (l.map .int)
  | [] => rfl
  | a :: l => rfys_cons h (n + 1) _ _ _ _ rfl (rfys_ints h n l)
theorem eqvAll_ints : ∀ a b : List Int, PyData.eqvAll (a.map .int) (b.map .int) = decide (a = b)
  | [], [] => rfl
  | [], _ :: _ => rfl
  | _ :: _, [] => rfl
  | x :: a, y :: b => by
    simp only [List.map_cons, PyData.eqvAll, PyData.eqv, eqvAll_ints a b]
    by_cases h1 : x = y <;> by_cases h2 : a = b <;> simp [h1, h2]
theorem eqF_iv (h : VH) (a b : List Int) : eqF h (iv a) (iv b) = some (decide (a = b)) := by
  have e : ∀ l : List Int, rfy h 12 (iv l) = some (.tuple (l.map .int)) := fun l => by
    rw [iv, rfy_tup, rfys_ints]; rfl
  simp only [eqF, e, PyData.eqv, eqvAll_ints]
theorem eqF_iv0 (h : VH) (a : List Int) : eqF h (iv a) (.tup []) = some (decide (a = [])) := eqF_iv h a []
theorem cut_map {α β : Type} (f : α → β) (l : List α) (lo hi : Option Int) : cut (l.map f) lo hi = (cut l lo hi).map f := by
  simp only [cut, List.length_map, List.map_take, List.map_drop]
/-! ### a contract by its arguments -/
open Classical in
noncomputable def mk {α : Type} (enc : α → List D) (P : α → VH → Prop) (f : α → VH → R D) : Ct := fun ds vh => if h : ∃ a, enc a = ds ∧ P a vh then f h.choose vh else none
theorem mk_at {α : Type} {enc : α → List D} {P : α → VH → Prop} {f : α → VH → R D} (inj : ∀ a b, enc a = enc b → a = b) {a : α} {vh : VH} (p : P a vh) : mk enc P f (enc a) vh = f a vh := by
  have h : ∃ b, enc b = enc a ∧ P b vh := ⟨a, rfl, p⟩
  unfold mk
  rw [dif_pos h, inj _ _ h.choose_spec.1]
theorem mk_ct {α : Type} {enc : α → List D} {P : α → VH → Prop} {f : α → VH → R D} {Γ : Env} {n p : Nat} {b : List S} (len : ∀ a, (enc a).length = p) (ok : ∀ a vh, P a vh → Gc vh (f a vh) (body Γ n b (enc a) vh)) : Ctr Γ n p b (mk enc P f) where
  ar := fun ds vh h => by
    unfold mk at h
    split at h
    · rename_i q
      rw [← q.choose_spec.1]
      exact len _
    · exact absurd rfl h
  ok := fun ds vh h => by
    unfold mk at h ⊢
    split at h
    · rename_i q
      rw [dif_pos q]
      have := ok _ _ q.choose_spec.2
      rw [q.choose_spec.1] at this
      exact this
    · exact absurd rfl h
/-- .. of a value alone -/
noncomputable abbrev mkV {α : Type} (enc : α → List D) (f : α → D) : Ct := mk enc (fun _ _ => True) (fun a vh => some (.ok (f a), vh))
theorem mkV_at {α : Type} {enc : α → List D} {f : α → D} (inj : ∀ a b, enc a = enc b → a = b) (a : α) (vh : VH) : mkV enc f (enc a) vh = some (.ok (f a), vh) := mk_at inj trivial
theorem mkV_ct {α : Type} {enc : α → List D} {f : α → D} {Γ : Env} {n p : Nat} {b : List S} (len : ∀ a, (enc a).length = p) (ok : ∀ a vh, body Γ n b (enc a) vh = some (.ok (f a), vh)) : Ctr Γ n p b (mkV enc f) := mk_ct len fun a vh _ => Gc.of_eq (ok a vh)
/-! ### injective -/
theorem Kd.inj : ∀ a b : Kd, a.str = b.str → a = b := by intro a b; cases a <;> cases b <;> first | (intro _; rfl) | (intro h; exact absurd h (by decide +kernel))
theorem Hm.inj : ∀ a b : Hm, a.str = b.str → a = b := by intro a b; cases a <;> cases b <;> first | (intro _; rfl) | (intro h; exact absurd h (by decide +kernel))
theorem Ky.inj : ∀ a b : Ky, a.str = b.str → a = b := by intro a b; cases a <;> cases b <;> first | (intro _; rfl) | (intro h; exact absurd h (by decide +kernel))
theorem encW_inj : ∀ a b : Way, encW a = encW b → a = b := by
  intro a b h
  cases a with
  | three k t g m =>
    cases b with
    | three k' t' g' m' =>
      simp only [encW, D.tup.injEq, List.cons.injEq, D.str.injEq, D.int.injEq, and_true] at h
      obtain ⟨h1, h2, h3, h4⟩ := h
      have e1 := Kd.inj _ _ h1
      have e4 := Hm.inj _ _ h4
      have e2 : t = t' := by revert h2; cases t <;> cases t' <;> simp
      have e3 : g = g' := by revert h3; cases g <;> cases g' <;> simp
      have e0 : k = k' := by revert e1; cases k <;> cases k' <;> simp [K3.kd]
      subst e0 e2 e3 e4
      rfl
    | swap m' => simp [encW] at h
  | swap m =>
    cases b with
    | three k' t' g' m' => simp [encW] at h
    | swap m' =>
      simp only [encW, D.tup.injEq, List.cons.injEq, D.str.injEq, and_true, true_and] at h
      rw [Hm.inj _ _ h]
theorem iv_inj : ∀ a b : List Int, iv a = iv b → a = b
  | [], [], _ => rfl
  | [], _ :: _, h => by simp [iv] at h
  | _ :: _, [], h => by simp [iv] at h
  | x :: a, y :: b, h => by
    simp only [iv, List.map_cons, D.tup.injEq, List.cons.injEq, D.int.injEq] at h
    rw [h.1, iv_inj a b (by rw [iv, iv, h.2])]
theorem encS_inj : ∀ a b : Sta, encS a = encS b → a = b := by
  intro a b h
  simp only [encS, D.tup.injEq, List.cons.injEq, D.int.injEq, and_true] at h
  obtain ⟨h1, h2, h3, h4, h5⟩ := h
  cases a; cases b
  simp only at h1 h2 h3 h4 h5
  rw [h1, h2, iv_inj _ _ h3, iv_inj _ _ h4, h5]
/-! ### ways by place -/
theorem way_0 (w : Way) (h : VH) : idxF (encW w) (.int 0) h = some (.str w.kd.str) := by
  cases w <;> exact atI_0 _ _
theorem way_m1 (w : Way) (h : VH) : idxF (encW w) (.int (-1)) h = some (.str w.hm.str) := by
  cases w <;> exact atI_m1 _
theorem way_1 (w : Way) (h : VH) (q : w.kd ≠ .swap) : idxF (encW w) (.int 1) h = some (.int w.rm) := by
  cases w with
  | three => exact atI_1 _ _ _
  | swap => exact absurd rfl q
theorem way_2 (w : Way) (h : VH) (q : w.kd ≠ .swap) : idxF (encW w) (.int 2) h = some (.int w.tg) := by
  cases w with
  | three => exact atI_2 _ _ _ _
  | swap => exact absurd rfl q
theorem kd_0 (h : VH) (k : Kd) : eqF h (.str k.str) (.str "line") = some (decide (k = .line)) := (kd_eq h k).1
theorem kd_1 (h : VH) (k : Kd) : eqF h (.str k.str) (.str "ring") = some (decide (k = .ring)) := (kd_eq h k).2.1
theorem kd_2 (h : VH) (k : Kd) : eqF h (.str k.str) (.str "deed") = some (decide (k = .deed)) := (kd_eq h k).2.2.1
theorem kd_3 (h : VH) (k : Kd) : eqF h (.str k.str) (.str "swap") = some (decide (k = .swap)) := (kd_eq h k).2.2.2
theorem hm_0 (h : VH) (k : Hm) : eqF h (.str k.str) (.str "deed") = some (decide (k = .deed)) := (hm_eq h k).1
theorem hm_1 (h : VH) (k : Hm) : eqF h (.str k.str) (.str "bare") = some (decide (k = .bare)) := (hm_eq h k).2.1
theorem hm_2 (h : VH) (k : Hm) : eqF h (.str k.str) (.str "clear") = some (decide (k = .clear)) := (hm_eq h k).2.2
theorem ky_0 (h : VH) (k : Ky) : eqF h (.str k.str) (.str "next") = some (decide (k = .next)) := (ky_eq h k).1
theorem ky_1 (h : VH) (k : Ky) : eqF h (.str k.str) (.str "back") = some (decide (k = .back)) := (ky_eq h k).2.1
theorem ky_2 (h : VH) (k : Ky) : eqF h (.str k.str) (.str "again") = some (decide (k = .again)) := (ky_eq h k).2.2.1
theorem ky_3 (h : VH) (k : Ky) : eqF h (.str k.str) (.str "keep") = some (decide (k = .keep)) := (ky_eq h k).2.2.2.1
theorem ky_4 (h : VH) (k : Ky) : eqF h (.str k.str) (.str "home") = some (decide (k = .home)) := (ky_eq h k).2.2.2.2.1
theorem brB_d {α : Type} (p : Prop) [Decidable p] (f g : R α) : brB (some (decide p)) f g = if p then f else g := by
  by_cases h : p <;> simp [h, brB]
theorem brB_n {α : Type} (p : Prop) [Decidable p] (f g : R α) : brB (some (!decide p)) f g = if p then g else f := by
  by_cases h : p <;> simp [h, brB]
/-! ### pushed, room_of, first_state -/
def push (l : List Int) (x : Int) (r : Int) : List Int := cut (l ++ [x]) (some (-r)) none
def b_pushed : List S := [.ret (.slc (.bin .add (.var 0) (.tup [.var 1])) (some (.neg (.var 2))) none)]
def b_room_of : List S := [.ret (.ite (.cmp .eq (.idx (.var 0) (.cst (.int 0))) (.cst (.str "swap"))) (.cst (.int 1)) (.idx (.var 0) (.cst (.int 1))))]
def b_first_state : List S := [.ret (.tup [.cst (.int 0), .cst (.int 0), .tup [], .tup [], .cst (.int 0)])]
noncomputable def m_pushed : Ct := mk (fun a : List Int × Int × Int => [iv a.1, .int a.2.1, .int a.2.2]) (fun a _ => a.1.length < 1000) (fun a vh => some (.ok (iv (push a.1 a.2.1 a.2.2)), vh))
theorem pushed_at (l : List Int) (x r : Int) (vh : VH) (h : l.length < 1000) : m_pushed [iv l, .int x, .int r] vh = some (.ok (iv (push l x r)), vh) := mk_at (a := (l, x, r)) (fun a b h => by
  simp only [List.cons.injEq, D.int.injEq, and_true] at h
  exact Prod.ext (iv_inj _ _ h.1) (Prod.ext h.2.1 h.2.2)) h
theorem pushed_ct (Γ : Env) : Ctr Γ 3 3 b_pushed m_pushed := mk_ct (fun _ => rfl) fun ⟨l, x, r⟩ vh h => Gc.of_eq (by
  have h1 : (l.map D.int).length + 1 ≤ lim := by rw [List.length_map]; exact Nat.le_trans h (by decide)
  simp only [b_pushed, iv, body, runs, run.eq_1, run.eq_2, run.eq_3, run.eq_4, run.eq_5, run.eq_6, run.eq_9, run.eq_11, ev.eq_1, ev.eq_2, ev.eq_3, ev.eq_4, ev.eq_5, ev.eq_6, ev.eq_7, ev.eq_8, ev.eq_9, ev.eq_10, ev.eq_11, ev.eq_12, ev.eq_13, ev.eq_14, ev.eq_15, ev.eq_16, ev.eq_17, ev.eq_18, ev.eq_19, ev.eq_20, ev.eq_21, ev.eq_22, ev.eq_23, ev.eq_24, evs, evo, evc, asg, asgs, List.map_cons, List.map_nil, List.length_cons, List.length_nil, List.replicate, List.append_nil, List.nil_append, List.cons_append, List.getElem?_cons_zero, List.getElem?_cons_succ, List.set_cons_zero, List.set_cons_succ, R.bind_ok, R.bind_ex, if_true, if_false, intOf_i, lift_some, Option.map_some, slc_tup, cmp_eq, cmp_ne, cmp_in, cmp_nin, cmp_is, cmp_isn, cmp_le, cmp_lt, cmp_ge, cmp_gt, bin_add, bin_addt, bin_sub, bin_mod, tru_bl, brB_true, brB_false, toB_some, Nat.sub_self, Nat.zero_add, Nat.reduceAdd, Nat.reduceSub, Nat.reduceLeDiff, Nat.reduceEqDiff, h1]
  rw [push, ← cut_map, List.map_append]
  rfl)
noncomputable def m_room_of : Ct := mkV (fun w : Way => [encW w]) (fun w => .int w.rm)
theorem room_of_at (w : Way) (vh : VH) : m_room_of [encW w] vh = some (.ok (.int w.rm), vh) := by unfold m_room_of; exact mkV_at (fun a b h => encW_inj _ _ (by simpa using h)) w vh
theorem room_of_ct (Γ : Env) : Ctr Γ 1 1 b_room_of m_room_of := by
  unfold m_room_of
  refine mkV_ct (fun _ => rfl) fun w vh => ?_
  by_cases h : w.kd = .swap
  · cases w with
    | three k => cases k <;> cases h
    | swap => simp [b_room_of, body, runs, run.eq_1, run.eq_2, run.eq_3, run.eq_4, run.eq_5, run.eq_6, run.eq_9, run.eq_11, ev.eq_1, ev.eq_2, ev.eq_3, ev.eq_4, ev.eq_5, ev.eq_6, ev.eq_7, ev.eq_8, ev.eq_9, ev.eq_10, ev.eq_11, ev.eq_12, ev.eq_13, ev.eq_14, ev.eq_15, ev.eq_16, ev.eq_17, ev.eq_18, ev.eq_19, ev.eq_20, ev.eq_21, ev.eq_22, ev.eq_23, ev.eq_24, evs, evo, evc, asg, asgs, List.map_cons, List.map_nil, List.length_cons, List.length_nil, List.replicate, List.append_nil, List.nil_append, List.cons_append, List.getElem?_cons_zero, List.getElem?_cons_succ, List.set_cons_zero, List.set_cons_succ, R.bind_ok, R.bind_ex, if_true, if_false, intOf_i, lift_some, Option.map_some, slc_tup, cmp_eq, cmp_ne, cmp_in, cmp_nin, cmp_is, cmp_isn, cmp_le, cmp_lt, cmp_ge, cmp_gt, bin_add, bin_addt, bin_sub, bin_mod, tru_bl, brB_true, brB_false, toB_some, Nat.sub_self, Nat.zero_add, Nat.reduceAdd, Nat.reduceSub, Nat.reduceLeDiff, Nat.reduceEqDiff, way_0, kd_3, h]; rfl
  · simp [b_room_of, body, runs, run.eq_1, run.eq_2, run.eq_3, run.eq_4, run.eq_5, run.eq_6, run.eq_9, run.eq_11, ev.eq_1, ev.eq_2, ev.eq_3, ev.eq_4, ev.eq_5, ev.eq_6, ev.eq_7, ev.eq_8, ev.eq_9, ev.eq_10, ev.eq_11, ev.eq_12, ev.eq_13, ev.eq_14, ev.eq_15, ev.eq_16, ev.eq_17, ev.eq_18, ev.eq_19, ev.eq_20, ev.eq_21, ev.eq_22, ev.eq_23, ev.eq_24, evs, evo, evc, asg, asgs, List.map_cons, List.map_nil, List.length_cons, List.length_nil, List.replicate, List.append_nil, List.nil_append, List.cons_append, List.getElem?_cons_zero, List.getElem?_cons_succ, List.set_cons_zero, List.set_cons_succ, R.bind_ok, R.bind_ex, if_true, if_false, intOf_i, lift_some, Option.map_some, slc_tup, cmp_eq, cmp_ne, cmp_in, cmp_nin, cmp_is, cmp_isn, cmp_le, cmp_lt, cmp_ge, cmp_gt, bin_add, bin_addt, bin_sub, bin_mod, tru_bl, brB_true, brB_false, toB_some, Nat.sub_self, Nat.zero_add, Nat.reduceAdd, Nat.reduceSub, Nat.reduceLeDiff, Nat.reduceEqDiff, way_0, kd_3, h, way_1]
noncomputable def m_first_state : Ct := mkV (fun _ : Unit => []) (fun _ => encS sta0)
theorem first_state_at (vh : VH) : m_first_state [] vh = some (.ok (encS sta0), vh) := by unfold m_first_state; exact mkV_at (fun a b h => rfl) () vh
theorem first_state_ct (Γ : Env) : Ctr Γ 0 0 b_first_state m_first_state := by unfold m_first_state; exact mkV_ct (fun _ => rfl) fun w vh => rfl
end Sb

/-! a key's step -/
namespace Sb
open PySem
theorem iv_nil : iv [] = .tup [] := rfl
def lastI (l : List Int) : Int := l.getLast?.getD 0
theorem idx_last (l : List Int) (h : VH) (q : l ≠ []) : idxF (iv l) (.int (-1)) h = some (.int (lastI l)) := by
  rw [iv, idx_tup, atI_m1, List.getLast?_map, lastI]
  cases e : l.getLast? with
  | none => exact absurd (List.getLast?_eq_none_iff.mp e) q
  | some x => rfl
theorem cut_init {α : Type} (l : List α) : cut l none (some (-1)) = l.dropLast := by
  simp only [cut, sIx]
  rw [if_pos (by decide), List.drop_zero, List.dropLast_eq_take]
  congr 1
  omega
theorem slc_init (l : List Int) (h : VH) : slcF (iv l) none (some (-1)) h = some (.ok (iv l.dropLast), h) := by
  simp only [iv, slcF, cut_map, cut_init, List.map_dropLast]
def Sta.sm (s : Sta) : Prop := s.f.length < 1000 ∧ s.s.length < 1000
def stepOn (w : Way) (sz : Int) (s : Sta) : Sta := ⟨(s.v + 1) % sz, s.m, if s.g = 1 then s.f else push s.f s.v w.rm, if w.kd = .ring then s.s else [], w.tg⟩
def goHome (w : Way) (s : Sta) : Sta :=
  if w.hm = .deed then ⟨s.m, s.m, push s.f s.v w.rm, if w.kd = .ring then s.s else [], 0⟩
  else if w.hm = .clear then ⟨s.m, s.m, [], [], 0⟩
  else ⟨s.m, s.m, s.f, if w.kd = .deed then [] else s.s, 0⟩
def takenS (s : Sta) (r : Int) : Sta := if s.f = [] then ⟨s.v, s.m, s.f, s.s, 0⟩ else ⟨lastI s.f, s.m, s.f.dropLast, push s.s s.v r, 0⟩
def turnS (s : Sta) : Sta := ⟨s.v, s.m, s.s, s.f, s.g⟩
def stepBack (w : Way) (s : Sta) : Sta :=
  if w.kd = .line ∨ w.kd = .ring then takenS s w.rm
  else if w.kd = .swap then (if s.f = [] then s else ⟨s.f.headD 0, s.m, [s.v], s.s, s.g⟩)
  else
    let b := if s.g = 2 then s.s else s.f
    if b = [] then ⟨s.v, s.m, s.f, b, 2⟩ else ⟨lastI b, s.m, push s.f s.v w.rm, b.dropLast, 2⟩
def stepAgain (w : Way) (s : Sta) : Sta :=
  if w.kd = .line ∨ w.kd = .ring then turnS (takenS (turnS s) w.rm)
  else if w.kd = .swap then stepBack w s
  else ⟨s.v, s.m, s.f, [], 0⟩
def stepS (w : Way) (sz : Int) (s : Sta) (k : Ky) : Sta := match k with
  | .next => stepOn w sz s
  | .back => stepBack w s
  | .again => stepAgain w s
  | .home => goHome w s
  | .keep => ⟨s.v, s.v, s.f, if w.kd = .deed then [] else s.s, 0⟩
  | .pause => ⟨s.v, s.m, s.f, if w.kd = .deed then [] else s.s, 0⟩
def litI (l : List Int) : Int := if l = [] then 0 else 1
def scrS (w : Way) (si : Int) (s : Sta) : D :=
  if si = 0 then .int s.v
  else if w.kd = .swap then .tup [.int s.v, .int (litI s.f), .int (litI s.f)]
  else if w.kd = .deed then .tup [.int s.v, .int (litI (if s.g = 2 then s.s else s.f)), .int 0]
  else .tup [.int s.v, .int (litI s.f), .int (litI s.s)]
def b_step_on : List S := [.set (.tp [(.nm 3), (.nm 4), (.nm 5), (.nm 6), (.nm 7)]) (.var 2), .ite (.cmp .ne (.var 7) (.cst (.int 1))) [.set (.nm 5) (.cal "pushed" [.var 5, .var 3, .cal "room_of" [.var 0]])] [], .ite (.cmp .ne (.idx (.var 0) (.cst (.int 0))) (.cst (.str "ring"))) [.set (.nm 6) (.tup [])] [], .set (.nm 8) (.ite (.and (.cmp .ne (.idx (.var 0) (.cst (.int 0))) (.cst (.str "swap"))) (.cmp .eq (.idx (.var 0) (.cst (.int 2))) (.cst (.int 1)))) (.cst (.int 1)) (.cst (.int 0))), .ret (.tup [.bin .mod (.bin .add (.var 3) (.cst (.int 1))) (.var 1), .var 4, .var 5, .var 6, .var 8])]
def b_go_home : List S := [.set (.tp [(.nm 2), (.nm 3), (.nm 4), (.nm 5), (.nm 6)]) (.var 1), .ite (.cmp .eq (.idx (.var 0) (.neg (.cst (.int 1)))) (.cst (.str "deed"))) [.ret (.tup [.var 3, .var 3, .cal "pushed" [.var 4, .var 2, .cal "room_of" [.var 0]], .ite (.cmp .eq (.idx (.var 0) (.cst (.int 0))) (.cst (.str "ring"))) (.var 5) (.tup []), .cst (.int 0)])] [], .ite (.cmp .eq (.idx (.var 0) (.neg (.cst (.int 1)))) (.cst (.str "clear"))) [.ret (.tup [.var 3, .var 3, .tup [], .tup [], .cst (.int 0)])] [], .ret (.tup [.var 3, .var 3, .var 4, .ite (.cmp .eq (.idx (.var 0) (.cst (.int 0))) (.cst (.str "deed"))) (.tup []) (.var 5), .cst (.int 0)])]
def b_taken : List S := [.set (.tp [(.nm 2), (.nm 3), (.nm 4), (.nm 5), (.nm 6)]) (.var 0), .ite (.cmp .eq (.var 4) (.tup [])) [.ret (.tup [.var 2, .var 3, .var 4, .var 5, .cst (.int 0)])] [], .ret (.tup [.idx (.var 4) (.neg (.cst (.int 1))), .var 3, .slc (.var 4) none (some (.neg (.cst (.int 1)))), .cal "pushed" [.var 5, .var 2, .var 1], .cst (.int 0)])]
def b_turned : List S := [.set (.tp [(.nm 1), (.nm 2), (.nm 3), (.nm 4), (.nm 5)]) (.var 0), .ret (.tup [.var 1, .var 2, .var 4, .var 3, .var 5])]
def b_step_back : List S := [.set (.tp [(.nm 2), (.nm 3), (.nm 4), (.nm 5), (.nm 6)]) (.var 1), .ite (.cmp .isin (.idx (.var 0) (.cst (.int 0))) (.tup [.cst (.str "line"), .cst (.str "ring")])) [.ret (.cal "taken" [.var 1, .idx (.var 0) (.cst (.int 1))])] [], .ite (.cmp .eq (.idx (.var 0) (.cst (.int 0))) (.cst (.str "swap"))) [.ret (.ite (.cmp .eq (.var 4) (.tup [])) (.var 1) (.tup [.idx (.var 4) (.cst (.int 0)), .var 3, .tup [.var 2], .var 5, .var 6]))] [], .ite (.cmp .ne (.var 6) (.cst (.int 2))) [.set (.nm 5) (.var 4)] [], .ite (.cmp .eq (.var 5) (.tup [])) [.ret (.tup [.var 2, .var 3, .var 4, .var 5, .cst (.int 2)])] [], .ret (.tup [.idx (.var 5) (.neg (.cst (.int 1))), .var 3, .cal "pushed" [.var 4, .var 2, .idx (.var 0) (.cst (.int 1))], .slc (.var 5) none (some (.neg (.cst (.int 1)))), .cst (.int 2)])]
def b_step_again : List S := [.ite (.cmp .isin (.idx (.var 0) (.cst (.int 0))) (.tup [.cst (.str "line"), .cst (.str "ring")])) [.ret (.cal "turned" [.cal "taken" [.cal "turned" [.var 1], .idx (.var 0) (.cst (.int 1))]])] [], .ite (.cmp .eq (.idx (.var 0) (.cst (.int 0))) (.cst (.str "swap"))) [.ret (.cal "step_back" [.var 0, .var 1])] [], .ret (.bin .add (.slc (.var 1) none (some (.cst (.int 3)))) (.tup [.tup [], .cst (.int 0)]))]
def b_step : List S := [.ite (.cmp .eq (.var 3) (.cst (.str "next"))) [.ret (.cal "step_on" [.var 0, .var 1, .var 2])] [], .ite (.cmp .eq (.var 3) (.cst (.str "back"))) [.ret (.cal "step_back" [.var 0, .var 2])] [], .ite (.cmp .eq (.var 3) (.cst (.str "again"))) [.ret (.cal "step_again" [.var 0, .var 2])] [], .ite (.cmp .eq (.var 3) (.cst (.str "home"))) [.ret (.cal "go_home" [.var 0, .var 2])] [], .set (.tp [(.nm 4), (.nm 5), (.nm 6), (.nm 7), (.nm 8)]) (.var 2), .ite (.cmp .eq (.idx (.var 0) (.cst (.int 0))) (.cst (.str "deed"))) [.set (.nm 7) (.tup [])] [], .ret (.tup [.var 4, .ite (.cmp .eq (.var 3) (.cst (.str "keep"))) (.var 4) (.var 5), .var 6, .var 7, .cst (.int 0)])]
def b_screen_of : List S := [.set (.tp [(.nm 3), (.nm 4), (.nm 5), (.nm 6), (.nm 7)]) (.var 2), .ite (.cmp .eq (.var 1) (.cst (.int 0))) [.ret (.var 3)] [], .ite (.cmp .eq (.idx (.var 0) (.cst (.int 0))) (.cst (.str "swap"))) [.set (.nm 8) (.ite (.cmp .eq (.var 5) (.tup [])) (.cst (.int 0)) (.cst (.int 1))), .ret (.tup [.var 3, .var 8, .var 8])] [], .ite (.cmp .eq (.idx (.var 0) (.cst (.int 0))) (.cst (.str "deed"))) [.ret (.tup [.var 3, .ite (.cmp .eq (.ite (.cmp .eq (.var 7) (.cst (.int 2))) (.var 6) (.var 5)) (.tup [])) (.cst (.int 0)) (.cst (.int 1)), .cst (.int 0)])] [], .ret (.tup [.var 3, .ite (.cmp .eq (.var 5) (.tup [])) (.cst (.int 0)) (.cst (.int 1)), .ite (.cmp .eq (.var 6) (.tup [])) (.cst (.int 0)) (.cst (.int 1))])]
theorem tg_ne (w : Way) (h : w.kd = .swap) : w.tg = 0 ∧ w.rm = 1 := by
  cases w with
  | three k => cases k <;> cases h
  | swap => exact ⟨rfl, rfl⟩
theorem tg_or (w : Way) : w.tg = 0 ∨ w.tg = 1 := by
  cases w with
  | three k a b => cases b <;> simp [Way.tg]
  | swap => exact .inl rfl
noncomputable def m_step_on : Ct := mk (fun a : Way × Int × Sta => [encW a.1, .int a.2.1, encS a.2.2]) (fun a _ => 0 < a.2.1 ∧ a.2.2.sm) (fun a vh => some (.ok (encS (stepOn a.1 a.2.1 a.2.2)), vh))
theorem step_on_at (w : Way) (z : Int) (s : Sta) (vh : VH) (hz : 0 < z) (hs : s.sm) : m_step_on [encW w, .int z, encS s] vh = some (.ok (encS (stepOn w z s)), vh) := mk_at (a := (w, z, s)) (fun a b h => by
  simp only [List.cons.injEq, D.int.injEq, and_true] at h
  exact Prod.ext (encW_inj _ _ h.1) (Prod.ext h.2.1 (encS_inj _ _ h.2.2))) ⟨hz, hs⟩
theorem step_on_ct (Γ : Env) (h1 : Γ.fn "pushed" = some m_pushed) (h2 : Γ.fn "room_of" = some m_room_of) : Ctr Γ 9 3 b_step_on m_step_on := mk_ct (fun _ => rfl) fun ⟨w, z, s⟩ vh h => Gc.of_eq (by
  obtain ⟨hz, hs, _⟩ := h
  simp only at hz hs
  rcases tg_or w with hg | hg <;> by_cases e1 : s.g = 1 <;> by_cases e2 : w.kd = .ring <;> by_cases e3 : w.kd = .swap <;>
    first
    | (rw [e2] at e3; cases e3)
    | (exfalso; rw [(tg_ne w e3).1] at hg; revert hg; decide)
    | (simp [b_step_on, body, runs, run.eq_1, run.eq_2, run.eq_3, run.eq_4, run.eq_5, run.eq_6, run.eq_9, run.eq_11, ev.eq_1, ev.eq_2, ev.eq_3, ev.eq_4, ev.eq_5, ev.eq_6, ev.eq_7, ev.eq_8, ev.eq_9, ev.eq_10, ev.eq_11, ev.eq_12, ev.eq_13, ev.eq_14, ev.eq_15, ev.eq_16, ev.eq_17, ev.eq_18, ev.eq_19, ev.eq_20, ev.eq_21, ev.eq_22, ev.eq_23, ev.eq_24, evs, evo, evc, asg, asgs, List.map_cons, List.map_nil, List.length_cons, List.length_nil, List.replicate, List.append_nil, List.nil_append, List.cons_append, List.getElem?_cons_zero, List.getElem?_cons_succ, List.set_cons_zero, List.set_cons_succ, R.bind_ok, R.bind_ex, if_true, if_false, intOf_i, lift_some, Option.map_some, slc_tup, cmp_eq, cmp_ne, cmp_in, cmp_nin, cmp_is, cmp_isn, cmp_le, cmp_lt, cmp_ge, cmp_gt, bin_add, bin_addt, bin_sub, bin_mod, tru_bl, brB_true, brB_false, toB_some, Nat.sub_self, Nat.zero_add, Nat.reduceAdd, Nat.reduceSub, Nat.reduceLeDiff, Nat.reduceEqDiff, way_0, way_m1, kd_0, kd_1, kd_2, kd_3, kd_lr, hm_0, hm_1, hm_2, ky_0, ky_1, ky_2, ky_3, ky_4, eqF_int, eqF_iv0, brB_d, brB_n, encS, iv_nil, idx_tup, atI_0, atI_1, atI_2, atI_3, atI_4, h1, h2, way_2, hg, e1, e2, e3, room_of_at, pushed_at, hs, stepOn, hz]))
noncomputable def m_go_home : Ct := mk (fun a : Way × Sta => [encW a.1, encS a.2]) (fun a _ => a.2.sm) (fun a vh => some (.ok (encS (goHome a.1 a.2)), vh))
theorem go_home_at (w : Way) (s : Sta) (vh : VH) (hs : s.sm) : m_go_home [encW w, encS s] vh = some (.ok (encS (goHome w s)), vh) := mk_at (a := (w, s)) (fun a b h => by
  simp only [List.cons.injEq, and_true] at h
  exact Prod.ext (encW_inj _ _ h.1) (encS_inj _ _ h.2)) hs
theorem go_home_ct (Γ : Env) (h1 : Γ.fn "pushed" = some m_pushed) (h2 : Γ.fn "room_of" = some m_room_of) : Ctr Γ 7 2 b_go_home m_go_home := mk_ct (fun _ => rfl) fun ⟨w, s⟩ vh h => Gc.of_eq (by
  obtain ⟨hs, _⟩ := h
  simp only at hs
  cases e1 : w.hm <;> cases e2 : w.kd <;>
    simp [b_go_home, body, runs, run.eq_1, run.eq_2, run.eq_3, run.eq_4, run.eq_5, run.eq_6, run.eq_9, run.eq_11, ev.eq_1, ev.eq_2, ev.eq_3, ev.eq_4, ev.eq_5, ev.eq_6, ev.eq_7, ev.eq_8, ev.eq_9, ev.eq_10, ev.eq_11, ev.eq_12, ev.eq_13, ev.eq_14, ev.eq_15, ev.eq_16, ev.eq_17, ev.eq_18, ev.eq_19, ev.eq_20, ev.eq_21, ev.eq_22, ev.eq_23, ev.eq_24, evs, evo, evc, asg, asgs, List.map_cons, List.map_nil, List.length_cons, List.length_nil, List.replicate, List.append_nil, List.nil_append, List.cons_append, List.getElem?_cons_zero, List.getElem?_cons_succ, List.set_cons_zero, List.set_cons_succ, R.bind_ok, R.bind_ex, if_true, if_false, intOf_i, lift_some, Option.map_some, slc_tup, cmp_eq, cmp_ne, cmp_in, cmp_nin, cmp_is, cmp_isn, cmp_le, cmp_lt, cmp_ge, cmp_gt, bin_add, bin_addt, bin_sub, bin_mod, tru_bl, brB_true, brB_false, toB_some, Nat.sub_self, Nat.zero_add, Nat.reduceAdd, Nat.reduceSub, Nat.reduceLeDiff, Nat.reduceEqDiff, way_0, way_m1, kd_0, kd_1, kd_2, kd_3, kd_lr, hm_0, hm_1, hm_2, ky_0, ky_1, ky_2, ky_3, ky_4, eqF_int, eqF_iv0, brB_d, brB_n, encS, iv_nil, idx_tup, atI_0, atI_1, atI_2, atI_3, atI_4, h1, h2, e1, e2, room_of_at, pushed_at, hs, goHome])
noncomputable def m_taken : Ct := mk (fun a : Sta × Int => [encS a.1, .int a.2]) (fun a _ => a.1.sm) (fun a vh => some (.ok (encS (takenS a.1 a.2)), vh))
theorem taken_at (s : Sta) (r : Int) (vh : VH) (hs : s.sm) : m_taken [encS s, .int r] vh = some (.ok (encS (takenS s r)), vh) := mk_at (a := (s, r)) (fun a b h => by
  simp only [List.cons.injEq, D.int.injEq, and_true] at h
  exact Prod.ext (encS_inj _ _ h.1) h.2) hs
theorem taken_ct (Γ : Env) (h1 : Γ.fn "pushed" = some m_pushed) : Ctr Γ 7 2 b_taken m_taken := mk_ct (fun _ => rfl) fun ⟨s, r⟩ vh h => Gc.of_eq (by
  obtain ⟨_, hs⟩ := h
  simp only at hs
  by_cases e1 : s.f = [] <;>
    simp [b_taken, body, runs, run.eq_1, run.eq_2, run.eq_3, run.eq_4, run.eq_5, run.eq_6, run.eq_9, run.eq_11, ev.eq_1, ev.eq_2, ev.eq_3, ev.eq_4, ev.eq_5, ev.eq_6, ev.eq_7, ev.eq_8, ev.eq_9, ev.eq_10, ev.eq_11, ev.eq_12, ev.eq_13, ev.eq_14, ev.eq_15, ev.eq_16, ev.eq_17, ev.eq_18, ev.eq_19, ev.eq_20, ev.eq_21, ev.eq_22, ev.eq_23, ev.eq_24, evs, evo, evc, asg, asgs, List.map_cons, List.map_nil, List.length_cons, List.length_nil, List.replicate, List.append_nil, List.nil_append, List.cons_append, List.getElem?_cons_zero, List.getElem?_cons_succ, List.set_cons_zero, List.set_cons_succ, R.bind_ok, R.bind_ex, if_true, if_false, intOf_i, lift_some, Option.map_some, slc_tup, cmp_eq, cmp_ne, cmp_in, cmp_nin, cmp_is, cmp_isn, cmp_le, cmp_lt, cmp_ge, cmp_gt, bin_add, bin_addt, bin_sub, bin_mod, tru_bl, brB_true, brB_false, toB_some, Nat.sub_self, Nat.zero_add, Nat.reduceAdd, Nat.reduceSub, Nat.reduceLeDiff, Nat.reduceEqDiff, way_0, way_m1, kd_0, kd_1, kd_2, kd_3, kd_lr, hm_0, hm_1, hm_2, ky_0, ky_1, ky_2, ky_3, ky_4, eqF_int, eqF_iv0, brB_d, brB_n, encS, iv_nil, idx_tup, atI_0, atI_1, atI_2, atI_3, atI_4, h1, e1, pushed_at, hs, takenS, idx_last, slc_init, eqF_nn])
noncomputable def m_turned : Ct := mkV (fun s : Sta => [encS s]) (fun s => encS (turnS s))
theorem turned_at (s : Sta) (vh : VH) : m_turned [encS s] vh = some (.ok (encS (turnS s)), vh) := by unfold m_turned; exact mkV_at (fun a b h => encS_inj _ _ (by simpa using h)) s vh
theorem turned_ct (Γ : Env) : Ctr Γ 6 1 b_turned m_turned := by
  unfold m_turned
  exact mkV_ct (fun _ => rfl) fun s vh => by simp [b_turned, body, runs, run.eq_1, run.eq_2, run.eq_3, run.eq_4, run.eq_5, run.eq_6, run.eq_9, run.eq_11, ev.eq_1, ev.eq_2, ev.eq_3, ev.eq_4, ev.eq_5, ev.eq_6, ev.eq_7, ev.eq_8, ev.eq_9, ev.eq_10, ev.eq_11, ev.eq_12, ev.eq_13, ev.eq_14, ev.eq_15, ev.eq_16, ev.eq_17, ev.eq_18, ev.eq_19, ev.eq_20, ev.eq_21, ev.eq_22, ev.eq_23, ev.eq_24, evs, evo, evc, asg, asgs, List.map_cons, List.map_nil, List.length_cons, List.length_nil, List.replicate, List.append_nil, List.nil_append, List.cons_append, List.getElem?_cons_zero, List.getElem?_cons_succ, List.set_cons_zero, List.set_cons_succ, R.bind_ok, R.bind_ex, if_true, if_false, intOf_i, lift_some, Option.map_some, slc_tup, cmp_eq, cmp_ne, cmp_in, cmp_nin, cmp_is, cmp_isn, cmp_le, cmp_lt, cmp_ge, cmp_gt, bin_add, bin_addt, bin_sub, bin_mod, tru_bl, brB_true, brB_false, toB_some, Nat.sub_self, Nat.zero_add, Nat.reduceAdd, Nat.reduceSub, Nat.reduceLeDiff, Nat.reduceEqDiff, way_0, way_m1, kd_0, kd_1, kd_2, kd_3, kd_lr, hm_0, hm_1, hm_2, ky_0, ky_1, ky_2, ky_3, ky_4, eqF_int, eqF_iv0, brB_d, brB_n, encS, iv_nil, idx_tup, atI_0, atI_1, atI_2, atI_3, atI_4, turnS]
theorem sm_turn {s : Sta} (h : s.sm) : (turnS s).sm := ⟨h.2, h.1⟩
theorem idx_head (l : List Int) (h : VH) (q : l ≠ []) : idxF (iv l) (.int 0) h = some (.int (l.headD 0)) := by
  cases l with
  | nil => exact absurd rfl q
  | cons a l => exact atI_0 _ _
noncomputable def m_step_back : Ct := mk (fun a : Way × Sta => [encW a.1, encS a.2]) (fun a _ => a.2.sm) (fun a vh => some (.ok (encS (stepBack a.1 a.2)), vh))
theorem ws_inj (a b : Way × Sta) (h : [encW a.1, encS a.2] = [encW b.1, encS b.2]) : a = b := by
  simp only [List.cons.injEq, and_true] at h
  exact Prod.ext (encW_inj _ _ h.1) (encS_inj _ _ h.2)
theorem step_back_at (w : Way) (s : Sta) (vh : VH) (hs : s.sm) : m_step_back [encW w, encS s] vh = some (.ok (encS (stepBack w s)), vh) := mk_at (a := (w, s)) ws_inj hs
theorem step_back_ct (Γ : Env) (h1 : Γ.fn "pushed" = some m_pushed) (h2 : Γ.fn "taken" = some m_taken) : Ctr Γ 7 2 b_step_back m_step_back := mk_ct (fun _ => rfl) fun ⟨w, s⟩ vh h => Gc.of_eq (by
  have hs : s.sm := h
  have hs1 := hs.1
  have ht := taken_at s w.rm vh hs
  simp only [encS] at ht
  cases e2 : w.kd
  · simp [b_step_back, body, runs, run.eq_1, run.eq_2, run.eq_3, run.eq_4, run.eq_5, run.eq_6, run.eq_9, run.eq_11, ev.eq_1, ev.eq_2, ev.eq_3, ev.eq_4, ev.eq_5, ev.eq_6, ev.eq_7, ev.eq_8, ev.eq_9, ev.eq_10, ev.eq_11, ev.eq_12, ev.eq_13, ev.eq_14, ev.eq_15, ev.eq_16, ev.eq_17, ev.eq_18, ev.eq_19, ev.eq_20, ev.eq_21, ev.eq_22, ev.eq_23, ev.eq_24, evs, evo, evc, asg, asgs, List.map_cons, List.map_nil, List.length_cons, List.length_nil, List.replicate, List.append_nil, List.nil_append, List.cons_append, List.getElem?_cons_zero, List.getElem?_cons_succ, List.set_cons_zero, List.set_cons_succ, R.bind_ok, R.bind_ex, if_true, if_false, intOf_i, lift_some, Option.map_some, slc_tup, cmp_eq, cmp_ne, cmp_in, cmp_nin, cmp_is, cmp_isn, cmp_le, cmp_lt, cmp_ge, cmp_gt, bin_add, bin_addt, bin_sub, bin_mod, tru_bl, brB_true, brB_false, toB_some, Nat.sub_self, Nat.zero_add, Nat.reduceAdd, Nat.reduceSub, Nat.reduceLeDiff, Nat.reduceEqDiff, way_0, way_m1, kd_0, kd_1, kd_2, kd_3, kd_lr, hm_0, hm_1, hm_2, ky_0, ky_1, ky_2, ky_3, ky_4, eqF_int, eqF_iv0, brB_d, brB_n, encS, iv_nil, idx_tup, atI_0, atI_1, atI_2, atI_3, atI_4, h1, h2, e2, way_1, ht, stepBack]
  · simp [b_step_back, body, runs, run.eq_1, run.eq_2, run.eq_3, run.eq_4, run.eq_5, run.eq_6, run.eq_9, run.eq_11, ev.eq_1, ev.eq_2, ev.eq_3, ev.eq_4, ev.eq_5, ev.eq_6, ev.eq_7, ev.eq_8, ev.eq_9, ev.eq_10, ev.eq_11, ev.eq_12, ev.eq_13, ev.eq_14, ev.eq_15, ev.eq_16, ev.eq_17, ev.eq_18, ev.eq_19, ev.eq_20, ev.eq_21, ev.eq_22, ev.eq_23, ev.eq_24, evs, evo, evc, asg, asgs, List.map_cons, List.map_nil, List.length_cons, List.length_nil, List.replicate, List.append_nil, List.nil_append, List.cons_append, List.getElem?_cons_zero, List.getElem?_cons_succ, List.set_cons_zero, List.set_cons_succ, R.bind_ok, R.bind_ex, if_true, if_false, intOf_i, lift_some, Option.map_some, slc_tup, cmp_eq, cmp_ne, cmp_in, cmp_nin, cmp_is, cmp_isn, cmp_le, cmp_lt, cmp_ge, cmp_gt, bin_add, bin_addt, bin_sub, bin_mod, tru_bl, brB_true, brB_false, toB_some, Nat.sub_self, Nat.zero_add, Nat.reduceAdd, Nat.reduceSub, Nat.reduceLeDiff, Nat.reduceEqDiff, way_0, way_m1, kd_0, kd_1, kd_2, kd_3, kd_lr, hm_0, hm_1, hm_2, ky_0, ky_1, ky_2, ky_3, ky_4, eqF_int, eqF_iv0, brB_d, brB_n, encS, iv_nil, idx_tup, atI_0, atI_1, atI_2, atI_3, atI_4, h1, h2, e2, way_1, ht, stepBack]
  · by_cases e3 : s.g = 2
    · by_cases e1 : s.s = [] <;>
        simp [b_step_back, body, runs, run.eq_1, run.eq_2, run.eq_3, run.eq_4, run.eq_5, run.eq_6, run.eq_9, run.eq_11, ev.eq_1, ev.eq_2, ev.eq_3, ev.eq_4, ev.eq_5, ev.eq_6, ev.eq_7, ev.eq_8, ev.eq_9, ev.eq_10, ev.eq_11, ev.eq_12, ev.eq_13, ev.eq_14, ev.eq_15, ev.eq_16, ev.eq_17, ev.eq_18, ev.eq_19, ev.eq_20, ev.eq_21, ev.eq_22, ev.eq_23, ev.eq_24, evs, evo, evc, asg, asgs, List.map_cons, List.map_nil, List.length_cons, List.length_nil, List.replicate, List.append_nil, List.nil_append, List.cons_append, List.getElem?_cons_zero, List.getElem?_cons_succ, List.set_cons_zero, List.set_cons_succ, R.bind_ok, R.bind_ex, if_true, if_false, intOf_i, lift_some, Option.map_some, slc_tup, cmp_eq, cmp_ne, cmp_in, cmp_nin, cmp_is, cmp_isn, cmp_le, cmp_lt, cmp_ge, cmp_gt, bin_add, bin_addt, bin_sub, bin_mod, tru_bl, brB_true, brB_false, toB_some, Nat.sub_self, Nat.zero_add, Nat.reduceAdd, Nat.reduceSub, Nat.reduceLeDiff, Nat.reduceEqDiff, way_0, way_m1, kd_0, kd_1, kd_2, kd_3, kd_lr, hm_0, hm_1, hm_2, ky_0, ky_1, ky_2, ky_3, ky_4, eqF_int, eqF_iv0, brB_d, brB_n, encS, iv_nil, idx_tup, atI_0, atI_1, atI_2, atI_3, atI_4, h1, h2, e1, e2, e3, way_1, stepBack, pushed_at, hs1, idx_last, slc_init, eqF_nn]
    · by_cases e1 : s.f = []
      · simp [b_step_back, body, runs, run.eq_1, run.eq_2, run.eq_3, run.eq_4, run.eq_5, run.eq_6, run.eq_9, run.eq_11, ev.eq_1, ev.eq_2, ev.eq_3, ev.eq_4, ev.eq_5, ev.eq_6, ev.eq_7, ev.eq_8, ev.eq_9, ev.eq_10, ev.eq_11, ev.eq_12, ev.eq_13, ev.eq_14, ev.eq_15, ev.eq_16, ev.eq_17, ev.eq_18, ev.eq_19, ev.eq_20, ev.eq_21, ev.eq_22, ev.eq_23, ev.eq_24, evs, evo, evc, asg, asgs, List.map_cons, List.map_nil, List.length_cons, List.length_nil, List.replicate, List.append_nil, List.nil_append, List.cons_append, List.getElem?_cons_zero, List.getElem?_cons_succ, List.set_cons_zero, List.set_cons_succ, R.bind_ok, R.bind_ex, if_true, if_false, intOf_i, lift_some, Option.map_some, slc_tup, cmp_eq, cmp_ne, cmp_in, cmp_nin, cmp_is, cmp_isn, cmp_le, cmp_lt, cmp_ge, cmp_gt, bin_add, bin_addt, bin_sub, bin_mod, tru_bl, brB_true, brB_false, toB_some, Nat.sub_self, Nat.zero_add, Nat.reduceAdd, Nat.reduceSub, Nat.reduceLeDiff, Nat.reduceEqDiff, way_0, way_m1, kd_0, kd_1, kd_2, kd_3, kd_lr, hm_0, hm_1, hm_2, ky_0, ky_1, ky_2, ky_3, ky_4, eqF_int, eqF_iv0, brB_d, brB_n, encS, iv_nil, idx_tup, atI_0, atI_1, atI_2, atI_3, atI_4, h1, h2, e1, e2, e3, way_1, stepBack, eqF_nn]
      · simp [b_step_back, body, runs, run.eq_1, run.eq_2, run.eq_3, run.eq_4, run.eq_5, run.eq_6, run.eq_9, run.eq_11, ev.eq_1, ev.eq_2, ev.eq_3, ev.eq_4, ev.eq_5, ev.eq_6, ev.eq_7, ev.eq_8, ev.eq_9, ev.eq_10, ev.eq_11, ev.eq_12, ev.eq_13, ev.eq_14, ev.eq_15, ev.eq_16, ev.eq_17, ev.eq_18, ev.eq_19, ev.eq_20, ev.eq_21, ev.eq_22, ev.eq_23, ev.eq_24, evs, evo, evc, asg, asgs, List.map_cons, List.map_nil, List.length_cons, List.length_nil, List.replicate, List.append_nil, List.nil_append, List.cons_append, List.getElem?_cons_zero, List.getElem?_cons_succ, List.set_cons_zero, List.set_cons_succ, R.bind_ok, R.bind_ex, if_true, if_false, intOf_i, lift_some, Option.map_some, slc_tup, cmp_eq, cmp_ne, cmp_in, cmp_nin, cmp_is, cmp_isn, cmp_le, cmp_lt, cmp_ge, cmp_gt, bin_add, bin_addt, bin_sub, bin_mod, tru_bl, brB_true, brB_false, toB_some, Nat.sub_self, Nat.zero_add, Nat.reduceAdd, Nat.reduceSub, Nat.reduceLeDiff, Nat.reduceEqDiff, way_0, way_m1, kd_0, kd_1, kd_2, kd_3, kd_lr, hm_0, hm_1, hm_2, ky_0, ky_1, ky_2, ky_3, ky_4, eqF_int, eqF_iv0, brB_d, brB_n, encS, iv_nil, idx_tup, atI_0, atI_1, atI_2, atI_3, atI_4, h1, h2, e1, e2, e3, way_1, stepBack, pushed_at, hs1, idx_last, slc_init, eqF_nn]
  · by_cases e1 : s.f = []
    · simp [b_step_back, body, runs, run.eq_1, run.eq_2, run.eq_3, run.eq_4, run.eq_5, run.eq_6, run.eq_9, run.eq_11, ev.eq_1, ev.eq_2, ev.eq_3, ev.eq_4, ev.eq_5, ev.eq_6, ev.eq_7, ev.eq_8, ev.eq_9, ev.eq_10, ev.eq_11, ev.eq_12, ev.eq_13, ev.eq_14, ev.eq_15, ev.eq_16, ev.eq_17, ev.eq_18, ev.eq_19, ev.eq_20, ev.eq_21, ev.eq_22, ev.eq_23, ev.eq_24, evs, evo, evc, asg, asgs, List.map_cons, List.map_nil, List.length_cons, List.length_nil, List.replicate, List.append_nil, List.nil_append, List.cons_append, List.getElem?_cons_zero, List.getElem?_cons_succ, List.set_cons_zero, List.set_cons_succ, R.bind_ok, R.bind_ex, if_true, if_false, intOf_i, lift_some, Option.map_some, slc_tup, cmp_eq, cmp_ne, cmp_in, cmp_nin, cmp_is, cmp_isn, cmp_le, cmp_lt, cmp_ge, cmp_gt, bin_add, bin_addt, bin_sub, bin_mod, tru_bl, brB_true, brB_false, toB_some, Nat.sub_self, Nat.zero_add, Nat.reduceAdd, Nat.reduceSub, Nat.reduceLeDiff, Nat.reduceEqDiff, way_0, way_m1, kd_0, kd_1, kd_2, kd_3, kd_lr, hm_0, hm_1, hm_2, ky_0, ky_1, ky_2, ky_3, ky_4, eqF_int, eqF_iv0, brB_d, brB_n, encS, iv_nil, idx_tup, atI_0, atI_1, atI_2, atI_3, atI_4, h1, h2, e1, e2, stepBack, eqF_nn]
    · simp [b_step_back, body, runs, run.eq_1, run.eq_2, run.eq_3, run.eq_4, run.eq_5, run.eq_6, run.eq_9, run.eq_11, ev.eq_1, ev.eq_2, ev.eq_3, ev.eq_4, ev.eq_5, ev.eq_6, ev.eq_7, ev.eq_8, ev.eq_9, ev.eq_10, ev.eq_11, ev.eq_12, ev.eq_13, ev.eq_14, ev.eq_15, ev.eq_16, ev.eq_17, ev.eq_18, ev.eq_19, ev.eq_20, ev.eq_21, ev.eq_22, ev.eq_23, ev.eq_24, evs, evo, evc, asg, asgs, List.map_cons, List.map_nil, List.length_cons, List.length_nil, List.replicate, List.append_nil, List.nil_append, List.cons_append, List.getElem?_cons_zero, List.getElem?_cons_succ, List.set_cons_zero, List.set_cons_succ, R.bind_ok, R.bind_ex, if_true, if_false, intOf_i, lift_some, Option.map_some, slc_tup, cmp_eq, cmp_ne, cmp_in, cmp_nin, cmp_is, cmp_isn, cmp_le, cmp_lt, cmp_ge, cmp_gt, bin_add, bin_addt, bin_sub, bin_mod, tru_bl, brB_true, brB_false, toB_some, Nat.sub_self, Nat.zero_add, Nat.reduceAdd, Nat.reduceSub, Nat.reduceLeDiff, Nat.reduceEqDiff, way_0, way_m1, kd_0, kd_1, kd_2, kd_3, kd_lr, hm_0, hm_1, hm_2, ky_0, ky_1, ky_2, ky_3, ky_4, eqF_int, eqF_iv0, brB_d, brB_n, encS, iv_nil, idx_tup, atI_0, atI_1, atI_2, atI_3, atI_4, h1, h2, e1, e2, stepBack, eqF_nn, idx_head]
      rfl)
noncomputable def m_step_again : Ct := mk (fun a : Way × Sta => [encW a.1, encS a.2]) (fun a _ => a.2.sm) (fun a vh => some (.ok (encS (stepAgain a.1 a.2)), vh))
theorem step_again_at (w : Way) (s : Sta) (vh : VH) (hs : s.sm) : m_step_again [encW w, encS s] vh = some (.ok (encS (stepAgain w s)), vh) := mk_at (a := (w, s)) ws_inj hs
theorem step_again_ct (Γ : Env) (h1 : Γ.fn "turned" = some m_turned) (h2 : Γ.fn "taken" = some m_taken) (h3 : Γ.fn "step_back" = some m_step_back) : Ctr Γ 2 2 b_step_again m_step_again := mk_ct (fun _ => rfl) fun ⟨w, s⟩ vh h => Gc.of_eq (by
  have hs : s.sm := h
  have ht := taken_at (turnS s) w.rm vh (sm_turn hs)
  have hb := step_back_at w s vh hs
  cases e2 : w.kd
  · simp [b_step_again, body, runs, run.eq_1, run.eq_2, run.eq_3, run.eq_4, run.eq_5, run.eq_6, run.eq_9, run.eq_11, ev.eq_1, ev.eq_2, ev.eq_3, ev.eq_4, ev.eq_5, ev.eq_6, ev.eq_7, ev.eq_8, ev.eq_9, ev.eq_10, ev.eq_11, ev.eq_12, ev.eq_13, ev.eq_14, ev.eq_15, ev.eq_16, ev.eq_17, ev.eq_18, ev.eq_19, ev.eq_20, ev.eq_21, ev.eq_22, ev.eq_23, ev.eq_24, evs, evo, evc, asg, asgs, List.map_cons, List.map_nil, List.length_cons, List.length_nil, List.replicate, List.append_nil, List.nil_append, List.cons_append, List.getElem?_cons_zero, List.getElem?_cons_succ, List.set_cons_zero, List.set_cons_succ, R.bind_ok, R.bind_ex, if_true, if_false, intOf_i, lift_some, Option.map_some, slc_tup, cmp_eq, cmp_ne, cmp_in, cmp_nin, cmp_is, cmp_isn, cmp_le, cmp_lt, cmp_ge, cmp_gt, bin_add, bin_addt, bin_sub, bin_mod, tru_bl, brB_true, brB_false, toB_some, Nat.sub_self, Nat.zero_add, Nat.reduceAdd, Nat.reduceSub, Nat.reduceLeDiff, Nat.reduceEqDiff, way_0, kd_lr, h1, h2, e2, way_1, turned_at, ht, stepAgain]
  · simp [b_step_again, body, runs, run.eq_1, run.eq_2, run.eq_3, run.eq_4, run.eq_5, run.eq_6, run.eq_9, run.eq_11, ev.eq_1, ev.eq_2, ev.eq_3, ev.eq_4, ev.eq_5, ev.eq_6, ev.eq_7, ev.eq_8, ev.eq_9, ev.eq_10, ev.eq_11, ev.eq_12, ev.eq_13, ev.eq_14, ev.eq_15, ev.eq_16, ev.eq_17, ev.eq_18, ev.eq_19, ev.eq_20, ev.eq_21, ev.eq_22, ev.eq_23, ev.eq_24, evs, evo, evc, asg, asgs, List.map_cons, List.map_nil, List.length_cons, List.length_nil, List.replicate, List.append_nil, List.nil_append, List.cons_append, List.getElem?_cons_zero, List.getElem?_cons_succ, List.set_cons_zero, List.set_cons_succ, R.bind_ok, R.bind_ex, if_true, if_false, intOf_i, lift_some, Option.map_some, slc_tup, cmp_eq, cmp_ne, cmp_in, cmp_nin, cmp_is, cmp_isn, cmp_le, cmp_lt, cmp_ge, cmp_gt, bin_add, bin_addt, bin_sub, bin_mod, tru_bl, brB_true, brB_false, toB_some, Nat.sub_self, Nat.zero_add, Nat.reduceAdd, Nat.reduceSub, Nat.reduceLeDiff, Nat.reduceEqDiff, way_0, kd_lr, h1, h2, e2, way_1, turned_at, ht, stepAgain]
  · simp [b_step_again, body, runs, run.eq_1, run.eq_2, run.eq_3, run.eq_4, run.eq_5, run.eq_6, run.eq_9, run.eq_11, ev.eq_1, ev.eq_2, ev.eq_3, ev.eq_4, ev.eq_5, ev.eq_6, ev.eq_7, ev.eq_8, ev.eq_9, ev.eq_10, ev.eq_11, ev.eq_12, ev.eq_13, ev.eq_14, ev.eq_15, ev.eq_16, ev.eq_17, ev.eq_18, ev.eq_19, ev.eq_20, ev.eq_21, ev.eq_22, ev.eq_23, ev.eq_24, evs, evo, evc, asg, asgs, List.map_cons, List.map_nil, List.length_cons, List.length_nil, List.replicate, List.append_nil, List.nil_append, List.cons_append, List.getElem?_cons_zero, List.getElem?_cons_succ, List.set_cons_zero, List.set_cons_succ, R.bind_ok, R.bind_ex, if_true, if_false, intOf_i, lift_some, Option.map_some, slc_tup, cmp_eq, cmp_ne, cmp_in, cmp_nin, cmp_is, cmp_isn, cmp_le, cmp_lt, cmp_ge, cmp_gt, bin_add, bin_addt, bin_sub, bin_mod, tru_bl, brB_true, brB_false, toB_some, Nat.sub_self, Nat.zero_add, Nat.reduceAdd, Nat.reduceSub, Nat.reduceLeDiff, Nat.reduceEqDiff, way_0, kd_lr, kd_3, h1, h2, e2, stepAgain, encS, slc_tup]
    rfl
  · simp [b_step_again, body, runs, run.eq_1, run.eq_2, run.eq_3, run.eq_4, run.eq_5, run.eq_6, run.eq_9, run.eq_11, ev.eq_1, ev.eq_2, ev.eq_3, ev.eq_4, ev.eq_5, ev.eq_6, ev.eq_7, ev.eq_8, ev.eq_9, ev.eq_10, ev.eq_11, ev.eq_12, ev.eq_13, ev.eq_14, ev.eq_15, ev.eq_16, ev.eq_17, ev.eq_18, ev.eq_19, ev.eq_20, ev.eq_21, ev.eq_22, ev.eq_23, ev.eq_24, evs, evo, evc, asg, asgs, List.map_cons, List.map_nil, List.length_cons, List.length_nil, List.replicate, List.append_nil, List.nil_append, List.cons_append, List.getElem?_cons_zero, List.getElem?_cons_succ, List.set_cons_zero, List.set_cons_succ, R.bind_ok, R.bind_ex, if_true, if_false, intOf_i, lift_some, Option.map_some, slc_tup, cmp_eq, cmp_ne, cmp_in, cmp_nin, cmp_is, cmp_isn, cmp_le, cmp_lt, cmp_ge, cmp_gt, bin_add, bin_addt, bin_sub, bin_mod, tru_bl, brB_true, brB_false, toB_some, Nat.sub_self, Nat.zero_add, Nat.reduceAdd, Nat.reduceSub, Nat.reduceLeDiff, Nat.reduceEqDiff, way_0, kd_lr, kd_3, h1, h2, h3, e2, stepAgain, hb])
noncomputable def m_step : Ct := mk (fun a : Way × Int × Sta × Ky => [encW a.1, .int a.2.1, encS a.2.2.1, .str a.2.2.2.str]) (fun a _ => 0 < a.2.1 ∧ a.2.2.1.sm) (fun a vh => some (.ok (encS (stepS a.1 a.2.1 a.2.2.1 a.2.2.2)), vh))
theorem step_at (w : Way) (z : Int) (s : Sta) (k : Ky) (vh : VH) (hz : 0 < z) (hs : s.sm) : m_step [encW w, .int z, encS s, .str k.str] vh = some (.ok (encS (stepS w z s k)), vh) := mk_at (a := (w, z, s, k)) (fun a b h => by
  simp only [List.cons.injEq, D.int.injEq, D.str.injEq, and_true] at h
  exact Prod.ext (encW_inj _ _ h.1) (Prod.ext h.2.1 (Prod.ext (encS_inj _ _ h.2.2.1) (Ky.inj _ _ h.2.2.2)))) ⟨hz, hs⟩
theorem step_ct (Γ : Env) (h1 : Γ.fn "step_on" = some m_step_on) (h2 : Γ.fn "step_back" = some m_step_back) (h3 : Γ.fn "step_again" = some m_step_again) (h4 : Γ.fn "go_home" = some m_go_home) : Ctr Γ 9 4 b_step m_step := mk_ct (fun _ => rfl) fun ⟨w, z, s, k⟩ vh h => Gc.of_eq (by
  obtain ⟨hz, hs⟩ := h
  simp only at hz hs
  have q1 := step_on_at w z s vh hz hs
  have q2 := step_back_at w s vh hs
  have q3 := step_again_at w s vh hs
  have q4 := go_home_at w s vh hs
  cases k
  · simp [b_step, body, runs, run.eq_1, run.eq_2, run.eq_3, run.eq_4, run.eq_5, run.eq_6, run.eq_9, run.eq_11, ev.eq_1, ev.eq_2, ev.eq_3, ev.eq_4, ev.eq_5, ev.eq_6, ev.eq_7, ev.eq_8, ev.eq_9, ev.eq_10, ev.eq_11, ev.eq_12, ev.eq_13, ev.eq_14, ev.eq_15, ev.eq_16, ev.eq_17, ev.eq_18, ev.eq_19, ev.eq_20, ev.eq_21, ev.eq_22, ev.eq_23, ev.eq_24, evs, evo, evc, asg, asgs, List.map_cons, List.map_nil, List.length_cons, List.length_nil, List.replicate, List.append_nil, List.nil_append, List.cons_append, List.getElem?_cons_zero, List.getElem?_cons_succ, List.set_cons_zero, List.set_cons_succ, R.bind_ok, R.bind_ex, if_true, if_false, intOf_i, lift_some, Option.map_some, slc_tup, cmp_eq, cmp_ne, cmp_in, cmp_nin, cmp_is, cmp_isn, cmp_le, cmp_lt, cmp_ge, cmp_gt, bin_add, bin_addt, bin_sub, bin_mod, tru_bl, brB_true, brB_false, toB_some, Nat.sub_self, Nat.zero_add, Nat.reduceAdd, Nat.reduceSub, Nat.reduceLeDiff, Nat.reduceEqDiff, ky_0, ky_1, ky_2, ky_3, ky_4, h1, q1, stepS]
  · simp [b_step, body, runs, run.eq_1, run.eq_2, run.eq_3, run.eq_4, run.eq_5, run.eq_6, run.eq_9, run.eq_11, ev.eq_1, ev.eq_2, ev.eq_3, ev.eq_4, ev.eq_5, ev.eq_6, ev.eq_7, ev.eq_8, ev.eq_9, ev.eq_10, ev.eq_11, ev.eq_12, ev.eq_13, ev.eq_14, ev.eq_15, ev.eq_16, ev.eq_17, ev.eq_18, ev.eq_19, ev.eq_20, ev.eq_21, ev.eq_22, ev.eq_23, ev.eq_24, evs, evo, evc, asg, asgs, List.map_cons, List.map_nil, List.length_cons, List.length_nil, List.replicate, List.append_nil, List.nil_append, List.cons_append, List.getElem?_cons_zero, List.getElem?_cons_succ, List.set_cons_zero, List.set_cons_succ, R.bind_ok, R.bind_ex, if_true, if_false, intOf_i, lift_some, Option.map_some, slc_tup, cmp_eq, cmp_ne, cmp_in, cmp_nin, cmp_is, cmp_isn, cmp_le, cmp_lt, cmp_ge, cmp_gt, bin_add, bin_addt, bin_sub, bin_mod, tru_bl, brB_true, brB_false, toB_some, Nat.sub_self, Nat.zero_add, Nat.reduceAdd, Nat.reduceSub, Nat.reduceLeDiff, Nat.reduceEqDiff, ky_0, ky_1, ky_2, ky_3, ky_4, h2, q2, stepS]
  · simp [b_step, body, runs, run.eq_1, run.eq_2, run.eq_3, run.eq_4, run.eq_5, run.eq_6, run.eq_9, run.eq_11, ev.eq_1, ev.eq_2, ev.eq_3, ev.eq_4, ev.eq_5, ev.eq_6, ev.eq_7, ev.eq_8, ev.eq_9, ev.eq_10, ev.eq_11, ev.eq_12, ev.eq_13, ev.eq_14, ev.eq_15, ev.eq_16, ev.eq_17, ev.eq_18, ev.eq_19, ev.eq_20, ev.eq_21, ev.eq_22, ev.eq_23, ev.eq_24, evs, evo, evc, asg, asgs, List.map_cons, List.map_nil, List.length_cons, List.length_nil, List.replicate, List.append_nil, List.nil_append, List.cons_append, List.getElem?_cons_zero, List.getElem?_cons_succ, List.set_cons_zero, List.set_cons_succ, R.bind_ok, R.bind_ex, if_true, if_false, intOf_i, lift_some, Option.map_some, slc_tup, cmp_eq, cmp_ne, cmp_in, cmp_nin, cmp_is, cmp_isn, cmp_le, cmp_lt, cmp_ge, cmp_gt, bin_add, bin_addt, bin_sub, bin_mod, tru_bl, brB_true, brB_false, toB_some, Nat.sub_self, Nat.zero_add, Nat.reduceAdd, Nat.reduceSub, Nat.reduceLeDiff, Nat.reduceEqDiff, ky_0, ky_1, ky_2, ky_3, ky_4, h3, q3, stepS]
  · by_cases e2 : w.kd = .deed <;> simp [b_step, body, runs, run.eq_1, run.eq_2, run.eq_3, run.eq_4, run.eq_5, run.eq_6, run.eq_9, run.eq_11, ev.eq_1, ev.eq_2, ev.eq_3, ev.eq_4, ev.eq_5, ev.eq_6, ev.eq_7, ev.eq_8, ev.eq_9, ev.eq_10, ev.eq_11, ev.eq_12, ev.eq_13, ev.eq_14, ev.eq_15, ev.eq_16, ev.eq_17, ev.eq_18, ev.eq_19, ev.eq_20, ev.eq_21, ev.eq_22, ev.eq_23, ev.eq_24, evs, evo, evc, asg, asgs, List.map_cons, List.map_nil, List.length_cons, List.length_nil, List.replicate, List.append_nil, List.nil_append, List.cons_append, List.getElem?_cons_zero, List.getElem?_cons_succ, List.set_cons_zero, List.set_cons_succ, R.bind_ok, R.bind_ex, if_true, if_false, intOf_i, lift_some, Option.map_some, slc_tup, cmp_eq, cmp_ne, cmp_in, cmp_nin, cmp_is, cmp_isn, cmp_le, cmp_lt, cmp_ge, cmp_gt, bin_add, bin_addt, bin_sub, bin_mod, tru_bl, brB_true, brB_false, toB_some, Nat.sub_self, Nat.zero_add, Nat.reduceAdd, Nat.reduceSub, Nat.reduceLeDiff, Nat.reduceEqDiff, way_0, way_m1, kd_0, kd_1, kd_2, kd_3, kd_lr, hm_0, hm_1, hm_2, ky_0, ky_1, ky_2, ky_3, ky_4, eqF_int, eqF_iv0, brB_d, brB_n, encS, iv_nil, idx_tup, atI_0, atI_1, atI_2, atI_3, atI_4, stepS, e2]
  · simp [b_step, body, runs, run.eq_1, run.eq_2, run.eq_3, run.eq_4, run.eq_5, run.eq_6, run.eq_9, run.eq_11, ev.eq_1, ev.eq_2, ev.eq_3, ev.eq_4, ev.eq_5, ev.eq_6, ev.eq_7, ev.eq_8, ev.eq_9, ev.eq_10, ev.eq_11, ev.eq_12, ev.eq_13, ev.eq_14, ev.eq_15, ev.eq_16, ev.eq_17, ev.eq_18, ev.eq_19, ev.eq_20, ev.eq_21, ev.eq_22, ev.eq_23, ev.eq_24, evs, evo, evc, asg, asgs, List.map_cons, List.map_nil, List.length_cons, List.length_nil, List.replicate, List.append_nil, List.nil_append, List.cons_append, List.getElem?_cons_zero, List.getElem?_cons_succ, List.set_cons_zero, List.set_cons_succ, R.bind_ok, R.bind_ex, if_true, if_false, intOf_i, lift_some, Option.map_some, slc_tup, cmp_eq, cmp_ne, cmp_in, cmp_nin, cmp_is, cmp_isn, cmp_le, cmp_lt, cmp_ge, cmp_gt, bin_add, bin_addt, bin_sub, bin_mod, tru_bl, brB_true, brB_false, toB_some, Nat.sub_self, Nat.zero_add, Nat.reduceAdd, Nat.reduceSub, Nat.reduceLeDiff, Nat.reduceEqDiff, ky_0, ky_1, ky_2, ky_3, ky_4, h4, q4, stepS]
  · by_cases e2 : w.kd = .deed <;> simp [b_step, body, runs, run.eq_1, run.eq_2, run.eq_3, run.eq_4, run.eq_5, run.eq_6, run.eq_9, run.eq_11, ev.eq_1, ev.eq_2, ev.eq_3, ev.eq_4, ev.eq_5, ev.eq_6, ev.eq_7, ev.eq_8, ev.eq_9, ev.eq_10, ev.eq_11, ev.eq_12, ev.eq_13, ev.eq_14, ev.eq_15, ev.eq_16, ev.eq_17, ev.eq_18, ev.eq_19, ev.eq_20, ev.eq_21, ev.eq_22, ev.eq_23, ev.eq_24, evs, evo, evc, asg, asgs, List.map_cons, List.map_nil, List.length_cons, List.length_nil, List.replicate, List.append_nil, List.nil_append, List.cons_append, List.getElem?_cons_zero, List.getElem?_cons_succ, List.set_cons_zero, List.set_cons_succ, R.bind_ok, R.bind_ex, if_true, if_false, intOf_i, lift_some, Option.map_some, slc_tup, cmp_eq, cmp_ne, cmp_in, cmp_nin, cmp_is, cmp_isn, cmp_le, cmp_lt, cmp_ge, cmp_gt, bin_add, bin_addt, bin_sub, bin_mod, tru_bl, brB_true, brB_false, toB_some, Nat.sub_self, Nat.zero_add, Nat.reduceAdd, Nat.reduceSub, Nat.reduceLeDiff, Nat.reduceEqDiff, way_0, way_m1, kd_0, kd_1, kd_2, kd_3, kd_lr, hm_0, hm_1, hm_2, ky_0, ky_1, ky_2, ky_3, ky_4, eqF_int, eqF_iv0, brB_d, brB_n, encS, iv_nil, idx_tup, atI_0, atI_1, atI_2, atI_3, atI_4, stepS, e2])
noncomputable def m_screen_of : Ct := mkV (fun a : Way × Int × Sta => [encW a.1, .int a.2.1, encS a.2.2]) (fun a => scrS a.1 a.2.1 a.2.2)
theorem screen_of_at (w : Way) (z : Int) (s : Sta) (vh : VH) : m_screen_of [encW w, .int z, encS s] vh = some (.ok (scrS w z s), vh) := by
  unfold m_screen_of
  exact mkV_at (fun a b h => by
    simp only [List.cons.injEq, D.int.injEq, and_true] at h
    exact Prod.ext (encW_inj _ _ h.1) (Prod.ext h.2.1 (encS_inj _ _ h.2.2))) (w, z, s) vh
theorem screen_of_ct (Γ : Env) : Ctr Γ 9 3 b_screen_of m_screen_of := by
  unfold m_screen_of
  refine mkV_ct (fun _ => rfl) fun ⟨w, z, s⟩ vh => ?_
  simp only
  by_cases e0 : z = 0
  · subst e0
    simp [b_screen_of, body, runs, run.eq_1, run.eq_2, run.eq_3, run.eq_4, run.eq_5, run.eq_6, run.eq_9, run.eq_11, ev.eq_1, ev.eq_2, ev.eq_3, ev.eq_4, ev.eq_5, ev.eq_6, ev.eq_7, ev.eq_8, ev.eq_9, ev.eq_10, ev.eq_11, ev.eq_12, ev.eq_13, ev.eq_14, ev.eq_15, ev.eq_16, ev.eq_17, ev.eq_18, ev.eq_19, ev.eq_20, ev.eq_21, ev.eq_22, ev.eq_23, ev.eq_24, evs, evo, evc, asg, asgs, List.map_cons, List.map_nil, List.length_cons, List.length_nil, List.replicate, List.append_nil, List.nil_append, List.cons_append, List.getElem?_cons_zero, List.getElem?_cons_succ, List.set_cons_zero, List.set_cons_succ, R.bind_ok, R.bind_ex, if_true, if_false, intOf_i, lift_some, Option.map_some, slc_tup, cmp_eq, cmp_ne, cmp_in, cmp_nin, cmp_is, cmp_isn, cmp_le, cmp_lt, cmp_ge, cmp_gt, bin_add, bin_addt, bin_sub, bin_mod, tru_bl, brB_true, brB_false, toB_some, Nat.sub_self, Nat.zero_add, Nat.reduceAdd, Nat.reduceSub, Nat.reduceLeDiff, Nat.reduceEqDiff, way_0, way_m1, kd_0, kd_1, kd_2, kd_3, kd_lr, hm_0, hm_1, hm_2, ky_0, ky_1, ky_2, ky_3, ky_4, eqF_int, eqF_iv0, brB_d, brB_n, encS, iv_nil, idx_tup, atI_0, atI_1, atI_2, atI_3, atI_4, scrS]
  · cases e2 : w.kd
    · by_cases e1 : s.f = [] <;> by_cases e4 : s.s = [] <;> simp [b_screen_of, body, runs, run.eq_1, run.eq_2, run.eq_3, run.eq_4, run.eq_5, run.eq_6, run.eq_9, run.eq_11, ev.eq_1, ev.eq_2, ev.eq_3, ev.eq_4, ev.eq_5, ev.eq_6, ev.eq_7, ev.eq_8, ev.eq_9, ev.eq_10, ev.eq_11, ev.eq_12, ev.eq_13, ev.eq_14, ev.eq_15, ev.eq_16, ev.eq_17, ev.eq_18, ev.eq_19, ev.eq_20, ev.eq_21, ev.eq_22, ev.eq_23, ev.eq_24, evs, evo, evc, asg, asgs, List.map_cons, List.map_nil, List.length_cons, List.length_nil, List.replicate, List.append_nil, List.nil_append, List.cons_append, List.getElem?_cons_zero, List.getElem?_cons_succ, List.set_cons_zero, List.set_cons_succ, R.bind_ok, R.bind_ex, if_true, if_false, intOf_i, lift_some, Option.map_some, slc_tup, cmp_eq, cmp_ne, cmp_in, cmp_nin, cmp_is, cmp_isn, cmp_le, cmp_lt, cmp_ge, cmp_gt, bin_add, bin_addt, bin_sub, bin_mod, tru_bl, brB_true, brB_false, toB_some, Nat.sub_self, Nat.zero_add, Nat.reduceAdd, Nat.reduceSub, Nat.reduceLeDiff, Nat.reduceEqDiff, way_0, way_m1, kd_0, kd_1, kd_2, kd_3, kd_lr, hm_0, hm_1, hm_2, ky_0, ky_1, ky_2, ky_3, ky_4, eqF_int, eqF_iv0, brB_d, brB_n, encS, iv_nil, idx_tup, atI_0, atI_1, atI_2, atI_3, atI_4, scrS, e0, e1, e2, e4, litI, eqF_nn]
    · by_cases e1 : s.f = [] <;> by_cases e4 : s.s = [] <;> simp [b_screen_of, body, runs, run.eq_1, run.eq_2, run.eq_3, run.eq_4, run.eq_5, run.eq_6, run.eq_9, run.eq_11, ev.eq_1, ev.eq_2, ev.eq_3, ev.eq_4, ev.eq_5, ev.eq_6, ev.eq_7, ev.eq_8, ev.eq_9, ev.eq_10, ev.eq_11, ev.eq_12, ev.eq_13, ev.eq_14, ev.eq_15, ev.eq_16, ev.eq_17, ev.eq_18, ev.eq_19, ev.eq_20, ev.eq_21, ev.eq_22, ev.eq_23, ev.eq_24, evs, evo, evc, asg, asgs, List.map_cons, List.map_nil, List.length_cons, List.length_nil, List.replicate, List.append_nil, List.nil_append, List.cons_append, List.getElem?_cons_zero, List.getElem?_cons_succ, List.set_cons_zero, List.set_cons_succ, R.bind_ok, R.bind_ex, if_true, if_false, intOf_i, lift_some, Option.map_some, slc_tup, cmp_eq, cmp_ne, cmp_in, cmp_nin, cmp_is, cmp_isn, cmp_le, cmp_lt, cmp_ge, cmp_gt, bin_add, bin_addt, bin_sub, bin_mod, tru_bl, brB_true, brB_false, toB_some, Nat.sub_self, Nat.zero_add, Nat.reduceAdd, Nat.reduceSub, Nat.reduceLeDiff, Nat.reduceEqDiff, way_0, way_m1, kd_0, kd_1, kd_2, kd_3, kd_lr, hm_0, hm_1, hm_2, ky_0, ky_1, ky_2, ky_3, ky_4, eqF_int, eqF_iv0, brB_d, brB_n, encS, iv_nil, idx_tup, atI_0, atI_1, atI_2, atI_3, atI_4, scrS, e0, e1, e2, e4, litI, eqF_nn]
    · by_cases e3 : s.g = 2 <;> by_cases e1 : s.f = [] <;> by_cases e4 : s.s = [] <;> simp [b_screen_of, body, runs, run.eq_1, run.eq_2, run.eq_3, run.eq_4, run.eq_5, run.eq_6, run.eq_9, run.eq_11, ev.eq_1, ev.eq_2, ev.eq_3, ev.eq_4, ev.eq_5, ev.eq_6, ev.eq_7, ev.eq_8, ev.eq_9, ev.eq_10, ev.eq_11, ev.eq_12, ev.eq_13, ev.eq_14, ev.eq_15, ev.eq_16, ev.eq_17, ev.eq_18, ev.eq_19, ev.eq_20, ev.eq_21, ev.eq_22, ev.eq_23, ev.eq_24, evs, evo, evc, asg, asgs, List.map_cons, List.map_nil, List.length_cons, List.length_nil, List.replicate, List.append_nil, List.nil_append, List.cons_append, List.getElem?_cons_zero, List.getElem?_cons_succ, List.set_cons_zero, List.set_cons_succ, R.bind_ok, R.bind_ex, if_true, if_false, intOf_i, lift_some, Option.map_some, slc_tup, cmp_eq, cmp_ne, cmp_in, cmp_nin, cmp_is, cmp_isn, cmp_le, cmp_lt, cmp_ge, cmp_gt, bin_add, bin_addt, bin_sub, bin_mod, tru_bl, brB_true, brB_false, toB_some, Nat.sub_self, Nat.zero_add, Nat.reduceAdd, Nat.reduceSub, Nat.reduceLeDiff, Nat.reduceEqDiff, way_0, way_m1, kd_0, kd_1, kd_2, kd_3, kd_lr, hm_0, hm_1, hm_2, ky_0, ky_1, ky_2, ky_3, ky_4, eqF_int, eqF_iv0, brB_d, brB_n, encS, iv_nil, idx_tup, atI_0, atI_1, atI_2, atI_3, atI_4, scrS, e0, e1, e2, e3, e4, litI, eqF_nn]
    · by_cases e1 : s.f = [] <;> simp [b_screen_of, body, runs, run.eq_1, run.eq_2, run.eq_3, run.eq_4, run.eq_5, run.eq_6, run.eq_9, run.eq_11, ev.eq_1, ev.eq_2, ev.eq_3, ev.eq_4, ev.eq_5, ev.eq_6, ev.eq_7, ev.eq_8, ev.eq_9, ev.eq_10, ev.eq_11, ev.eq_12, ev.eq_13, ev.eq_14, ev.eq_15, ev.eq_16, ev.eq_17, ev.eq_18, ev.eq_19, ev.eq_20, ev.eq_21, ev.eq_22, ev.eq_23, ev.eq_24, evs, evo, evc, asg, asgs, List.map_cons, List.map_nil, List.length_cons, List.length_nil, List.replicate, List.append_nil, List.nil_append, List.cons_append, List.getElem?_cons_zero, List.getElem?_cons_succ, List.set_cons_zero, List.set_cons_succ, R.bind_ok, R.bind_ex, if_true, if_false, intOf_i, lift_some, Option.map_some, slc_tup, cmp_eq, cmp_ne, cmp_in, cmp_nin, cmp_is, cmp_isn, cmp_le, cmp_lt, cmp_ge, cmp_gt, bin_add, bin_addt, bin_sub, bin_mod, tru_bl, brB_true, brB_false, toB_some, Nat.sub_self, Nat.zero_add, Nat.reduceAdd, Nat.reduceSub, Nat.reduceLeDiff, Nat.reduceEqDiff, way_0, way_m1, kd_0, kd_1, kd_2, kd_3, kd_lr, hm_0, hm_1, hm_2, ky_0, ky_1, ky_2, ky_3, ky_4, eqF_int, eqF_iv0, brB_d, brB_n, encS, iv_nil, idx_tup, atI_0, atI_1, atI_2, atI_3, atI_4, scrS, e0, e1, e2, litI, eqF_nn]
end Sb

/-! checks -/
namespace Sb
open PySem
theorem mk_atP {α : Type} {enc : α → List D} {P : α → VH → Prop} {f : α → VH → R D} {a : α} {vh : VH} (inj : ∀ a b, P a vh → P b vh → enc a = enc b → f a vh = f b vh) (p : P a vh) : mk enc P f (enc a) vh = f a vh := by
  have h : ∃ b, enc b = enc a ∧ P b vh := ⟨a, rfl, p⟩
  unfold mk
  rw [dif_pos h]
  exact inj _ _ h.choose_spec.2 p h.choose_spec.1
/-- what isinstance may be asked of -/
def gd (vh : VH) : D → Bool
  | .fls _ => false
  | .ref n => (lstAt vh n).isSome
  | _ => true
def intB (d : D) (lo hi : Int) : Bool := match d with
  | .int i => decide (lo ≤ i) && decide (i ≤ hi)
  | _ => false
def wordB (d : D) (ws : List Str) : Bool := match d with
  | .str x => ws.any (· == x)
  | _ => false
def words (ws : List Str) : D := .tup (ws.map .str)
theorem flats_words : ∀ ws : List Str, flats (ws.map .str) = some (ws.map .str)
  | [] => rfl
  | a :: l => by simp only [List.map_cons, flats, flat, flats_words l]
theorem inF_words (x : Str) (ws : List Str) (h : VH) : inF (.str x) (words ws) h = some (ws.any (· == x)) := by
  simp only [words, inF, flat, flats_words, List.any_map]
  congr 1
theorem lstAt_get {vh : VH} {n : Nat} {l : List D} (h : lstAt vh n = some l) : vh[n]? = some (.lst l) := by
  unfold lstAt at h
  split at h
  · rename_i q; cases h; exact q
  · cases h
theorem gd_ref {vh : VH} {n : Nat} (h : gd vh (.ref n) = true) : ∃ l, vh[n]? = some (.lst l) := by
  obtain ⟨l, hl⟩ := Option.isSome_iff_exists.mp h
  exact ⟨l, lstAt_get hl⟩
theorem isi_int (vh : VH) (d : D) (h : gd vh d = true) : isiF d .int vh = some (match d with | .int _ => true | .bl _ => true | _ => false) := by
  cases d with
  | fls => cases h
  | ref n => obtain ⟨l, e⟩ := gd_ref h; simp only [isiF, e]
  | _ => rfl
theorem isi_bool (vh : VH) (d : D) (h : gd vh d = true) : isiF d .bool vh = some (match d with | .bl _ => true | _ => false) := by
  cases d with
  | fls => cases h
  | ref n => obtain ⟨l, e⟩ := gd_ref h; simp only [isiF, e]
  | _ => rfl
theorem isi_str (vh : VH) (d : D) (h : gd vh d = true) : isiF d .str vh = some (match d with | .str _ => true | _ => false) := by
  cases d with
  | fls => cases h
  | ref n => obtain ⟨l, e⟩ := gd_ref h; simp only [isiF, e]
  | _ => rfl
theorem isi_tuple (vh : VH) (d : D) (h : gd vh d = true) : isiF d .tuple vh = some (match d with | .tup _ => true | _ => false) := by
  cases d with
  | fls => cases h
  | ref n => obtain ⟨l, e⟩ := gd_ref h; simp only [isiF, e]
  | _ => rfl
theorem isi_list (vh : VH) (d : D) (h : gd vh d = true) : isiF d .list vh = some (match d with | .ref _ => true | _ => false) := by
  cases d with
  | fls => cases h
  | ref n => obtain ⟨l, e⟩ := gd_ref h; simp only [isiF, e]
  | _ => rfl
theorem brB_dec {α : Type} (b : Bool) (f g : R α) : brB (some b) f g = if b = true then f else g := by cases b <;> rfl
def b_is_int : List S := [.ret (.and (.isi (.var 0) .int) (.and (.not (.isi (.var 0) .bool)) (.chn .le .le (.var 1) (.var 0) (.var 2))))]
def b_check_number : List S := [.ite (.not (.cal "is_int" [.var 0, .var 1, .var 2])) [.rse "BadNumber"] []]
def b_check_sight : List S := [.exp (.cal "check_number" [.var 0, .cst (.int 0), .cst (.int 1)])]
def b_is_word : List S := [.ret (.and (.isi (.var 0) .str) (.cmp .isin (.var 0) (.var 1)))]
noncomputable def m_is_int : Ct := mk (fun a : D × Int × Int => [a.1, .int a.2.1, .int a.2.2]) (fun a vh => gd vh a.1 = true) (fun a vh => some (.ok (.bl (intB a.1 a.2.1 a.2.2)), vh))
theorem dii_inj (a b : D × Int × Int) (h : [a.1, .int a.2.1, .int a.2.2] = [b.1, .int b.2.1, .int b.2.2]) : a = b := by
  simp only [List.cons.injEq, D.int.injEq, and_true] at h
  exact Prod.ext h.1 (Prod.ext h.2.1 h.2.2)
theorem is_int_at (d : D) (lo hi : Int) (vh : VH) (h : gd vh d = true) : m_is_int [d, .int lo, .int hi] vh = some (.ok (.bl (intB d lo hi)), vh) := mk_at (a := (d, lo, hi)) dii_inj h
theorem is_int_ct (Γ : Env) : Ctr Γ 3 3 b_is_int m_is_int := mk_ct (fun _ => rfl) fun ⟨d, lo, hi⟩ vh h => Gc.of_eq (by
  have q1 := isi_int vh d h
  have q2 := isi_bool vh d h
  cases d with
  | int i =>
    simp only [b_is_int, body, runs, run.eq_1, run.eq_2, run.eq_3, run.eq_4, run.eq_5, run.eq_6, run.eq_9, run.eq_11, ev.eq_1, ev.eq_2, ev.eq_3, ev.eq_4, ev.eq_5, ev.eq_6, ev.eq_7, ev.eq_8, ev.eq_9, ev.eq_10, ev.eq_11, ev.eq_12, ev.eq_13, ev.eq_14, ev.eq_15, ev.eq_16, ev.eq_17, ev.eq_18, ev.eq_19, ev.eq_20, ev.eq_21, ev.eq_22, ev.eq_23, ev.eq_24, evs, evo, evc, asg, asgs, List.map_cons, List.map_nil, List.length_cons, List.length_nil, List.replicate, List.append_nil, List.nil_append, List.cons_append, List.getElem?_cons_zero, List.getElem?_cons_succ, List.set_cons_zero, List.set_cons_succ, R.bind_ok, R.bind_ex, if_true, if_false, intOf_i, lift_some, Option.map_some, slc_tup, cmp_eq, cmp_ne, cmp_in, cmp_nin, cmp_is, cmp_isn, cmp_le, cmp_lt, cmp_ge, cmp_gt, bin_add, bin_addt, bin_sub, bin_mod, tru_bl, brB_true, brB_false, toB_some, Nat.sub_self, Nat.zero_add, Nat.reduceAdd, Nat.reduceSub, Nat.reduceLeDiff, Nat.reduceEqDiff, q1, q2, Bool.not_false, brB_d, intB]
    by_cases e : lo ≤ i <;> simp [e, body, runs, run.eq_1, run.eq_2, run.eq_3, run.eq_4, run.eq_5, run.eq_6, run.eq_9, run.eq_11, ev.eq_1, ev.eq_2, ev.eq_3, ev.eq_4, ev.eq_5, ev.eq_6, ev.eq_7, ev.eq_8, ev.eq_9, ev.eq_10, ev.eq_11, ev.eq_12, ev.eq_13, ev.eq_14, ev.eq_15, ev.eq_16, ev.eq_17, ev.eq_18, ev.eq_19, ev.eq_20, ev.eq_21, ev.eq_22, ev.eq_23, ev.eq_24, evs, evo, evc, asg, asgs, List.map_cons, List.map_nil, List.length_cons, List.length_nil, List.replicate, List.append_nil, List.nil_append, List.cons_append, List.getElem?_cons_zero, List.getElem?_cons_succ, List.set_cons_zero, List.set_cons_succ, R.bind_ok, R.bind_ex, if_true, if_false, intOf_i, lift_some, Option.map_some, slc_tup, cmp_eq, cmp_ne, cmp_in, cmp_nin, cmp_is, cmp_isn, cmp_le, cmp_lt, cmp_ge, cmp_gt, bin_add, bin_addt, bin_sub, bin_mod, tru_bl, brB_true, brB_false, toB_some, Nat.sub_self, Nat.zero_add, Nat.reduceAdd, Nat.reduceSub, Nat.reduceLeDiff, Nat.reduceEqDiff]
  | bl b => simp only [b_is_int, body, runs, run.eq_1, run.eq_2, run.eq_3, run.eq_4, run.eq_5, run.eq_6, run.eq_9, run.eq_11, ev.eq_1, ev.eq_2, ev.eq_3, ev.eq_4, ev.eq_5, ev.eq_6, ev.eq_7, ev.eq_8, ev.eq_9, ev.eq_10, ev.eq_11, ev.eq_12, ev.eq_13, ev.eq_14, ev.eq_15, ev.eq_16, ev.eq_17, ev.eq_18, ev.eq_19, ev.eq_20, ev.eq_21, ev.eq_22, ev.eq_23, ev.eq_24, evs, evo, evc, asg, asgs, List.map_cons, List.map_nil, List.length_cons, List.length_nil, List.replicate, List.append_nil, List.nil_append, List.cons_append, List.getElem?_cons_zero, List.getElem?_cons_succ, List.set_cons_zero, List.set_cons_succ, R.bind_ok, R.bind_ex, if_true, if_false, intOf_i, lift_some, Option.map_some, slc_tup, cmp_eq, cmp_ne, cmp_in, cmp_nin, cmp_is, cmp_isn, cmp_le, cmp_lt, cmp_ge, cmp_gt, bin_add, bin_addt, bin_sub, bin_mod, tru_bl, brB_true, brB_false, toB_some, Nat.sub_self, Nat.zero_add, Nat.reduceAdd, Nat.reduceSub, Nat.reduceLeDiff, Nat.reduceEqDiff, q1, q2, Bool.not_true, intB]
  | _ => simp only [b_is_int, body, runs, run.eq_1, run.eq_2, run.eq_3, run.eq_4, run.eq_5, run.eq_6, run.eq_9, run.eq_11, ev.eq_1, ev.eq_2, ev.eq_3, ev.eq_4, ev.eq_5, ev.eq_6, ev.eq_7, ev.eq_8, ev.eq_9, ev.eq_10, ev.eq_11, ev.eq_12, ev.eq_13, ev.eq_14, ev.eq_15, ev.eq_16, ev.eq_17, ev.eq_18, ev.eq_19, ev.eq_20, ev.eq_21, ev.eq_22, ev.eq_23, ev.eq_24, evs, evo, evc, asg, asgs, List.map_cons, List.map_nil, List.length_cons, List.length_nil, List.replicate, List.append_nil, List.nil_append, List.cons_append, List.getElem?_cons_zero, List.getElem?_cons_succ, List.set_cons_zero, List.set_cons_succ, R.bind_ok, R.bind_ex, if_true, if_false, intOf_i, lift_some, Option.map_some, slc_tup, cmp_eq, cmp_ne, cmp_in, cmp_nin, cmp_is, cmp_isn, cmp_le, cmp_lt, cmp_ge, cmp_gt, bin_add, bin_addt, bin_sub, bin_mod, tru_bl, brB_true, brB_false, toB_some, Nat.sub_self, Nat.zero_add, Nat.reduceAdd, Nat.reduceSub, Nat.reduceLeDiff, Nat.reduceEqDiff, q1, q2, Bool.not_true, intB])
noncomputable def m_check_number : Ct := mk (fun a : D × Int × Int => [a.1, .int a.2.1, .int a.2.2]) (fun a vh => gd vh a.1 = true) (fun a vh => if intB a.1 a.2.1 a.2.2 = true then some (.ok .non, vh) else some (.ex "BadNumber", vh))
theorem check_number_at (d : D) (lo hi : Int) (vh : VH) (h : gd vh d = true) : m_check_number [d, .int lo, .int hi] vh = if intB d lo hi = true then some (.ok .non, vh) else some (.ex "BadNumber", vh) := mk_at (a := (d, lo, hi)) dii_inj h
theorem check_number_ct (Γ : Env) (h1 : Γ.fn "is_int" = some m_is_int) : Ctr Γ 3 3 b_check_number m_check_number := mk_ct (fun _ => rfl) fun ⟨d, lo, hi⟩ vh h => Gc.of_eq (by
  have q1 := is_int_at d lo hi vh h
  simp only [b_check_number, body, runs, run.eq_1, run.eq_2, run.eq_3, run.eq_4, run.eq_5, run.eq_6, run.eq_9, run.eq_11, ev.eq_1, ev.eq_2, ev.eq_3, ev.eq_4, ev.eq_5, ev.eq_6, ev.eq_7, ev.eq_8, ev.eq_9, ev.eq_10, ev.eq_11, ev.eq_12, ev.eq_13, ev.eq_14, ev.eq_15, ev.eq_16, ev.eq_17, ev.eq_18, ev.eq_19, ev.eq_20, ev.eq_21, ev.eq_22, ev.eq_23, ev.eq_24, evs, evo, evc, asg, asgs, List.map_cons, List.map_nil, List.length_cons, List.length_nil, List.replicate, List.append_nil, List.nil_append, List.cons_append, List.getElem?_cons_zero, List.getElem?_cons_succ, List.set_cons_zero, List.set_cons_succ, R.bind_ok, R.bind_ex, if_true, if_false, intOf_i, lift_some, Option.map_some, slc_tup, cmp_eq, cmp_ne, cmp_in, cmp_nin, cmp_is, cmp_isn, cmp_le, cmp_lt, cmp_ge, cmp_gt, bin_add, bin_addt, bin_sub, bin_mod, tru_bl, brB_true, brB_false, toB_some, Nat.sub_self, Nat.zero_add, Nat.reduceAdd, Nat.reduceSub, Nat.reduceLeDiff, Nat.reduceEqDiff, h1, q1]
  cases intB d lo hi <;> simp [body, runs, run.eq_1, run.eq_2, run.eq_3, run.eq_4, run.eq_5, run.eq_6, run.eq_9, run.eq_11, ev.eq_1, ev.eq_2, ev.eq_3, ev.eq_4, ev.eq_5, ev.eq_6, ev.eq_7, ev.eq_8, ev.eq_9, ev.eq_10, ev.eq_11, ev.eq_12, ev.eq_13, ev.eq_14, ev.eq_15, ev.eq_16, ev.eq_17, ev.eq_18, ev.eq_19, ev.eq_20, ev.eq_21, ev.eq_22, ev.eq_23, ev.eq_24, evs, evo, evc, asg, asgs, List.map_cons, List.map_nil, List.length_cons, List.length_nil, List.replicate, List.append_nil, List.nil_append, List.cons_append, List.getElem?_cons_zero, List.getElem?_cons_succ, List.set_cons_zero, List.set_cons_succ, R.bind_ok, R.bind_ex, if_true, if_false, intOf_i, lift_some, Option.map_some, slc_tup, cmp_eq, cmp_ne, cmp_in, cmp_nin, cmp_is, cmp_isn, cmp_le, cmp_lt, cmp_ge, cmp_gt, bin_add, bin_addt, bin_sub, bin_mod, tru_bl, brB_true, brB_false, toB_some, Nat.sub_self, Nat.zero_add, Nat.reduceAdd, Nat.reduceSub, Nat.reduceLeDiff, Nat.reduceEqDiff])
noncomputable def m_check_sight : Ct := mk (fun a : D => [a]) (fun a vh => gd vh a = true) (fun a vh => if intB a 0 1 = true then some (.ok .non, vh) else some (.ex "BadNumber", vh))
theorem d_inj (a b : D) (h : [a] = [b]) : a = b := by simpa using h
theorem check_sight_at (d : D) (vh : VH) (h : gd vh d = true) : m_check_sight [d] vh = if intB d 0 1 = true then some (.ok .non, vh) else some (.ex "BadNumber", vh) := by unfold m_check_sight; exact mk_at d_inj h
theorem check_sight_ct (Γ : Env) (h1 : Γ.fn "check_number" = some m_check_number) : Ctr Γ 1 1 b_check_sight m_check_sight := by
  unfold m_check_sight
  refine mk_ct (fun _ => rfl) fun d vh h => Gc.of_eq ?_
  have q1 := check_number_at d 0 1 vh h
  simp only [b_check_sight, body, runs, run.eq_1, run.eq_2, run.eq_3, run.eq_4, run.eq_5, run.eq_6, run.eq_9, run.eq_11, ev.eq_1, ev.eq_2, ev.eq_3, ev.eq_4, ev.eq_5, ev.eq_6, ev.eq_7, ev.eq_8, ev.eq_9, ev.eq_10, ev.eq_11, ev.eq_12, ev.eq_13, ev.eq_14, ev.eq_15, ev.eq_16, ev.eq_17, ev.eq_18, ev.eq_19, ev.eq_20, ev.eq_21, ev.eq_22, ev.eq_23, ev.eq_24, evs, evo, evc, asg, asgs, List.map_cons, List.map_nil, List.length_cons, List.length_nil, List.replicate, List.append_nil, List.nil_append, List.cons_append, List.getElem?_cons_zero, List.getElem?_cons_succ, List.set_cons_zero, List.set_cons_succ, R.bind_ok, R.bind_ex, if_true, if_false, intOf_i, lift_some, Option.map_some, slc_tup, cmp_eq, cmp_ne, cmp_in, cmp_nin, cmp_is, cmp_isn, cmp_le, cmp_lt, cmp_ge, cmp_gt, bin_add, bin_addt, bin_sub, bin_mod, tru_bl, brB_true, brB_false, toB_some, Nat.sub_self, Nat.zero_add, Nat.reduceAdd, Nat.reduceSub, Nat.reduceLeDiff, Nat.reduceEqDiff, h1, q1]
  cases intB d 0 1 <;> simp [body, runs, run.eq_1, run.eq_2, run.eq_3, run.eq_4, run.eq_5, run.eq_6, run.eq_9, run.eq_11, ev.eq_1, ev.eq_2, ev.eq_3, ev.eq_4, ev.eq_5, ev.eq_6, ev.eq_7, ev.eq_8, ev.eq_9, ev.eq_10, ev.eq_11, ev.eq_12, ev.eq_13, ev.eq_14, ev.eq_15, ev.eq_16, ev.eq_17, ev.eq_18, ev.eq_19, ev.eq_20, ev.eq_21, ev.eq_22, ev.eq_23, ev.eq_24, evs, evo, evc, asg, asgs, List.map_cons, List.map_nil, List.length_cons, List.length_nil, List.replicate, List.append_nil, List.nil_append, List.cons_append, List.getElem?_cons_zero, List.getElem?_cons_succ, List.set_cons_zero, List.set_cons_succ, R.bind_ok, R.bind_ex, if_true, if_false, intOf_i, lift_some, Option.map_some, slc_tup, cmp_eq, cmp_ne, cmp_in, cmp_nin, cmp_is, cmp_isn, cmp_le, cmp_lt, cmp_ge, cmp_gt, bin_add, bin_addt, bin_sub, bin_mod, tru_bl, brB_true, brB_false, toB_some, Nat.sub_self, Nat.zero_add, Nat.reduceAdd, Nat.reduceSub, Nat.reduceLeDiff, Nat.reduceEqDiff]
noncomputable def m_is_word : Ct := mk (fun a : D × List Str => [a.1, words a.2]) (fun a vh => gd vh a.1 = true) (fun a vh => some (.ok (.bl (wordB a.1 a.2)), vh))
theorem words_inj : ∀ a b : List Str, words a = words b → a = b
  | [], [], _ => rfl
  | [], _ :: _, h => by simp [words] at h
  | _ :: _, [], h => by simp [words] at h
  | x :: a, y :: b, h => by
    simp only [words, List.map_cons, D.tup.injEq, List.cons.injEq, D.str.injEq] at h
    rw [h.1, words_inj a b (by rw [words, words, h.2])]
theorem is_word_at (d : D) (ws : List Str) (vh : VH) (h : gd vh d = true) : m_is_word [d, words ws] vh = some (.ok (.bl (wordB d ws)), vh) := mk_at (a := (d, ws)) (fun a b h => by
  simp only [List.cons.injEq, and_true] at h
  exact Prod.ext h.1 (words_inj _ _ h.2)) h
theorem is_word_ct (Γ : Env) : Ctr Γ 2 2 b_is_word m_is_word := mk_ct (fun _ => rfl) fun ⟨d, ws⟩ vh h => Gc.of_eq (by
  have q1 := isi_str vh d h
  cases d with
  | str i => simp only [b_is_word, body, runs, run.eq_1, run.eq_2, run.eq_3, run.eq_4, run.eq_5, run.eq_6, run.eq_9, run.eq_11, ev.eq_1, ev.eq_2, ev.eq_3, ev.eq_4, ev.eq_5, ev.eq_6, ev.eq_7, ev.eq_8, ev.eq_9, ev.eq_10, ev.eq_11, ev.eq_12, ev.eq_13, ev.eq_14, ev.eq_15, ev.eq_16, ev.eq_17, ev.eq_18, ev.eq_19, ev.eq_20, ev.eq_21, ev.eq_22, ev.eq_23, ev.eq_24, evs, evo, evc, asg, asgs, List.map_cons, List.map_nil, List.length_cons, List.length_nil, List.replicate, List.append_nil, List.nil_append, List.cons_append, List.getElem?_cons_zero, List.getElem?_cons_succ, List.set_cons_zero, List.set_cons_succ, R.bind_ok, R.bind_ex, if_true, if_false, intOf_i, lift_some, Option.map_some, slc_tup, cmp_eq, cmp_ne, cmp_in, cmp_nin, cmp_is, cmp_isn, cmp_le, cmp_lt, cmp_ge, cmp_gt, bin_add, bin_addt, bin_sub, bin_mod, tru_bl, brB_true, brB_false, toB_some, Nat.sub_self, Nat.zero_add, Nat.reduceAdd, Nat.reduceSub, Nat.reduceLeDiff, Nat.reduceEqDiff, q1, inF_words, wordB]
  | _ => simp only [b_is_word, body, runs, run.eq_1, run.eq_2, run.eq_3, run.eq_4, run.eq_5, run.eq_6, run.eq_9, run.eq_11, ev.eq_1, ev.eq_2, ev.eq_3, ev.eq_4, ev.eq_5, ev.eq_6, ev.eq_7, ev.eq_8, ev.eq_9, ev.eq_10, ev.eq_11, ev.eq_12, ev.eq_13, ev.eq_14, ev.eq_15, ev.eq_16, ev.eq_17, ev.eq_18, ev.eq_19, ev.eq_20, ev.eq_21, ev.eq_22, ev.eq_23, ev.eq_24, evs, evo, evc, asg, asgs, List.map_cons, List.map_nil, List.length_cons, List.length_nil, List.replicate, List.append_nil, List.nil_append, List.cons_append, List.getElem?_cons_zero, List.getElem?_cons_succ, List.set_cons_zero, List.set_cons_succ, R.bind_ok, R.bind_ex, if_true, if_false, intOf_i, lift_some, Option.map_some, slc_tup, cmp_eq, cmp_ne, cmp_in, cmp_nin, cmp_is, cmp_isn, cmp_le, cmp_lt, cmp_ge, cmp_gt, bin_add, bin_addt, bin_sub, bin_mod, tru_bl, brB_true, brB_false, toB_some, Nat.sub_self, Nat.zero_add, Nat.reduceAdd, Nat.reduceSub, Nat.reduceLeDiff, Nat.reduceEqDiff, q1, wordB])
/-! ### keys, rows -/
def keysL : List Str := ["next", "back", "again", "keep", "home", "pause"]
def b_is_key : List S := [.ret (.and (.isi (.var 0) .str) (.cmp .isin (.var 0) (.glb "KEYS")))]
def b_is_row : List S := [.ret (.and (.isi (.var 0) .list) (.and (.cmp .le (.bfn .len [.var 0]) (.glb "MOST_KEYS")) (.bfn .all [.cpr [1] (.nm 1) (.seq (.var 0)) none (.cal "is_key" [.var 1])])))]
def b_check_row : List S := [.ite (.not (.cal "is_row" [.var 0])) [.rse "BadKeys"] []]
noncomputable def m_is_key : Ct := mk (fun a : D => [a]) (fun a vh => gd vh a = true) (fun a vh => some (.ok (.bl (wordB a keysL)), vh))
theorem is_key_at (d : D) (vh : VH) (h : gd vh d = true) : m_is_key [d] vh = some (.ok (.bl (wordB d keysL)), vh) := by unfold m_is_key; exact mk_at d_inj h
theorem is_key_ct (Γ : Env) (h1 : Γ.cst "KEYS" = some (words keysL)) : Ctr Γ 1 1 b_is_key m_is_key := by
  unfold m_is_key
  refine mk_ct (fun _ => rfl) fun d vh h => Gc.of_eq ?_
  have q1 := isi_str vh d h
  cases d with
  | str i => simp only [b_is_key, body, runs, run.eq_1, run.eq_2, run.eq_3, run.eq_4, run.eq_5, run.eq_6, run.eq_9, run.eq_11, ev.eq_1, ev.eq_2, ev.eq_3, ev.eq_4, ev.eq_5, ev.eq_6, ev.eq_7, ev.eq_8, ev.eq_9, ev.eq_10, ev.eq_11, ev.eq_12, ev.eq_13, ev.eq_14, ev.eq_15, ev.eq_16, ev.eq_17, ev.eq_18, ev.eq_19, ev.eq_20, ev.eq_21, ev.eq_22, ev.eq_23, ev.eq_24, evs, evo, evc, asg, asgs, List.map_cons, List.map_nil, List.length_cons, List.length_nil, List.replicate, List.append_nil, List.nil_append, List.cons_append, List.getElem?_cons_zero, List.getElem?_cons_succ, List.set_cons_zero, List.set_cons_succ, R.bind_ok, R.bind_ex, if_true, if_false, intOf_i, lift_some, Option.map_some, slc_tup, cmp_eq, cmp_ne, cmp_in, cmp_nin, cmp_is, cmp_isn, cmp_le, cmp_lt, cmp_ge, cmp_gt, bin_add, bin_addt, bin_sub, bin_mod, tru_bl, brB_true, brB_false, toB_some, Nat.sub_self, Nat.zero_add, Nat.reduceAdd, Nat.reduceSub, Nat.reduceLeDiff, Nat.reduceEqDiff, q1, h1, inF_words, wordB]
  | _ => simp only [b_is_key, body, runs, run.eq_1, run.eq_2, run.eq_3, run.eq_4, run.eq_5, run.eq_6, run.eq_9, run.eq_11, ev.eq_1, ev.eq_2, ev.eq_3, ev.eq_4, ev.eq_5, ev.eq_6, ev.eq_7, ev.eq_8, ev.eq_9, ev.eq_10, ev.eq_11, ev.eq_12, ev.eq_13, ev.eq_14, ev.eq_15, ev.eq_16, ev.eq_17, ev.eq_18, ev.eq_19, ev.eq_20, ev.eq_21, ev.eq_22, ev.eq_23, ev.eq_24, evs, evo, evc, asg, asgs, List.map_cons, List.map_nil, List.length_cons, List.length_nil, List.replicate, List.append_nil, List.nil_append, List.cons_append, List.getElem?_cons_zero, List.getElem?_cons_succ, List.set_cons_zero, List.set_cons_succ, R.bind_ok, R.bind_ex, if_true, if_false, intOf_i, lift_some, Option.map_some, slc_tup, cmp_eq, cmp_ne, cmp_in, cmp_nin, cmp_is, cmp_isn, cmp_le, cmp_lt, cmp_ge, cmp_gt, bin_add, bin_addt, bin_sub, bin_mod, tru_bl, brB_true, brB_false, toB_some, Nat.sub_self, Nat.zero_add, Nat.reduceAdd, Nat.reduceSub, Nat.reduceLeDiff, Nat.reduceEqDiff, q1, wordB]
theorem app_get {vh : VH} {n : Nat} {c : Cell} (l : VH) (h : vh[n]? = some c) : (vh ++ l)[n]? = some c := by
  rw [List.getElem?_append_left (List.getElem?_eq_some_iff.mp h).1]; exact h
theorem lstAt_of {vh : VH} {n : Nat} {l : List D} (h : vh[n]? = some (.lst l)) : lstAt vh n = some l := by
  unfold lstAt; rw [h]
theorem gd_app {vh : VH} (l : VH) (d : D) (h : gd vh d = true) : gd (vh ++ l) d = true := by
  cases d with
  | ref n => obtain ⟨x, e⟩ := gd_ref h; simp only [gd, lstAt_of (app_get l e), Option.isSome_some]
  | fls => cases h
  | _ => rfl
theorem last_get (vh : VH) (c : Cell) : (vh ++ [c])[vh.length]? = some c := by simp
theorem last_set (vh : VH) (c c' : Cell) : (vh ++ [c]).set vh.length c' = vh ++ [c'] := by simp
/-- a comprehension whose turns change nothing -/
theorem loopC_fm {vh : VH} {gs : List (Nat × Cell)} {f : D → VH → R (Option D)} (hg : ∀ p ∈ gs, vh[p.1]? = some p.2) (g : D → Option D) : ∀ (ds acc : List D), (∀ d ∈ ds, ∀ l : List Cell, f d (vh ++ l) = some (.ok (g d), vh ++ l)) → acc.length + ds.length ≤ lim → loopC gs vh.length f ds (vh ++ [.lst acc]) = some (.ok (.ref vh.length), vh ++ [.lst (acc ++ ds.filterMap g)])
  | [], acc, _, _ => by
    have : grd (vh ++ [.lst acc]) gs = true := List.all_eq_true.mpr fun p hp => by rw [app_get _ (hg p hp)]; simp
    simp only [loopC, this, if_true, List.filterMap_nil, List.append_nil]
  | d :: ds, acc, hf, hl => by
    have q : grd (vh ++ [.lst acc]) gs = true := List.all_eq_true.mpr fun p hp => by rw [app_get _ (hg p hp)]; simp
    simp only [List.length_cons] at hl
    simp only [loopC, q, if_true, hf d List.mem_cons_self, noEx_ok, R.bind_ok]
    cases e : g d with
    | none =>
      simp only [List.filterMap_cons, e]
      exact loopC_fm hg g ds acc (fun d hd => hf d (List.mem_cons_of_mem _ hd)) (by omega)
    | some y =>
      have h2 : acc.length < lim := by omega
      simp only [List.filterMap_cons, e, lstAt_of (last_get _ _), h2, if_true, last_set]
      rw [loopC_fm hg g ds (acc ++ [y]) (fun d hd => hf d (List.mem_cons_of_mem _ hd)) (by rw [List.length_append, List.length_singleton]; omega)]
      rw [List.append_assoc, List.singleton_append]
theorem loopC_map {vh : VH} {gs : List (Nat × Cell)} {f : D → VH → R (Option D)} (hg : ∀ p ∈ gs, vh[p.1]? = some p.2) (g : D → D) (ds : List D) (hf : ∀ d ∈ ds, ∀ l : List Cell, f d (vh ++ l) = some (.ok (some (g d)), vh ++ l)) (hl : ds.length ≤ lim) : loopC gs vh.length f ds (vh ++ [.lst []]) = some (.ok (.ref vh.length), vh ++ [.lst (ds.map g)]) := by
  rw [loopC_fm hg (fun d => some (g d)) ds [] hf (by simpa using hl)]
  rw [List.nil_append, show (fun d => some (g d)) = some ∘ g from rfl, List.filterMap_eq_map]
theorem allB_map (f : D → Bool) : ∀ l : List D, allB (l.map fun d => .bl (f d)) = some (l.all f)
  | [] => rfl
  | a :: l => by simp only [List.map_cons, allB, allB_map f l, Option.map_some, List.all_cons]
theorem ev_cprF {Γ : Env} {vs : List Nat} {g : T} {it : I} {c : Option E} {e : E} {fr : Fr} {vh vh1 : VH} {ds : List D} {gs : List (Nat × Cell)} (gf : D → Option D) (hI : evI Γ it fr vh = some (.ok (ds, gs), vh1)) (hg : ∀ p ∈ gs, vh1[p.1]? = some p.2)
    (hf : ∀ d ∈ ds, ∀ l : VH, ((asg Γ g d (wipeF fr vs) (vh1 ++ l)).bind fun fr' h => (evc Γ c fr' h).bind fun b h => if b = true then (ev Γ e fr' h).bind (fun y h => some (.ok (some y), h)) else some (.ok none, h)) = some (.ok (gf d), vh1 ++ l)) (hl : ds.length ≤ 10000000) :
    ev Γ (.cpr vs g it c e) fr vh = some (.ok (.ref vh1.length), vh1 ++ [.lst (ds.filterMap gf)]) := by
  rw [ev.eq_25, hI, R.bind_ok]
  exact loopC_fm hg gf ds [] hf (by show _ ≤ 16777216; simp only [List.length_nil]; omega)
theorem ev_cpr {Γ : Env} {vs : List Nat} {g : T} {it : I} {c : Option E} {e : E} {fr : Fr} {vh vh1 : VH} {ds : List D} {gs : List (Nat × Cell)} (gf : D → D) (hI : evI Γ it fr vh = some (.ok (ds, gs), vh1)) (hg : ∀ p ∈ gs, vh1[p.1]? = some p.2)
    (hf : ∀ d ∈ ds, ∀ l : VH, ((asg Γ g d (wipeF fr vs) (vh1 ++ l)).bind fun fr' h => (evc Γ c fr' h).bind fun b h => if b = true then (ev Γ e fr' h).bind (fun y h => some (.ok (some y), h)) else some (.ok none, h)) = some (.ok (some (gf d)), vh1 ++ l)) (hl : ds.length ≤ 10000000) :
    ev Γ (.cpr vs g it c e) fr vh = some (.ok (.ref vh1.length), vh1 ++ [.lst (ds.map gf)]) := by
  rw [ev.eq_25, hI, R.bind_ok]
  exact loopC_map hg gf ds hf (by show _ ≤ 16777216; omega)
def rowB (vh : VH) (d : D) : Bool := match d with
  | .ref n => (match lstAt vh n with
    | some xs => decide (xs.length ≤ 60) && xs.all (wordB · keysL)
    | none => false)
  | _ => false
/-- a list of what may be asked of -/
def gdL (vh : VH) (d : D) : Bool := match d with
  | .ref n => (match lstAt vh n with
    | some xs => xs.all (gd vh) && decide (xs.length ≤ 10000)
    | none => false)
  | d => gd vh d
theorem gdL_gd {vh : VH} {d : D} (h : gdL vh d = true) : gd vh d = true := by
  cases d with
  | ref n =>
    unfold gdL at h
    simp only at h
    split at h
    · rename_i q; simp only [gd, q, Option.isSome_some]
    · cases h
  | _ => exact h
noncomputable def m_is_row : Ct := mk (fun a : D => [a]) (fun a vh => gdL vh a = true) (fun a vh => some (.ok (.bl (rowB vh a)), vh))
theorem is_row_at (d : D) (vh : VH) (h : gdL vh d = true) : m_is_row [d] vh = some (.ok (.bl (rowB vh d)), vh) := by unfold m_is_row; exact mk_at d_inj h
theorem is_row_ct (Γ : Env) (h1 : Γ.fn "is_key" = some m_is_key) (h2 : Γ.cst "MOST_KEYS" = some (.int 60)) : Ctr Γ 2 1 b_is_row m_is_row := by
  unfold m_is_row
  refine mk_ct (fun _ => rfl) fun d vh h => ?_
  have q1 := isi_list vh d (gdL_gd h)
  cases d with
  | ref n =>
    unfold gdL at h
    simp only at h
    cases e : lstAt vh n with
    | none => rw [e] at h; cases h
    | some xs =>
      rw [e] at h
      simp only [Bool.and_eq_true, decide_eq_true_eq] at h
      obtain ⟨ha, hlen⟩ := h
      have e' := lstAt_get e
      by_cases hs : (xs.length : Int) ≤ 60
      · refine Gc.pure (junk := [.lst (xs.map fun d => .bl (wordB d keysL))]) rfl ?_
        have hs' : xs.length ≤ 60 := by omega
        have c : ev Γ (.cpr [1] (.nm 1) (.seq (.var 0)) none (.cal "is_key" [.var 1])) [some (.ref n), none] vh = some (.ok (.ref vh.length), vh ++ [.lst (xs.map fun d => .bl (wordB d keysL))]) :=
          ev_cpr (gs := [(n, .lst xs)]) _ (by simp only [evI, body, runs, run.eq_1, run.eq_2, run.eq_3, run.eq_4, run.eq_5, run.eq_6, run.eq_9, run.eq_11, ev.eq_1, ev.eq_2, ev.eq_3, ev.eq_4, ev.eq_5, ev.eq_6, ev.eq_7, ev.eq_8, ev.eq_9, ev.eq_10, ev.eq_11, ev.eq_12, ev.eq_13, ev.eq_14, ev.eq_15, ev.eq_16, ev.eq_17, ev.eq_18, ev.eq_19, ev.eq_20, ev.eq_21, ev.eq_22, ev.eq_23, ev.eq_24, evs, evo, evc, asg, asgs, List.map_cons, List.map_nil, List.length_cons, List.length_nil, List.replicate, List.append_nil, List.nil_append, List.cons_append, List.getElem?_cons_zero, List.getElem?_cons_succ, List.set_cons_zero, List.set_cons_succ, R.bind_ok, R.bind_ex, if_true, if_false, intOf_i, lift_some, Option.map_some, slc_tup, cmp_eq, cmp_ne, cmp_in, cmp_nin, cmp_is, cmp_isn, cmp_le, cmp_lt, cmp_ge, cmp_gt, bin_add, bin_addt, bin_sub, bin_mod, tru_bl, brB_true, brB_false, toB_some, Nat.sub_self, Nat.zero_add, Nat.reduceAdd, Nat.reduceSub, Nat.reduceLeDiff, Nat.reduceEqDiff, seqF, e']) (by simpa using e') (fun d hd l => by
            have q := is_key_at d (vh ++ l) (gd_app l d (List.all_eq_true.mp ha d hd))
            simp only [body, runs, run.eq_1, run.eq_2, run.eq_3, run.eq_4, run.eq_5, run.eq_6, run.eq_9, run.eq_11, ev.eq_1, ev.eq_2, ev.eq_3, ev.eq_4, ev.eq_5, ev.eq_6, ev.eq_7, ev.eq_8, ev.eq_9, ev.eq_10, ev.eq_11, ev.eq_12, ev.eq_13, ev.eq_14, ev.eq_15, ev.eq_16, ev.eq_17, ev.eq_18, ev.eq_19, ev.eq_20, ev.eq_21, ev.eq_22, ev.eq_23, ev.eq_24, evs, evo, evc, asg, asgs, List.map_cons, List.map_nil, List.length_cons, List.length_nil, List.replicate, List.append_nil, List.nil_append, List.cons_append, List.getElem?_cons_zero, List.getElem?_cons_succ, List.set_cons_zero, List.set_cons_succ, R.bind_ok, R.bind_ex, if_true, if_false, intOf_i, lift_some, Option.map_some, slc_tup, cmp_eq, cmp_ne, cmp_in, cmp_nin, cmp_is, cmp_isn, cmp_le, cmp_lt, cmp_ge, cmp_gt, bin_add, bin_addt, bin_sub, bin_mod, tru_bl, brB_true, brB_false, toB_some, Nat.sub_self, Nat.zero_add, Nat.reduceAdd, Nat.reduceSub, Nat.reduceLeDiff, Nat.reduceEqDiff, wipeF, h1, q]) (by omega)
        simp only [b_is_row, body, runs, run.eq_1, run.eq_2, run.eq_3, run.eq_4, run.eq_5, run.eq_6, run.eq_9, run.eq_11, ev.eq_1, ev.eq_2, ev.eq_3, ev.eq_4, ev.eq_5, ev.eq_6, ev.eq_7, ev.eq_8, ev.eq_9, ev.eq_10, ev.eq_11, ev.eq_12, ev.eq_13, ev.eq_14, ev.eq_15, ev.eq_16, ev.eq_17, ev.eq_18, ev.eq_19, ev.eq_20, ev.eq_21, ev.eq_22, ev.eq_23, ev.eq_24, evs, evo, evc, asg, asgs, List.map_cons, List.map_nil, List.length_cons, List.length_nil, List.replicate, List.append_nil, List.nil_append, List.cons_append, List.getElem?_cons_zero, List.getElem?_cons_succ, List.set_cons_zero, List.set_cons_succ, R.bind_ok, R.bind_ex, if_true, if_false, intOf_i, lift_some, Option.map_some, slc_tup, cmp_eq, cmp_ne, cmp_in, cmp_nin, cmp_is, cmp_isn, cmp_le, cmp_lt, cmp_ge, cmp_gt, bin_add, bin_addt, bin_sub, bin_mod, tru_bl, brB_true, brB_false, toB_some, Nat.sub_self, Nat.zero_add, Nat.reduceAdd, Nat.reduceSub, Nat.reduceLeDiff, Nat.reduceEqDiff, q1, bfF, e', h2, hs, decide_true, c, lstAt_of (last_get _ _), allB_map, rowB, e, hs', Bool.true_and]
      · refine Gc.of_eq ?_
        have hs' : ¬ xs.length ≤ 60 := by omega
        simp only [b_is_row, body, runs, run.eq_1, run.eq_2, run.eq_3, run.eq_4, run.eq_5, run.eq_6, run.eq_9, run.eq_11, ev.eq_1, ev.eq_2, ev.eq_3, ev.eq_4, ev.eq_5, ev.eq_6, ev.eq_7, ev.eq_8, ev.eq_9, ev.eq_10, ev.eq_11, ev.eq_12, ev.eq_13, ev.eq_14, ev.eq_15, ev.eq_16, ev.eq_17, ev.eq_18, ev.eq_19, ev.eq_20, ev.eq_21, ev.eq_22, ev.eq_23, ev.eq_24, evs, evo, evc, asg, asgs, List.map_cons, List.map_nil, List.length_cons, List.length_nil, List.replicate, List.append_nil, List.nil_append, List.cons_append, List.getElem?_cons_zero, List.getElem?_cons_succ, List.set_cons_zero, List.set_cons_succ, R.bind_ok, R.bind_ex, if_true, if_false, intOf_i, lift_some, Option.map_some, slc_tup, cmp_eq, cmp_ne, cmp_in, cmp_nin, cmp_is, cmp_isn, cmp_le, cmp_lt, cmp_ge, cmp_gt, bin_add, bin_addt, bin_sub, bin_mod, tru_bl, brB_true, brB_false, toB_some, Nat.sub_self, Nat.zero_add, Nat.reduceAdd, Nat.reduceSub, Nat.reduceLeDiff, Nat.reduceEqDiff, q1, bfF, e', h2, hs, decide_false, rowB, e, hs', Bool.false_and]
  | _ => exact Gc.of_eq (by simp only [b_is_row, body, runs, run.eq_1, run.eq_2, run.eq_3, run.eq_4, run.eq_5, run.eq_6, run.eq_9, run.eq_11, ev.eq_1, ev.eq_2, ev.eq_3, ev.eq_4, ev.eq_5, ev.eq_6, ev.eq_7, ev.eq_8, ev.eq_9, ev.eq_10, ev.eq_11, ev.eq_12, ev.eq_13, ev.eq_14, ev.eq_15, ev.eq_16, ev.eq_17, ev.eq_18, ev.eq_19, ev.eq_20, ev.eq_21, ev.eq_22, ev.eq_23, ev.eq_24, evs, evo, evc, asg, asgs, List.map_cons, List.map_nil, List.length_cons, List.length_nil, List.replicate, List.append_nil, List.nil_append, List.cons_append, List.getElem?_cons_zero, List.getElem?_cons_succ, List.set_cons_zero, List.set_cons_succ, R.bind_ok, R.bind_ex, if_true, if_false, intOf_i, lift_some, Option.map_some, slc_tup, cmp_eq, cmp_ne, cmp_in, cmp_nin, cmp_is, cmp_isn, cmp_le, cmp_lt, cmp_ge, cmp_gt, bin_add, bin_addt, bin_sub, bin_mod, tru_bl, brB_true, brB_false, toB_some, Nat.sub_self, Nat.zero_add, Nat.reduceAdd, Nat.reduceSub, Nat.reduceLeDiff, Nat.reduceEqDiff, q1, rowB])
noncomputable def m_check_row : Ct := mk (fun a : D => [a]) (fun a vh => gdL vh a = true) (fun a vh => if rowB vh a = true then some (.ok .non, vh) else some (.ex "BadKeys", vh))
theorem check_row_at (d : D) (vh : VH) (h : gdL vh d = true) : m_check_row [d] vh = if rowB vh d = true then some (.ok .non, vh) else some (.ex "BadKeys", vh) := by unfold m_check_row; exact mk_at d_inj h
theorem check_row_ct (Γ : Env) (h1 : Γ.fn "is_row" = some m_is_row) : Ctr Γ 1 1 b_check_row m_check_row := by
  unfold m_check_row
  refine mk_ct (fun _ => rfl) fun d vh h => Gc.of_eq ?_
  have q1 := is_row_at d vh h
  simp only [b_check_row, body, runs, run.eq_1, run.eq_2, run.eq_3, run.eq_4, run.eq_5, run.eq_6, run.eq_9, run.eq_11, ev.eq_1, ev.eq_2, ev.eq_3, ev.eq_4, ev.eq_5, ev.eq_6, ev.eq_7, ev.eq_8, ev.eq_9, ev.eq_10, ev.eq_11, ev.eq_12, ev.eq_13, ev.eq_14, ev.eq_15, ev.eq_16, ev.eq_17, ev.eq_18, ev.eq_19, ev.eq_20, ev.eq_21, ev.eq_22, ev.eq_23, ev.eq_24, evs, evo, evc, asg, asgs, List.map_cons, List.map_nil, List.length_cons, List.length_nil, List.replicate, List.append_nil, List.nil_append, List.cons_append, List.getElem?_cons_zero, List.getElem?_cons_succ, List.set_cons_zero, List.set_cons_succ, R.bind_ok, R.bind_ex, if_true, if_false, intOf_i, lift_some, Option.map_some, slc_tup, cmp_eq, cmp_ne, cmp_in, cmp_nin, cmp_is, cmp_isn, cmp_le, cmp_lt, cmp_ge, cmp_gt, bin_add, bin_addt, bin_sub, bin_mod, tru_bl, brB_true, brB_false, toB_some, Nat.sub_self, Nat.zero_add, Nat.reduceAdd, Nat.reduceSub, Nat.reduceLeDiff, Nat.reduceEqDiff, h1, q1]
  cases rowB vh d <;> simp [body, runs, run.eq_1, run.eq_2, run.eq_3, run.eq_4, run.eq_5, run.eq_6, run.eq_9, run.eq_11, ev.eq_1, ev.eq_2, ev.eq_3, ev.eq_4, ev.eq_5, ev.eq_6, ev.eq_7, ev.eq_8, ev.eq_9, ev.eq_10, ev.eq_11, ev.eq_12, ev.eq_13, ev.eq_14, ev.eq_15, ev.eq_16, ev.eq_17, ev.eq_18, ev.eq_19, ev.eq_20, ev.eq_21, ev.eq_22, ev.eq_23, ev.eq_24, evs, evo, evc, asg, asgs, List.map_cons, List.map_nil, List.length_cons, List.length_nil, List.replicate, List.append_nil, List.nil_append, List.cons_append, List.getElem?_cons_zero, List.getElem?_cons_succ, List.set_cons_zero, List.set_cons_succ, R.bind_ok, R.bind_ex, if_true, if_false, intOf_i, lift_some, Option.map_some, slc_tup, cmp_eq, cmp_ne, cmp_in, cmp_nin, cmp_is, cmp_isn, cmp_le, cmp_lt, cmp_ge, cmp_gt, bin_add, bin_addt, bin_sub, bin_mod, tru_bl, brB_true, brB_false, toB_some, Nat.sub_self, Nat.zero_add, Nat.reduceAdd, Nat.reduceSub, Nat.reduceLeDiff, Nat.reduceEqDiff]
theorem loopC_A {α : Type} {vh : VH} {gs : List (Nat × Cell)} {f : D → VH → R (Option D)} (hg : ∀ p ∈ gs, vh[p.1]? = some p.2) (enc : α → D) (g : α → Option D) : ∀ (xs : List α) (acc : List D), (∀ x ∈ xs, ∀ l : List Cell, f (enc x) (vh ++ l) = some (.ok (g x), vh ++ l)) → acc.length + xs.length ≤ lim → loopC gs vh.length f (xs.map enc) (vh ++ [.lst acc]) = some (.ok (.ref vh.length), vh ++ [.lst (acc ++ xs.filterMap g)])
  | [], acc, _, _ => by
    have : grd (vh ++ [.lst acc]) gs = true := List.all_eq_true.mpr fun p hp => by rw [app_get _ (hg p hp)]; simp
    simp only [List.map_nil, loopC, this, if_true, List.filterMap_nil, List.append_nil]
  | d :: ds, acc, hf, hl => by
    have q : grd (vh ++ [.lst acc]) gs = true := List.all_eq_true.mpr fun p hp => by rw [app_get _ (hg p hp)]; simp
    simp only [List.length_cons] at hl
    simp only [List.map_cons, loopC, q, if_true, hf d List.mem_cons_self, noEx_ok, R.bind_ok]
    cases e : g d with
    | none =>
      simp only [List.filterMap_cons, e]
      exact loopC_A hg enc g ds acc (fun d hd => hf d (List.mem_cons_of_mem _ hd)) (by omega)
    | some y =>
      have h2 : acc.length < lim := by omega
      simp only [List.filterMap_cons, e, lstAt_of (last_get _ _), h2, if_true, last_set]
      rw [loopC_A hg enc g ds (acc ++ [y]) (fun d hd => hf d (List.mem_cons_of_mem _ hd)) (by rw [List.length_append, List.length_singleton]; omega)]
      rw [List.append_assoc, List.singleton_append]
/-- a comprehension over values that stand for others -/
theorem ev_cprA {α : Type} {Γ : Env} {vs : List Nat} {g : T} {it : I} {c : Option E} {e : E} {fr : Fr} {vh vh1 : VH} {gs : List (Nat × Cell)} (enc : α → D) (gf : α → Option D) (xs : List α) (hI : evI Γ it fr vh = some (.ok (xs.map enc, gs), vh1)) (hg : ∀ p ∈ gs, vh1[p.1]? = some p.2)
    (hf : ∀ x ∈ xs, ∀ l : VH, ((asg Γ g (enc x) (wipeF fr vs) (vh1 ++ l)).bind fun fr' h => (evc Γ c fr' h).bind fun b h => if b = true then (ev Γ e fr' h).bind (fun y h => some (.ok (some y), h)) else some (.ok none, h)) = some (.ok (gf x), vh1 ++ l)) (hl : xs.length ≤ 10000000) :
    ev Γ (.cpr vs g it c e) fr vh = some (.ok (.ref vh1.length), vh1 ++ [.lst (xs.filterMap gf)]) := by
  rw [ev.eq_25, hI, R.bind_ok]
  exact loopC_A hg enc gf xs [] hf (by show _ ≤ 16777216; simp only [List.length_nil]; omega)
/-- .. over a list, without a test -/
theorem ev_cprL {α : Type} {Γ : Env} {vs : List Nat} {g : T} {e0 : E} {e : E} {fr : Fr} {vh vh1 : VH} {n : Nat} (enc : α → D) (gf : α → D) (xs : List α) (h0 : ev Γ e0 fr vh = some (.ok (.ref n), vh1)) (hn : vh1[n]? = some (.lst (xs.map enc)))
    (hf : ∀ x ∈ xs, ∀ l : VH, ((asg Γ g (enc x) (wipeF fr vs) (vh1 ++ l)).bind fun fr' h => (evc Γ none fr' h).bind fun b h => if b = true then (ev Γ e fr' h).bind (fun y h => some (.ok (some y), h)) else some (.ok none, h)) = some (.ok (some (gf x)), vh1 ++ l)) (hl : xs.length ≤ 10000000) :
    ev Γ (.cpr vs g (.seq e0) none e) fr vh = some (.ok (.ref vh1.length), vh1 ++ [.lst (xs.map gf)]) := by
  rw [ev_cprA (gs := [(n, .lst (xs.map enc))]) enc (fun x => some (gf x)) xs (by simp only [evI, h0, R.bind_ok, seqF, hn]) (by intro p hp; rw [List.mem_singleton.mp hp]; exact hn) hf hl]
  rw [show (fun d => some (gf d)) = some ∘ gf from rfl, List.filterMap_eq_map]
/-- a for whose turns go on -/
theorem run_for {Γ : Env} {t : T} {it : I} {b : List S} {fr : Fr} {vh vh1 : VH} {ds : List D} {gs : List (Nat × Cell)} (hI : evI Γ it fr vh = some (.ok (ds, gs), vh1)) (J : List D → Fr → VH → Prop) (h0 : J ds fr vh1) (hg : ∀ rest fr h, J rest fr h → grd h gs = true)
    (hs : ∀ d rest fr h, J (d :: rest) fr h → ∃ fr' h', ((asg Γ t d fr h).bind fun fr h => runs Γ b fr h) = some (.ok (.nxt fr'), h') ∧ J rest fr' h') :
    ∃ fr' h', run Γ (.for t it b) fr vh = some (.ok (.nxt fr'), h') ∧ J [] fr' h' := by
  rw [run.eq_7, hI, R.bind_ok]
  clear hI
  simp only
  induction ds generalizing fr vh1 with
  | nil => exact ⟨fr, vh1, by simp only [loopF, hg _ _ _ h0, if_true], h0⟩
  | cons d ds ih =>
    obtain ⟨fr', h', e, j⟩ := hs d ds fr vh1 h0
    obtain ⟨fr2, h2, e2, j2⟩ := ih j
    exact ⟨fr2, h2, by simp only [loopF, hg _ _ _ h0, if_true, e, R.bind_ok, e2], j2⟩
end Sb

/-! ways checked; states along a row -/
namespace Sb
open PySem
def homesL : List Str := ["deed", "bare", "clear"]
def kindsL : List Str := ["line", "ring", "deed"]
def gdT (vh : VH) (d : D) : Bool := match d with
  | .tup xs => xs.all (gd vh)
  | d => gd vh d
def wayB (d : D) : Bool := match d with
  | .tup [a, h] => wordB h homesL && wordB a ["swap"]
  | .tup [a, b, c, h] => wordB h homesL && (wordB a kindsL && (intB b 1 2 && intB c 0 1))
  | _ => false
theorem gdT_gd {vh : VH} {d : D} (h : gdT vh d = true) : gd vh d = true := by
  cases d with
  | tup xs => rfl
  | _ => exact h
def b_is_way : List S := [.ite (.or (.not (.isi (.var 0) .tuple)) (.or (.cmp .notin (.bfn .len [.var 0]) (.tup [.cst (.int 2), .cst (.int 4)])) (.not (.cal "is_word" [.idx (.var 0) (.neg (.cst (.int 1))), .glb "HOMES"])))) [.ret (.cst (.bl false))] [], .ite (.cmp .eq (.bfn .len [.var 0]) (.cst (.int 2))) [.ret (.cal "is_word" [.idx (.var 0) (.cst (.int 0)), .tup [.cst (.str "swap")]])] [], .ret (.and (.cal "is_word" [.idx (.var 0) (.cst (.int 0)), .glb "KINDS"]) (.and (.cal "is_int" [.idx (.var 0) (.cst (.int 1)), .cst (.int 1), .cst (.int 2)]) (.cal "is_int" [.idx (.var 0) (.cst (.int 2)), .cst (.int 0), .cst (.int 1)])))]
def b_check_way : List S := [.ite (.not (.cal "is_way" [.var 0])) [.rse "BadWay"] []]
theorem in_ints (n a b : Int) (h : VH) : inF (.int n) (.tup [.int a, .int b]) h = some (a == n || b == n) := by
  simp only [inF, flat, flats, List.any_cons, List.any_nil, PyData.eqv, Bool.or_false]
noncomputable def m_is_way : Ct := mk (fun a : D => [a]) (fun a vh => gdT vh a = true) (fun a vh => some (.ok (.bl (wayB a)), vh))
theorem is_way_at (d : D) (vh : VH) (h : gdT vh d = true) : m_is_way [d] vh = some (.ok (.bl (wayB d)), vh) := by unfold m_is_way; exact mk_at d_inj h
theorem is_way_ct (Γ : Env) (h1 : Γ.fn "is_word" = some m_is_word) (h2 : Γ.fn "is_int" = some m_is_int) (h3 : Γ.cst "HOMES" = some (words homesL)) (h4 : Γ.cst "KINDS" = some (words kindsL)) : Ctr Γ 1 1 b_is_way m_is_way := by
  unfold m_is_way
  refine mk_ct (fun _ => rfl) fun d vh h => Gc.of_eq ?_
  have q1 := isi_tuple vh d (gdT_gd h)
  cases d with
  | tup xs =>
    unfold gdT at h
    simp only at h
    have q2 : bfF .len [.tup xs] vh = some (.ok (.int xs.length), vh) := rfl
    match xs, h with
    | [], _ => simp [b_is_way, body, runs, run.eq_1, run.eq_2, run.eq_3, run.eq_4, run.eq_5, run.eq_6, run.eq_9, run.eq_11, ev.eq_1, ev.eq_2, ev.eq_3, ev.eq_4, ev.eq_5, ev.eq_6, ev.eq_7, ev.eq_8, ev.eq_9, ev.eq_10, ev.eq_11, ev.eq_12, ev.eq_13, ev.eq_14, ev.eq_15, ev.eq_16, ev.eq_17, ev.eq_18, ev.eq_19, ev.eq_20, ev.eq_21, ev.eq_22, ev.eq_23, ev.eq_24, evs, evo, evc, asg, asgs, List.map_cons, List.map_nil, List.length_cons, List.length_nil, List.replicate, List.append_nil, List.nil_append, List.cons_append, List.getElem?_cons_zero, List.getElem?_cons_succ, List.set_cons_zero, List.set_cons_succ, R.bind_ok, R.bind_ex, if_true, if_false, intOf_i, lift_some, Option.map_some, slc_tup, cmp_eq, cmp_ne, cmp_in, cmp_nin, cmp_is, cmp_isn, cmp_le, cmp_lt, cmp_ge, cmp_gt, bin_add, bin_addt, bin_sub, bin_mod, tru_bl, brB_true, brB_false, toB_some, Nat.sub_self, Nat.zero_add, Nat.reduceAdd, Nat.reduceSub, Nat.reduceLeDiff, Nat.reduceEqDiff, q1, q2, in_ints, wayB]
    | [a], _ => simp [b_is_way, body, runs, run.eq_1, run.eq_2, run.eq_3, run.eq_4, run.eq_5, run.eq_6, run.eq_9, run.eq_11, ev.eq_1, ev.eq_2, ev.eq_3, ev.eq_4, ev.eq_5, ev.eq_6, ev.eq_7, ev.eq_8, ev.eq_9, ev.eq_10, ev.eq_11, ev.eq_12, ev.eq_13, ev.eq_14, ev.eq_15, ev.eq_16, ev.eq_17, ev.eq_18, ev.eq_19, ev.eq_20, ev.eq_21, ev.eq_22, ev.eq_23, ev.eq_24, evs, evo, evc, asg, asgs, List.map_cons, List.map_nil, List.length_cons, List.length_nil, List.replicate, List.append_nil, List.nil_append, List.cons_append, List.getElem?_cons_zero, List.getElem?_cons_succ, List.set_cons_zero, List.set_cons_succ, R.bind_ok, R.bind_ex, if_true, if_false, intOf_i, lift_some, Option.map_some, slc_tup, cmp_eq, cmp_ne, cmp_in, cmp_nin, cmp_is, cmp_isn, cmp_le, cmp_lt, cmp_ge, cmp_gt, bin_add, bin_addt, bin_sub, bin_mod, tru_bl, brB_true, brB_false, toB_some, Nat.sub_self, Nat.zero_add, Nat.reduceAdd, Nat.reduceSub, Nat.reduceLeDiff, Nat.reduceEqDiff, q1, q2, in_ints, wayB]
    | [a, b], h =>
      simp only [List.all_cons, List.all_nil, Bool.and_true, Bool.and_eq_true] at h
      have w1 := is_word_at b homesL vh h.2
      have w2 := is_word_at a ["swap"] vh h.1
      simp only [words, List.map_cons, List.map_nil] at w2
      have e1 : idxF (.tup [a, b]) (.int (-1)) vh = some b := atI_m1 _
      have e2 : idxF (.tup [a, b]) (.int 0) vh = some a := atI_0 _ _
      cases hb : wordB b homesL <;> simp [b_is_way, body, runs, run.eq_1, run.eq_2, run.eq_3, run.eq_4, run.eq_5, run.eq_6, run.eq_9, run.eq_11, ev.eq_1, ev.eq_2, ev.eq_3, ev.eq_4, ev.eq_5, ev.eq_6, ev.eq_7, ev.eq_8, ev.eq_9, ev.eq_10, ev.eq_11, ev.eq_12, ev.eq_13, ev.eq_14, ev.eq_15, ev.eq_16, ev.eq_17, ev.eq_18, ev.eq_19, ev.eq_20, ev.eq_21, ev.eq_22, ev.eq_23, ev.eq_24, evs, evo, evc, asg, asgs, List.map_cons, List.map_nil, List.length_cons, List.length_nil, List.replicate, List.append_nil, List.nil_append, List.cons_append, List.getElem?_cons_zero, List.getElem?_cons_succ, List.set_cons_zero, List.set_cons_succ, R.bind_ok, R.bind_ex, if_true, if_false, intOf_i, lift_some, Option.map_some, slc_tup, cmp_eq, cmp_ne, cmp_in, cmp_nin, cmp_is, cmp_isn, cmp_le, cmp_lt, cmp_ge, cmp_gt, bin_add, bin_addt, bin_sub, bin_mod, tru_bl, brB_true, brB_false, toB_some, Nat.sub_self, Nat.zero_add, Nat.reduceAdd, Nat.reduceSub, Nat.reduceLeDiff, Nat.reduceEqDiff, q1, q2, in_ints, wayB, h1, h3, w1, w2, hb, e1, e2, eqF_int]
    | [a, b, c], _ => simp [b_is_way, body, runs, run.eq_1, run.eq_2, run.eq_3, run.eq_4, run.eq_5, run.eq_6, run.eq_9, run.eq_11, ev.eq_1, ev.eq_2, ev.eq_3, ev.eq_4, ev.eq_5, ev.eq_6, ev.eq_7, ev.eq_8, ev.eq_9, ev.eq_10, ev.eq_11, ev.eq_12, ev.eq_13, ev.eq_14, ev.eq_15, ev.eq_16, ev.eq_17, ev.eq_18, ev.eq_19, ev.eq_20, ev.eq_21, ev.eq_22, ev.eq_23, ev.eq_24, evs, evo, evc, asg, asgs, List.map_cons, List.map_nil, List.length_cons, List.length_nil, List.replicate, List.append_nil, List.nil_append, List.cons_append, List.getElem?_cons_zero, List.getElem?_cons_succ, List.set_cons_zero, List.set_cons_succ, R.bind_ok, R.bind_ex, if_true, if_false, intOf_i, lift_some, Option.map_some, slc_tup, cmp_eq, cmp_ne, cmp_in, cmp_nin, cmp_is, cmp_isn, cmp_le, cmp_lt, cmp_ge, cmp_gt, bin_add, bin_addt, bin_sub, bin_mod, tru_bl, brB_true, brB_false, toB_some, Nat.sub_self, Nat.zero_add, Nat.reduceAdd, Nat.reduceSub, Nat.reduceLeDiff, Nat.reduceEqDiff, q1, q2, in_ints, wayB]
    | [a, b, c, d], h =>
      simp only [List.all_cons, List.all_nil, Bool.and_true, Bool.and_eq_true] at h
      obtain ⟨ga, gb, gc, gdd⟩ := h
      have w1 := is_word_at d homesL vh gdd
      have w2 := is_word_at a kindsL vh ga
      have w3 := is_int_at b 1 2 vh gb
      have w4 := is_int_at c 0 1 vh gc
      have e1 : idxF (.tup [a, b, c, d]) (.int (-1)) vh = some d := atI_m1 _
      have e2 : idxF (.tup [a, b, c, d]) (.int 0) vh = some a := atI_0 _ _
      have e3 : idxF (.tup [a, b, c, d]) (.int 1) vh = some b := atI_1 _ _ _
      have e4 : idxF (.tup [a, b, c, d]) (.int 2) vh = some c := atI_2 _ _ _ _
      cases hb : wordB d homesL <;> cases ha : wordB a kindsL <;> cases hi : intB b 1 2 <;> simp [b_is_way, body, runs, run.eq_1, run.eq_2, run.eq_3, run.eq_4, run.eq_5, run.eq_6, run.eq_9, run.eq_11, ev.eq_1, ev.eq_2, ev.eq_3, ev.eq_4, ev.eq_5, ev.eq_6, ev.eq_7, ev.eq_8, ev.eq_9, ev.eq_10, ev.eq_11, ev.eq_12, ev.eq_13, ev.eq_14, ev.eq_15, ev.eq_16, ev.eq_17, ev.eq_18, ev.eq_19, ev.eq_20, ev.eq_21, ev.eq_22, ev.eq_23, ev.eq_24, evs, evo, evc, asg, asgs, List.map_cons, List.map_nil, List.length_cons, List.length_nil, List.replicate, List.append_nil, List.nil_append, List.cons_append, List.getElem?_cons_zero, List.getElem?_cons_succ, List.set_cons_zero, List.set_cons_succ, R.bind_ok, R.bind_ex, if_true, if_false, intOf_i, lift_some, Option.map_some, slc_tup, cmp_eq, cmp_ne, cmp_in, cmp_nin, cmp_is, cmp_isn, cmp_le, cmp_lt, cmp_ge, cmp_gt, bin_add, bin_addt, bin_sub, bin_mod, tru_bl, brB_true, brB_false, toB_some, Nat.sub_self, Nat.zero_add, Nat.reduceAdd, Nat.reduceSub, Nat.reduceLeDiff, Nat.reduceEqDiff, q1, q2, in_ints, wayB, h1, h2, h3, h4, w1, w2, w3, w4, hb, ha, hi, e1, e2, e3, e4, eqF_int]
    | a :: b :: c :: d :: e :: l, _ =>
      have z3 : ((2 : Int) == (l.length : Int) + 1 + 1 + 1 + 1 + 1) = false := beq_eq_false_iff_ne.mpr (by omega)
      have z4 : ((4 : Int) == (l.length : Int) + 1 + 1 + 1 + 1 + 1) = false := beq_eq_false_iff_ne.mpr (by omega)
      simp [b_is_way, body, runs, run.eq_1, run.eq_2, run.eq_3, run.eq_4, run.eq_5, run.eq_6, run.eq_9, run.eq_11, ev.eq_1, ev.eq_2, ev.eq_3, ev.eq_4, ev.eq_5, ev.eq_6, ev.eq_7, ev.eq_8, ev.eq_9, ev.eq_10, ev.eq_11, ev.eq_12, ev.eq_13, ev.eq_14, ev.eq_15, ev.eq_16, ev.eq_17, ev.eq_18, ev.eq_19, ev.eq_20, ev.eq_21, ev.eq_22, ev.eq_23, ev.eq_24, evs, evo, evc, asg, asgs, List.map_cons, List.map_nil, List.length_cons, List.length_nil, List.replicate, List.append_nil, List.nil_append, List.cons_append, List.getElem?_cons_zero, List.getElem?_cons_succ, List.set_cons_zero, List.set_cons_succ, R.bind_ok, R.bind_ex, if_true, if_false, intOf_i, lift_some, Option.map_some, slc_tup, cmp_eq, cmp_ne, cmp_in, cmp_nin, cmp_is, cmp_isn, cmp_le, cmp_lt, cmp_ge, cmp_gt, bin_add, bin_addt, bin_sub, bin_mod, tru_bl, brB_true, brB_false, toB_some, Nat.sub_self, Nat.zero_add, Nat.reduceAdd, Nat.reduceSub, Nat.reduceLeDiff, Nat.reduceEqDiff, q1, q2, in_ints, wayB, z3, z4]
  | _ => simp [b_is_way, body, runs, run.eq_1, run.eq_2, run.eq_3, run.eq_4, run.eq_5, run.eq_6, run.eq_9, run.eq_11, ev.eq_1, ev.eq_2, ev.eq_3, ev.eq_4, ev.eq_5, ev.eq_6, ev.eq_7, ev.eq_8, ev.eq_9, ev.eq_10, ev.eq_11, ev.eq_12, ev.eq_13, ev.eq_14, ev.eq_15, ev.eq_16, ev.eq_17, ev.eq_18, ev.eq_19, ev.eq_20, ev.eq_21, ev.eq_22, ev.eq_23, ev.eq_24, evs, evo, evc, asg, asgs, List.map_cons, List.map_nil, List.length_cons, List.length_nil, List.replicate, List.append_nil, List.nil_append, List.cons_append, List.getElem?_cons_zero, List.getElem?_cons_succ, List.set_cons_zero, List.set_cons_succ, R.bind_ok, R.bind_ex, if_true, if_false, intOf_i, lift_some, Option.map_some, slc_tup, cmp_eq, cmp_ne, cmp_in, cmp_nin, cmp_is, cmp_isn, cmp_le, cmp_lt, cmp_ge, cmp_gt, bin_add, bin_addt, bin_sub, bin_mod, tru_bl, brB_true, brB_false, toB_some, Nat.sub_self, Nat.zero_add, Nat.reduceAdd, Nat.reduceSub, Nat.reduceLeDiff, Nat.reduceEqDiff, q1, wayB]
noncomputable def m_check_way : Ct := mk (fun a : D => [a]) (fun a vh => gdT vh a = true) (fun a vh => if wayB a = true then some (.ok .non, vh) else some (.ex "BadWay", vh))
theorem check_way_at (d : D) (vh : VH) (h : gdT vh d = true) : m_check_way [d] vh = if wayB d = true then some (.ok .non, vh) else some (.ex "BadWay", vh) := by unfold m_check_way; exact mk_at d_inj h
theorem check_way_ct (Γ : Env) (h1 : Γ.fn "is_way" = some m_is_way) : Ctr Γ 1 1 b_check_way m_check_way := by
  unfold m_check_way
  refine mk_ct (fun _ => rfl) fun d vh h => Gc.of_eq ?_
  have q1 := is_way_at d vh h
  simp only [b_check_way, body, runs, run.eq_1, run.eq_2, run.eq_3, run.eq_4, run.eq_5, run.eq_6, run.eq_9, run.eq_11, ev.eq_1, ev.eq_2, ev.eq_3, ev.eq_4, ev.eq_5, ev.eq_6, ev.eq_7, ev.eq_8, ev.eq_9, ev.eq_10, ev.eq_11, ev.eq_12, ev.eq_13, ev.eq_14, ev.eq_15, ev.eq_16, ev.eq_17, ev.eq_18, ev.eq_19, ev.eq_20, ev.eq_21, ev.eq_22, ev.eq_23, ev.eq_24, evs, evo, evc, asg, asgs, List.map_cons, List.map_nil, List.length_cons, List.length_nil, List.replicate, List.append_nil, List.nil_append, List.cons_append, List.getElem?_cons_zero, List.getElem?_cons_succ, List.set_cons_zero, List.set_cons_succ, R.bind_ok, R.bind_ex, if_true, if_false, intOf_i, lift_some, Option.map_some, slc_tup, cmp_eq, cmp_ne, cmp_in, cmp_nin, cmp_is, cmp_isn, cmp_le, cmp_lt, cmp_ge, cmp_gt, bin_add, bin_addt, bin_sub, bin_mod, tru_bl, brB_true, brB_false, toB_some, Nat.sub_self, Nat.zero_add, Nat.reduceAdd, Nat.reduceSub, Nat.reduceLeDiff, Nat.reduceEqDiff, h1, q1]
  cases wayB d <;> simp [body, runs, run.eq_1, run.eq_2, run.eq_3, run.eq_4, run.eq_5, run.eq_6, run.eq_9, run.eq_11, ev.eq_1, ev.eq_2, ev.eq_3, ev.eq_4, ev.eq_5, ev.eq_6, ev.eq_7, ev.eq_8, ev.eq_9, ev.eq_10, ev.eq_11, ev.eq_12, ev.eq_13, ev.eq_14, ev.eq_15, ev.eq_16, ev.eq_17, ev.eq_18, ev.eq_19, ev.eq_20, ev.eq_21, ev.eq_22, ev.eq_23, ev.eq_24, evs, evo, evc, asg, asgs, List.map_cons, List.map_nil, List.length_cons, List.length_nil, List.replicate, List.append_nil, List.nil_append, List.cons_append, List.getElem?_cons_zero, List.getElem?_cons_succ, List.set_cons_zero, List.set_cons_succ, R.bind_ok, R.bind_ex, if_true, if_false, intOf_i, lift_some, Option.map_some, slc_tup, cmp_eq, cmp_ne, cmp_in, cmp_nin, cmp_is, cmp_isn, cmp_le, cmp_lt, cmp_ge, cmp_gt, bin_add, bin_addt, bin_sub, bin_mod, tru_bl, brB_true, brB_false, toB_some, Nat.sub_self, Nat.zero_add, Nat.reduceAdd, Nat.reduceSub, Nat.reduceLeDiff, Nat.reduceEqDiff]
theorem gdT_way (vh : VH) (w : Way) : gdT vh (encW w) = true := by
  cases w <;> simp [encW, gdT, gd]
theorem wayB_way (w : Way) : wayB (encW w) = true := by
  cases w with
  | three k a b h => cases k <;> cases a <;> cases b <;> cases h <;> decide +kernel
  | swap h => cases h <;> decide +kernel
/-! ### the states that come -/
def Inv (w : Way) (s : Sta) : Prop := (s.f.length : Int) ≤ w.rm ∧ (s.s.length : Int) ≤ w.rm ∧ (w.kd = .line → (s.f.length : Int) + s.s.length ≤ w.rm) ∧ (w.kd = .swap → s.s = [] ∧ s.g = 0) ∧ (s.g = 2 → w.kd = .deed)
theorem rm_or (w : Way) : w.rm = 1 ∨ w.rm = 2 := by
  cases w with
  | three k a b => cases a <;> simp [Way.rm]
  | swap => exact .inl rfl
theorem Inv.sm {w : Way} {s : Sta} (h : Inv w s) : s.sm := by
  have := rm_or w
  have h1 := h.1
  have h2 := h.2.1
  constructor <;> omega
theorem push_le (l : List Int) (x r : Int) (hr : 0 < r) : ((push l x r).length : Int) ≤ r := by
  simp only [push, cut, sIx, List.length_take, List.length_drop, List.length_append, List.length_singleton]
  rw [if_pos (by omega)]
  omega
theorem push_le2 (l : List Int) (x r : Int) (hr : 0 < r) : (push l x r).length ≤ l.length + 1 := by
  simp only [push, cut, sIx, List.length_take, List.length_drop, List.length_append, List.length_singleton]
  rw [if_pos (by omega)]
  omega
theorem inv0 (w : Way) : Inv w sta0 := by
  have := rm_or w
  refine ⟨?_, ?_, ?_, ?_, ?_⟩
  · show (0 : Int) ≤ _; omega
  · show (0 : Int) ≤ _; omega
  · intro _; show (0 : Int) + 0 ≤ _; omega
  · intro _; exact ⟨rfl, rfl⟩
  · intro h; exact absurd h (by decide)
theorem inv_step (w : Way) (z : Int) (s : Sta) (k : Ky) (h : Inv w s) : Inv w (stepS w z s k) := by
  obtain ⟨h1, h2, h3, h4, h5⟩ := h
  have hr := rm_or w
  have ht := tg_or w
  have hp : ∀ l : List Int, ∀ x, ((push l x w.rm).length : Int) ≤ w.rm := fun l x => push_le l x _ (by omega)
  have hp2 : ∀ l : List Int, ∀ x, (push l x w.rm).length ≤ l.length + 1 := fun l x => push_le2 l x _ (by omega)
  have hd : ∀ l : List Int, l ≠ [] → l.dropLast.length + 1 = l.length := fun l q => by
    rw [List.length_dropLast]
    have : 0 < l.length := List.length_pos_iff.mpr q
    omega
  have hd' : ∀ l : List Int, l.dropLast.length ≤ l.length := fun l => by rw [List.length_dropLast]; omega
  have z2 : ¬ ((0 : Int) = 2) := by decide
  have n0 : (([] : List Int).length : Int) = 0 := rfl
  cases k with
  | next =>
    simp only [stepS, stepOn]
    refine ⟨?_, ?_, ?_, ?_, ?_⟩
    · simp only; split
      · exact h1
      · exact hp _ _
    · simp only; split
      · exact h2
      · rw [n0]; omega
    · intro e
      simp only [e, reduceCtorEq, if_false, n0]
      split
      · omega
      · have := hp s.f s.v; omega
    · intro e
      refine ⟨by simp only [e]; rfl, ?_⟩
      exact (tg_ne w e).1
    · intro e
      simp only at e
      omega
  | back =>
    simp only [stepS, stepBack]
    cases e : w.kd with
    | line =>
      rw [if_pos (.inl rfl), takenS]
      split
      · refine ⟨h1, h2, fun _ => h3 e, fun q => (by rw [e] at q; cases q), fun q => absurd q z2⟩
      · rename_i q
        have a1 := hd _ q
        have a2 := hp s.s s.v
        have a3 := hp2 s.s s.v
        have a4 := h3 e
        refine ⟨?_, a2, fun _ => ?_, fun q => (by rw [e] at q; cases q), fun q => absurd q z2⟩ <;> simp only <;> omega
    | ring =>
      rw [if_pos (.inr rfl), takenS]
      split
      · refine ⟨h1, h2, fun q => (by rw [e] at q; cases q), fun q => (by rw [e] at q; cases q), fun q => absurd q z2⟩
      · rename_i q
        have a1 := hd _ q
        refine ⟨?_, hp _ _, fun q => (by rw [e] at q; cases q), fun q => (by rw [e] at q; cases q), fun q => absurd q z2⟩
        simp only; omega
    | deed =>
      rw [if_neg (by decide), if_neg (by decide)]
      have hb : (((if s.g = 2 then s.s else s.f) : List Int).length : Int) ≤ w.rm := by split <;> assumption
      generalize (if s.g = 2 then s.s else s.f) = b at hb ⊢
      split
      · exact ⟨h1, hb, fun q => (by rw [e] at q; cases q), fun q => (by rw [e] at q; cases q), fun _ => e⟩
      · have a1 := hd' b
        refine ⟨hp _ _, ?_, fun q => (by rw [e] at q; cases q), fun q => (by rw [e] at q; cases q), fun _ => e⟩
        simp only; omega
    | swap =>
      rw [if_neg (by decide), if_pos rfl]
      split
      · exact ⟨h1, h2, h3, h4, h5⟩
      · refine ⟨?_, h2, fun q => (by rw [e] at q; cases q), fun q => h4 q, h5⟩
        simp only [List.length_singleton]; omega
  | again =>
    simp only [stepS, stepAgain]
    cases e : w.kd with
    | line =>
      rw [if_pos (.inl rfl), takenS, turnS]
      split
      · refine ⟨h1, h2, fun _ => h3 e, fun q => (by rw [e] at q; cases q), fun q => absurd q z2⟩
      · rename_i q
        have a1 := hd _ q
        have a2 := hp s.f s.v
        have a3 := hp2 s.f s.v
        have a4 := h3 e
        refine ⟨a2, ?_, fun _ => ?_, fun q => (by rw [e] at q; cases q), fun q => absurd q z2⟩ <;> simp only [turnS] at a1 ⊢ <;> omega
    | ring =>
      rw [if_pos (.inr rfl), takenS, turnS]
      split
      · refine ⟨h1, h2, fun q => (by rw [e] at q; cases q), fun q => (by rw [e] at q; cases q), fun q => absurd q z2⟩
      · rename_i q
        have a1 := hd _ q
        refine ⟨hp _ _, ?_, fun q => (by rw [e] at q; cases q), fun q => (by rw [e] at q; cases q), fun q => absurd q z2⟩
        simp only [turnS] at a1 ⊢; omega
    | deed =>
      rw [if_neg (by decide), if_neg (by decide)]
      refine ⟨h1, ?_, fun q => (by rw [e] at q; cases q), fun q => (by rw [e] at q; cases q), fun q => absurd q z2⟩
      rw [n0]; omega
    | swap =>
      rw [if_neg (by decide), if_pos rfl, stepBack, e, if_neg (by decide), if_pos rfl]
      split
      · exact ⟨h1, h2, h3, h4, h5⟩
      · refine ⟨?_, h2, fun q => (by rw [e] at q; cases q), fun q => h4 q, h5⟩
        simp only [List.length_singleton]; omega
  | keep =>
    simp only [stepS]
    refine ⟨h1, ?_, fun q => ?_, fun q => ⟨?_, rfl⟩, fun q => absurd q z2⟩
    · simp only; split
      · rw [n0]; omega
      · exact h2
    · simp only [q]; exact h3 q
    · simp only [q]; exact (h4 q).1
  | home =>
    simp only [stepS, goHome]
    split
    · refine ⟨hp _ _, ?_, fun q => ?_, fun q => ⟨?_, rfl⟩, fun q => absurd q z2⟩
      · simp only; split
        · exact h2
        · rw [n0]; omega
      · have := hp s.f s.v
        simp only [q]
        rw [if_neg (by decide), n0]; omega
      · simp only [q]; rfl
    · split
      · refine ⟨?_, ?_, fun q => ?_, fun q => ⟨rfl, rfl⟩, fun q => absurd q z2⟩ <;> simp only [n0] <;> omega
      · refine ⟨h1, ?_, fun q => ?_, fun q => ⟨?_, rfl⟩, fun q => absurd q z2⟩
        · simp only; split
          · rw [n0]; omega
          · exact h2
        · simp only [q]; exact h3 q
        · simp only [q]; exact (h4 q).1
  | pause =>
    simp only [stepS]
    refine ⟨h1, ?_, fun q => ?_, fun q => ⟨?_, rfl⟩, fun q => absurd q z2⟩
    · simp only; split
      · rw [n0]; omega
      · exact h2
    · simp only [q]; exact h3 q
    · simp only [q]; exact (h4 q).1
end Sb

/-! rows run -/
namespace Sb
open PySem
abbrev encK (k : Ky) : D := .str k.str
abbrev encR (ks : List Ky) : List D := ks.map encK
def along (w : Way) (z : Int) (s : Sta) : List Ky → List Sta
  | [] => [s]
  | k :: ks => s :: along w z (stepS w z s k) ks
theorem along_len (w : Way) (z : Int) : ∀ (ks : List Ky) (s : Sta), (along w z s ks).length = ks.length + 1
  | [], _ => rfl
  | k :: ks, s => by simp only [along, List.length_cons, along_len w z ks]
theorem along_inv (w : Way) (z : Int) : ∀ (ks : List Ky) (s : Sta), Inv w s → ∀ x ∈ along w z s ks, Inv w x
  | [], s, h, x, hx => by simp only [along, List.mem_singleton] at hx; exact hx ▸ h
  | k :: ks, s, h, x, hx => by
    simp only [along, List.mem_cons] at hx
    rcases hx with hx | hx
    · exact hx ▸ h
    · exact along_inv w z ks _ (inv_step w z s k h) x hx
def stsD (w : Way) (z : Int) (ks : List Ky) : List D := (along w z sta0 ks).map encS
def scrs (w : Way) (z si : Int) (ks : List Ky) : List D := ((along w z sta0 ks).drop 1).map (scrS w si)
def vals (w : Way) (z : Int) (ks : List Ky) : List Int := (along w z sta0 ks).map (·.v)
def chg : List Int → Nat
  | a :: b :: l => (if a = b then 0 else 1) + chg (b :: l)
  | _ => 0
theorem lts_of {n : Nat} : ∀ {l : List D}, (∀ d ∈ l, D.lt n d = true) → D.lts n l = true
  | [], _ => rfl
  | d :: l, h => by
    simp only [D.lts, h d List.mem_cons_self, lts_of (l := l) fun d hd => h d (List.mem_cons_of_mem _ hd), Bool.and_self]
theorem lt_iv (n : Nat) (l : List Int) : D.lt n (iv l) = true := by
  simp only [iv, D.lt]
  refine lts_of fun d hd => ?_
  obtain ⟨i, _, rfl⟩ := List.mem_map.mp hd
  rfl
theorem lt_encS (n : Nat) (s : Sta) : D.lt n (encS s) = true := by
  simp only [encS, D.lt, D.lts, lt_iv, Bool.and_self]
theorem lt_scrS (n : Nat) (w : Way) (si : Int) (s : Sta) : D.lt n (scrS w si s) = true := by
  unfold scrS
  split
  · rfl
  · split
    · rfl
    · split <;> rfl
theorem lts_map {α : Type} {n : Nat} {f : α → D} (h : ∀ a, D.lt n (f a) = true) (l : List α) : D.lts n (l.map f) = true :=
  lts_of fun d hd => by
    obtain ⟨i, _, rfl⟩ := List.mem_map.mp hd
    exact h i
theorem encR_inj : ∀ a b : List Ky, encR a = encR b → a = b
  | [], [], _ => rfl
  | [], _ :: _, h => by simp at h
  | _ :: _, [], h => by simp at h
  | x :: a, y :: b, h => by
    simp only [List.map_cons, List.cons.injEq, D.str.injEq] at h
    rw [Ky.inj _ _ h.1, encR_inj a b h.2]
/-- a way, a size, a row -/
structure Wzr where
  w : Way
  z : Int
  n : Nat
  ks : List Ky
def Wzr.ok (a : Wzr) (vh : VH) : Prop := 2 ≤ a.z ∧ a.z ≤ 4 ∧ lstAt vh a.n = some (encR a.ks) ∧ a.ks.length ≤ 60
def Wzr.enc (a : Wzr) : List D := [encW a.w, .int a.z, .ref a.n]
theorem Wzr.inj {vh : VH} {a b : Wzr} (ha : a.ok vh) (hb : b.ok vh) (h : a.enc = b.enc) : a = b := by
  simp only [Wzr.enc, List.cons.injEq, D.int.injEq, D.ref.injEq, and_true] at h
  obtain ⟨w, z, n, ks⟩ := a
  obtain ⟨w', z', n', ks'⟩ := b
  simp only at h
  obtain ⟨h1, h2, h3⟩ := h
  have := encW_inj _ _ h1
  subst this h2 h3
  have q1 := ha.2.2.1
  have q2 := hb.2.2.1
  simp only at q1 q2
  rw [q1] at q2
  rw [encR_inj _ _ (Option.some.inj q2)]
noncomputable def mkR (f : Wzr → VH → R D) : Ct := mk Wzr.enc Wzr.ok f
theorem mkR_at {f : Wzr → VH → R D} {w : Way} {z : Int} {n : Nat} {ks : List Ky} {vh : VH} (h : Wzr.ok ⟨w, z, n, ks⟩ vh) : mkR f [encW w, .int z, .ref n] vh = f ⟨w, z, n, ks⟩ vh :=
  mk_atP (enc := Wzr.enc) (P := Wzr.ok) (f := f) (a := ⟨w, z, n, ks⟩) (fun a b ha hb e => by rw [Wzr.inj ha hb e]) h
theorem mkR_ct {f : Wzr → VH → R D} {Γ : Env} {n : Nat} {b : List S} (ok : ∀ w z m ks vh, Wzr.ok ⟨w, z, m, ks⟩ vh → Gc vh (f ⟨w, z, m, ks⟩ vh) (body Γ n b [encW w, .int z, .ref m] vh)) : Ctr Γ n 3 b (mkR f) := mk_ct (fun _ => rfl) fun a vh h => ok _ _ _ _ vh h
def b_states_of : List S := [.set (.nm 3) (.lst [.cal "first_state" []]), .for (.nm 4) (.seq (.var 2)) [.exp (.bmt .append (.var 3) [.cal "step" [.var 0, .var 1, .idx (.var 3) (.neg (.cst (.int 1))), .var 4]])], .ret (.var 3)]
noncomputable def m_states_of : Ct := mkR (fun a vh => some (.ok (.ref vh.length), vh ++ [.lst (stsD a.w a.z a.ks)]))
theorem states_of_at {w : Way} {z : Int} {n : Nat} {ks : List Ky} {vh : VH} (h : Wzr.ok ⟨w, z, n, ks⟩ vh) : m_states_of [encW w, .int z, .ref n] vh = some (.ok (.ref vh.length), vh ++ [.lst (stsD w z ks)]) :=
  by unfold m_states_of; exact mkR_at h
theorem map_last (acc : List Sta) (s : Sta) (h : VH) : atI ((acc ++ [s]).map encS) (-1) = some (encS s) := by
  rw [atI_m1, List.getLast?_map]; simp
theorem states_of_ct (Γ : Env) (h1 : Γ.fn "first_state" = some m_first_state) (h2 : Γ.fn "step" = some m_step) : Ctr Γ 5 3 b_states_of m_states_of := mkR_ct fun w z n ks vh h => Gc.of_eq (by
  obtain ⟨z1, z2, hn, hk⟩ := h
  simp only at z1 z2 hn hk
  have hn' := lstAt_get hn
  have hz : 0 < z := by omega
  obtain ⟨fr, vh2, q, acc, s, ks', o, e1, e2, e3, e4, e5, e6⟩ := run_for (Γ := Γ) (t := .nm 4) (it := .seq (.var 2)) (b := [.exp (.bmt .append (.var 3) [.cal "step" [.var 0, .var 1, .idx (.var 3) (.neg (.cst (.int 1))), .var 4]])]) (fr := [some (encW w), some (.int z), some (.ref n), some (.ref vh.length), none])
    (vh := vh ++ [.lst [encS sta0]]) (vh1 := vh ++ [.lst [encS sta0]]) (ds := encR ks) (gs := [(n, .lst (encR ks))]) (by simp only [evI, body, runs, run.eq_1, run.eq_2, run.eq_3, run.eq_4, run.eq_5, run.eq_6, run.eq_9, run.eq_11, ev.eq_1, ev.eq_2, ev.eq_3, ev.eq_4, ev.eq_5, ev.eq_6, ev.eq_7, ev.eq_8, ev.eq_9, ev.eq_10, ev.eq_11, ev.eq_12, ev.eq_13, ev.eq_14, ev.eq_15, ev.eq_16, ev.eq_17, ev.eq_18, ev.eq_19, ev.eq_20, ev.eq_21, ev.eq_22, ev.eq_23, ev.eq_24, evs, evo, evc, asg, asgs, List.map_cons, List.map_nil, List.length_cons, List.length_nil, List.replicate, List.append_nil, List.nil_append, List.cons_append, List.getElem?_cons_zero, List.getElem?_cons_succ, List.set_cons_zero, List.set_cons_succ, R.bind_ok, R.bind_ex, if_true, if_false, intOf_i, lift_some, Option.map_some, slc_tup, cmp_eq, cmp_ne, cmp_in, cmp_nin, cmp_is, cmp_isn, cmp_le, cmp_lt, cmp_ge, cmp_gt, bin_add, bin_addt, bin_sub, bin_mod, tru_bl, brB_true, brB_false, toB_some, Nat.sub_self, Nat.zero_add, Nat.reduceAdd, Nat.reduceSub, Nat.reduceLeDiff, Nat.reduceEqDiff, seqF, app_get _ hn'])
    (fun ds fr h => ∃ (acc : List Sta) (s : Sta) (ks' : List Ky) (o : Option D), ds = encR ks' ∧ fr = [some (encW w), some (.int z), some (.ref n), some (.ref vh.length), o] ∧ h = vh ++ [.lst ((acc ++ [s]).map encS)] ∧ acc ++ along w z s ks' = along w z sta0 ks ∧ Inv w s ∧ acc.length + ks'.length ≤ 1000)
    ⟨[], sta0, ks, none, rfl, rfl, rfl, rfl, inv0 w, by simp only [List.length_nil]; omega⟩
    (fun rest fr h ⟨acc, s, ks', o, e1, e2, e3, e4, e5, e6⟩ => by
      rw [e3]
      simp only [grd, List.all_cons, List.all_nil, Bool.and_true, app_get _ hn', decide_true])
    (fun d rest fr h ⟨acc, s, ks', o, e1, e2, e3, e4, e5, e6⟩ => by
      cases ks' with
      | nil => cases e1
      | cons k ks' =>
        simp only [List.map_cons, List.cons.injEq] at e1
        simp only [List.length_cons] at e6
        have q := step_at w z s k (vh ++ [.lst ((acc ++ [s]).map encS)]) hz e5.sm
        have ix : idxF (.ref vh.length) (.int (-1)) (vh ++ [.lst ((acc ++ [s]).map encS)]) = some (encS s) := by
          simp only [idxF, last_get]
          exact map_last acc s vh
        have ll : ((acc ++ [s]).map encS).length < lim := by
          show _ < 16777216
          rw [List.length_map, List.length_append, List.length_singleton]; omega
        refine ⟨[some (encW w), some (.int z), some (.ref n), some (.ref vh.length), some (encK k)], vh ++ [.lst ((acc ++ [s] ++ [stepS w z s k]).map encS)], ?_, acc ++ [s], stepS w z s k, ks', some (encK k), e1.2, rfl, rfl, ?_, inv_step w z s k e5, ?_⟩
        · rw [e2, e3, e1.1]
          simp only [body, runs, run.eq_1, run.eq_2, run.eq_3, run.eq_4, run.eq_5, run.eq_6, run.eq_9, run.eq_11, ev.eq_1, ev.eq_2, ev.eq_3, ev.eq_4, ev.eq_5, ev.eq_6, ev.eq_7, ev.eq_8, ev.eq_9, ev.eq_10, ev.eq_11, ev.eq_12, ev.eq_13, ev.eq_14, ev.eq_15, ev.eq_16, ev.eq_17, ev.eq_18, ev.eq_19, ev.eq_20, ev.eq_21, ev.eq_22, ev.eq_23, ev.eq_24, evs, evo, evc, asg, asgs, List.map_cons, List.map_nil, List.length_cons, List.length_nil, List.replicate, List.append_nil, List.nil_append, List.cons_append, List.getElem?_cons_zero, List.getElem?_cons_succ, List.set_cons_zero, List.set_cons_succ, R.bind_ok, R.bind_ex, if_true, if_false, intOf_i, lift_some, Option.map_some, slc_tup, cmp_eq, cmp_ne, cmp_in, cmp_nin, cmp_is, cmp_isn, cmp_le, cmp_lt, cmp_ge, cmp_gt, bin_add, bin_addt, bin_sub, bin_mod, tru_bl, brB_true, brB_false, toB_some, Nat.sub_self, Nat.zero_add, Nat.reduceAdd, Nat.reduceSub, Nat.reduceLeDiff, Nat.reduceEqDiff, rcv, lstAt_of (last_get _ _), Option.isSome_some, ix, h2, q, bfF, ll, last_set]
          simp
        · rw [← e4, along, List.append_assoc, List.singleton_append]
        · rw [List.length_append, List.length_singleton]; omega)
  cases ks' with
  | cons k ks' => cases e1
  | nil =>
    subst e2 e3
    rw [along] at e4
    simp only [b_states_of, body, runs, run.eq_1, run.eq_2, run.eq_3, run.eq_4, run.eq_5, run.eq_6, run.eq_9, run.eq_11, ev.eq_1, ev.eq_2, ev.eq_3, ev.eq_4, ev.eq_5, ev.eq_6, ev.eq_7, ev.eq_8, ev.eq_9, ev.eq_10, ev.eq_11, ev.eq_12, ev.eq_13, ev.eq_14, ev.eq_15, ev.eq_16, ev.eq_17, ev.eq_18, ev.eq_19, ev.eq_20, ev.eq_21, ev.eq_22, ev.eq_23, ev.eq_24, evs, evo, evc, asg, asgs, List.map_cons, List.map_nil, List.length_cons, List.length_nil, List.replicate, List.append_nil, List.nil_append, List.cons_append, List.getElem?_cons_zero, List.getElem?_cons_succ, List.set_cons_zero, List.set_cons_succ, R.bind_ok, R.bind_ex, if_true, if_false, intOf_i, lift_some, Option.map_some, slc_tup, cmp_eq, cmp_ne, cmp_in, cmp_nin, cmp_is, cmp_isn, cmp_le, cmp_lt, cmp_ge, cmp_gt, bin_add, bin_addt, bin_sub, bin_mod, tru_bl, brB_true, brB_false, toB_some, Nat.sub_self, Nat.zero_add, Nat.reduceAdd, Nat.reduceSub, Nat.reduceLeDiff, Nat.reduceEqDiff, h1, first_state_at, q]
    rw [e4, stsD])
def b_screens_of : List S := [.ret (.cpr [4] (.nm 4) (.seq (.slc (.cal "states_of" [.var 0, .var 1, .var 3]) (some (.cst (.int 1))) none)) none (.cal "screen_of" [.var 0, .var 2, .var 4]))]
structure Wzsr where
  w : Way
  z : Int
  si : Int
  n : Nat
  ks : List Ky
def Wzsr.ok (a : Wzsr) (vh : VH) : Prop := (2 ≤ a.z ∧ a.z ≤ 4 ∧ lstAt vh a.n = some (encR a.ks) ∧ a.ks.length ≤ 60) ∧ 0 ≤ a.si ∧ a.si ≤ 1
def Wzsr.enc (a : Wzsr) : List D := [encW a.w, .int a.z, .int a.si, .ref a.n]
theorem Wzsr.inj {vh : VH} {a b : Wzsr} (ha : a.ok vh) (hb : b.ok vh) (h : a.enc = b.enc) : a = b := by
  simp only [Wzsr.enc, List.cons.injEq, D.int.injEq, D.ref.injEq, and_true] at h
  obtain ⟨w, z, si, n, ks⟩ := a
  obtain ⟨w', z', si', n', ks'⟩ := b
  simp only at h
  obtain ⟨h1, h2, h3, h4⟩ := h
  have := encW_inj _ _ h1
  subst this h2 h3 h4
  have q1 := ha.1.2.2.1
  have q2 := hb.1.2.2.1
  simp only at q1 q2
  rw [q1] at q2
  rw [encR_inj _ _ (Option.some.inj q2)]
noncomputable def mkRS (f : Wzsr → VH → R D) : Ct := mk Wzsr.enc Wzsr.ok f
theorem mkRS_at {f : Wzsr → VH → R D} {w : Way} {z si : Int} {n : Nat} {ks : List Ky} {vh : VH} (h : Wzsr.ok ⟨w, z, si, n, ks⟩ vh) : mkRS f [encW w, .int z, .int si, .ref n] vh = f ⟨w, z, si, n, ks⟩ vh :=
  mk_atP (enc := Wzsr.enc) (P := Wzsr.ok) (f := f) (a := ⟨w, z, si, n, ks⟩) (fun a b ha hb e => by rw [Wzsr.inj ha hb e]) h
theorem mkRS_ct {f : Wzsr → VH → R D} {Γ : Env} {n : Nat} {b : List S} (ok : ∀ w z si m ks vh, Wzsr.ok ⟨w, z, si, m, ks⟩ vh → Gc vh (f ⟨w, z, si, m, ks⟩ vh) (body Γ n b [encW w, .int z, .int si, .ref m] vh)) : Ctr Γ n 4 b (mkRS f) := mk_ct (fun _ => rfl) fun a vh h => ok _ _ _ _ _ vh h
noncomputable def m_screens_of : Ct := mkRS (fun a vh => some (.ok (.ref vh.length), vh ++ [.lst (scrs a.w a.z a.si a.ks)]))
theorem screens_of_at {w : Way} {z si : Int} {n : Nat} {ks : List Ky} {vh : VH} (h : Wzsr.ok ⟨w, z, si, n, ks⟩ vh) : m_screens_of [encW w, .int z, .int si, .ref n] vh = some (.ok (.ref vh.length), vh ++ [.lst (scrs w z si ks)]) :=
  by unfold m_screens_of; exact mkRS_at h
theorem cut_1 {α : Type} (l : List α) : cut l (some 1) none = l.drop 1 := by
  simp only [cut, sIx]
  rw [if_neg (by decide)]
  have : min (1 : Int).toNat l.length = min 1 l.length := rfl
  rw [this]
  cases l with
  | nil => rfl
  | cons a l =>
    have : min 1 (a :: l).length = 1 := by simp only [List.length_cons]; omega
    rw [this]
    simp
theorem slc_1 (n : Nat) (l : List D) (vh : VH) (h : vh[n]? = some (.lst l)) : slcF (.ref n) (some 1) none vh = some (.ok (.ref vh.length), vh ++ [.lst (l.drop 1)]) := by
  simp only [slcF, lstAt_of h, cut_1]
def decS (d : D) : D → D := fun _ => d
theorem screens_of_ct (Γ : Env) (h1 : Γ.fn "states_of" = some m_states_of) (h2 : Γ.fn "screen_of" = some m_screen_of) : Ctr Γ 5 4 b_screens_of m_screens_of := mkRS_ct fun w z si n ks vh h => by
  have h0 : Wzr.ok ⟨w, z, n, ks⟩ vh := h.1
  have q := states_of_at h0
  have s1 := slc_1 vh.length (stsD w z ks) (vh ++ [.lst (stsD w z ks)]) (last_get _ _)
  rw [show (stsD w z ks).drop 1 = ((along w z sta0 ks).drop 1).map encS by simp [stsD]] at s1
  have lg := along_len w z ks sta0
  have hk := h.1.2.2.2
  simp only at hk
  obtain ⟨A, hA⟩ : ∃ A, A = (along w z sta0 ks).drop 1 := ⟨_, rfl⟩
  have lA : A.length ≤ 60 := by rw [hA, List.length_drop, lg]; omega
  rw [← hA] at s1
  obtain ⟨v1, hv1⟩ : ∃ v1, v1 = (vh ++ [Cell.lst (stsD w z ks)]) ++ [Cell.lst (A.map encS)] := ⟨_, rfl⟩
  rw [← hv1] at s1
  have g1 : v1[(vh ++ [Cell.lst (stsD w z ks)]).length]? = some (.lst (A.map encS)) := by rw [hv1]; exact last_get _ _
  have c : ev Γ (.cpr [4] (.nm 4) (.seq (.slc (.cal "states_of" [.var 0, .var 1, .var 3]) (some (.cst (.int 1))) none)) none (.cal "screen_of" [.var 0, .var 2, .var 4])) [some (encW w), some (.int z), some (.int si), some (.ref n), none] vh =
      some (.ok (.ref v1.length), v1 ++ [.lst (A.map (scrS w si))]) :=
    ev_cprL encS (scrS w si) A (by simp only [body, runs, run.eq_1, run.eq_2, run.eq_3, run.eq_4, run.eq_5, run.eq_6, run.eq_9, run.eq_11, ev.eq_1, ev.eq_2, ev.eq_3, ev.eq_4, ev.eq_5, ev.eq_6, ev.eq_7, ev.eq_8, ev.eq_9, ev.eq_10, ev.eq_11, ev.eq_12, ev.eq_13, ev.eq_14, ev.eq_15, ev.eq_16, ev.eq_17, ev.eq_18, ev.eq_19, ev.eq_20, ev.eq_21, ev.eq_22, ev.eq_23, ev.eq_24, evs, evo, evc, asg, asgs, List.map_cons, List.map_nil, List.length_cons, List.length_nil, List.replicate, List.append_nil, List.nil_append, List.cons_append, List.getElem?_cons_zero, List.getElem?_cons_succ, List.set_cons_zero, List.set_cons_succ, R.bind_ok, R.bind_ex, if_true, if_false, intOf_i, lift_some, Option.map_some, slc_tup, cmp_eq, cmp_ne, cmp_in, cmp_nin, cmp_is, cmp_isn, cmp_le, cmp_lt, cmp_ge, cmp_gt, bin_add, bin_addt, bin_sub, bin_mod, tru_bl, brB_true, brB_false, toB_some, Nat.sub_self, Nat.zero_add, Nat.reduceAdd, Nat.reduceSub, Nat.reduceLeDiff, Nat.reduceEqDiff, h1, q, s1]) g1 (fun d hd l => by simp only [body, runs, run.eq_1, run.eq_2, run.eq_3, run.eq_4, run.eq_5, run.eq_6, run.eq_9, run.eq_11, ev.eq_1, ev.eq_2, ev.eq_3, ev.eq_4, ev.eq_5, ev.eq_6, ev.eq_7, ev.eq_8, ev.eq_9, ev.eq_10, ev.eq_11, ev.eq_12, ev.eq_13, ev.eq_14, ev.eq_15, ev.eq_16, ev.eq_17, ev.eq_18, ev.eq_19, ev.eq_20, ev.eq_21, ev.eq_22, ev.eq_23, ev.eq_24, evs, evo, evc, asg, asgs, List.map_cons, List.map_nil, List.length_cons, List.length_nil, List.replicate, List.append_nil, List.nil_append, List.cons_append, List.getElem?_cons_zero, List.getElem?_cons_succ, List.set_cons_zero, List.set_cons_succ, R.bind_ok, R.bind_ex, if_true, if_false, intOf_i, lift_some, Option.map_some, slc_tup, cmp_eq, cmp_ne, cmp_in, cmp_nin, cmp_is, cmp_isn, cmp_le, cmp_lt, cmp_ge, cmp_gt, bin_add, bin_addt, bin_sub, bin_mod, tru_bl, brB_true, brB_false, toB_some, Nat.sub_self, Nat.zero_add, Nat.reduceAdd, Nat.reduceSub, Nat.reduceLeDiff, Nat.reduceEqDiff, wipeF, h2, screen_of_at]) (by omega)
  refine Gc.newL (n := v1.length) (junk := [Cell.lst (stsD w z ks), Cell.lst (A.map encS), Cell.lst (A.map (scrS w si))]) (lts_map (lt_scrS 0 w si) _) (by rw [hv1]; simp only [List.length_append]; omega) ?_ ?_
  · simp only [b_screens_of, body, runs, run.eq_1, run.eq_2, run.eq_3, run.eq_4, run.eq_5, run.eq_6, run.eq_9, run.eq_11, ev.eq_1, ev.eq_2, ev.eq_3, ev.eq_4, ev.eq_5, ev.eq_6, ev.eq_7, ev.eq_8, ev.eq_9, ev.eq_10, ev.eq_11, ev.eq_12, ev.eq_13, ev.eq_14, ev.eq_15, ev.eq_16, ev.eq_17, ev.eq_18, ev.eq_19, ev.eq_20, ev.eq_21, ev.eq_22, ev.eq_23, ev.eq_24, evs, evo, evc, asg, asgs, List.map_cons, List.map_nil, List.length_cons, List.length_nil, List.replicate, List.append_nil, List.nil_append, List.cons_append, List.getElem?_cons_zero, List.getElem?_cons_succ, List.set_cons_zero, List.set_cons_succ, R.bind_ok, R.bind_ex, if_true, if_false, intOf_i, lift_some, Option.map_some, slc_tup, cmp_eq, cmp_ne, cmp_in, cmp_nin, cmp_is, cmp_isn, cmp_le, cmp_lt, cmp_ge, cmp_gt, bin_add, bin_addt, bin_sub, bin_mod, tru_bl, brB_true, brB_false, toB_some, Nat.sub_self, Nat.zero_add, Nat.reduceAdd, Nat.reduceSub, Nat.reduceLeDiff, Nat.reduceEqDiff, c]
    simp [hv1]
  · simp [scrs, hv1, hA]
def b_run : List S := [.exp (.cal "check_way" [.var 0]), .exp (.cal "check_number" [.var 1, .cst (.int 2), .cst (.int 4)]), .exp (.cal "check_sight" [.var 2]), .exp (.cal "check_row" [.var 3]), .ret (.cal "screens_of" [.var 0, .var 1, .var 2, .var 3])]
def b_states_along : List S := [.exp (.cal "check_way" [.var 0]), .exp (.cal "check_number" [.var 1, .cst (.int 2), .cst (.int 4)]), .exp (.cal "check_row" [.var 2]), .ret (.cal "states_of" [.var 0, .var 1, .var 2])]
def b_state_after : List S := [.ret (.idx (.cal "states_along" [.var 0, .var 1, .var 2]) (.neg (.cst (.int 1))))]
def b_values_shown : List S := [.ret (.cpr [3] (.nm 3) (.seq (.cal "states_along" [.var 0, .var 1, .var 2])) none (.idx (.var 3) (.cst (.int 0))))]
def b_count_done : List S := [.set (.nm 3) (.cal "values_shown" [.var 0, .var 1, .var 2]), .ret (.bfn .len [.cpr [4, 5] (.tp [(.nm 4), (.nm 5)]) (.zip (.var 3) (.slc (.var 3) (some (.cst (.int 1))) none)) (some (.cmp .ne (.var 4) (.var 5))) (.var 4)])]
theorem wordB_key (k : Ky) : wordB (encK k) keysL = true := by cases k <;> decide +kernel
theorem Wzr.ok.row {w : Way} {z : Int} {n : Nat} {ks : List Ky} {vh : VH} (h : Wzr.ok ⟨w, z, n, ks⟩ vh) : gdL vh (.ref n) = true ∧ rowB vh (.ref n) = true := by
  obtain ⟨_, _, hn, hk⟩ := h
  simp only at hn hk
  constructor
  · simp only [gdL, hn, Bool.and_eq_true, decide_eq_true_eq, List.length_map]
    refine ⟨List.all_eq_true.mpr fun d hd => ?_, by omega⟩
    obtain ⟨k, _, rfl⟩ := List.mem_map.mp hd
    rfl
  · simp only [rowB, hn, Bool.and_eq_true, decide_eq_true_eq, List.length_map]
    refine ⟨hk, List.all_eq_true.mpr fun d hd => ?_⟩
    obtain ⟨k, _, rfl⟩ := List.mem_map.mp hd
    exact wordB_key k
theorem intB_of {i lo hi : Int} (h1 : lo ≤ i) (h2 : i ≤ hi) : intB (.int i) lo hi = true := by simp only [intB, h1, h2, decide_true, Bool.and_self]
noncomputable def m_run : Ct := mkRS (fun a vh => some (.ok (.ref vh.length), vh ++ [.lst (scrs a.w a.z a.si a.ks)]))
theorem run_at {w : Way} {z si : Int} {n : Nat} {ks : List Ky} {vh : VH} (h : Wzsr.ok ⟨w, z, si, n, ks⟩ vh) : m_run [encW w, .int z, .int si, .ref n] vh = some (.ok (.ref vh.length), vh ++ [.lst (scrs w z si ks)]) := by unfold m_run; exact mkRS_at h
theorem run_ct (Γ : Env) (h1 : Γ.fn "check_way" = some m_check_way) (h2 : Γ.fn "check_number" = some m_check_number) (h3 : Γ.fn "check_sight" = some m_check_sight) (h4 : Γ.fn "check_row" = some m_check_row) (h5 : Γ.fn "screens_of" = some m_screens_of) : Ctr Γ 4 4 b_run m_run := mkRS_ct fun w z si n ks vh h => Gc.of_eq (by
  have hr := Wzr.ok.row (w := w) h.1
  have q1 := check_way_at (encW w) vh (gdT_way vh w)
  have q2 := check_number_at (.int z) 2 4 vh rfl
  have q3 := check_sight_at (.int si) vh rfl
  have q4 := check_row_at (.ref n) vh hr.1
  rw [wayB_way, if_pos rfl] at q1
  rw [if_pos (intB_of h.1.1 h.1.2.1)] at q2
  rw [if_pos (intB_of h.2.1 h.2.2)] at q3
  rw [hr.2, if_pos rfl] at q4
  simp only [b_run, body, runs, run.eq_1, run.eq_2, run.eq_3, run.eq_4, run.eq_5, run.eq_6, run.eq_9, run.eq_11, ev.eq_1, ev.eq_2, ev.eq_3, ev.eq_4, ev.eq_5, ev.eq_6, ev.eq_7, ev.eq_8, ev.eq_9, ev.eq_10, ev.eq_11, ev.eq_12, ev.eq_13, ev.eq_14, ev.eq_15, ev.eq_16, ev.eq_17, ev.eq_18, ev.eq_19, ev.eq_20, ev.eq_21, ev.eq_22, ev.eq_23, ev.eq_24, evs, evo, evc, asg, asgs, List.map_cons, List.map_nil, List.length_cons, List.length_nil, List.replicate, List.append_nil, List.nil_append, List.cons_append, List.getElem?_cons_zero, List.getElem?_cons_succ, List.set_cons_zero, List.set_cons_succ, R.bind_ok, R.bind_ex, if_true, if_false, intOf_i, lift_some, Option.map_some, slc_tup, cmp_eq, cmp_ne, cmp_in, cmp_nin, cmp_is, cmp_isn, cmp_le, cmp_lt, cmp_ge, cmp_gt, bin_add, bin_addt, bin_sub, bin_mod, tru_bl, brB_true, brB_false, toB_some, Nat.sub_self, Nat.zero_add, Nat.reduceAdd, Nat.reduceSub, Nat.reduceLeDiff, Nat.reduceEqDiff, h1, h2, h3, h4, h5, q1, q2, q3, q4, screens_of_at h])
noncomputable def m_states_along : Ct := mkR (fun a vh => some (.ok (.ref vh.length), vh ++ [.lst (stsD a.w a.z a.ks)]))
theorem states_along_at {w : Way} {z : Int} {n : Nat} {ks : List Ky} {vh : VH} (h : Wzr.ok ⟨w, z, n, ks⟩ vh) : m_states_along [encW w, .int z, .ref n] vh = some (.ok (.ref vh.length), vh ++ [.lst (stsD w z ks)]) := by unfold m_states_along; exact mkR_at h
theorem states_along_ct (Γ : Env) (h1 : Γ.fn "check_way" = some m_check_way) (h2 : Γ.fn "check_number" = some m_check_number) (h4 : Γ.fn "check_row" = some m_check_row) (h5 : Γ.fn "states_of" = some m_states_of) : Ctr Γ 3 3 b_states_along m_states_along := mkR_ct fun w z n ks vh h => Gc.of_eq (by
  have hr := Wzr.ok.row (w := w) h
  have q1 := check_way_at (encW w) vh (gdT_way vh w)
  have q2 := check_number_at (.int z) 2 4 vh rfl
  have q4 := check_row_at (.ref n) vh hr.1
  rw [wayB_way, if_pos rfl] at q1
  rw [if_pos (intB_of h.1 h.2.1)] at q2
  rw [hr.2, if_pos rfl] at q4
  simp only [b_states_along, body, runs, run.eq_1, run.eq_2, run.eq_3, run.eq_4, run.eq_5, run.eq_6, run.eq_9, run.eq_11, ev.eq_1, ev.eq_2, ev.eq_3, ev.eq_4, ev.eq_5, ev.eq_6, ev.eq_7, ev.eq_8, ev.eq_9, ev.eq_10, ev.eq_11, ev.eq_12, ev.eq_13, ev.eq_14, ev.eq_15, ev.eq_16, ev.eq_17, ev.eq_18, ev.eq_19, ev.eq_20, ev.eq_21, ev.eq_22, ev.eq_23, ev.eq_24, evs, evo, evc, asg, asgs, List.map_cons, List.map_nil, List.length_cons, List.length_nil, List.replicate, List.append_nil, List.nil_append, List.cons_append, List.getElem?_cons_zero, List.getElem?_cons_succ, List.set_cons_zero, List.set_cons_succ, R.bind_ok, R.bind_ex, if_true, if_false, intOf_i, lift_some, Option.map_some, slc_tup, cmp_eq, cmp_ne, cmp_in, cmp_nin, cmp_is, cmp_isn, cmp_le, cmp_lt, cmp_ge, cmp_gt, bin_add, bin_addt, bin_sub, bin_mod, tru_bl, brB_true, brB_false, toB_some, Nat.sub_self, Nat.zero_add, Nat.reduceAdd, Nat.reduceSub, Nat.reduceLeDiff, Nat.reduceEqDiff, h1, h2, h4, h5, q1, q2, q4, states_of_at h])
def afterS (w : Way) (z : Int) (s : Sta) (ks : List Ky) : Sta := ks.foldl (stepS w z) s
theorem along_last (w : Way) (z : Int) : ∀ (ks : List Ky) (s : Sta), (along w z s ks).getLast? = some (afterS w z s ks)
  | [], _ => rfl
  | k :: ks, s => by
    rw [along]
    have := along_last w z ks (stepS w z s k)
    cases e : along w z (stepS w z s k) ks with
    | nil => rw [e] at this; cases this
    | cons a l => rw [List.getLast?_cons_cons, ← e, this]; rfl
noncomputable def m_state_after : Ct := mkR (fun a vh => some (.ok (encS (afterS a.w a.z sta0 a.ks)), vh))
theorem state_after_at {w : Way} {z : Int} {n : Nat} {ks : List Ky} {vh : VH} (h : Wzr.ok ⟨w, z, n, ks⟩ vh) : m_state_after [encW w, .int z, .ref n] vh = some (.ok (encS (afterS w z sta0 ks)), vh) := by unfold m_state_after; exact mkR_at h
theorem sts_last (w : Way) (z : Int) (ks : List Ky) : atI (stsD w z ks) (-1) = some (encS (afterS w z sta0 ks)) := by
  rw [atI_m1, stsD, List.getLast?_map, along_last]; rfl
theorem idx_ref {vh : VH} {n : Nat} {l : List D} (k : Int) (h : vh[n]? = some (.lst l)) : idxF (.ref n) (.int k) vh = atI l k := by simp only [idxF, h]
theorem state_after_ct (Γ : Env) (h1 : Γ.fn "states_along" = some m_states_along) : Ctr Γ 3 3 b_state_after m_state_after := mkR_ct fun w z n ks vh h => Gc.pure (junk := [Cell.lst (stsD w z ks)]) (lt_encS 0 _) (by
  simp only [b_state_after, body, runs, run.eq_1, run.eq_2, run.eq_3, run.eq_4, run.eq_5, run.eq_6, run.eq_9, run.eq_11, ev.eq_1, ev.eq_2, ev.eq_3, ev.eq_4, ev.eq_5, ev.eq_6, ev.eq_7, ev.eq_8, ev.eq_9, ev.eq_10, ev.eq_11, ev.eq_12, ev.eq_13, ev.eq_14, ev.eq_15, ev.eq_16, ev.eq_17, ev.eq_18, ev.eq_19, ev.eq_20, ev.eq_21, ev.eq_22, ev.eq_23, ev.eq_24, evs, evo, evc, asg, asgs, List.map_cons, List.map_nil, List.length_cons, List.length_nil, List.replicate, List.append_nil, List.nil_append, List.cons_append, List.getElem?_cons_zero, List.getElem?_cons_succ, List.set_cons_zero, List.set_cons_succ, R.bind_ok, R.bind_ex, if_true, if_false, intOf_i, lift_some, Option.map_some, slc_tup, cmp_eq, cmp_ne, cmp_in, cmp_nin, cmp_is, cmp_isn, cmp_le, cmp_lt, cmp_ge, cmp_gt, bin_add, bin_addt, bin_sub, bin_mod, tru_bl, brB_true, brB_false, toB_some, Nat.sub_self, Nat.zero_add, Nat.reduceAdd, Nat.reduceSub, Nat.reduceLeDiff, Nat.reduceEqDiff, h1, states_along_at h, idx_ref _ (last_get _ _), sts_last])
noncomputable def m_values_shown : Ct := mkR (fun a vh => some (.ok (.ref vh.length), vh ++ [.lst ((vals a.w a.z a.ks).map .int)]))
theorem values_shown_at {w : Way} {z : Int} {n : Nat} {ks : List Ky} {vh : VH} (h : Wzr.ok ⟨w, z, n, ks⟩ vh) : m_values_shown [encW w, .int z, .ref n] vh = some (.ok (.ref vh.length), vh ++ [.lst ((vals w z ks).map .int)]) := by unfold m_values_shown; exact mkR_at h
theorem idx_encS (s : Sta) (vh : VH) : idxF (encS s) (.int 0) vh = some (.int s.v) ∧ idxF (encS s) (.int 1) vh = some (.int s.m) ∧ idxF (encS s) (.int 2) vh = some (iv s.f) ∧ idxF (encS s) (.int 3) vh = some (iv s.s) ∧ idxF (encS s) (.int 4) vh = some (.int s.g) :=
  ⟨atI_0 _ _, atI_1 _ _ _, atI_2 _ _ _ _, atI_3 _ _ _ _ _, atI_4 _ _ _ _ _ _⟩
theorem values_shown_ct (Γ : Env) (h1 : Γ.fn "states_along" = some m_states_along) : Ctr Γ 4 3 b_values_shown m_values_shown := mkR_ct fun w z n ks vh h => by
  have lg := along_len w z ks sta0
  have hk := h.2.2.2
  simp only at hk
  have c : ev Γ (.cpr [3] (.nm 3) (.seq (.cal "states_along" [.var 0, .var 1, .var 2])) none (.idx (.var 3) (.cst (.int 0)))) [some (encW w), some (.int z), some (.ref n), none] vh =
      some (.ok (.ref (vh ++ [Cell.lst (stsD w z ks)]).length), (vh ++ [Cell.lst (stsD w z ks)]) ++ [.lst ((along w z sta0 ks).map fun s => .int s.v)]) :=
    ev_cprL encS (fun s => .int s.v) (along w z sta0 ks) (by simp only [body, runs, run.eq_1, run.eq_2, run.eq_3, run.eq_4, run.eq_5, run.eq_6, run.eq_9, run.eq_11, ev.eq_1, ev.eq_2, ev.eq_3, ev.eq_4, ev.eq_5, ev.eq_6, ev.eq_7, ev.eq_8, ev.eq_9, ev.eq_10, ev.eq_11, ev.eq_12, ev.eq_13, ev.eq_14, ev.eq_15, ev.eq_16, ev.eq_17, ev.eq_18, ev.eq_19, ev.eq_20, ev.eq_21, ev.eq_22, ev.eq_23, ev.eq_24, evs, evo, evc, asg, asgs, List.map_cons, List.map_nil, List.length_cons, List.length_nil, List.replicate, List.append_nil, List.nil_append, List.cons_append, List.getElem?_cons_zero, List.getElem?_cons_succ, List.set_cons_zero, List.set_cons_succ, R.bind_ok, R.bind_ex, if_true, if_false, intOf_i, lift_some, Option.map_some, slc_tup, cmp_eq, cmp_ne, cmp_in, cmp_nin, cmp_is, cmp_isn, cmp_le, cmp_lt, cmp_ge, cmp_gt, bin_add, bin_addt, bin_sub, bin_mod, tru_bl, brB_true, brB_false, toB_some, Nat.sub_self, Nat.zero_add, Nat.reduceAdd, Nat.reduceSub, Nat.reduceLeDiff, Nat.reduceEqDiff, h1, states_along_at h]) (last_get _ _) (fun d hd l => by simp only [body, runs, run.eq_1, run.eq_2, run.eq_3, run.eq_4, run.eq_5, run.eq_6, run.eq_9, run.eq_11, ev.eq_1, ev.eq_2, ev.eq_3, ev.eq_4, ev.eq_5, ev.eq_6, ev.eq_7, ev.eq_8, ev.eq_9, ev.eq_10, ev.eq_11, ev.eq_12, ev.eq_13, ev.eq_14, ev.eq_15, ev.eq_16, ev.eq_17, ev.eq_18, ev.eq_19, ev.eq_20, ev.eq_21, ev.eq_22, ev.eq_23, ev.eq_24, evs, evo, evc, asg, asgs, List.map_cons, List.map_nil, List.length_cons, List.length_nil, List.replicate, List.append_nil, List.nil_append, List.cons_append, List.getElem?_cons_zero, List.getElem?_cons_succ, List.set_cons_zero, List.set_cons_succ, R.bind_ok, R.bind_ex, if_true, if_false, intOf_i, lift_some, Option.map_some, slc_tup, cmp_eq, cmp_ne, cmp_in, cmp_nin, cmp_is, cmp_isn, cmp_le, cmp_lt, cmp_ge, cmp_gt, bin_add, bin_addt, bin_sub, bin_mod, tru_bl, brB_true, brB_false, toB_some, Nat.sub_self, Nat.zero_add, Nat.reduceAdd, Nat.reduceSub, Nat.reduceLeDiff, Nat.reduceEqDiff, wipeF, idx_encS]) (by omega)
  refine Gc.newL (n := (vh ++ [Cell.lst (stsD w z ks)]).length) (junk := [Cell.lst (stsD w z ks), .lst ((along w z sta0 ks).map fun s => .int s.v)]) (lts_map (fun _ => rfl) _) (by simp only [List.length_append]; omega) ?_ ?_
  · simp only [b_values_shown, body, runs, run.eq_1, run.eq_2, run.eq_3, run.eq_4, run.eq_5, run.eq_6, run.eq_9, run.eq_11, ev.eq_1, ev.eq_2, ev.eq_3, ev.eq_4, ev.eq_5, ev.eq_6, ev.eq_7, ev.eq_8, ev.eq_9, ev.eq_10, ev.eq_11, ev.eq_12, ev.eq_13, ev.eq_14, ev.eq_15, ev.eq_16, ev.eq_17, ev.eq_18, ev.eq_19, ev.eq_20, ev.eq_21, ev.eq_22, ev.eq_23, ev.eq_24, evs, evo, evc, asg, asgs, List.map_cons, List.map_nil, List.length_cons, List.length_nil, List.replicate, List.append_nil, List.nil_append, List.cons_append, List.getElem?_cons_zero, List.getElem?_cons_succ, List.set_cons_zero, List.set_cons_succ, R.bind_ok, R.bind_ex, if_true, if_false, intOf_i, lift_some, Option.map_some, slc_tup, cmp_eq, cmp_ne, cmp_in, cmp_nin, cmp_is, cmp_isn, cmp_le, cmp_lt, cmp_ge, cmp_gt, bin_add, bin_addt, bin_sub, bin_mod, tru_bl, brB_true, brB_false, toB_some, Nat.sub_self, Nat.zero_add, Nat.reduceAdd, Nat.reduceSub, Nat.reduceLeDiff, Nat.reduceEqDiff, c]
    simp
  · simp [vals]
noncomputable def m_count_done : Ct := mkR (fun a vh => some (.ok (.int (chg (vals a.w a.z a.ks))), vh))
theorem count_done_at {w : Way} {z : Int} {n : Nat} {ks : List Ky} {vh : VH} (h : Wzr.ok ⟨w, z, n, ks⟩ vh) : m_count_done [encW w, .int z, .ref n] vh = some (.ok (.int (chg (vals w z ks))), vh) := by unfold m_count_done; exact mkR_at h
theorem zip_ints : ∀ a b : List Int, zipD (a.map .int) (b.map .int) = (a.zip b).map fun p => .tup [.int p.1, .int p.2]
  | [], _ => rfl
  | _ :: _, [] => rfl
  | x :: a, y :: b => by simp only [List.map_cons, zipD, zip_ints a b, List.zip_cons_cons]
theorem chg_len : ∀ l : List Int, ((l.zip (l.drop 1)).filterMap fun p => if p.1 = p.2 then none else some (D.int p.1)).length = chg l
  | [] => rfl
  | [_] => rfl
  | a :: b :: l => by
    have := chg_len (b :: l)
    simp only [List.drop_succ_cons, List.drop_zero] at this ⊢
    rw [List.zip_cons_cons, List.filterMap_cons, chg]
    by_cases e : a = b
    · simp only [e, if_true]; rw [this]; omega
    · simp only [e, if_false, List.length_cons]; rw [this]; omega
theorem count_done_ct (Γ : Env) (h1 : Γ.fn "values_shown" = some m_values_shown) : Ctr Γ 6 3 b_count_done m_count_done := mkR_ct fun w z n ks vh h => by
  have lg := along_len w z ks sta0
  have hk := h.2.2.2
  simp only at hk
  obtain ⟨V, hV⟩ : ∃ V, V = vals w z ks := ⟨_, rfl⟩
  have lV : V.length ≤ 61 := by rw [hV, vals, List.length_map]; omega
  have q := values_shown_at h
  rw [← hV] at q
  obtain ⟨v1, hv1⟩ : ∃ v1, v1 = (vh ++ [Cell.lst (V.map .int)]) ++ [Cell.lst ((V.drop 1).map .int)] := ⟨_, rfl⟩
  have s1 : slcF (.ref vh.length) (some 1) none (vh ++ [Cell.lst (V.map .int)]) = some (.ok (.ref (vh ++ [Cell.lst (V.map .int)]).length), v1) := by
    rw [slc_1 vh.length (V.map .int) _ (last_get _ _), hv1, List.map_drop]
  have g1 : v1[(vh ++ [Cell.lst (V.map .int)]).length]? = some (.lst ((V.drop 1).map .int)) := by rw [hv1]; exact last_get _ _
  have g0 : v1[vh.length]? = some (.lst (V.map .int)) := by rw [hv1]; exact app_get _ (last_get _ _)
  have c : ev Γ (.cpr [4, 5] (.tp [(.nm 4), (.nm 5)]) (.zip (.var 3) (.slc (.var 3) (some (.cst (.int 1))) none)) (some (.cmp .ne (.var 4) (.var 5))) (.var 4)) [some (encW w), some (.int z), some (.ref n), some (.ref vh.length), none, none] (vh ++ [Cell.lst (V.map .int)]) =
      some (.ok (.ref v1.length), v1 ++ [.lst ((V.zip (V.drop 1)).filterMap fun p => if p.1 = p.2 then none else some (D.int p.1))]) :=
    ev_cprA (gs := [(vh.length, .lst (V.map .int)), ((vh ++ [Cell.lst (V.map .int)]).length, .lst ((V.drop 1).map .int))]) (fun p : Int × Int => .tup [.int p.1, .int p.2]) _ (V.zip (V.drop 1))
      (by simp only [evI, body, runs, run.eq_1, run.eq_2, run.eq_3, run.eq_4, run.eq_5, run.eq_6, run.eq_9, run.eq_11, ev.eq_1, ev.eq_2, ev.eq_3, ev.eq_4, ev.eq_5, ev.eq_6, ev.eq_7, ev.eq_8, ev.eq_9, ev.eq_10, ev.eq_11, ev.eq_12, ev.eq_13, ev.eq_14, ev.eq_15, ev.eq_16, ev.eq_17, ev.eq_18, ev.eq_19, ev.eq_20, ev.eq_21, ev.eq_22, ev.eq_23, ev.eq_24, evs, evo, evc, asg, asgs, List.map_cons, List.map_nil, List.length_cons, List.length_nil, List.replicate, List.append_nil, List.nil_append, List.cons_append, List.getElem?_cons_zero, List.getElem?_cons_succ, List.set_cons_zero, List.set_cons_succ, R.bind_ok, R.bind_ex, if_true, if_false, intOf_i, lift_some, Option.map_some, slc_tup, cmp_eq, cmp_ne, cmp_in, cmp_nin, cmp_is, cmp_isn, cmp_le, cmp_lt, cmp_ge, cmp_gt, bin_add, bin_addt, bin_sub, bin_mod, tru_bl, brB_true, brB_false, toB_some, Nat.sub_self, Nat.zero_add, Nat.reduceAdd, Nat.reduceSub, Nat.reduceLeDiff, Nat.reduceEqDiff, s1, zipF, lstAt_of g0, lstAt_of g1, zip_ints])
      (by
        intro p hp
        rcases List.mem_cons.mp hp with e | hp
        · rw [e]; exact g0
        · rw [List.mem_singleton.mp hp]; exact g1)
      (fun p hp l => by
        by_cases e : p.1 = p.2 <;> simp [body, runs, run.eq_1, run.eq_2, run.eq_3, run.eq_4, run.eq_5, run.eq_6, run.eq_9, run.eq_11, ev.eq_1, ev.eq_2, ev.eq_3, ev.eq_4, ev.eq_5, ev.eq_6, ev.eq_7, ev.eq_8, ev.eq_9, ev.eq_10, ev.eq_11, ev.eq_12, ev.eq_13, ev.eq_14, ev.eq_15, ev.eq_16, ev.eq_17, ev.eq_18, ev.eq_19, ev.eq_20, ev.eq_21, ev.eq_22, ev.eq_23, ev.eq_24, evs, evo, evc, asg, asgs, List.map_cons, List.map_nil, List.length_cons, List.length_nil, List.replicate, List.append_nil, List.nil_append, List.cons_append, List.getElem?_cons_zero, List.getElem?_cons_succ, List.set_cons_zero, List.set_cons_succ, R.bind_ok, R.bind_ex, if_true, if_false, intOf_i, lift_some, Option.map_some, slc_tup, cmp_eq, cmp_ne, cmp_in, cmp_nin, cmp_is, cmp_isn, cmp_le, cmp_lt, cmp_ge, cmp_gt, bin_add, bin_addt, bin_sub, bin_mod, tru_bl, brB_true, brB_false, toB_some, Nat.sub_self, Nat.zero_add, Nat.reduceAdd, Nat.reduceSub, Nat.reduceLeDiff, Nat.reduceEqDiff, wipeF, eqF_int, e]) (by rw [List.length_zip]; omega)
  refine Gc.pure (junk := [Cell.lst (V.map .int), Cell.lst ((V.drop 1).map .int), .lst ((V.zip (V.drop 1)).filterMap fun p => if p.1 = p.2 then none else some (D.int p.1))]) rfl ?_
  simp only [b_count_done, body, runs, run.eq_1, run.eq_2, run.eq_3, run.eq_4, run.eq_5, run.eq_6, run.eq_9, run.eq_11, ev.eq_1, ev.eq_2, ev.eq_3, ev.eq_4, ev.eq_5, ev.eq_6, ev.eq_7, ev.eq_8, ev.eq_9, ev.eq_10, ev.eq_11, ev.eq_12, ev.eq_13, ev.eq_14, ev.eq_15, ev.eq_16, ev.eq_17, ev.eq_18, ev.eq_19, ev.eq_20, ev.eq_21, ev.eq_22, ev.eq_23, ev.eq_24, evs, evo, evc, asg, asgs, List.map_cons, List.map_nil, List.length_cons, List.length_nil, List.replicate, List.append_nil, List.nil_append, List.cons_append, List.getElem?_cons_zero, List.getElem?_cons_succ, List.set_cons_zero, List.set_cons_succ, R.bind_ok, R.bind_ex, if_true, if_false, intOf_i, lift_some, Option.map_some, slc_tup, cmp_eq, cmp_ne, cmp_in, cmp_nin, cmp_is, cmp_isn, cmp_le, cmp_lt, cmp_ge, cmp_gt, bin_add, bin_addt, bin_sub, bin_mod, tru_bl, brB_true, brB_false, toB_some, Nat.sub_self, Nat.zero_add, Nat.reduceAdd, Nat.reduceSub, Nat.reduceLeDiff, Nat.reduceEqDiff, h1, q, c, bfF, last_get, chg_len]
  simp [hv1, hV]
end Sb

/-! the laws' own step -/
namespace Sb
open PySem
def envF (f : Str → Option Ct) : Env := ⟨f, fun _ _ => none, fun _ => none, fun _ _ => none, 0⟩
def opn (Γ : Env) (n p : Nat) (b : List S) : Ct := fun ds vh => if ds.length = p then body Γ n b ds vh else none
theorem opn_ct {Γ Γ0 : Env} {n p : Nat} {b : List S} (h : ∀ ds vh, body Γ n b ds vh = body Γ0 n b ds vh) : Ctr Γ n p b (opn Γ0 n p b) where
  ar := fun ds vh q => by
    unfold opn at q
    split at q
    · assumption
    · exact absurd rfl q
  ok := fun ds vh q => by
    unfold opn at q ⊢
    split at q
    · rename_i e; rw [if_pos e]; exact Gc.of_eq (h ds vh)
    · exact absurd rfl q
theorem get0 (vh : VH) (c : Cell) (t : VH) : (vh ++ c :: t)[vh.length]? = some c := by simp
theorem get1 (vh : VH) (c d : Cell) (t : VH) : (vh ++ c :: d :: t)[vh.length + 1]? = some d := by
  rw [List.getElem?_append_right (by omega)]; simp
theorem set0 (vh : VH) (c c' : Cell) (t : VH) : (vh ++ c :: t).set vh.length c' = vh ++ c' :: t := by simp
theorem set1 (vh : VH) (c d d' : Cell) (t : VH) : (vh ++ c :: d :: t).set (vh.length + 1) d' = vh ++ c :: d' :: t := by
  rw [List.set_append_right _ _ (by omega)]; simp
theorem lst0 (vh : VH) (l : List D) (t : VH) : lstAt (vh ++ .lst l :: t) vh.length = some l := lstAt_of (get0 _ _ _)
theorem lst1 (vh : VH) (c : Cell) (l : List D) (t : VH) : lstAt (vh ++ c :: .lst l :: t) (vh.length + 1) = some l := lstAt_of (get1 _ _ _ _)
abbrev il (l : List Int) : Cell := .lst (l.map .int)
theorem push_eq (f : List Int) (v r : Int) (h0 : 0 < r) (h : (f.length : Int) ≤ r) : push f v r = if r < (f.length : Int) + 1 then (f ++ [v]).drop 1 else f ++ [v] := by
  simp only [push, cut, sIx, List.length_append, List.length_singleton]
  rw [if_pos (by omega)]
  split
  · have : (-r + ((f.length + 1 : Nat) : Int)).toNat = 1 := by omega
    rw [this, List.take_of_length_le (by simp)]
  · have : (-r + ((f.length + 1 : Nat) : Int)).toNat = 0 := by omega
    rw [this, List.drop_zero, List.take_of_length_le (by simp)]
theorem eq_nil {h : VH} {a k : Nat} {l : List Int} (h1 : lstAt h a = some (l.map .int)) (h2 : lstAt h k = some []) : eqF h (.ref a) (.ref k) = some (decide (l = [])) := by
  have e1 : rfy h 12 (.ref a) = some (.list (l.map .int)) := by rw [rfy_ref h 11 a _ h1, rfys_ints]; rfl
  have e2 : rfy h 12 (.ref k) = some (.list []) := by rw [rfy_ref h 11 k _ h2]; rfl
  simp only [eqF, e1, e2, PyData.eqv]
  exact congrArg some (eqvAll_ints l [])
theorem pop_last (l : List Int) (h : l ≠ []) : (l.map D.int)[(l.map D.int).length - 1]? = some (.int (lastI l)) := by
  rw [← List.getLast?_eq_getElem?, List.getLast?_map, lastI]
  cases e : l.getLast? with
  | none => exact absurd (List.getLast?_eq_none_iff.mp e) h
  | some x => rfl
def b_law_put : List S := [.exp (.bmt .append (.var 0) [.var 1]), .ite (.cmp .gt (.bfn .len [.var 0]) (.ite (.cmp .eq (.idx (.var 2) (.cst (.int 0))) (.cst (.str "swap"))) (.cst (.int 1)) (.idx (.var 2) (.cst (.int 1))))) [.exp (.bmt .pop0 (.var 0) [.cst (.int 0)])] []]
def b_law_move : List S := [.exp (.cal "_law_put" [.var 1, .var 2, .var 3]), .ret (.bmt .pop (.var 0) [])]
def b_law_back : List S := [.ite (.cmp .eq (.idx (.var 0) (.cst (.int 0))) (.cst (.str "deed"))) [.ite (.cmp .ne (.var 4) (.cst (.int 2))) [.exp (.bmt .clear (.var 3) []), .exp (.bmt .extend (.var 3) [.var 2])] [], .ite (.cmp .ne (.var 3) (.lst [])) [.set (.nm 1) (.cal "_law_move" [.var 3, .var 2, .var 1, .var 0])] [], .ret (.tup [.var 1, .cst (.int 2)])] [], .ite (.cmp .eq (.idx (.var 0) (.cst (.int 0))) (.cst (.str "swap"))) [.ite (.cmp .ne (.var 2) (.lst [])) [.set (.tp [(.nm 1), (.sub (.var 2) (.cst (.int 0)))]) (.tup [.idx (.var 2) (.cst (.int 0)), .var 1])] [], .ret (.tup [.var 1, .cst (.int 0)])] [], .ite (.cmp .ne (.var 2) (.lst [])) [.set (.nm 1) (.cal "_law_move" [.var 2, .var 3, .var 1, .var 0])] [], .ret (.tup [.var 1, .cst (.int 0)])]
def b_law_again : List S := [.ite (.cmp .eq (.idx (.var 0) (.cst (.int 0))) (.cst (.str "deed"))) [.exp (.bmt .clear (.var 3) []), .ret (.var 1)] [], .ite (.cmp .eq (.idx (.var 0) (.cst (.int 0))) (.cst (.str "swap"))) [.ret (.idx (.cal "_law_back" [.var 0, .var 1, .var 2, .var 3, .cst (.int 0)]) (.cst (.int 0)))] [], .ret (.ite (.cmp .ne (.var 3) (.lst [])) (.cal "_law_move" [.var 3, .var 2, .var 1, .var 0]) (.var 1))]
def b_law_change : List S := [.set (.tp [(.nm 4), (.nm 5), (.nm 6), (.nm 7), (.nm 8)]) (.var 2), .ite (.or (.and (.cmp .isin (.var 3) (.tup [.cst (.str "next"), .cst (.str "home")])) (.cmp .ne (.idx (.var 0) (.cst (.int 0))) (.cst (.str "ring")))) (.cmp .eq (.idx (.var 0) (.cst (.int 0))) (.cst (.str "deed")))) [.ite (.and (.not (.and (.cmp .eq (.idx (.var 0) (.cst (.int 0))) (.cst (.str "line"))) (.and (.cmp .eq (.var 3) (.cst (.str "home"))) (.cmp .eq (.idx (.var 0) (.neg (.cst (.int 1)))) (.cst (.str "bare")))))) (.cmp .ne (.idx (.var 0) (.cst (.int 0))) (.cst (.str "swap")))) [.exp (.bmt .clear (.var 7) [])] []] [], .ite (.cmp .eq (.var 3) (.cst (.str "next"))) [.ite (.cmp .ne (.var 8) (.cst (.int 1))) [.exp (.cal "_law_put" [.var 6, .var 4, .var 0])] [], .set (.nm 9) (.ite (.and (.cmp .ne (.idx (.var 0) (.cst (.int 0))) (.cst (.str "swap"))) (.cmp .eq (.idx (.var 0) (.cst (.int 2))) (.cst (.int 1)))) (.cst (.int 1)) (.cst (.int 0))), .ret (.tup [.bin .mod (.bin .add (.var 4) (.cst (.int 1))) (.var 1), .var 5, .var 9])] [], .ite (.cmp .eq (.var 3) (.cst (.str "home"))) [.ite (.cmp .eq (.idx (.var 0) (.neg (.cst (.int 1)))) (.cst (.str "deed"))) [.exp (.cal "_law_put" [.var 6, .var 4, .var 0])] [], .ite (.cmp .eq (.idx (.var 0) (.neg (.cst (.int 1)))) (.cst (.str "clear"))) [.exp (.bmt .clear (.var 6) []), .exp (.bmt .clear (.var 7) [])] [], .ret (.tup [.var 5, .var 5, .cst (.int 0)])] [], .ret (.tup [.var 4, .ite (.cmp .eq (.var 3) (.cst (.str "keep"))) (.var 4) (.var 5), .cst (.int 0)])]
def b_law_step : List S := [.set (.tp [(.nm 4), (.nm 5), (.nm 6)]) (.tup [.idx (.var 2) (.cst (.int 0)), .idx (.var 2) (.cst (.int 1)), .idx (.var 2) (.cst (.int 4))]), .set (.tp [(.nm 7), (.nm 8)]) (.tup [.bfn .list [.idx (.var 2) (.cst (.int 2))], .bfn .list [.idx (.var 2) (.cst (.int 3))]]), .ite (.cmp .eq (.var 3) (.cst (.str "back"))) [.set (.tp [(.nm 4), (.nm 6)]) (.cal "_law_back" [.var 0, .var 4, .var 7, .var 8, .var 6])] [.ite (.cmp .eq (.var 3) (.cst (.str "again"))) [.set (.tp [(.nm 4), (.nm 6)]) (.tup [.cal "_law_again" [.var 0, .var 4, .var 7, .var 8], .cst (.int 0)])] [.set (.tp [(.nm 4), (.nm 5), (.nm 6)]) (.cal "_law_change" [.var 0, .var 1, .tup [.var 4, .var 5, .var 7, .var 8, .var 6], .var 3])]], .ret (.tup [.var 4, .var 5, .bfn .tuple [.var 7], .bfn .tuple [.var 8], .var 6])]
def m_law_put : Ct := opn (envF fun _ => none) 3 3 b_law_put
theorem law_put_ct (Γ : Env) : Ctr Γ 3 3 b_law_put m_law_put := opn_ct fun ds vh => by
  simp only [b_law_put, body, runs, run.eq_1, run.eq_2, run.eq_3, run.eq_4, run.eq_5, run.eq_6, run.eq_9, run.eq_11, ev.eq_1, ev.eq_2, ev.eq_3, ev.eq_4, ev.eq_5, ev.eq_6, ev.eq_7, ev.eq_8, ev.eq_9, ev.eq_10, ev.eq_11, ev.eq_12, ev.eq_13, ev.eq_14, ev.eq_15, ev.eq_16, ev.eq_17, ev.eq_18, ev.eq_19, ev.eq_20, ev.eq_21, ev.eq_22, ev.eq_23, ev.eq_24, evs, evo, evc, asg, asgs, List.map_cons, List.map_nil, List.length_cons, List.length_nil, List.replicate, List.append_nil, List.nil_append, List.cons_append, List.getElem?_cons_zero, List.getElem?_cons_succ, List.set_cons_zero, List.set_cons_succ, R.bind_ok, R.bind_ex, if_true, if_false, intOf_i, lift_some, Option.map_some, slc_tup, cmp_eq, cmp_ne, cmp_in, cmp_nin, cmp_is, cmp_isn, cmp_le, cmp_lt, cmp_ge, cmp_gt, bin_add, bin_addt, bin_sub, bin_mod, tru_bl, brB_true, brB_false, toB_some, Nat.sub_self, Nat.zero_add, Nat.reduceAdd, Nat.reduceSub, Nat.reduceLeDiff, Nat.reduceEqDiff]
theorem way_room (w : Way) (h : VH) : (if w.kd = .swap then some (Res.ok (D.int 1), h) else lift (idxF (encW w) (.int 1) h) h) = some (.ok (.int w.rm), h) := by
  split
  · rename_i q; rw [(tg_ne w q).2]
  · rename_i q; rw [way_1 w h q]; rfl
theorem put0 (w : Way) (f : List Int) (v : Int) (vh t : VH) (hf : (f.length : Int) ≤ w.rm) : m_law_put [.ref vh.length, .int v, encW w] (vh ++ il f :: t) = some (.ok .non, vh ++ il (push f v w.rm) :: t) := by
  have hl : (f.map D.int).length < lim := by
    show _ < 16777216
    have := rm_or w
    rw [List.length_map]; omega
  rw [push_eq f v _ (by have := rm_or w; omega) hf]
  cases f with
  | nil =>
    have h1 := rm_or w
    have hs : ¬ w.rm < 1 := by omega
    simp [m_law_put, opn, b_law_put, body, runs, run.eq_1, run.eq_2, run.eq_3, run.eq_4, run.eq_5, run.eq_6, run.eq_9, run.eq_11, ev.eq_1, ev.eq_2, ev.eq_3, ev.eq_4, ev.eq_5, ev.eq_6, ev.eq_7, ev.eq_8, ev.eq_9, ev.eq_10, ev.eq_11, ev.eq_12, ev.eq_13, ev.eq_14, ev.eq_15, ev.eq_16, ev.eq_17, ev.eq_18, ev.eq_19, ev.eq_20, ev.eq_21, ev.eq_22, ev.eq_23, ev.eq_24, evs, evo, evc, asg, asgs, List.map_cons, List.map_nil, List.length_cons, List.length_nil, List.replicate, List.append_nil, List.nil_append, List.cons_append, List.getElem?_cons_zero, List.getElem?_cons_succ, List.set_cons_zero, List.set_cons_succ, R.bind_ok, R.bind_ex, if_true, if_false, intOf_i, lift_some, Option.map_some, slc_tup, cmp_eq, cmp_ne, cmp_in, cmp_nin, cmp_is, cmp_isn, cmp_le, cmp_lt, cmp_ge, cmp_gt, bin_add, bin_addt, bin_sub, bin_mod, tru_bl, brB_true, brB_false, toB_some, Nat.sub_self, Nat.zero_add, Nat.reduceAdd, Nat.reduceSub, Nat.reduceLeDiff, Nat.reduceEqDiff, rcv, lst0, bfF, set0, get0, way_0, kd_3, brB_d, way_room, hs]
  | cons a f =>
    have hl' : f.length + 1 < lim := by simpa using hl
    by_cases hs : w.rm < (f.length : Int) + 1 + 1
    · simp [m_law_put, opn, b_law_put, body, runs, run.eq_1, run.eq_2, run.eq_3, run.eq_4, run.eq_5, run.eq_6, run.eq_9, run.eq_11, ev.eq_1, ev.eq_2, ev.eq_3, ev.eq_4, ev.eq_5, ev.eq_6, ev.eq_7, ev.eq_8, ev.eq_9, ev.eq_10, ev.eq_11, ev.eq_12, ev.eq_13, ev.eq_14, ev.eq_15, ev.eq_16, ev.eq_17, ev.eq_18, ev.eq_19, ev.eq_20, ev.eq_21, ev.eq_22, ev.eq_23, ev.eq_24, evs, evo, evc, asg, asgs, List.map_cons, List.map_nil, List.length_cons, List.length_nil, List.replicate, List.append_nil, List.nil_append, List.cons_append, List.getElem?_cons_zero, List.getElem?_cons_succ, List.set_cons_zero, List.set_cons_succ, R.bind_ok, R.bind_ex, if_true, if_false, intOf_i, lift_some, Option.map_some, slc_tup, cmp_eq, cmp_ne, cmp_in, cmp_nin, cmp_is, cmp_isn, cmp_le, cmp_lt, cmp_ge, cmp_gt, bin_add, bin_addt, bin_sub, bin_mod, tru_bl, brB_true, brB_false, toB_some, Nat.sub_self, Nat.zero_add, Nat.reduceAdd, Nat.reduceSub, Nat.reduceLeDiff, Nat.reduceEqDiff, rcv, lst0, bfF, set0, get0, way_0, kd_3, brB_d, way_room, hs, hl']
    · simp [m_law_put, opn, b_law_put, body, runs, run.eq_1, run.eq_2, run.eq_3, run.eq_4, run.eq_5, run.eq_6, run.eq_9, run.eq_11, ev.eq_1, ev.eq_2, ev.eq_3, ev.eq_4, ev.eq_5, ev.eq_6, ev.eq_7, ev.eq_8, ev.eq_9, ev.eq_10, ev.eq_11, ev.eq_12, ev.eq_13, ev.eq_14, ev.eq_15, ev.eq_16, ev.eq_17, ev.eq_18, ev.eq_19, ev.eq_20, ev.eq_21, ev.eq_22, ev.eq_23, ev.eq_24, evs, evo, evc, asg, asgs, List.map_cons, List.map_nil, List.length_cons, List.length_nil, List.replicate, List.append_nil, List.nil_append, List.cons_append, List.getElem?_cons_zero, List.getElem?_cons_succ, List.set_cons_zero, List.set_cons_succ, R.bind_ok, R.bind_ex, if_true, if_false, intOf_i, lift_some, Option.map_some, slc_tup, cmp_eq, cmp_ne, cmp_in, cmp_nin, cmp_is, cmp_isn, cmp_le, cmp_lt, cmp_ge, cmp_gt, bin_add, bin_addt, bin_sub, bin_mod, tru_bl, brB_true, brB_false, toB_some, Nat.sub_self, Nat.zero_add, Nat.reduceAdd, Nat.reduceSub, Nat.reduceLeDiff, Nat.reduceEqDiff, rcv, lst0, bfF, set0, get0, way_0, kd_3, brB_d, way_room, hs, hl']
theorem put1 (w : Way) (c : Cell) (f : List Int) (v : Int) (vh t : VH) (hf : (f.length : Int) ≤ w.rm) : m_law_put [.ref (vh.length + 1), .int v, encW w] (vh ++ c :: il f :: t) = some (.ok .non, vh ++ c :: il (push f v w.rm) :: t) := by
  have := put0 w f v (vh ++ [c]) t hf
  simpa using this
def fnM : Str → Option Ct := fun x => if x = "_law_put" then some m_law_put else none
theorem fnM_put : fnM "_law_put" = some m_law_put := if_pos rfl
def m_law_move : Ct := opn (envF fnM) 4 4 b_law_move
theorem law_move_ct (Γ : Env) (h1 : Γ.fn "_law_put" = some m_law_put) : Ctr Γ 4 4 b_law_move m_law_move := opn_ct fun ds vh => by
  simp only [b_law_move, body, runs, run.eq_1, run.eq_2, run.eq_3, run.eq_4, run.eq_5, run.eq_6, run.eq_9, run.eq_11, ev.eq_1, ev.eq_2, ev.eq_3, ev.eq_4, ev.eq_5, ev.eq_6, ev.eq_7, ev.eq_8, ev.eq_9, ev.eq_10, ev.eq_11, ev.eq_12, ev.eq_13, ev.eq_14, ev.eq_15, ev.eq_16, ev.eq_17, ev.eq_18, ev.eq_19, ev.eq_20, ev.eq_21, ev.eq_22, ev.eq_23, ev.eq_24, evs, evo, evc, asg, asgs, List.map_cons, List.map_nil, List.length_cons, List.length_nil, List.replicate, List.append_nil, List.nil_append, List.cons_append, List.getElem?_cons_zero, List.getElem?_cons_succ, List.set_cons_zero, List.set_cons_succ, R.bind_ok, R.bind_ex, if_true, if_false, intOf_i, lift_some, Option.map_some, slc_tup, cmp_eq, cmp_ne, cmp_in, cmp_nin, cmp_is, cmp_isn, cmp_le, cmp_lt, cmp_ge, cmp_gt, bin_add, bin_addt, bin_sub, bin_mod, tru_bl, brB_true, brB_false, toB_some, Nat.sub_self, Nat.zero_add, Nat.reduceAdd, Nat.reduceSub, Nat.reduceLeDiff, Nat.reduceEqDiff, h1, envF, fnM_put]
theorem move1 (w : Way) (f s : List Int) (v : Int) (vh t : VH) (hf : f ≠ []) (hs : (s.length : Int) ≤ w.rm) : m_law_move [.ref vh.length, .ref (vh.length + 1), .int v, encW w] (vh ++ il f :: il s :: t) = some (.ok (.int (lastI f)), vh ++ il f.dropLast :: il (push s v w.rm) :: t) := by
  simp only [m_law_move, opn, b_law_move, body, runs, run.eq_1, run.eq_2, run.eq_3, run.eq_4, run.eq_5, run.eq_6, run.eq_9, run.eq_11, ev.eq_1, ev.eq_2, ev.eq_3, ev.eq_4, ev.eq_5, ev.eq_6, ev.eq_7, ev.eq_8, ev.eq_9, ev.eq_10, ev.eq_11, ev.eq_12, ev.eq_13, ev.eq_14, ev.eq_15, ev.eq_16, ev.eq_17, ev.eq_18, ev.eq_19, ev.eq_20, ev.eq_21, ev.eq_22, ev.eq_23, ev.eq_24, evs, evo, evc, asg, asgs, List.map_cons, List.map_nil, List.length_cons, List.length_nil, List.replicate, List.append_nil, List.nil_append, List.cons_append, List.getElem?_cons_zero, List.getElem?_cons_succ, List.set_cons_zero, List.set_cons_succ, R.bind_ok, R.bind_ex, if_true, if_false, intOf_i, lift_some, Option.map_some, slc_tup, cmp_eq, cmp_ne, cmp_in, cmp_nin, cmp_is, cmp_isn, cmp_le, cmp_lt, cmp_ge, cmp_gt, bin_add, bin_addt, bin_sub, bin_mod, tru_bl, brB_true, brB_false, toB_some, Nat.sub_self, Nat.zero_add, Nat.reduceAdd, Nat.reduceSub, Nat.reduceLeDiff, Nat.reduceEqDiff, envF, fnM_put, put1 w _ s v vh t hs, rcv, lst0, Option.isSome_some, bfF, pop_last f hf, set0]
  simp
theorem move2 (w : Way) (f s : List Int) (v : Int) (vh t : VH) (hs : s ≠ []) (hf : (f.length : Int) ≤ w.rm) : m_law_move [.ref (vh.length + 1), .ref vh.length, .int v, encW w] (vh ++ il f :: il s :: t) = some (.ok (.int (lastI s)), vh ++ il (push f v w.rm) :: il s.dropLast :: t) := by
  simp only [m_law_move, opn, b_law_move, body, runs, run.eq_1, run.eq_2, run.eq_3, run.eq_4, run.eq_5, run.eq_6, run.eq_9, run.eq_11, ev.eq_1, ev.eq_2, ev.eq_3, ev.eq_4, ev.eq_5, ev.eq_6, ev.eq_7, ev.eq_8, ev.eq_9, ev.eq_10, ev.eq_11, ev.eq_12, ev.eq_13, ev.eq_14, ev.eq_15, ev.eq_16, ev.eq_17, ev.eq_18, ev.eq_19, ev.eq_20, ev.eq_21, ev.eq_22, ev.eq_23, ev.eq_24, evs, evo, evc, asg, asgs, List.map_cons, List.map_nil, List.length_cons, List.length_nil, List.replicate, List.append_nil, List.nil_append, List.cons_append, List.getElem?_cons_zero, List.getElem?_cons_succ, List.set_cons_zero, List.set_cons_succ, R.bind_ok, R.bind_ex, if_true, if_false, intOf_i, lift_some, Option.map_some, slc_tup, cmp_eq, cmp_ne, cmp_in, cmp_nin, cmp_is, cmp_isn, cmp_le, cmp_lt, cmp_ge, cmp_gt, bin_add, bin_addt, bin_sub, bin_mod, tru_bl, brB_true, brB_false, toB_some, Nat.sub_self, Nat.zero_add, Nat.reduceAdd, Nat.reduceSub, Nat.reduceLeDiff, Nat.reduceEqDiff, envF, fnM_put, put0 w f v vh _ hf, rcv, lst1, Option.isSome_some, bfF, pop_last s hs, set1]
  simp
def fnB : Str → Option Ct := fun x => if x = "_law_move" then some m_law_move else none
theorem fnB_move : fnB "_law_move" = some m_law_move := if_pos rfl
def m_law_back : Ct := opn (envF fnB) 5 5 b_law_back
theorem asgs_2 (Γ : Env) (a b : T) (ds : List D) (fr : Fr) (h : VH) : asgs Γ [a, b] ds fr h = (match ds with
    | [x, y] => (asg Γ a x fr h).bind fun fr h => (asg Γ b y fr h).bind fun fr h => some (.ok fr, h)
    | x :: y :: _ :: _ => (asg Γ a x fr h).bind fun fr h => (asg Γ b y fr h).bind fun fr h => none
    | [x] => (asg Γ a x fr h).bind fun fr h => none
    | [] => none) := by
  match ds with
  | [] => simp only [asgs]
  | [_] => simp only [asgs]
  | [_, _] => simp only [asgs]
  | _ :: _ :: _ :: _ => simp only [asgs]
theorem asgs_3 (Γ : Env) (a b c : T) (ds : List D) (fr : Fr) (h : VH) : asgs Γ [a, b, c] ds fr h = (match ds with
    | x :: ds => (asg Γ a x fr h).bind fun fr h => asgs Γ [b, c] ds fr h
    | [] => none) := by
  cases ds <;> simp only [asgs]
theorem asgs_4 (Γ : Env) (a b c d : T) (ds : List D) (fr : Fr) (h : VH) : asgs Γ [a, b, c, d] ds fr h = (match ds with
    | x :: ds => (asg Γ a x fr h).bind fun fr h => asgs Γ [b, c, d] ds fr h
    | [] => none) := by
  cases ds <;> simp only [asgs]
theorem asgs_5 (Γ : Env) (a b c d e : T) (ds : List D) (fr : Fr) (h : VH) : asgs Γ [a, b, c, d, e] ds fr h = (match ds with
    | x :: ds => (asg Γ a x fr h).bind fun fr h => asgs Γ [b, c, d, e] ds fr h
    | [] => none) := by
  cases ds <;> simp only [asgs]
theorem law_back_ct (Γ : Env) (h1 : Γ.fn "_law_move" = some m_law_move) : Ctr Γ 5 5 b_law_back m_law_back := opn_ct fun ds vh => by
  simp only [b_law_back, body, runs, run.eq_1, run.eq_2, run.eq_3, run.eq_4, run.eq_5, run.eq_6, run.eq_9, run.eq_11, ev.eq_1, ev.eq_2, ev.eq_3, ev.eq_4, ev.eq_5, ev.eq_6, ev.eq_7, ev.eq_8, ev.eq_9, ev.eq_10, ev.eq_11, ev.eq_12, ev.eq_13, ev.eq_14, ev.eq_15, ev.eq_16, ev.eq_17, ev.eq_18, ev.eq_19, ev.eq_20, ev.eq_21, ev.eq_22, ev.eq_23, ev.eq_24, evs, evo, evc, asg, asgs, List.map_cons, List.map_nil, List.length_cons, List.length_nil, List.replicate, List.append_nil, List.nil_append, List.cons_append, List.getElem?_cons_zero, List.getElem?_cons_succ, List.set_cons_zero, List.set_cons_succ, R.bind_ok, R.bind_ex, if_true, if_false, intOf_i, lift_some, Option.map_some, slc_tup, cmp_eq, cmp_ne, cmp_in, cmp_nin, cmp_is, cmp_isn, cmp_le, cmp_lt, cmp_ge, cmp_gt, bin_add, bin_addt, bin_sub, bin_mod, tru_bl, brB_true, brB_false, toB_some, Nat.sub_self, Nat.zero_add, Nat.reduceAdd, Nat.reduceSub, Nat.reduceLeDiff, Nat.reduceEqDiff, h1, envF, fnB_move, asgs_2]
theorem nil0 (vh : VH) (f s : List Int) (t : VH) : eqF (vh ++ il f :: il s :: (t ++ [.lst []])) (.ref vh.length) (.ref (vh ++ il f :: il s :: t).length) = some (decide (f = [])) :=
  eq_nil (lst0 _ _ _) (lstAt_of (by have := last_get (vh ++ il f :: il s :: t) (.lst []); simpa using this))
theorem nil1 (vh : VH) (f s : List Int) (t : VH) : eqF (vh ++ il f :: il s :: (t ++ [.lst []])) (.ref (vh.length + 1)) (.ref (vh ++ il f :: il s :: t).length) = some (decide (s = [])) :=
  eq_nil (lst1 _ _ _ _) (lstAt_of (by have := last_get (vh ++ il f :: il s :: t) (.lst []); simpa using this))
theorem setF0 (vh : VH) (a v : Int) (l : List Int) (t : VH) : setF (.ref vh.length) (.int 0) (.int v) (vh ++ il (a :: l) :: t) = some (vh ++ il (v :: l) :: t) := by
  simp only [setF, get0, List.map_cons, List.length_cons]
  rw [show ixN ((List.map D.int l).length + 1) 0 = some 0 from by unfold ixN; rw [if_pos (by decide), if_pos (by omega)]; rfl]
  simp
theorem back_sp (w : Way) (v m g : Int) (f s : List Int) (z : Int) (vh t : VH) (h : Inv w ⟨v, m, f, s, g⟩) : ∃ t', m_law_back [encW w, .int v, .ref vh.length, .ref (vh.length + 1), .int g] (vh ++ il f :: il s :: t) =
    some (.ok (.tup [.int (stepS w z ⟨v, m, f, s, g⟩ .back).v, .int (stepS w z ⟨v, m, f, s, g⟩ .back).g]), vh ++ il (stepS w z ⟨v, m, f, s, g⟩ .back).f :: il (stepS w z ⟨v, m, f, s, g⟩ .back).s :: t') ∧ (stepS w z ⟨v, m, f, s, g⟩ .back).m = m := by
  obtain ⟨h1, h2, h3, h4, h5⟩ := h
  simp only at h1 h2 h3 h4 h5
  have n0 := nil0 vh f s t
  have n1 := nil1 vh f s t
  have n0' := n0
  have n1' := n1
  simp only [List.length_append, List.length_cons] at n0' n1'
  simp only [stepS, stepBack]
  cases e : w.kd with
  | line =>
    refine ⟨t ++ [.lst []], ?_, ?_⟩
    · by_cases hf : f = []
      · subst hf
        have n0a := n0
        have n0b := n0'
        simp only [il, List.map_nil] at n0a n0b
        simp [m_law_back, opn, b_law_back, body, runs, run.eq_1, run.eq_2, run.eq_3, run.eq_4, run.eq_5, run.eq_6, run.eq_9, run.eq_11, ev.eq_1, ev.eq_2, ev.eq_3, ev.eq_4, ev.eq_5, ev.eq_6, ev.eq_7, ev.eq_8, ev.eq_9, ev.eq_10, ev.eq_11, ev.eq_12, ev.eq_13, ev.eq_14, ev.eq_15, ev.eq_16, ev.eq_17, ev.eq_18, ev.eq_19, ev.eq_20, ev.eq_21, ev.eq_22, ev.eq_23, ev.eq_24, evs, evo, evc, asg, asgs, List.map_cons, List.map_nil, List.length_cons, List.length_nil, List.replicate, List.append_nil, List.nil_append, List.cons_append, List.getElem?_cons_zero, List.getElem?_cons_succ, List.set_cons_zero, List.set_cons_succ, R.bind_ok, R.bind_ex, if_true, if_false, intOf_i, lift_some, Option.map_some, slc_tup, cmp_eq, cmp_ne, cmp_in, cmp_nin, cmp_is, cmp_isn, cmp_le, cmp_lt, cmp_ge, cmp_gt, bin_add, bin_addt, bin_sub, bin_mod, tru_bl, brB_true, brB_false, toB_some, Nat.sub_self, Nat.zero_add, Nat.reduceAdd, Nat.reduceSub, Nat.reduceLeDiff, Nat.reduceEqDiff, way_0, kd_2, kd_3, e, brB_d, brB_n, n0, n0', n0a, n0b, takenS]
      · simp [m_law_back, opn, b_law_back, body, runs, run.eq_1, run.eq_2, run.eq_3, run.eq_4, run.eq_5, run.eq_6, run.eq_9, run.eq_11, ev.eq_1, ev.eq_2, ev.eq_3, ev.eq_4, ev.eq_5, ev.eq_6, ev.eq_7, ev.eq_8, ev.eq_9, ev.eq_10, ev.eq_11, ev.eq_12, ev.eq_13, ev.eq_14, ev.eq_15, ev.eq_16, ev.eq_17, ev.eq_18, ev.eq_19, ev.eq_20, ev.eq_21, ev.eq_22, ev.eq_23, ev.eq_24, evs, evo, evc, asg, asgs, List.map_cons, List.map_nil, List.length_cons, List.length_nil, List.replicate, List.append_nil, List.nil_append, List.cons_append, List.getElem?_cons_zero, List.getElem?_cons_succ, List.set_cons_zero, List.set_cons_succ, R.bind_ok, R.bind_ex, if_true, if_false, intOf_i, lift_some, Option.map_some, slc_tup, cmp_eq, cmp_ne, cmp_in, cmp_nin, cmp_is, cmp_isn, cmp_le, cmp_lt, cmp_ge, cmp_gt, bin_add, bin_addt, bin_sub, bin_mod, tru_bl, brB_true, brB_false, toB_some, Nat.sub_self, Nat.zero_add, Nat.reduceAdd, Nat.reduceSub, Nat.reduceLeDiff, Nat.reduceEqDiff, way_0, kd_2, kd_3, e, brB_d, brB_n, n0, n0', takenS, hf, envF, fnB_move, move1 w f s v vh (t ++ [.lst []]) hf h2]
    · simp [takenS]; split <;> rfl
  | ring =>
    refine ⟨t ++ [.lst []], ?_, ?_⟩
    · by_cases hf : f = []
      · subst hf
        have n0a := n0
        have n0b := n0'
        simp only [il, List.map_nil] at n0a n0b
        simp [m_law_back, opn, b_law_back, body, runs, run.eq_1, run.eq_2, run.eq_3, run.eq_4, run.eq_5, run.eq_6, run.eq_9, run.eq_11, ev.eq_1, ev.eq_2, ev.eq_3, ev.eq_4, ev.eq_5, ev.eq_6, ev.eq_7, ev.eq_8, ev.eq_9, ev.eq_10, ev.eq_11, ev.eq_12, ev.eq_13, ev.eq_14, ev.eq_15, ev.eq_16, ev.eq_17, ev.eq_18, ev.eq_19, ev.eq_20, ev.eq_21, ev.eq_22, ev.eq_23, ev.eq_24, evs, evo, evc, asg, asgs, List.map_cons, List.map_nil, List.length_cons, List.length_nil, List.replicate, List.append_nil, List.nil_append, List.cons_append, List.getElem?_cons_zero, List.getElem?_cons_succ, List.set_cons_zero, List.set_cons_succ, R.bind_ok, R.bind_ex, if_true, if_false, intOf_i, lift_some, Option.map_some, slc_tup, cmp_eq, cmp_ne, cmp_in, cmp_nin, cmp_is, cmp_isn, cmp_le, cmp_lt, cmp_ge, cmp_gt, bin_add, bin_addt, bin_sub, bin_mod, tru_bl, brB_true, brB_false, toB_some, Nat.sub_self, Nat.zero_add, Nat.reduceAdd, Nat.reduceSub, Nat.reduceLeDiff, Nat.reduceEqDiff, way_0, kd_2, kd_3, e, brB_d, brB_n, n0, n0', n0a, n0b, takenS]
      · simp [m_law_back, opn, b_law_back, body, runs, run.eq_1, run.eq_2, run.eq_3, run.eq_4, run.eq_5, run.eq_6, run.eq_9, run.eq_11, ev.eq_1, ev.eq_2, ev.eq_3, ev.eq_4, ev.eq_5, ev.eq_6, ev.eq_7, ev.eq_8, ev.eq_9, ev.eq_10, ev.eq_11, ev.eq_12, ev.eq_13, ev.eq_14, ev.eq_15, ev.eq_16, ev.eq_17, ev.eq_18, ev.eq_19, ev.eq_20, ev.eq_21, ev.eq_22, ev.eq_23, ev.eq_24, evs, evo, evc, asg, asgs, List.map_cons, List.map_nil, List.length_cons, List.length_nil, List.replicate, List.append_nil, List.nil_append, List.cons_append, List.getElem?_cons_zero, List.getElem?_cons_succ, List.set_cons_zero, List.set_cons_succ, R.bind_ok, R.bind_ex, if_true, if_false, intOf_i, lift_some, Option.map_some, slc_tup, cmp_eq, cmp_ne, cmp_in, cmp_nin, cmp_is, cmp_isn, cmp_le, cmp_lt, cmp_ge, cmp_gt, bin_add, bin_addt, bin_sub, bin_mod, tru_bl, brB_true, brB_false, toB_some, Nat.sub_self, Nat.zero_add, Nat.reduceAdd, Nat.reduceSub, Nat.reduceLeDiff, Nat.reduceEqDiff, way_0, kd_2, kd_3, e, brB_d, brB_n, n0, n0', takenS, hf, envF, fnB_move, move1 w f s v vh (t ++ [.lst []]) hf h2]
    · simp [takenS]; split <;> rfl
  | deed =>
    refine ⟨t ++ [.lst []], ?_, ?_⟩
    · by_cases hg : g = 2
      · by_cases hs : s = []
        · subst hs
          have n1a := n1
          have n1b := n1'
          simp only [il, List.map_nil] at n1a n1b
          simp [m_law_back, opn, b_law_back, body, runs, run.eq_1, run.eq_2, run.eq_3, run.eq_4, run.eq_5, run.eq_6, run.eq_9, run.eq_11, ev.eq_1, ev.eq_2, ev.eq_3, ev.eq_4, ev.eq_5, ev.eq_6, ev.eq_7, ev.eq_8, ev.eq_9, ev.eq_10, ev.eq_11, ev.eq_12, ev.eq_13, ev.eq_14, ev.eq_15, ev.eq_16, ev.eq_17, ev.eq_18, ev.eq_19, ev.eq_20, ev.eq_21, ev.eq_22, ev.eq_23, ev.eq_24, evs, evo, evc, asg, asgs, List.map_cons, List.map_nil, List.length_cons, List.length_nil, List.replicate, List.append_nil, List.nil_append, List.cons_append, List.getElem?_cons_zero, List.getElem?_cons_succ, List.set_cons_zero, List.set_cons_succ, R.bind_ok, R.bind_ex, if_true, if_false, intOf_i, lift_some, Option.map_some, slc_tup, cmp_eq, cmp_ne, cmp_in, cmp_nin, cmp_is, cmp_isn, cmp_le, cmp_lt, cmp_ge, cmp_gt, bin_add, bin_addt, bin_sub, bin_mod, tru_bl, brB_true, brB_false, toB_some, Nat.sub_self, Nat.zero_add, Nat.reduceAdd, Nat.reduceSub, Nat.reduceLeDiff, Nat.reduceEqDiff, way_0, kd_2, kd_3, e, brB_d, brB_n, n1, n1', n1a, n1b, hg, eqF_int]
        · simp [m_law_back, opn, b_law_back, body, runs, run.eq_1, run.eq_2, run.eq_3, run.eq_4, run.eq_5, run.eq_6, run.eq_9, run.eq_11, ev.eq_1, ev.eq_2, ev.eq_3, ev.eq_4, ev.eq_5, ev.eq_6, ev.eq_7, ev.eq_8, ev.eq_9, ev.eq_10, ev.eq_11, ev.eq_12, ev.eq_13, ev.eq_14, ev.eq_15, ev.eq_16, ev.eq_17, ev.eq_18, ev.eq_19, ev.eq_20, ev.eq_21, ev.eq_22, ev.eq_23, ev.eq_24, evs, evo, evc, asg, asgs, List.map_cons, List.map_nil, List.length_cons, List.length_nil, List.replicate, List.append_nil, List.nil_append, List.cons_append, List.getElem?_cons_zero, List.getElem?_cons_succ, List.set_cons_zero, List.set_cons_succ, R.bind_ok, R.bind_ex, if_true, if_false, intOf_i, lift_some, Option.map_some, slc_tup, cmp_eq, cmp_ne, cmp_in, cmp_nin, cmp_is, cmp_isn, cmp_le, cmp_lt, cmp_ge, cmp_gt, bin_add, bin_addt, bin_sub, bin_mod, tru_bl, brB_true, brB_false, toB_some, Nat.sub_self, Nat.zero_add, Nat.reduceAdd, Nat.reduceSub, Nat.reduceLeDiff, Nat.reduceEqDiff, way_0, kd_2, kd_3, e, brB_d, brB_n, n1, n1', hs, hg, eqF_int, envF, fnB_move, move2 w f s v vh (t ++ [.lst []]) hs h1]
      · have n2 := nil1 vh f f t
        have n2' := n2
        simp only [List.length_append, List.length_cons] at n2'
        have hr := rm_or w
        have hl : f.length ≤ lim := by show _ ≤ 16777216; omega
        by_cases hf : f = []
        · subst hf
          have n2a := n2
          have n2b := n2'
          simp only [il, List.map_nil] at n2a n2b
          have n2c : eqF (vh ++ il [] :: .lst [] :: (t ++ [.lst []])) (.ref (vh.length + 1)) (.ref (vh.length + (t.length + 1 + 1))) = some (decide True) := n2b
          have n2d : eqF (vh ++ .lst [] :: il [] :: (t ++ [.lst []])) (.ref (vh.length + 1)) (.ref (vh.length + (t.length + 1 + 1))) = some (decide True) := n2b
          simp [m_law_back, opn, b_law_back, body, runs, run.eq_1, run.eq_2, run.eq_3, run.eq_4, run.eq_5, run.eq_6, run.eq_9, run.eq_11, ev.eq_1, ev.eq_2, ev.eq_3, ev.eq_4, ev.eq_5, ev.eq_6, ev.eq_7, ev.eq_8, ev.eq_9, ev.eq_10, ev.eq_11, ev.eq_12, ev.eq_13, ev.eq_14, ev.eq_15, ev.eq_16, ev.eq_17, ev.eq_18, ev.eq_19, ev.eq_20, ev.eq_21, ev.eq_22, ev.eq_23, ev.eq_24, evs, evo, evc, asg, asgs, List.map_cons, List.map_nil, List.length_cons, List.length_nil, List.replicate, List.append_nil, List.nil_append, List.cons_append, List.getElem?_cons_zero, List.getElem?_cons_succ, List.set_cons_zero, List.set_cons_succ, R.bind_ok, R.bind_ex, if_true, if_false, intOf_i, lift_some, Option.map_some, slc_tup, cmp_eq, cmp_ne, cmp_in, cmp_nin, cmp_is, cmp_isn, cmp_le, cmp_lt, cmp_ge, cmp_gt, bin_add, bin_addt, bin_sub, bin_mod, tru_bl, brB_true, brB_false, toB_some, Nat.sub_self, Nat.zero_add, Nat.reduceAdd, Nat.reduceSub, Nat.reduceLeDiff, Nat.reduceEqDiff, way_0, kd_2, kd_3, e, brB_d, brB_n, n2, n2', n2a, n2b, n2c, n2d, hg, eqF_int, rcv, lst0, lst1, bfF, set1]
        · simp [m_law_back, opn, b_law_back, body, runs, run.eq_1, run.eq_2, run.eq_3, run.eq_4, run.eq_5, run.eq_6, run.eq_9, run.eq_11, ev.eq_1, ev.eq_2, ev.eq_3, ev.eq_4, ev.eq_5, ev.eq_6, ev.eq_7, ev.eq_8, ev.eq_9, ev.eq_10, ev.eq_11, ev.eq_12, ev.eq_13, ev.eq_14, ev.eq_15, ev.eq_16, ev.eq_17, ev.eq_18, ev.eq_19, ev.eq_20, ev.eq_21, ev.eq_22, ev.eq_23, ev.eq_24, evs, evo, evc, asg, asgs, List.map_cons, List.map_nil, List.length_cons, List.length_nil, List.replicate, List.append_nil, List.nil_append, List.cons_append, List.getElem?_cons_zero, List.getElem?_cons_succ, List.set_cons_zero, List.set_cons_succ, R.bind_ok, R.bind_ex, if_true, if_false, intOf_i, lift_some, Option.map_some, slc_tup, cmp_eq, cmp_ne, cmp_in, cmp_nin, cmp_is, cmp_isn, cmp_le, cmp_lt, cmp_ge, cmp_gt, bin_add, bin_addt, bin_sub, bin_mod, tru_bl, brB_true, brB_false, toB_some, Nat.sub_self, Nat.zero_add, Nat.reduceAdd, Nat.reduceSub, Nat.reduceLeDiff, Nat.reduceEqDiff, way_0, kd_2, kd_3, e, brB_d, brB_n, n2, n2', hf, hg, eqF_int, rcv, lst0, lst1, bfF, set1, hl, envF, fnB_move, move2 w f f v vh (t ++ [.lst []]) hf h1]
    · simp; split <;> split <;> rfl
  | swap =>
    obtain ⟨hs, hg⟩ := h4 e
    subst hs hg
    refine ⟨t ++ [.lst []], ?_, ?_⟩
    · cases f with
      | nil =>
        have n0a := n0
        have n0b := n0'
        simp only [il, List.map_nil] at n0a n0b
        simp [m_law_back, opn, b_law_back, body, runs, run.eq_1, run.eq_2, run.eq_3, run.eq_4, run.eq_5, run.eq_6, run.eq_9, run.eq_11, ev.eq_1, ev.eq_2, ev.eq_3, ev.eq_4, ev.eq_5, ev.eq_6, ev.eq_7, ev.eq_8, ev.eq_9, ev.eq_10, ev.eq_11, ev.eq_12, ev.eq_13, ev.eq_14, ev.eq_15, ev.eq_16, ev.eq_17, ev.eq_18, ev.eq_19, ev.eq_20, ev.eq_21, ev.eq_22, ev.eq_23, ev.eq_24, evs, evo, evc, asg, asgs, List.map_cons, List.map_nil, List.length_cons, List.length_nil, List.replicate, List.append_nil, List.nil_append, List.cons_append, List.getElem?_cons_zero, List.getElem?_cons_succ, List.set_cons_zero, List.set_cons_succ, R.bind_ok, R.bind_ex, if_true, if_false, intOf_i, lift_some, Option.map_some, slc_tup, cmp_eq, cmp_ne, cmp_in, cmp_nin, cmp_is, cmp_isn, cmp_le, cmp_lt, cmp_ge, cmp_gt, bin_add, bin_addt, bin_sub, bin_mod, tru_bl, brB_true, brB_false, toB_some, Nat.sub_self, Nat.zero_add, Nat.reduceAdd, Nat.reduceSub, Nat.reduceLeDiff, Nat.reduceEqDiff, way_0, kd_2, kd_3, e, brB_d, brB_n, n0, n0', n0a, n0b]
      | cons a f =>
        have hf : f = [] := by
          have := (tg_ne w e).2
          simp only [List.length_cons] at h1
          exact List.length_eq_zero_iff.mp (by omega)
        subst hf
        have := setF0 vh a v [] (il [] :: (t ++ [.lst []]))
        have n0a := n0
        have n0b := n0'
        have this' := this
        have ix : idxF (.ref vh.length) (.int 0) (vh ++ il [a] :: il [] :: (t ++ [.lst []])) = some (.int a) := (idx_ref 0 (get0 vh _ _)).trans (atI_0 _ _)
        have ix' := ix
        simp only [il, List.map_nil, List.map_cons] at n0a n0b this' ix'
        simp [m_law_back, opn, b_law_back, body, runs, run.eq_1, run.eq_2, run.eq_3, run.eq_4, run.eq_5, run.eq_6, run.eq_9, run.eq_11, ev.eq_1, ev.eq_2, ev.eq_3, ev.eq_4, ev.eq_5, ev.eq_6, ev.eq_7, ev.eq_8, ev.eq_9, ev.eq_10, ev.eq_11, ev.eq_12, ev.eq_13, ev.eq_14, ev.eq_15, ev.eq_16, ev.eq_17, ev.eq_18, ev.eq_19, ev.eq_20, ev.eq_21, ev.eq_22, ev.eq_23, ev.eq_24, evs, evo, evc, asg, asgs, List.map_cons, List.map_nil, List.length_cons, List.length_nil, List.replicate, List.append_nil, List.nil_append, List.cons_append, List.getElem?_cons_zero, List.getElem?_cons_succ, List.set_cons_zero, List.set_cons_succ, R.bind_ok, R.bind_ex, if_true, if_false, intOf_i, lift_some, Option.map_some, slc_tup, cmp_eq, cmp_ne, cmp_in, cmp_nin, cmp_is, cmp_isn, cmp_le, cmp_lt, cmp_ge, cmp_gt, bin_add, bin_addt, bin_sub, bin_mod, tru_bl, brB_true, brB_false, toB_some, Nat.sub_self, Nat.zero_add, Nat.reduceAdd, Nat.reduceSub, Nat.reduceLeDiff, Nat.reduceEqDiff, way_0, kd_2, kd_3, e, brB_d, brB_n, n0, n0', n0a, n0b, ix, ix', this, this']
    · simp; split <;> rfl
end Sb

/-! the laws' own step, all keys -/
namespace Sb
open PySem
def fnA : Str → Option Ct := fun x => if x = "_law_move" then some m_law_move else if x = "_law_back" then some m_law_back else none
theorem fnA_move : fnA "_law_move" = some m_law_move := if_pos rfl
theorem fnA_back : fnA "_law_back" = some m_law_back := by unfold fnA; rw [if_neg (by decide +kernel), if_pos rfl]
def m_law_again : Ct := opn (envF fnA) 4 4 b_law_again
theorem law_again_ct (Γ : Env) (h1 : Γ.fn "_law_move" = some m_law_move) (h2 : Γ.fn "_law_back" = some m_law_back) : Ctr Γ 4 4 b_law_again m_law_again := opn_ct fun ds vh => by
  simp only [b_law_again, body, runs, run.eq_1, run.eq_2, run.eq_3, run.eq_4, run.eq_5, run.eq_6, run.eq_9, run.eq_11, ev.eq_1, ev.eq_2, ev.eq_3, ev.eq_4, ev.eq_5, ev.eq_6, ev.eq_7, ev.eq_8, ev.eq_9, ev.eq_10, ev.eq_11, ev.eq_12, ev.eq_13, ev.eq_14, ev.eq_15, ev.eq_16, ev.eq_17, ev.eq_18, ev.eq_19, ev.eq_20, ev.eq_21, ev.eq_22, ev.eq_23, ev.eq_24, evs, evo, evc, asg, asgs, List.map_cons, List.map_nil, List.length_cons, List.length_nil, List.replicate, List.append_nil, List.nil_append, List.cons_append, List.getElem?_cons_zero, List.getElem?_cons_succ, List.set_cons_zero, List.set_cons_succ, R.bind_ok, R.bind_ex, if_true, if_false, intOf_i, lift_some, Option.map_some, slc_tup, cmp_eq, cmp_ne, cmp_in, cmp_nin, cmp_is, cmp_isn, cmp_le, cmp_lt, cmp_ge, cmp_gt, bin_add, bin_addt, bin_sub, bin_mod, tru_bl, brB_true, brB_false, toB_some, Nat.sub_self, Nat.zero_add, Nat.reduceAdd, Nat.reduceSub, Nat.reduceLeDiff, Nat.reduceEqDiff, h1, h2, envF, fnA_move, fnA_back]
theorem again_sp (w : Way) (v m g : Int) (f s : List Int) (z : Int) (vh t : VH) (h : Inv w ⟨v, m, f, s, g⟩) : ∃ t', m_law_again [encW w, .int v, .ref vh.length, .ref (vh.length + 1)] (vh ++ il f :: il s :: t) =
    some (.ok (.int (stepS w z ⟨v, m, f, s, g⟩ .again).v), vh ++ il (stepS w z ⟨v, m, f, s, g⟩ .again).f :: il (stepS w z ⟨v, m, f, s, g⟩ .again).s :: t') ∧ (stepS w z ⟨v, m, f, s, g⟩ .again).m = m ∧ (stepS w z ⟨v, m, f, s, g⟩ .again).g = 0 := by
  have hi := h
  obtain ⟨h1, h2, h3, h4, h5⟩ := h
  simp only at h1 h2 h3 h4 h5
  have n1 := nil1 vh f s t
  have n1' := n1
  simp only [List.length_append, List.length_cons] at n1'
  cases e : w.kd with
  | line =>
    refine ⟨t ++ [.lst []], ?_, ?_⟩
    · by_cases hs : s = []
      · subst hs
        have n1a := n1
        have n1b := n1'
        simp only [il, List.map_nil] at n1a n1b
        simp [m_law_again, opn, b_law_again, body, runs, run.eq_1, run.eq_2, run.eq_3, run.eq_4, run.eq_5, run.eq_6, run.eq_9, run.eq_11, ev.eq_1, ev.eq_2, ev.eq_3, ev.eq_4, ev.eq_5, ev.eq_6, ev.eq_7, ev.eq_8, ev.eq_9, ev.eq_10, ev.eq_11, ev.eq_12, ev.eq_13, ev.eq_14, ev.eq_15, ev.eq_16, ev.eq_17, ev.eq_18, ev.eq_19, ev.eq_20, ev.eq_21, ev.eq_22, ev.eq_23, ev.eq_24, evs, evo, evc, asg, asgs, List.map_cons, List.map_nil, List.length_cons, List.length_nil, List.replicate, List.append_nil, List.nil_append, List.cons_append, List.getElem?_cons_zero, List.getElem?_cons_succ, List.set_cons_zero, List.set_cons_succ, R.bind_ok, R.bind_ex, if_true, if_false, intOf_i, lift_some, Option.map_some, slc_tup, cmp_eq, cmp_ne, cmp_in, cmp_nin, cmp_is, cmp_isn, cmp_le, cmp_lt, cmp_ge, cmp_gt, bin_add, bin_addt, bin_sub, bin_mod, tru_bl, brB_true, brB_false, toB_some, Nat.sub_self, Nat.zero_add, Nat.reduceAdd, Nat.reduceSub, Nat.reduceLeDiff, Nat.reduceEqDiff, way_0, kd_2, kd_3, e, brB_d, brB_n, n1, n1', n1a, n1b, stepS, stepAgain, takenS, turnS]
      · simp [m_law_again, opn, b_law_again, body, runs, run.eq_1, run.eq_2, run.eq_3, run.eq_4, run.eq_5, run.eq_6, run.eq_9, run.eq_11, ev.eq_1, ev.eq_2, ev.eq_3, ev.eq_4, ev.eq_5, ev.eq_6, ev.eq_7, ev.eq_8, ev.eq_9, ev.eq_10, ev.eq_11, ev.eq_12, ev.eq_13, ev.eq_14, ev.eq_15, ev.eq_16, ev.eq_17, ev.eq_18, ev.eq_19, ev.eq_20, ev.eq_21, ev.eq_22, ev.eq_23, ev.eq_24, evs, evo, evc, asg, asgs, List.map_cons, List.map_nil, List.length_cons, List.length_nil, List.replicate, List.append_nil, List.nil_append, List.cons_append, List.getElem?_cons_zero, List.getElem?_cons_succ, List.set_cons_zero, List.set_cons_succ, R.bind_ok, R.bind_ex, if_true, if_false, intOf_i, lift_some, Option.map_some, slc_tup, cmp_eq, cmp_ne, cmp_in, cmp_nin, cmp_is, cmp_isn, cmp_le, cmp_lt, cmp_ge, cmp_gt, bin_add, bin_addt, bin_sub, bin_mod, tru_bl, brB_true, brB_false, toB_some, Nat.sub_self, Nat.zero_add, Nat.reduceAdd, Nat.reduceSub, Nat.reduceLeDiff, Nat.reduceEqDiff, way_0, kd_2, kd_3, e, brB_d, brB_n, n1, n1', stepS, stepAgain, takenS, turnS, hs, envF, fnA_move, move2 w f s v vh (t ++ [.lst []]) hs h1]
    · simp only [stepS, stepAgain, e, takenS, turnS]; by_cases hs : s = [] <;> simp [hs]
  | ring =>
    refine ⟨t ++ [.lst []], ?_, ?_⟩
    · by_cases hs : s = []
      · subst hs
        have n1a := n1
        have n1b := n1'
        simp only [il, List.map_nil] at n1a n1b
        simp [m_law_again, opn, b_law_again, body, runs, run.eq_1, run.eq_2, run.eq_3, run.eq_4, run.eq_5, run.eq_6, run.eq_9, run.eq_11, ev.eq_1, ev.eq_2, ev.eq_3, ev.eq_4, ev.eq_5, ev.eq_6, ev.eq_7, ev.eq_8, ev.eq_9, ev.eq_10, ev.eq_11, ev.eq_12, ev.eq_13, ev.eq_14, ev.eq_15, ev.eq_16, ev.eq_17, ev.eq_18, ev.eq_19, ev.eq_20, ev.eq_21, ev.eq_22, ev.eq_23, ev.eq_24, evs, evo, evc, asg, asgs, List.map_cons, List.map_nil, List.length_cons, List.length_nil, List.replicate, List.append_nil, List.nil_append, List.cons_append, List.getElem?_cons_zero, List.getElem?_cons_succ, List.set_cons_zero, List.set_cons_succ, R.bind_ok, R.bind_ex, if_true, if_false, intOf_i, lift_some, Option.map_some, slc_tup, cmp_eq, cmp_ne, cmp_in, cmp_nin, cmp_is, cmp_isn, cmp_le, cmp_lt, cmp_ge, cmp_gt, bin_add, bin_addt, bin_sub, bin_mod, tru_bl, brB_true, brB_false, toB_some, Nat.sub_self, Nat.zero_add, Nat.reduceAdd, Nat.reduceSub, Nat.reduceLeDiff, Nat.reduceEqDiff, way_0, kd_2, kd_3, e, brB_d, brB_n, n1, n1', n1a, n1b, stepS, stepAgain, takenS, turnS]
      · simp [m_law_again, opn, b_law_again, body, runs, run.eq_1, run.eq_2, run.eq_3, run.eq_4, run.eq_5, run.eq_6, run.eq_9, run.eq_11, ev.eq_1, ev.eq_2, ev.eq_3, ev.eq_4, ev.eq_5, ev.eq_6, ev.eq_7, ev.eq_8, ev.eq_9, ev.eq_10, ev.eq_11, ev.eq_12, ev.eq_13, ev.eq_14, ev.eq_15, ev.eq_16, ev.eq_17, ev.eq_18, ev.eq_19, ev.eq_20, ev.eq_21, ev.eq_22, ev.eq_23, ev.eq_24, evs, evo, evc, asg, asgs, List.map_cons, List.map_nil, List.length_cons, List.length_nil, List.replicate, List.append_nil, List.nil_append, List.cons_append, List.getElem?_cons_zero, List.getElem?_cons_succ, List.set_cons_zero, List.set_cons_succ, R.bind_ok, R.bind_ex, if_true, if_false, intOf_i, lift_some, Option.map_some, slc_tup, cmp_eq, cmp_ne, cmp_in, cmp_nin, cmp_is, cmp_isn, cmp_le, cmp_lt, cmp_ge, cmp_gt, bin_add, bin_addt, bin_sub, bin_mod, tru_bl, brB_true, brB_false, toB_some, Nat.sub_self, Nat.zero_add, Nat.reduceAdd, Nat.reduceSub, Nat.reduceLeDiff, Nat.reduceEqDiff, way_0, kd_2, kd_3, e, brB_d, brB_n, n1, n1', stepS, stepAgain, takenS, turnS, hs, envF, fnA_move, move2 w f s v vh (t ++ [.lst []]) hs h1]
    · simp only [stepS, stepAgain, e, takenS, turnS]; by_cases hs : s = [] <;> simp [hs]
  | deed =>
    refine ⟨t, ?_, ?_⟩
    · simp [m_law_again, opn, b_law_again, body, runs, run.eq_1, run.eq_2, run.eq_3, run.eq_4, run.eq_5, run.eq_6, run.eq_9, run.eq_11, ev.eq_1, ev.eq_2, ev.eq_3, ev.eq_4, ev.eq_5, ev.eq_6, ev.eq_7, ev.eq_8, ev.eq_9, ev.eq_10, ev.eq_11, ev.eq_12, ev.eq_13, ev.eq_14, ev.eq_15, ev.eq_16, ev.eq_17, ev.eq_18, ev.eq_19, ev.eq_20, ev.eq_21, ev.eq_22, ev.eq_23, ev.eq_24, evs, evo, evc, asg, asgs, List.map_cons, List.map_nil, List.length_cons, List.length_nil, List.replicate, List.append_nil, List.nil_append, List.cons_append, List.getElem?_cons_zero, List.getElem?_cons_succ, List.set_cons_zero, List.set_cons_succ, R.bind_ok, R.bind_ex, if_true, if_false, intOf_i, lift_some, Option.map_some, slc_tup, cmp_eq, cmp_ne, cmp_in, cmp_nin, cmp_is, cmp_isn, cmp_le, cmp_lt, cmp_ge, cmp_gt, bin_add, bin_addt, bin_sub, bin_mod, tru_bl, brB_true, brB_false, toB_some, Nat.sub_self, Nat.zero_add, Nat.reduceAdd, Nat.reduceSub, Nat.reduceLeDiff, Nat.reduceEqDiff, way_0, kd_2, kd_3, e, brB_d, brB_n, stepS, stepAgain, rcv, lst1, bfF, set1]
    · simp [stepS, stepAgain, e]
  | swap =>
    obtain ⟨hs, hg⟩ := h4 e
    subst hs hg
    obtain ⟨t', b1, b2⟩ := back_sp w v m 0 f [] z vh t hi
    refine ⟨t', ?_, ?_⟩
    · have e3 : stepS w z ⟨v, m, f, [], 0⟩ .again = stepS w z ⟨v, m, f, [], 0⟩ .back := by simp [stepS, stepAgain, e]
      rw [e3]
      simp only [m_law_again, opn, b_law_again, body, runs, run.eq_1, run.eq_2, run.eq_3, run.eq_4, run.eq_5, run.eq_6, run.eq_9, run.eq_11, ev.eq_1, ev.eq_2, ev.eq_3, ev.eq_4, ev.eq_5, ev.eq_6, ev.eq_7, ev.eq_8, ev.eq_9, ev.eq_10, ev.eq_11, ev.eq_12, ev.eq_13, ev.eq_14, ev.eq_15, ev.eq_16, ev.eq_17, ev.eq_18, ev.eq_19, ev.eq_20, ev.eq_21, ev.eq_22, ev.eq_23, ev.eq_24, evs, evo, evc, asg, asgs, List.map_cons, List.map_nil, List.length_cons, List.length_nil, List.replicate, List.append_nil, List.nil_append, List.cons_append, List.getElem?_cons_zero, List.getElem?_cons_succ, List.set_cons_zero, List.set_cons_succ, R.bind_ok, R.bind_ex, if_true, if_false, intOf_i, lift_some, Option.map_some, slc_tup, cmp_eq, cmp_ne, cmp_in, cmp_nin, cmp_is, cmp_isn, cmp_le, cmp_lt, cmp_ge, cmp_gt, bin_add, bin_addt, bin_sub, bin_mod, tru_bl, brB_true, brB_false, toB_some, Nat.sub_self, Nat.zero_add, Nat.reduceAdd, Nat.reduceSub, Nat.reduceLeDiff, Nat.reduceEqDiff, way_0, kd_2, kd_3, e, decide_true, decide_false, reduceCtorEq, envF, fnA_back, b1, idx_tup, atI_0]
    · simp only [stepS, stepAgain, e, stepBack]; by_cases hs : f = [] <;> simp [hs]
def m_law_change : Ct := opn (envF fnM) 10 4 b_law_change
theorem law_change_ct (Γ : Env) (h1 : Γ.fn "_law_put" = some m_law_put) : Ctr Γ 10 4 b_law_change m_law_change := opn_ct fun ds vh => by
  simp only [b_law_change, body, runs, run.eq_1, run.eq_2, run.eq_3, run.eq_4, run.eq_5, run.eq_6, run.eq_9, run.eq_11, ev.eq_1, ev.eq_2, ev.eq_3, ev.eq_4, ev.eq_5, ev.eq_6, ev.eq_7, ev.eq_8, ev.eq_9, ev.eq_10, ev.eq_11, ev.eq_12, ev.eq_13, ev.eq_14, ev.eq_15, ev.eq_16, ev.eq_17, ev.eq_18, ev.eq_19, ev.eq_20, ev.eq_21, ev.eq_22, ev.eq_23, ev.eq_24, evs, evo, evc, asg, asgs, List.map_cons, List.map_nil, List.length_cons, List.length_nil, List.replicate, List.append_nil, List.nil_append, List.cons_append, List.getElem?_cons_zero, List.getElem?_cons_succ, List.set_cons_zero, List.set_cons_succ, R.bind_ok, R.bind_ex, if_true, if_false, intOf_i, lift_some, Option.map_some, slc_tup, cmp_eq, cmp_ne, cmp_in, cmp_nin, cmp_is, cmp_isn, cmp_le, cmp_lt, cmp_ge, cmp_gt, bin_add, bin_addt, bin_sub, bin_mod, tru_bl, brB_true, brB_false, toB_some, Nat.sub_self, Nat.zero_add, Nat.reduceAdd, Nat.reduceSub, Nat.reduceLeDiff, Nat.reduceEqDiff, h1, envF, fnM_put, asgs_2, asgs_3, asgs_4, asgs_5]
theorem ky_nh (h : VH) (k : Ky) : inF (.str k.str) (.tup [.str "next", .str "home"]) h = some (decide (k = .next ∨ k = .home)) := by cases k <;> kernel_rfl
theorem change_sp (w : Way) (v m g : Int) (f s : List Int) (z : Int) (k : Ky) (vh t : VH) (hz : 0 < z) (h : Inv w ⟨v, m, f, s, g⟩) (k1 : k ≠ .back) (k2 : k ≠ .again) : m_law_change [encW w, .int z, .tup [.int v, .int m, .ref vh.length, .ref (vh.length + 1), .int g], .str k.str] (vh ++ il f :: il s :: t) =
    some (.ok (.tup [.int (stepS w z ⟨v, m, f, s, g⟩ k).v, .int (stepS w z ⟨v, m, f, s, g⟩ k).m, .int (stepS w z ⟨v, m, f, s, g⟩ k).g]), vh ++ il (stepS w z ⟨v, m, f, s, g⟩ k).f :: il (stepS w z ⟨v, m, f, s, g⟩ k).s :: t) := by
  obtain ⟨h1, h2, h3, h4, h5⟩ := h
  simp only at h1 h2 h3 h4 h5
  have p0 := put0 w f v vh (il s :: t) h1
  have p1 := put0 w f v vh (.lst [] :: t) h1
  have hs : w.kd = .swap → s = [] := fun e => (h4 e).1
  have ht : w.kd = .swap → w.tg = 0 := fun e => (tg_ne w e).1
  cases k with
  | back => exact absurd rfl k1
  | again => exact absurd rfl k2
  | next =>
    rcases tg_or w with hg | hg <;> by_cases e1 : g = 1 <;> cases e : w.kd <;>
      first
      | (exfalso; rw [ht e] at hg; revert hg; decide)
      | (have hs' := hs e; subst hs'; simp [m_law_change, opn, b_law_change, body, runs, run.eq_1, run.eq_2, run.eq_3, run.eq_4, run.eq_5, run.eq_6, run.eq_9, run.eq_11, ev.eq_1, ev.eq_2, ev.eq_3, ev.eq_4, ev.eq_5, ev.eq_6, ev.eq_7, ev.eq_8, ev.eq_9, ev.eq_10, ev.eq_11, ev.eq_12, ev.eq_13, ev.eq_14, ev.eq_15, ev.eq_16, ev.eq_17, ev.eq_18, ev.eq_19, ev.eq_20, ev.eq_21, ev.eq_22, ev.eq_23, ev.eq_24, evs, evo, evc, asg, asgs, List.map_cons, List.map_nil, List.length_cons, List.length_nil, List.replicate, List.append_nil, List.nil_append, List.cons_append, List.getElem?_cons_zero, List.getElem?_cons_succ, List.set_cons_zero, List.set_cons_succ, R.bind_ok, R.bind_ex, if_true, if_false, intOf_i, lift_some, Option.map_some, slc_tup, cmp_eq, cmp_ne, cmp_in, cmp_nin, cmp_is, cmp_isn, cmp_le, cmp_lt, cmp_ge, cmp_gt, bin_add, bin_addt, bin_sub, bin_mod, tru_bl, brB_true, brB_false, toB_some, Nat.sub_self, Nat.zero_add, Nat.reduceAdd, Nat.reduceSub, Nat.reduceLeDiff, Nat.reduceEqDiff, way_0, way_m1, kd_0, kd_1, kd_2, kd_3, kd_lr, hm_0, hm_1, hm_2, ky_0, ky_1, ky_2, ky_3, ky_4, eqF_int, eqF_iv0, brB_d, brB_n, encS, iv_nil, idx_tup, atI_0, atI_1, atI_2, atI_3, atI_4, ky_nh, e, way_2, hg, e1, stepS, stepOn, hz, rcv, lst0, lst1, bfF, set1, set0, envF, fnM_put, p0, p1])
      | (simp [m_law_change, opn, b_law_change, body, runs, run.eq_1, run.eq_2, run.eq_3, run.eq_4, run.eq_5, run.eq_6, run.eq_9, run.eq_11, ev.eq_1, ev.eq_2, ev.eq_3, ev.eq_4, ev.eq_5, ev.eq_6, ev.eq_7, ev.eq_8, ev.eq_9, ev.eq_10, ev.eq_11, ev.eq_12, ev.eq_13, ev.eq_14, ev.eq_15, ev.eq_16, ev.eq_17, ev.eq_18, ev.eq_19, ev.eq_20, ev.eq_21, ev.eq_22, ev.eq_23, ev.eq_24, evs, evo, evc, asg, asgs, List.map_cons, List.map_nil, List.length_cons, List.length_nil, List.replicate, List.append_nil, List.nil_append, List.cons_append, List.getElem?_cons_zero, List.getElem?_cons_succ, List.set_cons_zero, List.set_cons_succ, R.bind_ok, R.bind_ex, if_true, if_false, intOf_i, lift_some, Option.map_some, slc_tup, cmp_eq, cmp_ne, cmp_in, cmp_nin, cmp_is, cmp_isn, cmp_le, cmp_lt, cmp_ge, cmp_gt, bin_add, bin_addt, bin_sub, bin_mod, tru_bl, brB_true, brB_false, toB_some, Nat.sub_self, Nat.zero_add, Nat.reduceAdd, Nat.reduceSub, Nat.reduceLeDiff, Nat.reduceEqDiff, way_0, way_m1, kd_0, kd_1, kd_2, kd_3, kd_lr, hm_0, hm_1, hm_2, ky_0, ky_1, ky_2, ky_3, ky_4, eqF_int, eqF_iv0, brB_d, brB_n, encS, iv_nil, idx_tup, atI_0, atI_1, atI_2, atI_3, atI_4, ky_nh, e, way_2, hg, e1, stepS, stepOn, hz, rcv, lst0, lst1, bfF, set1, set0, envF, fnM_put, p0, p1])
  | home =>
    cases eh : w.hm <;> cases e : w.kd <;>
      first
      | (have hs' := hs e; subst hs'; simp [m_law_change, opn, b_law_change, body, runs, run.eq_1, run.eq_2, run.eq_3, run.eq_4, run.eq_5, run.eq_6, run.eq_9, run.eq_11, ev.eq_1, ev.eq_2, ev.eq_3, ev.eq_4, ev.eq_5, ev.eq_6, ev.eq_7, ev.eq_8, ev.eq_9, ev.eq_10, ev.eq_11, ev.eq_12, ev.eq_13, ev.eq_14, ev.eq_15, ev.eq_16, ev.eq_17, ev.eq_18, ev.eq_19, ev.eq_20, ev.eq_21, ev.eq_22, ev.eq_23, ev.eq_24, evs, evo, evc, asg, asgs, List.map_cons, List.map_nil, List.length_cons, List.length_nil, List.replicate, List.append_nil, List.nil_append, List.cons_append, List.getElem?_cons_zero, List.getElem?_cons_succ, List.set_cons_zero, List.set_cons_succ, R.bind_ok, R.bind_ex, if_true, if_false, intOf_i, lift_some, Option.map_some, slc_tup, cmp_eq, cmp_ne, cmp_in, cmp_nin, cmp_is, cmp_isn, cmp_le, cmp_lt, cmp_ge, cmp_gt, bin_add, bin_addt, bin_sub, bin_mod, tru_bl, brB_true, brB_false, toB_some, Nat.sub_self, Nat.zero_add, Nat.reduceAdd, Nat.reduceSub, Nat.reduceLeDiff, Nat.reduceEqDiff, way_0, way_m1, kd_0, kd_1, kd_2, kd_3, kd_lr, hm_0, hm_1, hm_2, ky_0, ky_1, ky_2, ky_3, ky_4, eqF_int, eqF_iv0, brB_d, brB_n, encS, iv_nil, idx_tup, atI_0, atI_1, atI_2, atI_3, atI_4, ky_nh, e, eh, stepS, goHome, rcv, lst0, lst1, bfF, set1, set0, envF, fnM_put, p0, p1])
      | (simp [m_law_change, opn, b_law_change, body, runs, run.eq_1, run.eq_2, run.eq_3, run.eq_4, run.eq_5, run.eq_6, run.eq_9, run.eq_11, ev.eq_1, ev.eq_2, ev.eq_3, ev.eq_4, ev.eq_5, ev.eq_6, ev.eq_7, ev.eq_8, ev.eq_9, ev.eq_10, ev.eq_11, ev.eq_12, ev.eq_13, ev.eq_14, ev.eq_15, ev.eq_16, ev.eq_17, ev.eq_18, ev.eq_19, ev.eq_20, ev.eq_21, ev.eq_22, ev.eq_23, ev.eq_24, evs, evo, evc, asg, asgs, List.map_cons, List.map_nil, List.length_cons, List.length_nil, List.replicate, List.append_nil, List.nil_append, List.cons_append, List.getElem?_cons_zero, List.getElem?_cons_succ, List.set_cons_zero, List.set_cons_succ, R.bind_ok, R.bind_ex, if_true, if_false, intOf_i, lift_some, Option.map_some, slc_tup, cmp_eq, cmp_ne, cmp_in, cmp_nin, cmp_is, cmp_isn, cmp_le, cmp_lt, cmp_ge, cmp_gt, bin_add, bin_addt, bin_sub, bin_mod, tru_bl, brB_true, brB_false, toB_some, Nat.sub_self, Nat.zero_add, Nat.reduceAdd, Nat.reduceSub, Nat.reduceLeDiff, Nat.reduceEqDiff, way_0, way_m1, kd_0, kd_1, kd_2, kd_3, kd_lr, hm_0, hm_1, hm_2, ky_0, ky_1, ky_2, ky_3, ky_4, eqF_int, eqF_iv0, brB_d, brB_n, encS, iv_nil, idx_tup, atI_0, atI_1, atI_2, atI_3, atI_4, ky_nh, e, eh, stepS, goHome, rcv, lst0, lst1, bfF, set1, set0, envF, fnM_put, p0, p1])
  | keep =>
    cases e : w.kd <;> simp [m_law_change, opn, b_law_change, body, runs, run.eq_1, run.eq_2, run.eq_3, run.eq_4, run.eq_5, run.eq_6, run.eq_9, run.eq_11, ev.eq_1, ev.eq_2, ev.eq_3, ev.eq_4, ev.eq_5, ev.eq_6, ev.eq_7, ev.eq_8, ev.eq_9, ev.eq_10, ev.eq_11, ev.eq_12, ev.eq_13, ev.eq_14, ev.eq_15, ev.eq_16, ev.eq_17, ev.eq_18, ev.eq_19, ev.eq_20, ev.eq_21, ev.eq_22, ev.eq_23, ev.eq_24, evs, evo, evc, asg, asgs, List.map_cons, List.map_nil, List.length_cons, List.length_nil, List.replicate, List.append_nil, List.nil_append, List.cons_append, List.getElem?_cons_zero, List.getElem?_cons_succ, List.set_cons_zero, List.set_cons_succ, R.bind_ok, R.bind_ex, if_true, if_false, intOf_i, lift_some, Option.map_some, slc_tup, cmp_eq, cmp_ne, cmp_in, cmp_nin, cmp_is, cmp_isn, cmp_le, cmp_lt, cmp_ge, cmp_gt, bin_add, bin_addt, bin_sub, bin_mod, tru_bl, brB_true, brB_false, toB_some, Nat.sub_self, Nat.zero_add, Nat.reduceAdd, Nat.reduceSub, Nat.reduceLeDiff, Nat.reduceEqDiff, way_0, way_m1, kd_0, kd_1, kd_2, kd_3, kd_lr, hm_0, hm_1, hm_2, ky_0, ky_1, ky_2, ky_3, ky_4, eqF_int, eqF_iv0, brB_d, brB_n, encS, iv_nil, idx_tup, atI_0, atI_1, atI_2, atI_3, atI_4, ky_nh, e, stepS, rcv, lst0, lst1, bfF, set1, set0]
  | pause =>
    cases e : w.kd <;> simp [m_law_change, opn, b_law_change, body, runs, run.eq_1, run.eq_2, run.eq_3, run.eq_4, run.eq_5, run.eq_6, run.eq_9, run.eq_11, ev.eq_1, ev.eq_2, ev.eq_3, ev.eq_4, ev.eq_5, ev.eq_6, ev.eq_7, ev.eq_8, ev.eq_9, ev.eq_10, ev.eq_11, ev.eq_12, ev.eq_13, ev.eq_14, ev.eq_15, ev.eq_16, ev.eq_17, ev.eq_18, ev.eq_19, ev.eq_20, ev.eq_21, ev.eq_22, ev.eq_23, ev.eq_24, evs, evo, evc, asg, asgs, List.map_cons, List.map_nil, List.length_cons, List.length_nil, List.replicate, List.append_nil, List.nil_append, List.cons_append, List.getElem?_cons_zero, List.getElem?_cons_succ, List.set_cons_zero, List.set_cons_succ, R.bind_ok, R.bind_ex, if_true, if_false, intOf_i, lift_some, Option.map_some, slc_tup, cmp_eq, cmp_ne, cmp_in, cmp_nin, cmp_is, cmp_isn, cmp_le, cmp_lt, cmp_ge, cmp_gt, bin_add, bin_addt, bin_sub, bin_mod, tru_bl, brB_true, brB_false, toB_some, Nat.sub_self, Nat.zero_add, Nat.reduceAdd, Nat.reduceSub, Nat.reduceLeDiff, Nat.reduceEqDiff, way_0, way_m1, kd_0, kd_1, kd_2, kd_3, kd_lr, hm_0, hm_1, hm_2, ky_0, ky_1, ky_2, ky_3, ky_4, eqF_int, eqF_iv0, brB_d, brB_n, encS, iv_nil, idx_tup, atI_0, atI_1, atI_2, atI_3, atI_4, ky_nh, e, stepS, rcv, lst0, lst1, bfF, set1, set0]
noncomputable def m_law_step : Ct := mk (fun a : Way × Int × Sta × Ky => [encW a.1, .int a.2.1, encS a.2.2.1, .str a.2.2.2.str]) (fun a _ => 0 < a.2.1 ∧ Inv a.1 a.2.2.1) (fun a vh => some (.ok (encS (stepS a.1 a.2.1 a.2.2.1 a.2.2.2)), vh))
theorem law_step_at (w : Way) (z : Int) (s : Sta) (k : Ky) (vh : VH) (hz : 0 < z) (hs : Inv w s) : m_law_step [encW w, .int z, encS s, .str k.str] vh = some (.ok (encS (stepS w z s k)), vh) := mk_at (a := (w, z, s, k)) (fun a b h => by
  simp only [List.cons.injEq, D.int.injEq, D.str.injEq, and_true] at h
  exact Prod.ext (encW_inj _ _ h.1) (Prod.ext h.2.1 (Prod.ext (encS_inj _ _ h.2.2.1) (Ky.inj _ _ h.2.2.2)))) ⟨hz, hs⟩
theorem list_iv (l : List Int) (h : VH) : bfF .list [iv l] h = some (.ok (.ref h.length), h ++ [il l]) := rfl
theorem tuple0 (vh : VH) (l : List Int) (t : VH) : bfF .tuple [.ref vh.length] (vh ++ il l :: t) = some (.ok (iv l), vh ++ il l :: t) := by
  simp only [bfF, lst0, iv]
theorem tuple1 (vh : VH) (c : Cell) (l : List Int) (t : VH) : bfF .tuple [.ref (vh.length + 1)] (vh ++ c :: il l :: t) = some (.ok (iv l), vh ++ c :: il l :: t) := by
  simp only [bfF, lst1, iv]
theorem law_step_ct (Γ : Env) (h1 : Γ.fn "_law_back" = some m_law_back) (h2 : Γ.fn "_law_again" = some m_law_again) (h3 : Γ.fn "_law_change" = some m_law_change) : Ctr Γ 9 4 b_law_step m_law_step := mk_ct (fun _ => rfl) fun ⟨w, z, s, k⟩ vh h => by
  obtain ⟨hz, hi⟩ := h
  simp only at hz hi
  obtain ⟨v, m, f, g, fl⟩ := s
  have e1 : (vh ++ [il f]).length = vh.length + 1 := by simp
  have e2 : (vh ++ [il f]) ++ [il g] = vh ++ il f :: il g :: [] := by simp
  obtain ⟨r, hr⟩ : ∃ r, r = stepS w z ⟨v, m, f, g, fl⟩ k := ⟨_, rfl⟩
  suffices q : ∃ t', body Γ 9 b_law_step [encW w, .int z, encS ⟨v, m, f, g, fl⟩, .str k.str] vh = some (.ok (encS r), vh ++ (il r.f :: il r.s :: t')) by
    obtain ⟨t', q⟩ := q
    simp only [← hr]
    exact Gc.pure (lt_encS 0 _) q
  have i0 := idx_encS ⟨v, m, f, g, fl⟩ vh
  obtain ⟨a0, a1, a2, a3, a4⟩ := i0
  have a3' := (idx_encS ⟨v, m, f, g, fl⟩ (vh ++ [il f])).2.2.2.1
  simp only at a0 a1 a2 a3 a4 a3'
  cases k with
  | back =>
    obtain ⟨t', b1, b2⟩ := back_sp w v m fl f g z vh [] hi
    rw [← hr] at b1 b2
    refine ⟨t', ?_⟩
    simp only [b_law_step, body, runs, run.eq_1, run.eq_2, run.eq_3, run.eq_4, run.eq_5, run.eq_6, run.eq_9, run.eq_11, ev.eq_1, ev.eq_2, ev.eq_3, ev.eq_4, ev.eq_5, ev.eq_6, ev.eq_7, ev.eq_8, ev.eq_9, ev.eq_10, ev.eq_11, ev.eq_12, ev.eq_13, ev.eq_14, ev.eq_15, ev.eq_16, ev.eq_17, ev.eq_18, ev.eq_19, ev.eq_20, ev.eq_21, ev.eq_22, ev.eq_23, ev.eq_24, evs, evo, evc, asg, asgs, List.map_cons, List.map_nil, List.length_cons, List.length_nil, List.replicate, List.append_nil, List.nil_append, List.cons_append, List.getElem?_cons_zero, List.getElem?_cons_succ, List.set_cons_zero, List.set_cons_succ, R.bind_ok, R.bind_ex, if_true, if_false, intOf_i, lift_some, Option.map_some, slc_tup, cmp_eq, cmp_ne, cmp_in, cmp_nin, cmp_is, cmp_isn, cmp_le, cmp_lt, cmp_ge, cmp_gt, bin_add, bin_addt, bin_sub, bin_mod, tru_bl, brB_true, brB_false, toB_some, Nat.sub_self, Nat.zero_add, Nat.reduceAdd, Nat.reduceSub, Nat.reduceLeDiff, Nat.reduceEqDiff, a0, a1, a2, a3, a4, a3', list_iv, e1, e2, ky_1, decide_true, h1, b1, tuple0, tuple1]
    simp only [encS, b2]
  | again =>
    obtain ⟨t', b1, b2, b3⟩ := again_sp w v m fl f g z vh [] hi
    rw [← hr] at b1 b2 b3
    refine ⟨t', ?_⟩
    simp only [b_law_step, body, runs, run.eq_1, run.eq_2, run.eq_3, run.eq_4, run.eq_5, run.eq_6, run.eq_9, run.eq_11, ev.eq_1, ev.eq_2, ev.eq_3, ev.eq_4, ev.eq_5, ev.eq_6, ev.eq_7, ev.eq_8, ev.eq_9, ev.eq_10, ev.eq_11, ev.eq_12, ev.eq_13, ev.eq_14, ev.eq_15, ev.eq_16, ev.eq_17, ev.eq_18, ev.eq_19, ev.eq_20, ev.eq_21, ev.eq_22, ev.eq_23, ev.eq_24, evs, evo, evc, asg, asgs, List.map_cons, List.map_nil, List.length_cons, List.length_nil, List.replicate, List.append_nil, List.nil_append, List.cons_append, List.getElem?_cons_zero, List.getElem?_cons_succ, List.set_cons_zero, List.set_cons_succ, R.bind_ok, R.bind_ex, if_true, if_false, intOf_i, lift_some, Option.map_some, slc_tup, cmp_eq, cmp_ne, cmp_in, cmp_nin, cmp_is, cmp_isn, cmp_le, cmp_lt, cmp_ge, cmp_gt, bin_add, bin_addt, bin_sub, bin_mod, tru_bl, brB_true, brB_false, toB_some, Nat.sub_self, Nat.zero_add, Nat.reduceAdd, Nat.reduceSub, Nat.reduceLeDiff, Nat.reduceEqDiff, a0, a1, a2, a3, a4, a3', list_iv, e1, e2, ky_1, ky_2, decide_true, decide_false, reduceCtorEq, h2, b1, tuple0, tuple1]
    simp only [encS, b2, b3]
  | next =>
    have b1 := change_sp w v m fl f g z .next vh [] hz hi (by decide) (by decide)
    rw [← hr] at b1
    exact ⟨[], by simp only [b_law_step, body, runs, run.eq_1, run.eq_2, run.eq_3, run.eq_4, run.eq_5, run.eq_6, run.eq_9, run.eq_11, ev.eq_1, ev.eq_2, ev.eq_3, ev.eq_4, ev.eq_5, ev.eq_6, ev.eq_7, ev.eq_8, ev.eq_9, ev.eq_10, ev.eq_11, ev.eq_12, ev.eq_13, ev.eq_14, ev.eq_15, ev.eq_16, ev.eq_17, ev.eq_18, ev.eq_19, ev.eq_20, ev.eq_21, ev.eq_22, ev.eq_23, ev.eq_24, evs, evo, evc, asg, asgs, List.map_cons, List.map_nil, List.length_cons, List.length_nil, List.replicate, List.append_nil, List.nil_append, List.cons_append, List.getElem?_cons_zero, List.getElem?_cons_succ, List.set_cons_zero, List.set_cons_succ, R.bind_ok, R.bind_ex, if_true, if_false, intOf_i, lift_some, Option.map_some, slc_tup, cmp_eq, cmp_ne, cmp_in, cmp_nin, cmp_is, cmp_isn, cmp_le, cmp_lt, cmp_ge, cmp_gt, bin_add, bin_addt, bin_sub, bin_mod, tru_bl, brB_true, brB_false, toB_some, Nat.sub_self, Nat.zero_add, Nat.reduceAdd, Nat.reduceSub, Nat.reduceLeDiff, Nat.reduceEqDiff, a0, a1, a2, a3, a4, a3', list_iv, e1, e2, ky_1, ky_2, decide_true, decide_false, reduceCtorEq, h3, b1, tuple0, tuple1]; rfl⟩
  | keep =>
    have b1 := change_sp w v m fl f g z .keep vh [] hz hi (by decide) (by decide)
    rw [← hr] at b1
    exact ⟨[], by simp only [b_law_step, body, runs, run.eq_1, run.eq_2, run.eq_3, run.eq_4, run.eq_5, run.eq_6, run.eq_9, run.eq_11, ev.eq_1, ev.eq_2, ev.eq_3, ev.eq_4, ev.eq_5, ev.eq_6, ev.eq_7, ev.eq_8, ev.eq_9, ev.eq_10, ev.eq_11, ev.eq_12, ev.eq_13, ev.eq_14, ev.eq_15, ev.eq_16, ev.eq_17, ev.eq_18, ev.eq_19, ev.eq_20, ev.eq_21, ev.eq_22, ev.eq_23, ev.eq_24, evs, evo, evc, asg, asgs, List.map_cons, List.map_nil, List.length_cons, List.length_nil, List.replicate, List.append_nil, List.nil_append, List.cons_append, List.getElem?_cons_zero, List.getElem?_cons_succ, List.set_cons_zero, List.set_cons_succ, R.bind_ok, R.bind_ex, if_true, if_false, intOf_i, lift_some, Option.map_some, slc_tup, cmp_eq, cmp_ne, cmp_in, cmp_nin, cmp_is, cmp_isn, cmp_le, cmp_lt, cmp_ge, cmp_gt, bin_add, bin_addt, bin_sub, bin_mod, tru_bl, brB_true, brB_false, toB_some, Nat.sub_self, Nat.zero_add, Nat.reduceAdd, Nat.reduceSub, Nat.reduceLeDiff, Nat.reduceEqDiff, a0, a1, a2, a3, a4, a3', list_iv, e1, e2, ky_1, ky_2, decide_true, decide_false, reduceCtorEq, h3, b1, tuple0, tuple1]; rfl⟩
  | home =>
    have b1 := change_sp w v m fl f g z .home vh [] hz hi (by decide) (by decide)
    rw [← hr] at b1
    exact ⟨[], by simp only [b_law_step, body, runs, run.eq_1, run.eq_2, run.eq_3, run.eq_4, run.eq_5, run.eq_6, run.eq_9, run.eq_11, ev.eq_1, ev.eq_2, ev.eq_3, ev.eq_4, ev.eq_5, ev.eq_6, ev.eq_7, ev.eq_8, ev.eq_9, ev.eq_10, ev.eq_11, ev.eq_12, ev.eq_13, ev.eq_14, ev.eq_15, ev.eq_16, ev.eq_17, ev.eq_18, ev.eq_19, ev.eq_20, ev.eq_21, ev.eq_22, ev.eq_23, ev.eq_24, evs, evo, evc, asg, asgs, List.map_cons, List.map_nil, List.length_cons, List.length_nil, List.replicate, List.append_nil, List.nil_append, List.cons_append, List.getElem?_cons_zero, List.getElem?_cons_succ, List.set_cons_zero, List.set_cons_succ, R.bind_ok, R.bind_ex, if_true, if_false, intOf_i, lift_some, Option.map_some, slc_tup, cmp_eq, cmp_ne, cmp_in, cmp_nin, cmp_is, cmp_isn, cmp_le, cmp_lt, cmp_ge, cmp_gt, bin_add, bin_addt, bin_sub, bin_mod, tru_bl, brB_true, brB_false, toB_some, Nat.sub_self, Nat.zero_add, Nat.reduceAdd, Nat.reduceSub, Nat.reduceLeDiff, Nat.reduceEqDiff, a0, a1, a2, a3, a4, a3', list_iv, e1, e2, ky_1, ky_2, decide_true, decide_false, reduceCtorEq, h3, b1, tuple0, tuple1]; rfl⟩
  | pause =>
    have b1 := change_sp w v m fl f g z .pause vh [] hz hi (by decide) (by decide)
    rw [← hr] at b1
    exact ⟨[], by simp only [b_law_step, body, runs, run.eq_1, run.eq_2, run.eq_3, run.eq_4, run.eq_5, run.eq_6, run.eq_9, run.eq_11, ev.eq_1, ev.eq_2, ev.eq_3, ev.eq_4, ev.eq_5, ev.eq_6, ev.eq_7, ev.eq_8, ev.eq_9, ev.eq_10, ev.eq_11, ev.eq_12, ev.eq_13, ev.eq_14, ev.eq_15, ev.eq_16, ev.eq_17, ev.eq_18, ev.eq_19, ev.eq_20, ev.eq_21, ev.eq_22, ev.eq_23, ev.eq_24, evs, evo, evc, asg, asgs, List.map_cons, List.map_nil, List.length_cons, List.length_nil, List.replicate, List.append_nil, List.nil_append, List.cons_append, List.getElem?_cons_zero, List.getElem?_cons_succ, List.set_cons_zero, List.set_cons_succ, R.bind_ok, R.bind_ex, if_true, if_false, intOf_i, lift_some, Option.map_some, slc_tup, cmp_eq, cmp_ne, cmp_in, cmp_nin, cmp_is, cmp_isn, cmp_le, cmp_lt, cmp_ge, cmp_gt, bin_add, bin_addt, bin_sub, bin_mod, tru_bl, brB_true, brB_false, toB_some, Nat.sub_self, Nat.zero_add, Nat.reduceAdd, Nat.reduceSub, Nat.reduceLeDiff, Nat.reduceEqDiff, a0, a1, a2, a3, a4, a3', list_iv, e1, e2, ky_1, ky_2, decide_true, decide_false, reduceCtorEq, h3, b1, tuple0, tuple1]; rfl⟩
end Sb

/-! the laws' draws -/
namespace Sb
open PySem
def b_law_start : List S := [.ret (.lst [.ite (.cmp .ne (.var 0) (.lst [])) (.bfn .list [.var 0]) (.lst [.cst (.int 0)]), .cst (.int 0)])]
def b_law_draw : List S := [.set (.nm 2) (.idx (.var 0) (.cst (.int 0))), .set (.sub (.var 0) (.cst (.int 1))) (.bin .add (.idx (.var 0) (.cst (.int 1))) (.cst (.int 1))), .set (.nm 3) (.bin .mod (.idx (.var 0) (.cst (.int 1))) (.bfn .len [.var 2])), .set (.nm 4) (.idx (.var 2) (.var 3)), .ite (.cmp .ge (.var 4) (.cst (.int 1000000000000000000))) [.set (.sub (.var 2) (.var 3)) (.bin .fdiv (.var 4) (.var 1)), .ret (.bin .mod (.var 4) (.var 1))] [], .set (.nm 5) (.bin .mod (.bin .add (.var 4) (.bin .mul (.cst (.int 104729)) (.idx (.var 0) (.cst (.int 1))))) (.cst (.int 4294967291))), .set (.nm 5) (.bin .mod (.bin .pow (.var 5) (.cst (.int 5))) (.cst (.int 4294967279))), .ret (.bin .mod (.bin .fdiv (.bin .mod (.bin .add (.bin .mul (.bin .fdiv (.var 5) (.cst (.int 64))) (.cst (.int 69621))) (.var 5)) (.cst (.int 4294967231))) (.cst (.int 8))) (.var 1))]
def b_law_pick : List S := [.ret (.idx (.var 1) (.cal "_law_draw" [.var 0, .bfn .len [.var 1]]))]
def b_law_way : List S := [.set (.tp [(.nm 1), (.nm 2)]) (.tup [.cal "_law_pick" [.var 0, .lst [.cst (.str "line"), .cst (.str "line"), .cst (.str "ring"), .cst (.str "ring"), .cst (.str "deed"), .cst (.str "deed"), .cst (.str "swap")]], .cal "_law_pick" [.var 0, .lst [.cst (.str "deed"), .cst (.str "bare"), .cst (.str "clear")]]]), .ite (.cmp .eq (.var 1) (.cst (.str "swap"))) [.ret (.tup [.var 1, .var 2])] [], .ret (.tup [.var 1, .bin .add (.cst (.int 1)) (.cal "_law_draw" [.var 0, .cst (.int 2)]), .cal "_law_draw" [.var 0, .cst (.int 2)], .var 2])]
def b_law_row : List S := [.set (.nm 2) (.lst [.cst (.str "next"), .cst (.str "next"), .cst (.str "next"), .cst (.str "back"), .cst (.str "back"), .cst (.str "back"), .cst (.str "again"), .cst (.str "again"), .cst (.str "keep"), .cst (.str "home"), .cst (.str "pause")]), .ret (.cpr [3] (.nm 3) (.rng [.cal "_law_draw" [.var 0, .bin .add (.var 1) (.cst (.int 1))]]) none (.cal "_law_pick" [.var 0, .var 2]))]
/-- draws at d, their numbers at n -/
def Dr (vh : VH) (d n : Nat) : Prop := d ≠ n ∧ ∃ (ns : List Int) (c : Int), ns ≠ [] ∧ vh[d]? = some (.lst [.ref n, .int c]) ∧ vh[n]? = some (il ns)
def Ext (d n : Nat) (vh vh' : VH) : Prop := vh.length ≤ vh'.length ∧ ∀ (i : Nat) (c : Cell), i ≠ d → i ≠ n → vh[i]? = some c → vh'[i]? = some c
theorem Ext.refl (d n : Nat) (vh : VH) : Ext d n vh vh := ⟨Nat.le_refl _, fun _ _ _ _ h => h⟩
theorem Ext.trans {d n : Nat} {a b c : VH} (h1 : Ext d n a b) (h2 : Ext d n b c) : Ext d n a c := ⟨Nat.le_trans h1.1 h2.1, fun i x p q h => h2.2 i x p q (h1.2 i x p q h)⟩
theorem Ext.app (d n : Nat) (vh l : VH) : Ext d n vh (vh ++ l) := ⟨by rw [List.length_append]; omega, fun i c _ _ h => app_get l h⟩
theorem get_lt {α : Type} {l : List α} {n : Nat} {c : α} (h : l[n]? = some c) : n < l.length := (List.getElem?_eq_some_iff.mp h).1
theorem Dr.app {vh : VH} {d n : Nat} (h : Dr vh d n) (l : VH) : Dr (vh ++ l) d n := by
  obtain ⟨h0, ns, c, h1, h2, h3⟩ := h
  exact ⟨h0, ns, c, h1, app_get l h2, app_get l h3⟩
theorem Dr.lt {vh : VH} {d n : Nat} (h : Dr vh d n) : d < vh.length ∧ n < vh.length := by
  obtain ⟨h0, ns, c, h1, h2, h3⟩ := h
  exact ⟨get_lt h2, get_lt h3⟩
theorem Dr.set {vh : VH} {d n m : Nat} (h : Dr vh d n) (c : Cell) (h1 : m ≠ d) (h2 : m ≠ n) : Dr (vh.set m c) d n := by
  obtain ⟨h0, ns, x, e1, e2, e3⟩ := h
  exact ⟨h0, ns, x, e1, by rw [List.getElem?_set_ne h1]; exact e2, by rw [List.getElem?_set_ne h2]; exact e3⟩
def m_law_start : Ct := opn (envF fun _ => none) 1 1 b_law_start
theorem law_start_ct (Γ : Env) : Ctr Γ 1 1 b_law_start m_law_start := opn_ct fun ds vh => by
  simp only [b_law_start, body, runs, run.eq_1, run.eq_2, run.eq_3, run.eq_4, run.eq_5, run.eq_6, run.eq_9, run.eq_11, ev.eq_1, ev.eq_2, ev.eq_3, ev.eq_4, ev.eq_5, ev.eq_6, ev.eq_7, ev.eq_8, ev.eq_9, ev.eq_10, ev.eq_11, ev.eq_12, ev.eq_13, ev.eq_14, ev.eq_15, ev.eq_16, ev.eq_17, ev.eq_18, ev.eq_19, ev.eq_20, ev.eq_21, ev.eq_22, ev.eq_23, ev.eq_24, evs, evo, evc, asg, asgs, List.map_cons, List.map_nil, List.length_cons, List.length_nil, List.replicate, List.append_nil, List.nil_append, List.cons_append, List.getElem?_cons_zero, List.getElem?_cons_succ, List.set_cons_zero, List.set_cons_succ, R.bind_ok, R.bind_ex, if_true, if_false, intOf_i, lift_some, Option.map_some, slc_tup, cmp_eq, cmp_ne, cmp_in, cmp_nin, cmp_is, cmp_isn, cmp_le, cmp_lt, cmp_ge, cmp_gt, bin_add, bin_addt, bin_sub, bin_mod, tru_bl, brB_true, brB_false, toB_some, Nat.sub_self, Nat.zero_add, Nat.reduceAdd, Nat.reduceSub, Nat.reduceLeDiff, Nat.reduceEqDiff]
theorem start_sp (ns : List Int) : ∃ ns' : List Int, ns' ≠ [] ∧ m_law_start [.fls ns] [] = some (.ok (.ref 2), [.lst [], il ns', .lst [.ref 1, .int 0]]) := by
  have e : eqF [.lst []] (.fls ns) (.ref 0) = some (decide (ns = [])) := by
    have e1 : rfy [.lst []] 12 (.fls ns) = some (.list (ns.map .int)) := rfl
    have e2 : rfy [.lst []] 12 (.ref 0) = some (.list []) := rfl
    simp only [eqF, e1, e2, PyData.eqv]
    exact congrArg some (eqvAll_ints ns [])
  by_cases h : ns = []
  · refine ⟨[0], by simp, ?_⟩
    simp [m_law_start, opn, b_law_start, body, runs, run.eq_1, run.eq_2, run.eq_3, run.eq_4, run.eq_5, run.eq_6, run.eq_9, run.eq_11, ev.eq_1, ev.eq_2, ev.eq_3, ev.eq_4, ev.eq_5, ev.eq_6, ev.eq_7, ev.eq_8, ev.eq_9, ev.eq_10, ev.eq_11, ev.eq_12, ev.eq_13, ev.eq_14, ev.eq_15, ev.eq_16, ev.eq_17, ev.eq_18, ev.eq_19, ev.eq_20, ev.eq_21, ev.eq_22, ev.eq_23, ev.eq_24, evs, evo, evc, asg, asgs, List.map_cons, List.map_nil, List.length_cons, List.length_nil, List.replicate, List.append_nil, List.nil_append, List.cons_append, List.getElem?_cons_zero, List.getElem?_cons_succ, List.set_cons_zero, List.set_cons_succ, R.bind_ok, R.bind_ex, if_true, if_false, intOf_i, lift_some, Option.map_some, slc_tup, cmp_eq, cmp_ne, cmp_in, cmp_nin, cmp_is, cmp_isn, cmp_le, cmp_lt, cmp_ge, cmp_gt, bin_add, bin_addt, bin_sub, bin_mod, tru_bl, brB_true, brB_false, toB_some, Nat.sub_self, Nat.zero_add, Nat.reduceAdd, Nat.reduceSub, Nat.reduceLeDiff, Nat.reduceEqDiff, e, h]
    rw [h] at e
    simp [e, body, runs, run.eq_1, run.eq_2, run.eq_3, run.eq_4, run.eq_5, run.eq_6, run.eq_9, run.eq_11, ev.eq_1, ev.eq_2, ev.eq_3, ev.eq_4, ev.eq_5, ev.eq_6, ev.eq_7, ev.eq_8, ev.eq_9, ev.eq_10, ev.eq_11, ev.eq_12, ev.eq_13, ev.eq_14, ev.eq_15, ev.eq_16, ev.eq_17, ev.eq_18, ev.eq_19, ev.eq_20, ev.eq_21, ev.eq_22, ev.eq_23, ev.eq_24, evs, evo, evc, asg, asgs, List.map_cons, List.map_nil, List.length_cons, List.length_nil, List.replicate, List.append_nil, List.nil_append, List.cons_append, List.getElem?_cons_zero, List.getElem?_cons_succ, List.set_cons_zero, List.set_cons_succ, R.bind_ok, R.bind_ex, if_true, if_false, intOf_i, lift_some, Option.map_some, slc_tup, cmp_eq, cmp_ne, cmp_in, cmp_nin, cmp_is, cmp_isn, cmp_le, cmp_lt, cmp_ge, cmp_gt, bin_add, bin_addt, bin_sub, bin_mod, tru_bl, brB_true, brB_false, toB_some, Nat.sub_self, Nat.zero_add, Nat.reduceAdd, Nat.reduceSub, Nat.reduceLeDiff, Nat.reduceEqDiff]
  · refine ⟨ns, h, ?_⟩
    simp [m_law_start, opn, b_law_start, body, runs, run.eq_1, run.eq_2, run.eq_3, run.eq_4, run.eq_5, run.eq_6, run.eq_9, run.eq_11, ev.eq_1, ev.eq_2, ev.eq_3, ev.eq_4, ev.eq_5, ev.eq_6, ev.eq_7, ev.eq_8, ev.eq_9, ev.eq_10, ev.eq_11, ev.eq_12, ev.eq_13, ev.eq_14, ev.eq_15, ev.eq_16, ev.eq_17, ev.eq_18, ev.eq_19, ev.eq_20, ev.eq_21, ev.eq_22, ev.eq_23, ev.eq_24, evs, evo, evc, asg, asgs, List.map_cons, List.map_nil, List.length_cons, List.length_nil, List.replicate, List.append_nil, List.nil_append, List.cons_append, List.getElem?_cons_zero, List.getElem?_cons_succ, List.set_cons_zero, List.set_cons_succ, R.bind_ok, R.bind_ex, if_true, if_false, intOf_i, lift_some, Option.map_some, slc_tup, cmp_eq, cmp_ne, cmp_in, cmp_nin, cmp_is, cmp_isn, cmp_le, cmp_lt, cmp_ge, cmp_gt, bin_add, bin_addt, bin_sub, bin_mod, tru_bl, brB_true, brB_false, toB_some, Nat.sub_self, Nat.zero_add, Nat.reduceAdd, Nat.reduceSub, Nat.reduceLeDiff, Nat.reduceEqDiff, e, h, bfF]
def m_law_draw : Ct := opn (envF fun _ => none) 6 2 b_law_draw
theorem law_draw_ct (Γ : Env) : Ctr Γ 6 2 b_law_draw m_law_draw := opn_ct fun ds vh => by
  simp only [b_law_draw, body, runs, run.eq_1, run.eq_2, run.eq_3, run.eq_4, run.eq_5, run.eq_6, run.eq_9, run.eq_11, ev.eq_1, ev.eq_2, ev.eq_3, ev.eq_4, ev.eq_5, ev.eq_6, ev.eq_7, ev.eq_8, ev.eq_9, ev.eq_10, ev.eq_11, ev.eq_12, ev.eq_13, ev.eq_14, ev.eq_15, ev.eq_16, ev.eq_17, ev.eq_18, ev.eq_19, ev.eq_20, ev.eq_21, ev.eq_22, ev.eq_23, ev.eq_24, evs, evo, evc, asg, asgs, List.map_cons, List.map_nil, List.length_cons, List.length_nil, List.replicate, List.append_nil, List.nil_append, List.cons_append, List.getElem?_cons_zero, List.getElem?_cons_succ, List.set_cons_zero, List.set_cons_succ, R.bind_ok, R.bind_ex, if_true, if_false, intOf_i, lift_some, Option.map_some, slc_tup, cmp_eq, cmp_ne, cmp_in, cmp_nin, cmp_is, cmp_isn, cmp_le, cmp_lt, cmp_ge, cmp_gt, bin_add, bin_addt, bin_sub, bin_mod, tru_bl, brB_true, brB_false, toB_some, Nat.sub_self, Nat.zero_add, Nat.reduceAdd, Nat.reduceSub, Nat.reduceLeDiff, Nat.reduceEqDiff]
theorem atI_ok {α : Type} (l : List α) (i : Int) (h0 : 0 ≤ i) (h1 : i < l.length) : ∃ x, atI l i = some x ∧ x ∈ l := by
  unfold atI ixN
  rw [if_pos h0, if_pos h1]
  have : i.toNat < l.length := by omega
  exact ⟨l[i.toNat], by simp [this], List.getElem_mem _⟩
theorem ixN_ok (n : Nat) (i : Int) (h0 : 0 ≤ i) (h1 : i < n) : ixN n i = some i.toNat := by
  unfold ixN
  rw [if_pos h0, if_pos h1]
theorem draw_sp {vh : VH} {d n : Nat} (D : Dr vh d n) (L : Int) (h0 : 0 < L) (h1 : L < 1073741824) : ∃ (r : Int) (vh' : VH), m_law_draw [.ref d, .int L] vh = some (.ok (.int r), vh') ∧ 0 ≤ r ∧ r < L ∧ Dr vh' d n ∧ Ext d n vh vh' ∧ vh'.length = vh.length := by
  obtain ⟨hdn, ns, c, hne, hd, hn⟩ := D
  have ld := get_lt hd
  have ln := get_lt hn
  obtain ⟨v1, hv1⟩ : ∃ v1, v1 = vh.set d (.lst [.ref n, .int (c + 1)]) := ⟨_, rfl⟩
  have s1 : setF (.ref d) (.int 1) (.int (c + 1)) vh = some v1 := by
    simp only [setF, hd, hv1]
    rfl
  have g1 : v1[d]? = some (.lst [.ref n, .int (c + 1)]) := by rw [hv1, List.getElem?_set_self ld]
  have g2 : v1[n]? = some (il ns) := by rw [hv1, List.getElem?_set_ne hdn]; exact hn
  have hl : 0 < (ns.length : Int) := by have := List.length_pos_iff.mpr hne; omega
  obtain ⟨a, ha⟩ : ∃ a, a = (c + 1) % (ns.length : Int) := ⟨_, rfl⟩
  have a0 : 0 ≤ a := ha ▸ Int.emod_nonneg _ (by omega)
  have a1 : a < ns.length := ha ▸ Int.emod_lt_of_pos _ hl
  obtain ⟨x, hx, _⟩ := atI_ok ns a a0 a1
  have hx' : atI (ns.map D.int) a = some (.int x) := by
    unfold atI at hx ⊢
    rw [List.length_map]
    cases e : ixN ns.length a with
    | none => rw [e] at hx; cases hx
    | some j =>
      rw [e] at hx
      simp only [Option.bind_some, List.getElem?_map] at hx ⊢
      rw [hx]; rfl
  have i0 : idxF (.ref d) (.int 0) vh = some (.ref n) := (idx_ref 0 hd).trans (atI_0 _ _)
  have i1 : idxF (.ref d) (.int 1) vh = some (.int c) := (idx_ref 1 hd).trans (atI_1 _ _ _)
  have i2 : idxF (.ref d) (.int 1) v1 = some (.int (c + 1)) := (idx_ref 1 g1).trans (atI_1 _ _ _)
  have i3 : idxF (.ref n) (.int a) v1 = some (.int x) := (idx_ref a g2).trans hx'
  have bl : bfF .len [.ref n] v1 = some (.ok (.int ns.length), v1) := by simp only [bfF, g2, List.length_map]
  have x1 : Ext d n vh v1 := ⟨by rw [hv1, List.length_set]; exact Nat.le_refl _, fun i y p q h => by rw [hv1, List.getElem?_set_ne (Ne.symm p)]; exact h⟩
  have bm : ∀ h : VH, binF .mod (.int (c + 1)) (.int ns.length) h = some (.ok (.int a), h) := fun h => by rw [bin_mod, if_pos hl, ha]
  by_cases hx9 : 1000000000000000000 ≤ x
  · obtain ⟨v2, hv2⟩ : ∃ v2, v2 = v1.set n (il (ns.set a.toNat (x / L))) := ⟨_, rfl⟩
    have s2 : setF (.ref n) (.int a) (.int (x / L)) v1 = some v2 := by
      simp only [setF, g2, List.length_map, ixN_ok _ a a0 a1, Option.map_some, hv2, il, List.map_set]
    have fd : ∀ h : VH, binF .fdiv (.int x) (.int L) h = some (.ok (.int (x / L)), h) := fun h => by rw [bin_fdiv, if_pos ⟨h0, h1⟩]
    have md : ∀ h : VH, binF .mod (.int x) (.int L) h = some (.ok (.int (x % L)), h) := fun h => by rw [bin_mod, if_pos h0]
    refine ⟨x % L, v2, ?_, Int.emod_nonneg _ (by omega), Int.emod_lt_of_pos _ h0, ⟨hdn, ns.set a.toNat (x / L), c + 1, ?_, ?_, ?_⟩, x1.trans ⟨by rw [hv2, List.length_set]; exact Nat.le_refl _, fun i y p q h => by rw [hv2, List.getElem?_set_ne (Ne.symm q)]; exact h⟩, by rw [hv2, List.length_set, hv1, List.length_set]⟩
    · simp only [m_law_draw, opn, b_law_draw, body, runs, run.eq_1, run.eq_2, run.eq_3, run.eq_4, run.eq_5, run.eq_6, run.eq_9, run.eq_11, ev.eq_1, ev.eq_2, ev.eq_3, ev.eq_4, ev.eq_5, ev.eq_6, ev.eq_7, ev.eq_8, ev.eq_9, ev.eq_10, ev.eq_11, ev.eq_12, ev.eq_13, ev.eq_14, ev.eq_15, ev.eq_16, ev.eq_17, ev.eq_18, ev.eq_19, ev.eq_20, ev.eq_21, ev.eq_22, ev.eq_23, ev.eq_24, evs, evo, evc, asg, asgs, List.map_cons, List.map_nil, List.length_cons, List.length_nil, List.replicate, List.append_nil, List.nil_append, List.cons_append, List.getElem?_cons_zero, List.getElem?_cons_succ, List.set_cons_zero, List.set_cons_succ, R.bind_ok, R.bind_ex, if_true, if_false, intOf_i, lift_some, Option.map_some, slc_tup, cmp_eq, cmp_ne, cmp_in, cmp_nin, cmp_is, cmp_isn, cmp_le, cmp_lt, cmp_ge, cmp_gt, bin_add, bin_addt, bin_sub, bin_mod, tru_bl, brB_true, brB_false, toB_some, Nat.sub_self, Nat.zero_add, Nat.reduceAdd, Nat.reduceSub, Nat.reduceLeDiff, Nat.reduceEqDiff, i0, i1, i2, i3, s1, bl, bm, hx9, decide_true, fd, md, s2]
    · intro z
      have := congrArg List.length z
      rw [List.length_set] at this
      simp only [List.length_nil] at this
      omega
    · rw [hv2, List.getElem?_set_ne (Ne.symm hdn)]; exact g1
    · rw [hv2, List.getElem?_set_self (by rw [hv1, List.length_set]; exact ln)]
  · have mul1 : ∀ h : VH, binF .mul (.int 104729) (.int (c + 1)) h = some (.ok (.int (104729 * (c + 1))), h) := fun h => by
      simp only [binF]; rw [if_pos (.inl (by decide))]
    obtain ⟨m1, hm1⟩ : ∃ m1, m1 = (x + 104729 * (c + 1)) % 4294967291 := ⟨_, rfl⟩
    have m10 : 0 ≤ m1 := hm1 ▸ Int.emod_nonneg _ (by decide)
    have m11 : m1 < 4294967291 := hm1 ▸ Int.emod_lt_of_pos _ (by decide)
    have md1 : ∀ h : VH, binF .mod (.int (x + 104729 * (c + 1))) (.int 4294967291) h = some (.ok (.int m1), h) := fun h => by rw [bin_mod, if_pos (by decide), hm1]
    have pw : ∀ h : VH, binF .pow (.int m1) (.int 5) h = some (.ok (.int (m1 ^ 5)), h) := fun h => by
      simp only [binF]; rw [if_pos ⟨by decide, by decide, by omega⟩]; rfl
    obtain ⟨m2, hm2⟩ : ∃ m2, m2 = m1 ^ 5 % 4294967279 := ⟨_, rfl⟩
    have md2 : ∀ h : VH, binF .mod (.int (m1 ^ 5)) (.int 4294967279) h = some (.ok (.int m2), h) := fun h => by rw [bin_mod, if_pos (by decide), hm2]
    have fd2 : ∀ h : VH, binF .fdiv (.int m2) (.int 64) h = some (.ok (.int (m2 / 64)), h) := fun h => by rw [bin_fdiv, if_pos (by decide)]
    have mul2 : ∀ h : VH, binF .mul (.int (m2 / 64)) (.int 69621) h = some (.ok (.int (m2 / 64 * 69621)), h) := fun h => by
      simp only [binF]; rw [if_pos (.inr (by decide))]
    have md3 : ∀ (i : Int) (h : VH), binF .mod (.int i) (.int 4294967231) h = some (.ok (.int (i % 4294967231)), h) := fun i h => by rw [bin_mod, if_pos (by decide)]
    have fd3 : ∀ (i : Int) (h : VH), binF .fdiv (.int i) (.int 8) h = some (.ok (.int (i / 8)), h) := fun i h => by rw [bin_fdiv, if_pos (by decide)]
    have md4 : ∀ (i : Int) (h : VH), binF .mod (.int i) (.int L) h = some (.ok (.int (i % L)), h) := fun i h => by rw [bin_mod, if_pos h0]
    refine ⟨(m2 / 64 * 69621 + m2) % 4294967231 / 8 % L, v1, ?_, Int.emod_nonneg _ (by omega), Int.emod_lt_of_pos _ h0, ⟨hdn, ns, c + 1, hne, g1, g2⟩, x1, by rw [hv1, List.length_set]⟩
    simp only [m_law_draw, opn, b_law_draw, body, runs, run.eq_1, run.eq_2, run.eq_3, run.eq_4, run.eq_5, run.eq_6, run.eq_9, run.eq_11, ev.eq_1, ev.eq_2, ev.eq_3, ev.eq_4, ev.eq_5, ev.eq_6, ev.eq_7, ev.eq_8, ev.eq_9, ev.eq_10, ev.eq_11, ev.eq_12, ev.eq_13, ev.eq_14, ev.eq_15, ev.eq_16, ev.eq_17, ev.eq_18, ev.eq_19, ev.eq_20, ev.eq_21, ev.eq_22, ev.eq_23, ev.eq_24, evs, evo, evc, asg, asgs, List.map_cons, List.map_nil, List.length_cons, List.length_nil, List.replicate, List.append_nil, List.nil_append, List.cons_append, List.getElem?_cons_zero, List.getElem?_cons_succ, List.set_cons_zero, List.set_cons_succ, R.bind_ok, R.bind_ex, if_true, if_false, intOf_i, lift_some, Option.map_some, slc_tup, cmp_eq, cmp_ne, cmp_in, cmp_nin, cmp_is, cmp_isn, cmp_le, cmp_lt, cmp_ge, cmp_gt, bin_add, bin_addt, bin_sub, bin_mod, tru_bl, brB_true, brB_false, toB_some, Nat.sub_self, Nat.zero_add, Nat.reduceAdd, Nat.reduceSub, Nat.reduceLeDiff, Nat.reduceEqDiff, i0, i1, i2, i3, s1, bl, bm, hx9, decide_false, mul1, md1, pw, md2, fd2, mul2, md3, fd3, md4]
end Sb

/-! the laws' picks, ways, rows, states, screens -/
namespace Sb
open PySem
def fnP : Str → Option Ct := fun x => if x = "_law_draw" then some m_law_draw else none
theorem fnP_draw : fnP "_law_draw" = some m_law_draw := if_pos rfl
def m_law_pick : Ct := opn (envF fnP) 2 2 b_law_pick
theorem law_pick_ct (Γ : Env) (h1 : Γ.fn "_law_draw" = some m_law_draw) : Ctr Γ 2 2 b_law_pick m_law_pick := opn_ct fun ds vh => by
  simp only [b_law_pick, body, runs, run.eq_1, run.eq_2, run.eq_3, run.eq_4, run.eq_5, run.eq_6, run.eq_9, run.eq_11, ev.eq_1, ev.eq_2, ev.eq_3, ev.eq_4, ev.eq_5, ev.eq_6, ev.eq_7, ev.eq_8, ev.eq_9, ev.eq_10, ev.eq_11, ev.eq_12, ev.eq_13, ev.eq_14, ev.eq_15, ev.eq_16, ev.eq_17, ev.eq_18, ev.eq_19, ev.eq_20, ev.eq_21, ev.eq_22, ev.eq_23, ev.eq_24, evs, evo, evc, asg, asgs, List.map_cons, List.map_nil, List.length_cons, List.length_nil, List.replicate, List.append_nil, List.nil_append, List.cons_append, List.getElem?_cons_zero, List.getElem?_cons_succ, List.set_cons_zero, List.set_cons_succ, R.bind_ok, R.bind_ex, if_true, if_false, intOf_i, lift_some, Option.map_some, slc_tup, cmp_eq, cmp_ne, cmp_in, cmp_nin, cmp_is, cmp_isn, cmp_le, cmp_lt, cmp_ge, cmp_gt, bin_add, bin_addt, bin_sub, bin_mod, tru_bl, brB_true, brB_false, toB_some, Nat.sub_self, Nat.zero_add, Nat.reduceAdd, Nat.reduceSub, Nat.reduceLeDiff, Nat.reduceEqDiff, h1, envF, fnP_draw]
theorem pick_sp {vh : VH} {d n q : Nat} {xs : List D} (Dd : Dr vh d n) (hq : vh[q]? = some (.lst xs)) (hd : q ≠ d) (hn : q ≠ n) (hx : xs ≠ []) (hl : xs.length < 1000000) : ∃ (x : D) (vh' : VH), m_law_pick [.ref d, .ref q] vh = some (.ok x, vh') ∧ x ∈ xs ∧ Dr vh' d n ∧ Ext d n vh vh' ∧ vh'.length = vh.length := by
  have l0 := List.length_pos_iff.mpr hx
  obtain ⟨r, vh', e, r0, r1, D', x', ll⟩ := draw_sp Dd (xs.length : Int) (by omega) (by omega)
  obtain ⟨x, hx', hm⟩ := atI_ok xs r r0 r1
  have hq' := x'.2 q _ hd hn hq
  refine ⟨x, vh', ?_, hm, D', x', ll⟩
  simp only [m_law_pick, opn, b_law_pick, body, runs, run.eq_1, run.eq_2, run.eq_3, run.eq_4, run.eq_5, run.eq_6, run.eq_9, run.eq_11, ev.eq_1, ev.eq_2, ev.eq_3, ev.eq_4, ev.eq_5, ev.eq_6, ev.eq_7, ev.eq_8, ev.eq_9, ev.eq_10, ev.eq_11, ev.eq_12, ev.eq_13, ev.eq_14, ev.eq_15, ev.eq_16, ev.eq_17, ev.eq_18, ev.eq_19, ev.eq_20, ev.eq_21, ev.eq_22, ev.eq_23, ev.eq_24, evs, evo, evc, asg, asgs, List.map_cons, List.map_nil, List.length_cons, List.length_nil, List.replicate, List.append_nil, List.nil_append, List.cons_append, List.getElem?_cons_zero, List.getElem?_cons_succ, List.set_cons_zero, List.set_cons_succ, R.bind_ok, R.bind_ex, if_true, if_false, intOf_i, lift_some, Option.map_some, slc_tup, cmp_eq, cmp_ne, cmp_in, cmp_nin, cmp_is, cmp_isn, cmp_le, cmp_lt, cmp_ge, cmp_gt, bin_add, bin_addt, bin_sub, bin_mod, tru_bl, brB_true, brB_false, toB_some, Nat.sub_self, Nat.zero_add, Nat.reduceAdd, Nat.reduceSub, Nat.reduceLeDiff, Nat.reduceEqDiff, bfF, hq, envF, fnP_draw, e, idx_ref r hq', hx']
def fnW : Str → Option Ct := fun x => if x = "_law_draw" then some m_law_draw else if x = "_law_pick" then some m_law_pick else none
theorem fnW_draw : fnW "_law_draw" = some m_law_draw := if_pos rfl
theorem fnW_pick : fnW "_law_pick" = some m_law_pick := by unfold fnW; rw [if_neg (by decide +kernel), if_pos rfl]
def m_law_way : Ct := opn (envF fnW) 3 1 b_law_way
theorem law_way_ct (Γ : Env) (h1 : Γ.fn "_law_draw" = some m_law_draw) (h2 : Γ.fn "_law_pick" = some m_law_pick) : Ctr Γ 3 1 b_law_way m_law_way := opn_ct fun ds vh => by
  simp only [b_law_way, body, runs, run.eq_1, run.eq_2, run.eq_3, run.eq_4, run.eq_5, run.eq_6, run.eq_9, run.eq_11, ev.eq_1, ev.eq_2, ev.eq_3, ev.eq_4, ev.eq_5, ev.eq_6, ev.eq_7, ev.eq_8, ev.eq_9, ev.eq_10, ev.eq_11, ev.eq_12, ev.eq_13, ev.eq_14, ev.eq_15, ev.eq_16, ev.eq_17, ev.eq_18, ev.eq_19, ev.eq_20, ev.eq_21, ev.eq_22, ev.eq_23, ev.eq_24, evs, evo, evc, asg, asgs, List.map_cons, List.map_nil, List.length_cons, List.length_nil, List.replicate, List.append_nil, List.nil_append, List.cons_append, List.getElem?_cons_zero, List.getElem?_cons_succ, List.set_cons_zero, List.set_cons_succ, R.bind_ok, R.bind_ex, if_true, if_false, intOf_i, lift_some, Option.map_some, slc_tup, cmp_eq, cmp_ne, cmp_in, cmp_nin, cmp_is, cmp_isn, cmp_le, cmp_lt, cmp_ge, cmp_gt, bin_add, bin_addt, bin_sub, bin_mod, tru_bl, brB_true, brB_false, toB_some, Nat.sub_self, Nat.zero_add, Nat.reduceAdd, Nat.reduceSub, Nat.reduceLeDiff, Nat.reduceEqDiff, h1, h2, envF, fnW_draw, fnW_pick, asgs_2]
theorem of_kinds {x : D} (h : x ∈ [D.str "line", .str "line", .str "ring", .str "ring", .str "deed", .str "deed", .str "swap"]) : ∃ k : Kd, x = .str k.str := by
  simp only [List.mem_cons, List.not_mem_nil, or_false] at h
  rcases h with h | h | h | h | h | h | h
  · exact ⟨.line, h⟩
  · exact ⟨.line, h⟩
  · exact ⟨.ring, h⟩
  · exact ⟨.ring, h⟩
  · exact ⟨.deed, h⟩
  · exact ⟨.deed, h⟩
  · exact ⟨.swap, h⟩
theorem of_homes {x : D} (h : x ∈ [D.str "deed", .str "bare", .str "clear"]) : ∃ k : Hm, x = .str k.str := by
  simp only [List.mem_cons, List.not_mem_nil, or_false] at h
  rcases h with h | h | h
  · exact ⟨.deed, h⟩
  · exact ⟨.bare, h⟩
  · exact ⟨.clear, h⟩
theorem of_keys {x : D} (h : x ∈ [D.str "next", .str "next", .str "next", .str "back", .str "back", .str "back", .str "again", .str "again", .str "keep", .str "home", .str "pause"]) : ∃ k : Ky, x = encK k := by
  simp only [List.mem_cons, List.not_mem_nil, or_false] at h
  rcases h with h | h | h | h | h | h | h | h | h | h | h
  · exact ⟨.next, h⟩
  · exact ⟨.next, h⟩
  · exact ⟨.next, h⟩
  · exact ⟨.back, h⟩
  · exact ⟨.back, h⟩
  · exact ⟨.back, h⟩
  · exact ⟨.again, h⟩
  · exact ⟨.again, h⟩
  · exact ⟨.keep, h⟩
  · exact ⟨.home, h⟩
  · exact ⟨.pause, h⟩
theorem way_of (k : Kd) (h : Hm) (a b : Int) (hk : k ≠ .swap) (a0 : 0 ≤ a) (a1 : a < 2) (b0 : 0 ≤ b) (b1 : b < 2) : ∃ w : Way, D.tup [.str k.str, .int (1 + a), .int b, .str h.str] = encW w := by
  have ha : a = 0 ∨ a = 1 := by omega
  have hb : b = 0 ∨ b = 1 := by omega
  obtain ⟨k3, hk3⟩ : ∃ k3 : K3, k3.kd = k := by
    cases k with
    | line => exact ⟨.line, rfl⟩
    | ring => exact ⟨.ring, rfl⟩
    | deed => exact ⟨.deed, rfl⟩
    | swap => exact absurd rfl hk
  subst hk3
  rcases ha with ha | ha <;> rcases hb with hb | hb <;> subst ha hb
  · exact ⟨.three k3 false false h, rfl⟩
  · exact ⟨.three k3 false true h, rfl⟩
  · exact ⟨.three k3 true false h, rfl⟩
  · exact ⟨.three k3 true true h, rfl⟩
/-- a pick of a list just written -/
theorem pick_new {vh : VH} {d n : Nat} (xs : List D) (Dd : Dr vh d n) (hx : xs ≠ []) (hl : xs.length < 1000000) : ∃ (x : D) (vh' : VH), m_law_pick [.ref d, .ref vh.length] (vh ++ [.lst xs]) = some (.ok x, vh') ∧ x ∈ xs ∧ Dr vh' d n ∧ Ext d n vh vh' := by
  have hlt := Dd.lt
  obtain ⟨x, vh', e, hm, D', x', _⟩ := pick_sp (Dd.app [.lst xs]) (last_get _ _) (by omega) (by omega) hx hl
  exact ⟨x, vh', e, hm, D', (Ext.app d n vh _).trans x'⟩
theorem way_sp {vh : VH} {d n : Nat} (Dd : Dr vh d n) : ∃ (w : Way) (vh' : VH), m_law_way [.ref d] vh = some (.ok (encW w), vh') ∧ Dr vh' d n ∧ Ext d n vh vh' := by
  obtain ⟨x, v1, e1, m1, D1, x1⟩ := pick_new [D.str "line", .str "line", .str "ring", .str "ring", .str "deed", .str "deed", .str "swap"] Dd (by simp) (by simp)
  obtain ⟨k, rfl⟩ := of_kinds m1
  obtain ⟨y, v2, e2, m2, D2, x2⟩ := pick_new [D.str "deed", .str "bare", .str "clear"] D1 (by simp) (by simp)
  obtain ⟨hm, rfl⟩ := of_homes m2
  by_cases hk : k = .swap
  · subst hk
    refine ⟨.swap hm, v2, ?_, D2, x1.trans x2⟩
    simp only [m_law_way, opn, b_law_way, body, runs, run.eq_1, run.eq_2, run.eq_3, run.eq_4, run.eq_5, run.eq_6, run.eq_9, run.eq_11, ev.eq_1, ev.eq_2, ev.eq_3, ev.eq_4, ev.eq_5, ev.eq_6, ev.eq_7, ev.eq_8, ev.eq_9, ev.eq_10, ev.eq_11, ev.eq_12, ev.eq_13, ev.eq_14, ev.eq_15, ev.eq_16, ev.eq_17, ev.eq_18, ev.eq_19, ev.eq_20, ev.eq_21, ev.eq_22, ev.eq_23, ev.eq_24, evs, evo, evc, asg, asgs, List.map_cons, List.map_nil, List.length_cons, List.length_nil, List.replicate, List.append_nil, List.nil_append, List.cons_append, List.getElem?_cons_zero, List.getElem?_cons_succ, List.set_cons_zero, List.set_cons_succ, R.bind_ok, R.bind_ex, if_true, if_false, intOf_i, lift_some, Option.map_some, slc_tup, cmp_eq, cmp_ne, cmp_in, cmp_nin, cmp_is, cmp_isn, cmp_le, cmp_lt, cmp_ge, cmp_gt, bin_add, bin_addt, bin_sub, bin_mod, tru_bl, brB_true, brB_false, toB_some, Nat.sub_self, Nat.zero_add, Nat.reduceAdd, Nat.reduceSub, Nat.reduceLeDiff, Nat.reduceEqDiff, envF, fnW_pick, e1, e2, kd_3, decide_true]
    rfl
  · obtain ⟨r, v3, e3, r0, r1, D3, x3, _⟩ := draw_sp D2 2 (by decide) (by decide)
    obtain ⟨u, v4, e4, u0, u1, D4, x4, _⟩ := draw_sp D3 2 (by decide) (by decide)
    obtain ⟨w, hw⟩ := way_of k hm r u hk r0 r1 u0 u1
    refine ⟨w, v4, ?_, D4, ((x1.trans x2).trans x3).trans x4⟩
    rw [← hw]
    simp only [m_law_way, opn, b_law_way, body, runs, run.eq_1, run.eq_2, run.eq_3, run.eq_4, run.eq_5, run.eq_6, run.eq_9, run.eq_11, ev.eq_1, ev.eq_2, ev.eq_3, ev.eq_4, ev.eq_5, ev.eq_6, ev.eq_7, ev.eq_8, ev.eq_9, ev.eq_10, ev.eq_11, ev.eq_12, ev.eq_13, ev.eq_14, ev.eq_15, ev.eq_16, ev.eq_17, ev.eq_18, ev.eq_19, ev.eq_20, ev.eq_21, ev.eq_22, ev.eq_23, ev.eq_24, evs, evo, evc, asg, asgs, List.map_cons, List.map_nil, List.length_cons, List.length_nil, List.replicate, List.append_nil, List.nil_append, List.cons_append, List.getElem?_cons_zero, List.getElem?_cons_succ, List.set_cons_zero, List.set_cons_succ, R.bind_ok, R.bind_ex, if_true, if_false, intOf_i, lift_some, Option.map_some, slc_tup, cmp_eq, cmp_ne, cmp_in, cmp_nin, cmp_is, cmp_isn, cmp_le, cmp_lt, cmp_ge, cmp_gt, bin_add, bin_addt, bin_sub, bin_mod, tru_bl, brB_true, brB_false, toB_some, Nat.sub_self, Nat.zero_add, Nat.reduceAdd, Nat.reduceSub, Nat.reduceLeDiff, Nat.reduceEqDiff, envF, fnW_pick, fnW_draw, e1, e2, e3, e4, kd_3, hk, decide_false]
/-- a comprehension of draws -/
theorem loopC_dr {d n m : Nat} {base : VH} {f : D → VH → R (Option D)} (P : D → Prop) (hm : base.length ≤ m) (hd : m ≠ d) (hn : m ≠ n) : ∀ (ds acc : List D) (h : VH), (∀ x ∈ ds, ∀ h, Dr h d n → Ext d n base h → ∃ (y : D) (h' : VH), f x h = some (.ok (some y), h') ∧ P y ∧ Dr h' d n ∧ Ext d n h h') →
    Dr h d n → Ext d n base h → h[m]? = some (.lst acc) → acc.length + ds.length ≤ lim → (∀ y ∈ acc, P y) →
    ∃ (ys : List D) (h' : VH), loopC [] m f ds h = some (.ok (.ref m), h') ∧ h'[m]? = some (.lst ys) ∧ (∀ y ∈ ys, P y) ∧ ys.length = acc.length + ds.length ∧ Dr h' d n ∧ Ext d n base h'
  | [], acc, h, _, D0, x0, ha, _, pa => ⟨acc, h, by simp only [loopC, grd, List.all_nil, if_true], ha, pa, rfl, D0, x0⟩
  | x :: ds, acc, h, hf, D0, x0, ha, hl, pa => by
    simp only [List.length_cons] at hl
    obtain ⟨y, h1, e1, p1, D1, x1⟩ := hf x List.mem_cons_self h D0 x0
    have ha1 := x1.2 m _ hd hn ha
    have lt1 := get_lt ha1
    obtain ⟨ys, h2, e2, q2, p2, l2, D2, x2⟩ := loopC_dr P hm hd hn ds (acc ++ [y]) (h1.set m (.lst (acc ++ [y]))) (fun x hx => hf x (List.mem_cons_of_mem _ hx)) (D1.set _ hd hn)
      ⟨by rw [List.length_set]; exact (x0.trans x1).1, fun i c p q hc => by
        have := get_lt hc
        rw [List.getElem?_set_ne (by omega)]
        exact (x0.trans x1).2 i c p q hc⟩
      (by rw [List.getElem?_set_self lt1]) (by rw [List.length_append, List.length_singleton]; omega) (fun z hz => by
        rcases List.mem_append.mp hz with hz | hz
        · exact pa z hz
        · rw [List.mem_singleton.mp hz]; exact p1)
    refine ⟨ys, h2, ?_, q2, p2, ?_, D2, x2⟩
    · have hacc : acc.length < lim := by omega
      simp only [loopC, grd, List.all_nil, if_true, e1, noEx_ok, R.bind_ok, lstAt_of ha1, hacc, e2]
    · rw [l2, List.length_append, List.length_singleton, List.length_cons]; omega
theorem iota_lenM : ∀ (n : Nat) (lo : Int), (iota lo n).length = n
  | 0, _ => rfl
  | n + 1, lo => by simp only [iota, List.length_cons, iota_lenM n]
theorem encR_of : ∀ ys : List D, (∀ y ∈ ys, ∃ k : Ky, y = encK k) → ∃ ks : List Ky, ys = encR ks
  | [], _ => ⟨[], rfl⟩
  | y :: ys, h => by
    obtain ⟨k, hk⟩ := h y List.mem_cons_self
    obtain ⟨ks, hs⟩ := encR_of ys fun z hz => h z (List.mem_cons_of_mem _ hz)
    exact ⟨k :: ks, by rw [hk, hs]; rfl⟩
def m_law_row : Ct := opn (envF fnW) 4 2 b_law_row
theorem law_row_ct (Γ : Env) (h1 : Γ.fn "_law_draw" = some m_law_draw) (h2 : Γ.fn "_law_pick" = some m_law_pick) : Ctr Γ 4 2 b_law_row m_law_row := opn_ct fun ds vh => by
  simp only [b_law_row, body, runs, run.eq_1, run.eq_2, run.eq_3, run.eq_4, run.eq_5, run.eq_6, run.eq_9, run.eq_11, ev.eq_1, ev.eq_2, ev.eq_3, ev.eq_4, ev.eq_5, ev.eq_6, ev.eq_7, ev.eq_8, ev.eq_9, ev.eq_10, ev.eq_11, ev.eq_12, ev.eq_13, ev.eq_14, ev.eq_15, ev.eq_16, ev.eq_17, ev.eq_18, ev.eq_19, ev.eq_20, ev.eq_21, ev.eq_22, ev.eq_23, ev.eq_24, evs, evo, evc, asg, asgs, List.map_cons, List.map_nil, List.length_cons, List.length_nil, List.replicate, List.append_nil, List.nil_append, List.cons_append, List.getElem?_cons_zero, List.getElem?_cons_succ, List.set_cons_zero, List.set_cons_succ, R.bind_ok, R.bind_ex, if_true, if_false, intOf_i, lift_some, Option.map_some, slc_tup, cmp_eq, cmp_ne, cmp_in, cmp_nin, cmp_is, cmp_isn, cmp_le, cmp_lt, cmp_ge, cmp_gt, bin_add, bin_addt, bin_sub, bin_mod, tru_bl, brB_true, brB_false, toB_some, Nat.sub_self, Nat.zero_add, Nat.reduceAdd, Nat.reduceSub, Nat.reduceLeDiff, Nat.reduceEqDiff, evI, ev.eq_25, h1, h2, envF, fnW_draw, fnW_pick]
theorem row_sp {vh : VH} {d n : Nat} (Dd : Dr vh d n) (L : Int) (h0 : 0 ≤ L) (h1 : L < 10000) : ∃ (ks : List Ky) (m : Nat) (vh' : VH), m_law_row [.ref d, .int L] vh = some (.ok (.ref m), vh') ∧ vh.length ≤ m ∧ vh'[m]? = some (.lst (encR ks)) ∧ (ks.length : Int) ≤ L ∧ Dr vh' d n ∧ Ext d n vh vh' := by
  have hlt := Dd.lt
  obtain ⟨kl, hkl⟩ : ∃ kl, kl = [D.str "next", .str "next", .str "next", .str "back", .str "back", .str "back", .str "again", .str "again", .str "keep", .str "home", .str "pause"] := ⟨_, rfl⟩
  have D0 := Dd.app [.lst kl]
  have x0 := Ext.app d n vh [.lst kl]
  have g0 := last_get vh (.lst kl)
  obtain ⟨r, v1, e1, r0, r1, D1, x1, _⟩ := draw_sp D0 (L + 1) (by omega) (by omega)
  have g1 := x1.2 _ _ (by omega) (by omega) g0
  have lt1 := D1.lt
  have hl1 : vh.length + 1 ≤ v1.length := by have := x1.1; rw [List.length_append, List.length_singleton] at this; exact this
  obtain ⟨ys, v2, e2, g2, p2, l2, D2, x2⟩ := loopC_dr (d := d) (n := n) (m := v1.length) (base := v1) (f := fun d' h => (asg (envF fnW) (.nm 3) d' (wipeF [some (.ref d), some (.int L), some (.ref vh.length), none] [3]) h).bind fun fr' h => (evc (envF fnW) none fr' h).bind fun b h =>
      if b = true then (ev (envF fnW) (.cal "_law_pick" [.var 0, .var 2]) fr' h).bind (fun y h => some (.ok (some y), h)) else some (.ok none, h)) (fun y => ∃ k : Ky, y = encK k) (Nat.le_refl _) (by omega) (by omega) (iota 0 r.toNat) [] (v1 ++ [.lst []])
    (fun x hx h Dh xh => by
      have gh := xh.2 _ _ (by omega) (by omega) g1
      obtain ⟨y, h', e, hm, D', x', _⟩ := pick_sp Dh gh (by omega) (by omega) (by rw [hkl]; simp) (by rw [hkl]; simp)
      rw [hkl] at hm
      refine ⟨y, h', ?_, of_keys hm, D', x'⟩
      simp only [body, runs, run.eq_1, run.eq_2, run.eq_3, run.eq_4, run.eq_5, run.eq_6, run.eq_9, run.eq_11, ev.eq_1, ev.eq_2, ev.eq_3, ev.eq_4, ev.eq_5, ev.eq_6, ev.eq_7, ev.eq_8, ev.eq_9, ev.eq_10, ev.eq_11, ev.eq_12, ev.eq_13, ev.eq_14, ev.eq_15, ev.eq_16, ev.eq_17, ev.eq_18, ev.eq_19, ev.eq_20, ev.eq_21, ev.eq_22, ev.eq_23, ev.eq_24, evs, evo, evc, asg, asgs, List.map_cons, List.map_nil, List.length_cons, List.length_nil, List.replicate, List.append_nil, List.nil_append, List.cons_append, List.getElem?_cons_zero, List.getElem?_cons_succ, List.set_cons_zero, List.set_cons_succ, R.bind_ok, R.bind_ex, if_true, if_false, intOf_i, lift_some, Option.map_some, slc_tup, cmp_eq, cmp_ne, cmp_in, cmp_nin, cmp_is, cmp_isn, cmp_le, cmp_lt, cmp_ge, cmp_gt, bin_add, bin_addt, bin_sub, bin_mod, tru_bl, brB_true, brB_false, toB_some, Nat.sub_self, Nat.zero_add, Nat.reduceAdd, Nat.reduceSub, Nat.reduceLeDiff, Nat.reduceEqDiff, wipeF, envF, fnW_pick, e])
    (D1.app _) (Ext.app d n v1 _) (last_get _ _) (by show _ ≤ 16777216; rw [List.length_nil, iota_lenM]; omega) (fun y hy => nomatch hy)
  obtain ⟨ks, rfl⟩ := encR_of ys p2
  refine ⟨ks, v1.length, v2, ?_, by omega, g2, ?_, D2, (x0.trans x1).trans x2⟩
  · have c : ev (envF fnW) (.cpr [3] (.nm 3) (.rng [.cal "_law_draw" [.var 0, .bin .add (.var 1) (.cst (.int 1))]]) none (.cal "_law_pick" [.var 0, .var 2])) [some (.ref d), some (.int L), some (.ref vh.length), none] (vh ++ [.lst kl]) = some (.ok (.ref v1.length), v2) := by
      rw [ev.eq_25]
      have hI : evI (envF fnW) (.rng [.cal "_law_draw" [.var 0, .bin .add (.var 1) (.cst (.int 1))]]) [some (.ref d), some (.int L), some (.ref vh.length), none] (vh ++ [.lst kl]) = some (.ok (iota 0 r.toNat, []), v1) := by
        have : -(2 ^ 62) ≤ r ∧ r < 2 ^ 62 := by omega
        simp only [evI, body, runs, run.eq_1, run.eq_2, run.eq_3, run.eq_4, run.eq_5, run.eq_6, run.eq_9, run.eq_11, ev.eq_1, ev.eq_2, ev.eq_3, ev.eq_4, ev.eq_5, ev.eq_6, ev.eq_7, ev.eq_8, ev.eq_9, ev.eq_10, ev.eq_11, ev.eq_12, ev.eq_13, ev.eq_14, ev.eq_15, ev.eq_16, ev.eq_17, ev.eq_18, ev.eq_19, ev.eq_20, ev.eq_21, ev.eq_22, ev.eq_23, ev.eq_24, evs, evo, evc, asg, asgs, List.map_cons, List.map_nil, List.length_cons, List.length_nil, List.replicate, List.append_nil, List.nil_append, List.cons_append, List.getElem?_cons_zero, List.getElem?_cons_succ, List.set_cons_zero, List.set_cons_succ, R.bind_ok, R.bind_ex, if_true, if_false, intOf_i, lift_some, Option.map_some, slc_tup, cmp_eq, cmp_ne, cmp_in, cmp_nin, cmp_is, cmp_isn, cmp_le, cmp_lt, cmp_ge, cmp_gt, bin_add, bin_addt, bin_sub, bin_mod, tru_bl, brB_true, brB_false, toB_some, Nat.sub_self, Nat.zero_add, Nat.reduceAdd, Nat.reduceSub, Nat.reduceLeDiff, Nat.reduceEqDiff, envF, fnW_draw, e1, rngF]
        rw [if_pos this]
      rw [hI, R.bind_ok]
      exact e2
    simp only [m_law_row, opn, b_law_row, body, runs, run.eq_1, run.eq_2, run.eq_3, run.eq_4, run.eq_5, run.eq_6, run.eq_9, run.eq_11, ev.eq_1, ev.eq_2, ev.eq_3, ev.eq_4, ev.eq_5, ev.eq_6, ev.eq_7, ev.eq_8, ev.eq_9, ev.eq_10, ev.eq_11, ev.eq_12, ev.eq_13, ev.eq_14, ev.eq_15, ev.eq_16, ev.eq_17, ev.eq_18, ev.eq_19, ev.eq_20, ev.eq_21, ev.eq_22, ev.eq_23, ev.eq_24, evs, evo, evc, asg, asgs, List.map_cons, List.map_nil, List.length_cons, List.length_nil, List.replicate, List.append_nil, List.nil_append, List.cons_append, List.getElem?_cons_zero, List.getElem?_cons_succ, List.set_cons_zero, List.set_cons_succ, R.bind_ok, R.bind_ex, if_true, if_false, intOf_i, lift_some, Option.map_some, slc_tup, cmp_eq, cmp_ne, cmp_in, cmp_nin, cmp_is, cmp_isn, cmp_le, cmp_lt, cmp_ge, cmp_gt, bin_add, bin_addt, bin_sub, bin_mod, tru_bl, brB_true, brB_false, toB_some, Nat.sub_self, Nat.zero_add, Nat.reduceAdd, Nat.reduceSub, Nat.reduceLeDiff, Nat.reduceEqDiff, ← hkl, c]
  · rw [List.length_map] at l2
    rw [l2, iota_lenM, List.length_nil]; omega
end Sb

/-! the laws' states and screens -/
namespace Sb
open PySem
def b_law_along : List S := [.set (.nm 3) (.lst [.tup [.cst (.int 0), .cst (.int 0), .tup [], .tup [], .cst (.int 0)]]), .for (.nm 4) (.seq (.var 2)) [.exp (.bmt .append (.var 3) [.cal "_law_step" [.var 0, .var 1, .idx (.var 3) (.neg (.cst (.int 1))), .var 4]])], .ret (.var 3)]
def b_law_screen : List S := [.ite (.cmp .eq (.var 1) (.cst (.int 0))) [.ret (.idx (.var 2) (.cst (.int 0)))] [], .set (.nm 3) (.dct [.cst (.str "line"), .tup [.idx (.var 2) (.cst (.int 2)), .idx (.var 2) (.cst (.int 3))], .cst (.str "ring"), .tup [.idx (.var 2) (.cst (.int 2)), .idx (.var 2) (.cst (.int 3))], .cst (.str "swap"), .tup [.idx (.var 2) (.cst (.int 2)), .idx (.var 2) (.cst (.int 2))]]), .set (.sub (.var 3) (.cst (.str "deed"))) (.tup [.ite (.cmp .eq (.idx (.var 2) (.cst (.int 4))) (.cst (.int 2))) (.idx (.var 2) (.cst (.int 3))) (.idx (.var 2) (.cst (.int 2))), .tup []]), .set (.tp [(.nm 4), (.nm 5)]) (.idx (.var 3) (.idx (.var 0) (.cst (.int 0)))), .ret (.tup [.idx (.var 2) (.cst (.int 0)), .ite (.cmp .ne (.var 4) (.tup [])) (.cst (.int 1)) (.cst (.int 0)), .ite (.cmp .ne (.var 5) (.tup [])) (.cst (.int 1)) (.cst (.int 0))])]
def Wzr.okL (a : Wzr) (vh : VH) : Prop := 0 < a.z ∧ lstAt vh a.n = some (encR a.ks) ∧ a.ks.length ≤ 1000
theorem Wzr.injL {vh : VH} {a b : Wzr} (ha : a.okL vh) (hb : b.okL vh) (h : a.enc = b.enc) : a = b := by
  simp only [Wzr.enc, List.cons.injEq, D.int.injEq, D.ref.injEq, and_true] at h
  obtain ⟨w, z, n, ks⟩ := a
  obtain ⟨w', z', n', ks'⟩ := b
  simp only at h
  obtain ⟨h1, h2, h3⟩ := h
  have := encW_inj _ _ h1
  subst this h2 h3
  have q1 := ha.2.1
  have q2 := hb.2.1
  simp only at q1 q2
  rw [q1] at q2
  rw [encR_inj _ _ (Option.some.inj q2)]
noncomputable def m_law_along : Ct := mk Wzr.enc Wzr.okL (fun a vh => some (.ok (.ref vh.length), vh ++ [.lst (stsD a.w a.z a.ks)]))
theorem law_along_at {w : Way} {z : Int} {n : Nat} {ks : List Ky} {vh : VH} (h : Wzr.okL ⟨w, z, n, ks⟩ vh) : m_law_along [encW w, .int z, .ref n] vh = some (.ok (.ref vh.length), vh ++ [.lst (stsD w z ks)]) := by
  unfold m_law_along
  exact mk_atP (enc := Wzr.enc) (P := Wzr.okL) (a := ⟨w, z, n, ks⟩) (fun a b ha hb e => by rw [Wzr.injL ha hb e]) h
theorem law_along_ct (Γ : Env) (h2 : Γ.fn "_law_step" = some m_law_step) : Ctr Γ 5 3 b_law_along m_law_along := mk_ct (fun _ => rfl) fun ⟨w, z, n, ks⟩ vh h => Gc.of_eq (by
  obtain ⟨hz, hn, hk⟩ := h
  simp only at hz hn hk
  have hn' := lstAt_get hn
  obtain ⟨fr, vh2, q, acc, s, ks', o, e1, e2, e3, e4, e5, e6⟩ := run_for (Γ := Γ) (t := .nm 4) (it := .seq (.var 2)) (b := [.exp (.bmt .append (.var 3) [.cal "_law_step" [.var 0, .var 1, .idx (.var 3) (.neg (.cst (.int 1))), .var 4]])]) (fr := [some (encW w), some (.int z), some (.ref n), some (.ref vh.length), none])
    (vh := vh ++ [.lst [.tup [.int 0, .int 0, .tup [], .tup [], .int 0]]]) (vh1 := vh ++ [.lst [.tup [.int 0, .int 0, .tup [], .tup [], .int 0]]]) (ds := encR ks) (gs := [(n, .lst (encR ks))]) (by simp only [evI, body, runs, run.eq_1, run.eq_2, run.eq_3, run.eq_4, run.eq_5, run.eq_6, run.eq_9, run.eq_11, ev.eq_1, ev.eq_2, ev.eq_3, ev.eq_4, ev.eq_5, ev.eq_6, ev.eq_7, ev.eq_8, ev.eq_9, ev.eq_10, ev.eq_11, ev.eq_12, ev.eq_13, ev.eq_14, ev.eq_15, ev.eq_16, ev.eq_17, ev.eq_18, ev.eq_19, ev.eq_20, ev.eq_21, ev.eq_22, ev.eq_23, ev.eq_24, evs, evo, evc, asg, asgs, List.map_cons, List.map_nil, List.length_cons, List.length_nil, List.replicate, List.append_nil, List.nil_append, List.cons_append, List.getElem?_cons_zero, List.getElem?_cons_succ, List.set_cons_zero, List.set_cons_succ, R.bind_ok, R.bind_ex, if_true, if_false, intOf_i, lift_some, Option.map_some, slc_tup, cmp_eq, cmp_ne, cmp_in, cmp_nin, cmp_is, cmp_isn, cmp_le, cmp_lt, cmp_ge, cmp_gt, bin_add, bin_addt, bin_sub, bin_mod, tru_bl, brB_true, brB_false, toB_some, Nat.sub_self, Nat.zero_add, Nat.reduceAdd, Nat.reduceSub, Nat.reduceLeDiff, Nat.reduceEqDiff, seqF, app_get _ hn'])
    (fun ds fr h => ∃ (acc : List Sta) (s : Sta) (ks' : List Ky) (o : Option D), ds = encR ks' ∧ fr = [some (encW w), some (.int z), some (.ref n), some (.ref vh.length), o] ∧ h = vh ++ [.lst ((acc ++ [s]).map encS)] ∧ acc ++ along w z s ks' = along w z sta0 ks ∧ Inv w s ∧ acc.length + ks'.length ≤ 10000)
    ⟨[], sta0, ks, none, rfl, rfl, rfl, rfl, inv0 w, by simp only [List.length_nil]; omega⟩
    (fun rest fr h ⟨acc, s, ks', o, e1, e2, e3, e4, e5, e6⟩ => by
      rw [e3]
      simp only [grd, List.all_cons, List.all_nil, Bool.and_true, app_get _ hn', decide_true])
    (fun d rest fr h ⟨acc, s, ks', o, e1, e2, e3, e4, e5, e6⟩ => by
      cases ks' with
      | nil => cases e1
      | cons k ks' =>
        simp only [List.map_cons, List.cons.injEq] at e1
        simp only [List.length_cons] at e6
        have q := law_step_at w z s k (vh ++ [.lst ((acc ++ [s]).map encS)]) hz e5
        have ix : idxF (.ref vh.length) (.int (-1)) (vh ++ [.lst ((acc ++ [s]).map encS)]) = some (encS s) := by
          simp only [idxF, last_get]
          exact map_last acc s vh
        have ll : ((acc ++ [s]).map encS).length < lim := by
          show _ < 16777216
          rw [List.length_map, List.length_append, List.length_singleton]; omega
        refine ⟨[some (encW w), some (.int z), some (.ref n), some (.ref vh.length), some (encK k)], vh ++ [.lst ((acc ++ [s] ++ [stepS w z s k]).map encS)], ?_, acc ++ [s], stepS w z s k, ks', some (encK k), e1.2, rfl, rfl, ?_, inv_step w z s k e5, ?_⟩
        · rw [e2, e3, e1.1]
          simp only [body, runs, run.eq_1, run.eq_2, run.eq_3, run.eq_4, run.eq_5, run.eq_6, run.eq_9, run.eq_11, ev.eq_1, ev.eq_2, ev.eq_3, ev.eq_4, ev.eq_5, ev.eq_6, ev.eq_7, ev.eq_8, ev.eq_9, ev.eq_10, ev.eq_11, ev.eq_12, ev.eq_13, ev.eq_14, ev.eq_15, ev.eq_16, ev.eq_17, ev.eq_18, ev.eq_19, ev.eq_20, ev.eq_21, ev.eq_22, ev.eq_23, ev.eq_24, evs, evo, evc, asg, asgs, List.map_cons, List.map_nil, List.length_cons, List.length_nil, List.replicate, List.append_nil, List.nil_append, List.cons_append, List.getElem?_cons_zero, List.getElem?_cons_succ, List.set_cons_zero, List.set_cons_succ, R.bind_ok, R.bind_ex, if_true, if_false, intOf_i, lift_some, Option.map_some, slc_tup, cmp_eq, cmp_ne, cmp_in, cmp_nin, cmp_is, cmp_isn, cmp_le, cmp_lt, cmp_ge, cmp_gt, bin_add, bin_addt, bin_sub, bin_mod, tru_bl, brB_true, brB_false, toB_some, Nat.sub_self, Nat.zero_add, Nat.reduceAdd, Nat.reduceSub, Nat.reduceLeDiff, Nat.reduceEqDiff, rcv, lstAt_of (last_get _ _), Option.isSome_some, ix, h2, q, bfF, ll, last_set]
          simp
        · rw [← e4, along, List.append_assoc, List.singleton_append]
        · rw [List.length_append, List.length_singleton]; omega)
  cases ks' with
  | cons k ks' => cases e1
  | nil =>
    subst e2 e3
    rw [along] at e4
    simp only [b_law_along, Wzr.enc, body, runs, run.eq_1, run.eq_2, run.eq_3, run.eq_4, run.eq_5, run.eq_6, run.eq_9, run.eq_11, ev.eq_1, ev.eq_2, ev.eq_3, ev.eq_4, ev.eq_5, ev.eq_6, ev.eq_7, ev.eq_8, ev.eq_9, ev.eq_10, ev.eq_11, ev.eq_12, ev.eq_13, ev.eq_14, ev.eq_15, ev.eq_16, ev.eq_17, ev.eq_18, ev.eq_19, ev.eq_20, ev.eq_21, ev.eq_22, ev.eq_23, ev.eq_24, evs, evo, evc, asg, asgs, List.map_cons, List.map_nil, List.length_cons, List.length_nil, List.replicate, List.append_nil, List.nil_append, List.cons_append, List.getElem?_cons_zero, List.getElem?_cons_succ, List.set_cons_zero, List.set_cons_succ, R.bind_ok, R.bind_ex, if_true, if_false, intOf_i, lift_some, Option.map_some, slc_tup, cmp_eq, cmp_ne, cmp_in, cmp_nin, cmp_is, cmp_isn, cmp_le, cmp_lt, cmp_ge, cmp_gt, bin_add, bin_addt, bin_sub, bin_mod, tru_bl, brB_true, brB_false, toB_some, Nat.sub_self, Nat.zero_add, Nat.reduceAdd, Nat.reduceSub, Nat.reduceLeDiff, Nat.reduceEqDiff, q]
    rw [e4, stsD])
noncomputable def m_law_screen : Ct := mkV (fun a : Way × Int × Sta => [encW a.1, .int a.2.1, encS a.2.2]) (fun a => scrS a.1 a.2.1 a.2.2)
theorem law_screen_at (w : Way) (z : Int) (s : Sta) (vh : VH) : m_law_screen [encW w, .int z, encS s] vh = some (.ok (scrS w z s), vh) := by
  unfold m_law_screen
  exact mkV_at (fun a b h => by
    simp only [List.cons.injEq, D.int.injEq, and_true] at h
    exact Prod.ext (encW_inj _ _ h.1) (Prod.ext h.2.1 (encS_inj _ _ h.2.2))) (w, z, s) vh
theorem dct_get (a b c d : D) (k : Kd) : dget [(D.str "line", a), (.str "ring", b), (.str "swap", c), (.str "deed", d)] (.str k.str) = some (match k with | .line => a | .ring => b | .swap => c | .deed => d) := by cases k <;> kernel_rfl
theorem iv_ne (l : List Int) (h : VH) : (eqF h (iv l) (.tup [])).map (!·) = some (!decide (l = [])) := by rw [eqF_iv0]; rfl
theorem law_screen_ct (Γ : Env) : Ctr Γ 6 3 b_law_screen m_law_screen := by
  unfold m_law_screen
  refine mk_ct (fun _ => rfl) fun ⟨w, z, s⟩ vh _ => ?_
  simp only
  have a0 := fun h => (idx_encS s h).1
  have a2 := fun h => (idx_encS s h).2.2.1
  have a3 := fun h => (idx_encS s h).2.2.2.1
  have a4 := fun h => (idx_encS s h).2.2.2.2
  by_cases e0 : z = 0
  · subst e0
    refine Gc.of_eq ?_
    simp [b_law_screen, body, runs, run.eq_1, run.eq_2, run.eq_3, run.eq_4, run.eq_5, run.eq_6, run.eq_9, run.eq_11, ev.eq_1, ev.eq_2, ev.eq_3, ev.eq_4, ev.eq_5, ev.eq_6, ev.eq_7, ev.eq_8, ev.eq_9, ev.eq_10, ev.eq_11, ev.eq_12, ev.eq_13, ev.eq_14, ev.eq_15, ev.eq_16, ev.eq_17, ev.eq_18, ev.eq_19, ev.eq_20, ev.eq_21, ev.eq_22, ev.eq_23, ev.eq_24, evs, evo, evc, asg, asgs, List.map_cons, List.map_nil, List.length_cons, List.length_nil, List.replicate, List.append_nil, List.nil_append, List.cons_append, List.getElem?_cons_zero, List.getElem?_cons_succ, List.set_cons_zero, List.set_cons_succ, R.bind_ok, R.bind_ex, if_true, if_false, intOf_i, lift_some, Option.map_some, slc_tup, cmp_eq, cmp_ne, cmp_in, cmp_nin, cmp_is, cmp_isn, cmp_le, cmp_lt, cmp_ge, cmp_gt, bin_add, bin_addt, bin_sub, bin_mod, tru_bl, brB_true, brB_false, toB_some, Nat.sub_self, Nat.zero_add, Nat.reduceAdd, Nat.reduceSub, Nat.reduceLeDiff, Nat.reduceEqDiff, eqF_int, scrS, a0]
  · obtain ⟨B, hB⟩ : ∃ B : List Int, B = if s.g = 2 then s.s else s.f := ⟨_, rfl⟩
    refine Gc.pure (junk := [.dct [(D.str "line", .tup [iv s.f, iv s.s]), (.str "ring", .tup [iv s.f, iv s.s]), (.str "swap", .tup [iv s.f, iv s.f]), (.str "deed", .tup [iv B, .tup []])]]) (lt_scrS 0 w z s) ?_
    have dm : dmerge [] [(D.str "line", .tup [iv s.f, iv s.s]), (.str "ring", .tup [iv s.f, iv s.s]), (.str "swap", .tup [iv s.f, iv s.f])] = [(D.str "line", .tup [iv s.f, iv s.s]), (.str "ring", .tup [iv s.f, iv s.s]), (.str "swap", .tup [iv s.f, iv s.f])] := by kernel_rfl
    have dg : dctAt (vh ++ [.dct []]) vh.length = some [] := by unfold dctAt; rw [last_get]
    have st : setF (.ref vh.length) (.str "deed") (.tup [iv B, .tup []]) (vh ++ [.dct [(D.str "line", .tup [iv s.f, iv s.s]), (.str "ring", .tup [iv s.f, iv s.s]), (.str "swap", .tup [iv s.f, iv s.f])]]) = some (vh ++ [.dct [(D.str "line", .tup [iv s.f, iv s.s]), (.str "ring", .tup [iv s.f, iv s.s]), (.str "swap", .tup [iv s.f, iv s.f]), (.str "deed", .tup [iv B, .tup []])]]) := by
      simp only [setF, last_get]
      rw [if_pos ⟨by kernel_rfl, by show 3 < 16777216; decide⟩, last_set]
      congr 2
    have dx : idxF (.ref vh.length) (.str w.kd.str) (vh ++ [.dct [(D.str "line", .tup [iv s.f, iv s.s]), (.str "ring", .tup [iv s.f, iv s.s]), (.str "swap", .tup [iv s.f, iv s.f]), (.str "deed", .tup [iv B, .tup []])]]) = some (match w.kd with | .line => .tup [iv s.f, iv s.s] | .ring => .tup [iv s.f, iv s.s] | .swap => .tup [iv s.f, iv s.f] | .deed => .tup [iv B, .tup []]) := by
      simp only [idxF, last_get]
      rw [if_pos (by rfl)]
      exact dct_get _ _ _ _ _
    have hb : ∀ h : VH, (if s.g = 2 then some (Res.ok (iv s.s), h) else some (Res.ok (iv s.f), h)) = some (Res.ok (iv B), h) := fun h => by rw [hB]; split <;> rfl
    have ak : ([(D.str "line", D.tup [iv s.f, iv s.s]), (.str "ring", .tup [iv s.f, iv s.s]), (.str "swap", .tup [iv s.f, iv s.f])].all fun p => isKey p.1) = true := rfl
    cases e : w.kd <;> rw [e] at dx <;>
      simp only [b_law_screen, body, runs, run.eq_1, run.eq_2, run.eq_3, run.eq_4, run.eq_5, run.eq_6, run.eq_9, run.eq_11, ev.eq_1, ev.eq_2, ev.eq_3, ev.eq_4, ev.eq_5, ev.eq_6, ev.eq_7, ev.eq_8, ev.eq_9, ev.eq_10, ev.eq_11, ev.eq_12, ev.eq_13, ev.eq_14, ev.eq_15, ev.eq_16, ev.eq_17, ev.eq_18, ev.eq_19, ev.eq_20, ev.eq_21, ev.eq_22, ev.eq_23, ev.eq_24, evs, evo, evc, asg, asgs, List.map_cons, List.map_nil, List.length_cons, List.length_nil, List.replicate, List.append_nil, List.nil_append, List.cons_append, List.getElem?_cons_zero, List.getElem?_cons_succ, List.set_cons_zero, List.set_cons_succ, R.bind_ok, R.bind_ex, if_true, if_false, intOf_i, lift_some, Option.map_some, slc_tup, cmp_eq, cmp_ne, cmp_in, cmp_nin, cmp_is, cmp_isn, cmp_le, cmp_lt, cmp_ge, cmp_gt, bin_add, bin_addt, bin_sub, bin_mod, tru_bl, brB_true, brB_false, toB_some, Nat.sub_self, Nat.zero_add, Nat.reduceAdd, Nat.reduceSub, Nat.reduceLeDiff, Nat.reduceEqDiff, eqF_int, e0, decide_false, a0, a2, a3, a4, dg, pairsD, ak, dm, last_set, brB_d, hb, st, way_0, e, dx, iv_ne, brB_n, eqF_nn, Bool.not_true] <;>
      simp only [scrS, e0, e, ← hB, reduceCtorEq, if_false, if_true, litI] <;>
      (by_cases x1 : s.f = [] <;> by_cases x2 : s.s = [] <;> by_cases x3 : B = [] <;> simp [x1, x2, x3, body, runs, run.eq_1, run.eq_2, run.eq_3, run.eq_4, run.eq_5, run.eq_6, run.eq_9, run.eq_11, ev.eq_1, ev.eq_2, ev.eq_3, ev.eq_4, ev.eq_5, ev.eq_6, ev.eq_7, ev.eq_8, ev.eq_9, ev.eq_10, ev.eq_11, ev.eq_12, ev.eq_13, ev.eq_14, ev.eq_15, ev.eq_16, ev.eq_17, ev.eq_18, ev.eq_19, ev.eq_20, ev.eq_21, ev.eq_22, ev.eq_23, ev.eq_24, evs, evo, evc, asg, asgs, List.map_cons, List.map_nil, List.length_cons, List.length_nil, List.replicate, List.append_nil, List.nil_append, List.cons_append, List.getElem?_cons_zero, List.getElem?_cons_succ, List.set_cons_zero, List.set_cons_succ, R.bind_ok, R.bind_ex, if_true, if_false, intOf_i, lift_some, Option.map_some, slc_tup, cmp_eq, cmp_ne, cmp_in, cmp_nin, cmp_is, cmp_isn, cmp_le, cmp_lt, cmp_ge, cmp_gt, bin_add, bin_addt, bin_sub, bin_mod, tru_bl, brB_true, brB_false, toB_some, Nat.sub_self, Nat.zero_add, Nat.reduceAdd, Nat.reduceSub, Nat.reduceLeDiff, Nat.reduceEqDiff])
end Sb

/-! law k01 -/
namespace Sb
open PySem
theorem eq_same {h : VH} {d d' : D} {p : PyData} (e : rfy h 12 d = some p) (e' : rfy h 12 d' = some p) : eqF h d d' = some true := by
  simp only [eqF, e, e', SeqAt.eqv_refl p (rfy_shape 12 d p e).1]
theorem rfys_ex {α : Type} {h : VH} {n : Nat} {f : α → D} (g : ∀ a, ∃ p, rfy h n (f a) = some p) : ∀ l : List α, ∃ ps, rfys h n (l.map f) = some ps
  | [] => ⟨[], rfl⟩
  | a :: l => by
    obtain ⟨p, hp⟩ := g a
    obtain ⟨ps, hps⟩ := rfys_ex g l
    exact ⟨p :: ps, rfys_cons h n _ _ _ _ hp hps⟩
theorem eq_lists {α : Type} {h : VH} {f : α → D} (g : ∀ a, ∃ p, rfy h 11 (f a) = some p) {l : List α} {a b : Nat} (ha : h[a]? = some (.lst (l.map f))) (hb : h[b]? = some (.lst (l.map f))) : eqF h (.ref a) (.ref b) = some true := by
  obtain ⟨ps, hp⟩ := rfys_ex g l
  exact eq_same (p := .list ps) (by rw [rfy_ref h 11 a _ (lstAt_of ha), hp]; rfl) (by rw [rfy_ref h 11 b _ (lstAt_of hb), hp]; rfl)
theorem rfy_iv (h : VH) (n : Nat) (l : List Int) : rfy h (n + 2) (iv l) = some (.tuple (l.map .int)) := by
  rw [iv, rfy_tup, rfys_ints]; rfl
theorem rfy_encS (h : VH) (n : Nat) (s : Sta) : ∃ p, rfy h (n + 3) (encS s) = some p := by
  refine ⟨.tuple [.int s.v, .int s.m, .tuple (s.f.map .int), .tuple (s.s.map .int), .int s.g], ?_⟩
  rw [encS, rfy_tup]
  rw [rfys_cons h _ _ _ _ _ (rfy_int _ _ _) (rfys_cons h _ _ _ _ _ (rfy_int _ _ _) (rfys_cons h _ _ _ _ _ (rfy_iv _ _ _) (rfys_cons h _ _ _ _ _ (rfy_iv _ _ _) (rfys_cons h _ _ _ _ _ (rfy_int _ _ _) (rfys_nil h _)))))]
  rfl
theorem rfy_scr (h : VH) (n : Nat) (w : Way) (si : Int) (s : Sta) : ∃ p, rfy h (n + 2) (scrS w si s) = some p := by
  have t3 : ∀ a b c : Int, ∃ p, rfy h (n + 2) (.tup [.int a, .int b, .int c]) = some p := fun a b c => by
    refine ⟨.tuple [.int a, .int b, .int c], ?_⟩
    rw [rfy_tup, rfys_cons h _ _ _ _ _ (rfy_int _ _ _) (rfys_cons h _ _ _ _ _ (rfy_int _ _ _) (rfys_cons h _ _ _ _ _ (rfy_int _ _ _) (rfys_nil h _)))]
    rfl
  unfold scrS
  split
  · exact ⟨_, rfy_int _ _ _⟩
  · split
    · exact t3 _ _ _
    · split <;> exact t3 _ _ _
theorem rfy_key (h : VH) (n : Nat) (k : Ky) : ∃ p, rfy h (n + 1) (encK k) = some p := by
  refine ⟨.str k.str, ?_⟩
  have : PyData.strOk k.str = true := by cases k <;> decide +kernel
  have e : rfy h (n + 1) (encK k) = if PyData.strOk k.str = true then some (.str k.str) else none := rfl
  rw [e, if_pos this]
theorem iota_map (n : Nat) : ∀ (lo : Nat), iota (lo : Int) n = (List.range' lo n).map fun i => D.int (i : Nat) := by
  induction n with
  | zero => intro lo; rfl
  | succ n ih =>
    intro lo
    rw [iota, List.range'_succ, List.map_cons, ← ih (lo + 1)]
    rfl
theorem rng_len (n : Nat) (hn : n ≤ 1000000) (h : VH) : rngF [.int (n : Int)] h = some (.ok ((List.range' 0 n).map (fun i => D.int (i : Nat)), []), h) := by
  have h62 : -(2 ^ 62) ≤ (n : Int) ∧ (n : Int) < 2 ^ 62 := by omega
  have e := iota_map n 0
  simp only [rngF]
  rw [if_pos h62, Int.toNat_natCast, ← e]
  rfl
theorem chg_range : ∀ (V : List Int) (pre : List Int) (n : Nat), V.length = n + 1 → ((List.range' pre.length n).filterMap fun i => if (pre ++ V).getD i 0 = (pre ++ V).getD (i + 1) 0 then none else some (D.int (i : Nat))).length = chg V
  | [], _, _, h => by simp at h
  | [a], pre, n, h => by
    have : n = 0 := by simpa using h.symm
    subst this; rfl
  | a :: b :: V, pre, n, h => by
    cases n with
    | zero => simp at h
    | succ n =>
      have ih := chg_range (b :: V) (pre ++ [a]) n (by simpa using h)
      rw [List.range'_succ, List.filterMap_cons, chg]
      have g0 : (pre ++ a :: b :: V).getD pre.length 0 = a := by simp
      have g1 : (pre ++ a :: b :: V).getD (pre.length + 1) 0 = b := by simp
      rw [g0, g1]
      rw [List.append_assoc, List.singleton_append, List.length_append, List.length_singleton] at ih
      by_cases e : a = b
      · simp only [e, if_true] at ih ⊢
        rw [ih]; omega
      · simp only [e, if_false, List.length_cons] at ih ⊢
        rw [ih]; omega
theorem atI_getD (V : List Int) (i : Nat) (h : i < V.length) : atI (V.map D.int) (i : Int) = some (.int (V.getD i 0)) := by
  unfold atI ixN
  rw [if_pos (by omega), if_pos (by rw [List.length_map]; omega)]
  simp [h]
theorem wf_nil (v : VH) : True := trivial
theorem rng_ev (Γ : Env) {x0 x1 x2 x3 x4 x6 x7 x8 : Option D} {m q : Nat} {h : VH} (a : D) (hh : bfF .len [.ref m] h = some (.ok a, h)) : evI Γ (.rng [.bfn .len [.var 5]]) [x0, x1, x2, x3, x4, some (.ref m), x6, x7, x8, some (.ref q), none, none, none, none] h = rngF [a] h := by
  simp only [evI, body, runs, run.eq_1, run.eq_2, run.eq_3, run.eq_4, run.eq_5, run.eq_6, run.eq_9, run.eq_11, ev.eq_1, ev.eq_2, ev.eq_3, ev.eq_4, ev.eq_5, ev.eq_6, ev.eq_7, ev.eq_8, ev.eq_9, ev.eq_10, ev.eq_11, ev.eq_12, ev.eq_13, ev.eq_14, ev.eq_15, ev.eq_16, ev.eq_17, ev.eq_18, ev.eq_19, ev.eq_20, ev.eq_21, ev.eq_22, ev.eq_23, ev.eq_24, evs, evo, evc, asg, asgs, List.map_cons, List.map_nil, List.length_cons, List.length_nil, List.replicate, List.append_nil, List.nil_append, List.cons_append, List.getElem?_cons_zero, List.getElem?_cons_succ, List.set_cons_zero, List.set_cons_succ, R.bind_ok, R.bind_ex, if_true, if_false, intOf_i, lift_some, Option.map_some, slc_tup, cmp_eq, cmp_ne, cmp_in, cmp_nin, cmp_is, cmp_isn, cmp_le, cmp_lt, cmp_ge, cmp_gt, bin_add, bin_addt, bin_sub, bin_mod, tru_bl, brB_true, brB_false, toB_some, Nat.sub_self, Nat.zero_add, Nat.reduceAdd, Nat.reduceSub, Nat.reduceLeDiff, Nat.reduceEqDiff, hh]
theorem changed_run (Γ : Env) {x0 x1 x2 x3 x4 x6 x7 x8 : Option D} {ks : List Ky} {V : List Int} {m q : Nat} {h : VH} (hk : ks.length ≤ 60) (lV : V.length = ks.length + 1) (g8 : h[m]? = some (.lst (encR ks))) (g8v : h[q]? = some (il V)) :
    run Γ (.set (.nm 10) (.bfn .len [.cpr [13] (.nm 13) (.rng [.bfn .len [.var 5]]) (some (.cmp .ne (.idx (.var 9) (.var 13)) (.idx (.var 9) (.bin .add (.var 13) (.cst (.int 1)))))) (.var 13)])) [x0, x1, x2, x3, x4, some (.ref m), x6, x7, x8, some (.ref q), none, none, none, none] h =
    some (.ok (.nxt [x0, x1, x2, x3, x4, some (.ref m), x6, x7, x8, some (.ref q), some (.int (((List.range' 0 ks.length).filterMap fun i => if V.getD i 0 = V.getD (i + 1) 0 then none else some (D.int (i : Nat))).length : Nat)), none, none, none]), h ++ [.lst ((List.range' 0 ks.length).filterMap fun i => if V.getD i 0 = V.getD (i + 1) 0 then none else some (D.int (i : Nat)))]) := by
  have hI : evI Γ (.rng [.bfn .len [.var 5]]) [x0, x1, x2, x3, x4, some (.ref m), x6, x7, x8, some (.ref q), none, none, none, none] h = some (.ok ((List.range' 0 ks.length).map (fun i => D.int (i : Nat)), []), h) := by
    have b : bfF .len [.ref m] h = some (.ok (.int ks.length), h) := by simp only [bfF, g8, List.length_map]
    exact (rng_ev Γ _ b).trans (rng_len ks.length (Nat.le_trans hk (by decide)) h)
  have c := ev_cprA (Γ := Γ) (vs := [13]) (g := .nm 13) (c := some (.cmp .ne (.idx (.var 9) (.var 13)) (.idx (.var 9) (.bin .add (.var 13) (.cst (.int 1)))))) (e := .var 13) (fun i : Nat => D.int (i : Nat)) (fun i => if V.getD i 0 = V.getD (i + 1) 0 then none else some (D.int (i : Nat))) (List.range' 0 ks.length) hI (fun p hp => nomatch hp) (fun i hi l => by
    have hi' : i < ks.length := by
      have := List.mem_range'.mp hi
      omega
    have i1 := (idx_ref (i : Int) (app_get l g8v)).trans (atI_getD V i (by omega))
    have i2 : idxF (.ref q) (.int ((i : Int) + 1)) (h ++ l) = some (.int (V.getD (i + 1) 0)) := by
      rw [idx_ref _ (app_get l g8v), ← atI_getD V (i + 1) (by omega), Int.natCast_add, Int.natCast_one]
    by_cases e : V.getD i 0 = V.getD (i + 1) 0
    · simp only [body, runs, run.eq_1, run.eq_2, run.eq_3, run.eq_4, run.eq_5, run.eq_6, run.eq_9, run.eq_11, ev.eq_1, ev.eq_2, ev.eq_3, ev.eq_4, ev.eq_5, ev.eq_6, ev.eq_7, ev.eq_8, ev.eq_9, ev.eq_10, ev.eq_11, ev.eq_12, ev.eq_13, ev.eq_14, ev.eq_15, ev.eq_16, ev.eq_17, ev.eq_18, ev.eq_19, ev.eq_20, ev.eq_21, ev.eq_22, ev.eq_23, ev.eq_24, evs, evo, evc, asg, asgs, List.map_cons, List.map_nil, List.length_cons, List.length_nil, List.replicate, List.append_nil, List.nil_append, List.cons_append, List.getElem?_cons_zero, List.getElem?_cons_succ, List.set_cons_zero, List.set_cons_succ, R.bind_ok, R.bind_ex, if_true, if_false, intOf_i, lift_some, Option.map_some, slc_tup, cmp_eq, cmp_ne, cmp_in, cmp_nin, cmp_is, cmp_isn, cmp_le, cmp_lt, cmp_ge, cmp_gt, bin_add, bin_addt, bin_sub, bin_mod, tru_bl, brB_true, brB_false, toB_some, Nat.sub_self, Nat.zero_add, Nat.reduceAdd, Nat.reduceSub, Nat.reduceLeDiff, Nat.reduceEqDiff, wipeF, i1, i2, eqF_int, e, decide_true, Bool.not_true, if_true, Bool.false_eq_true]
    · simp only [body, runs, run.eq_1, run.eq_2, run.eq_3, run.eq_4, run.eq_5, run.eq_6, run.eq_9, run.eq_11, ev.eq_1, ev.eq_2, ev.eq_3, ev.eq_4, ev.eq_5, ev.eq_6, ev.eq_7, ev.eq_8, ev.eq_9, ev.eq_10, ev.eq_11, ev.eq_12, ev.eq_13, ev.eq_14, ev.eq_15, ev.eq_16, ev.eq_17, ev.eq_18, ev.eq_19, ev.eq_20, ev.eq_21, ev.eq_22, ev.eq_23, ev.eq_24, evs, evo, evc, asg, asgs, List.map_cons, List.map_nil, List.length_cons, List.length_nil, List.replicate, List.append_nil, List.nil_append, List.cons_append, List.getElem?_cons_zero, List.getElem?_cons_succ, List.set_cons_zero, List.set_cons_succ, R.bind_ok, R.bind_ex, if_true, if_false, intOf_i, lift_some, Option.map_some, slc_tup, cmp_eq, cmp_ne, cmp_in, cmp_nin, cmp_is, cmp_isn, cmp_le, cmp_lt, cmp_ge, cmp_gt, bin_add, bin_addt, bin_sub, bin_mod, tru_bl, brB_true, brB_false, toB_some, Nat.sub_self, Nat.zero_add, Nat.reduceAdd, Nat.reduceSub, Nat.reduceLeDiff, Nat.reduceEqDiff, wipeF, i1, i2, eqF_int, e, decide_false, Bool.not_false, if_true]) (by simp only [List.length_range']; omega)
  generalize ((List.range' 0 ks.length).filterMap fun i => if V.getD i 0 = V.getD (i + 1) 0 then none else some (D.int (i : Nat))) = C at c ⊢
  simp only [body, runs, run.eq_1, run.eq_2, run.eq_3, run.eq_4, run.eq_5, run.eq_6, run.eq_9, run.eq_11, ev.eq_1, ev.eq_2, ev.eq_3, ev.eq_4, ev.eq_5, ev.eq_6, ev.eq_7, ev.eq_8, ev.eq_9, ev.eq_10, ev.eq_11, ev.eq_12, ev.eq_13, ev.eq_14, ev.eq_15, ev.eq_16, ev.eq_17, ev.eq_18, ev.eq_19, ev.eq_20, ev.eq_21, ev.eq_22, ev.eq_23, ev.eq_24, evs, evo, evc, asg, asgs, List.map_cons, List.map_nil, List.length_cons, List.length_nil, List.replicate, List.append_nil, List.nil_append, List.cons_append, List.getElem?_cons_zero, List.getElem?_cons_succ, List.set_cons_zero, List.set_cons_succ, R.bind_ok, R.bind_ex, if_true, if_false, intOf_i, lift_some, Option.map_some, slc_tup, cmp_eq, cmp_ne, cmp_in, cmp_nin, cmp_is, cmp_isn, cmp_le, cmp_lt, cmp_ge, cmp_gt, bin_add, bin_addt, bin_sub, bin_mod, tru_bl, brB_true, brB_false, toB_some, Nat.sub_self, Nat.zero_add, Nat.reduceAdd, Nat.reduceSub, Nat.reduceLeDiff, Nat.reduceEqDiff, c, bfF, last_get]
end Sb

/-! law k01 -/
namespace Sb
open PySem
def b_law : List S := [.set (.nm 1) (.cal "_law_start" [.var 0]), .set (.tp [(.nm 2), (.nm 3), (.nm 4)]) (.tup [.bin .add (.cst (.int 2)) (.cal "_law_draw" [.var 1, .cst (.int 3)]), .cal "_law_draw" [.var 1, .cst (.int 2)], .cal "_law_way" [.var 1]]), .set (.nm 5) (.cal "_law_row" [.var 1, .cal "_law_pick" [.var 1, .lst [.cst (.int 6), .cst (.int 20), .cst (.int 60)]]]), .set (.nm 6) (.bfn .list [.var 5]), .set (.nm 7) (.cal "_law_along" [.var 4, .var 2, .var 5]), .ite (.or (.cmp .ne (.cal "states_along" [.var 4, .var 2, .var 5]) (.var 7)) (.cmp .ne (.cal "state_after" [.var 4, .var 2, .var 5]) (.idx (.var 7) (.neg (.cst (.int 1)))))) [.ret (.cst (.bl false))] [], .set (.nm 8) (.cpr [12] (.nm 12) (.seq (.slc (.var 7) (some (.cst (.int 1))) none)) none (.cal "_law_screen" [.var 4, .var 3, .var 12])), .ite (.or (.cmp .ne (.cal "run" [.var 4, .var 2, .var 3, .var 5]) (.var 8)) (.cmp .ne (.var 5) (.var 6))) [.ret (.cst (.bl false))] [], .set (.nm 9) (.cpr [12] (.nm 12) (.seq (.var 7)) none (.idx (.var 12) (.cst (.int 0)))), .ite (.cmp .ne (.cal "values_shown" [.var 4, .var 2, .var 5]) (.var 9)) [.ret (.cst (.bl false))] [], .set (.nm 10) (.bfn .len [.cpr [13] (.nm 13) (.rng [.bfn .len [.var 5]]) (some (.cmp .ne (.idx (.var 9) (.var 13)) (.idx (.var 9) (.bin .add (.var 13) (.cst (.int 1)))))) (.var 13)]), .ite (.or (.cmp .ne (.cal "count_done" [.var 4, .var 2, .var 5]) (.var 10)) (.or (.cmp .isnot (.cal "is_way" [.var 4]) (.cst (.bl true))) (.cmp .isnot (.cal "is_row" [.var 5]) (.cst (.bl true))))) [.ret (.cst (.bl false))] [], .set (.nm 11) (.ite (.cmp .eq (.idx (.var 4) (.cst (.int 0))) (.cst (.str "swap"))) (.cst (.int 1)) (.idx (.var 4) (.cst (.int 1)))), .for (.nm 12) (.seq (.var 7)) [.ite (.or (.cmp .gt (.bfn .len [.idx (.var 12) (.cst (.int 2))]) (.var 11)) (.or (.cmp .gt (.bfn .len [.idx (.var 12) (.cst (.int 3))]) (.var 11)) (.and (.cmp .eq (.idx (.var 4) (.cst (.int 0))) (.cst (.str "line"))) (.cmp .gt (.bin .add (.bfn .len [.idx (.var 12) (.cst (.int 2))]) (.bfn .len [.idx (.var 12) (.cst (.int 3))])) (.var 11))))) [.ret (.cst (.bl false))] [], .ite (.or (.and (.cmp .eq (.idx (.var 4) (.cst (.int 0))) (.cst (.str "swap"))) (.or (.cmp .ne (.idx (.var 12) (.cst (.int 3))) (.tup [])) (.cmp .ne (.idx (.var 12) (.cst (.int 4))) (.cst (.int 0))))) (.and (.cmp .eq (.idx (.var 12) (.cst (.int 4))) (.cst (.int 2))) (.cmp .ne (.idx (.var 4) (.cst (.int 0))) (.cst (.str "deed"))))) [.ret (.cst (.bl false))] []], .ret (.and (.cmp .eq (.cal "run" [.var 4, .var 2, .var 3, .lst []]) (.lst [])) (.and (.cmp .eq (.cal "state_after" [.var 4, .var 2, .lst []]) (.tup [.cst (.int 0), .cst (.int 0), .tup [], .tup [], .cst (.int 0)])) (.cmp .eq (.cal "values_shown" [.var 4, .var 2, .lst []]) (.lst [.cst (.int 0)]))))]
structure Env01 (Γ : Env) : Prop where
  start : Γ.fn "_law_start" = some m_law_start
  draw : Γ.fn "_law_draw" = some m_law_draw
  pick : Γ.fn "_law_pick" = some m_law_pick
  way : Γ.fn "_law_way" = some m_law_way
  row : Γ.fn "_law_row" = some m_law_row
  along : Γ.fn "_law_along" = some m_law_along
  screen : Γ.fn "_law_screen" = some m_law_screen
  states_along : Γ.fn "states_along" = some m_states_along
  state_after : Γ.fn "state_after" = some m_state_after
  run : Γ.fn "run" = some m_run
  values_shown : Γ.fn "values_shown" = some m_values_shown
  count_done : Γ.fn "count_done" = some m_count_done
  is_way : Γ.fn "is_way" = some m_is_way
  is_row : Γ.fn "is_row" = some m_is_row
theorem law01 (Γ : Env) (E : Env01 Γ) (ns : List Int) : ∃ vh', body Γ 14 b_law [.fls ns] [] = some (.ok (.bl true), vh') := by
  obtain ⟨ns', hne, e1⟩ := start_sp ns
  obtain ⟨v0, hv0⟩ : ∃ v0 : VH, v0 = [.lst [], il ns', .lst [.ref 1, .int 0]] := ⟨_, rfl⟩
  rw [← hv0] at e1
  have D0 : Dr v0 2 1 := by rw [hv0]; exact ⟨by decide, ns', 0, hne, rfl, rfl⟩
  obtain ⟨r1, v1, e2, r10, r11, D1, x1, _⟩ := draw_sp D0 3 (by decide) (by decide)
  obtain ⟨si, v2, e3, si0, si1, D2, x2, _⟩ := draw_sp D1 2 (by decide) (by decide)
  obtain ⟨w, v3, e4, D3, x3⟩ := way_sp D2
  obtain ⟨xl, v4, e5, m5, D4, x4⟩ := pick_new [D.int 6, .int 20, .int 60] D3 (by simp) (by simp)
  obtain ⟨L, rfl, L0, L1⟩ : ∃ L : Int, xl = .int L ∧ 0 ≤ L ∧ L ≤ 60 := by
    simp only [List.mem_cons, List.not_mem_nil, or_false] at m5
    rcases m5 with h | h | h
    · exact ⟨6, h, by decide, by decide⟩
    · exact ⟨20, h, by decide, by decide⟩
    · exact ⟨60, h, by decide, by decide⟩
  obtain ⟨ks, m, v, e6, hm, gm, lk, _, _⟩ := row_sp D4 L L0 (by omega)
  clear m5 D0 D1 D2 D3 D4 x1 x2 x3 x4
  have hk : ks.length ≤ 60 := by omega
  obtain ⟨z, hz⟩ : ∃ z, z = 2 + r1 := ⟨_, rfl⟩
  have z1 : 2 ≤ z := by omega
  have z2 : z ≤ 4 := by omega
  have lg := along_len w z ks sta0
  have c1 : run Γ (.set (.nm 1) (.cal "_law_start" [.var 0])) [some (.fls ns), none, none, none, none, none, none, none, none, none, none, none, none, none] [] = some (.ok (.nxt [some (.fls ns), some (.ref 2), none, none, none, none, none, none, none, none, none, none, none, none]), v0) := by
    simp only [body, runs, run.eq_1, run.eq_2, run.eq_3, run.eq_4, run.eq_5, run.eq_6, run.eq_9, run.eq_11, ev.eq_1, ev.eq_2, ev.eq_3, ev.eq_4, ev.eq_5, ev.eq_6, ev.eq_7, ev.eq_8, ev.eq_9, ev.eq_10, ev.eq_11, ev.eq_12, ev.eq_13, ev.eq_14, ev.eq_15, ev.eq_16, ev.eq_17, ev.eq_18, ev.eq_19, ev.eq_20, ev.eq_21, ev.eq_22, ev.eq_23, ev.eq_24, evs, evo, evc, asg, asgs, List.map_cons, List.map_nil, List.length_cons, List.length_nil, List.replicate, List.append_nil, List.nil_append, List.cons_append, List.getElem?_cons_zero, List.getElem?_cons_succ, List.set_cons_zero, List.set_cons_succ, R.bind_ok, R.bind_ex, if_true, if_false, intOf_i, lift_some, Option.map_some, slc_tup, cmp_eq, cmp_ne, cmp_in, cmp_nin, cmp_is, cmp_isn, cmp_le, cmp_lt, cmp_ge, cmp_gt, bin_add, bin_addt, bin_sub, bin_mod, tru_bl, brB_true, brB_false, toB_some, Nat.sub_self, Nat.zero_add, Nat.reduceAdd, Nat.reduceSub, Nat.reduceLeDiff, Nat.reduceEqDiff, E.start, e1]
  have c2 : run Γ (.set (.tp [(.nm 2), (.nm 3), (.nm 4)]) (.tup [.bin .add (.cst (.int 2)) (.cal "_law_draw" [.var 1, .cst (.int 3)]), .cal "_law_draw" [.var 1, .cst (.int 2)], .cal "_law_way" [.var 1]])) [some (.fls ns), some (.ref 2), none, none, none, none, none, none, none, none, none, none, none, none] v0 = some (.ok (.nxt [some (.fls ns), some (.ref 2), some (.int z), some (.int si), some (encW w), none, none, none, none, none, none, none, none, none]), v3) := by
    simp only [body, runs, run.eq_1, run.eq_2, run.eq_3, run.eq_4, run.eq_5, run.eq_6, run.eq_9, run.eq_11, ev.eq_1, ev.eq_2, ev.eq_3, ev.eq_4, ev.eq_5, ev.eq_6, ev.eq_7, ev.eq_8, ev.eq_9, ev.eq_10, ev.eq_11, ev.eq_12, ev.eq_13, ev.eq_14, ev.eq_15, ev.eq_16, ev.eq_17, ev.eq_18, ev.eq_19, ev.eq_20, ev.eq_21, ev.eq_22, ev.eq_23, ev.eq_24, evs, evo, evc, asg, asgs, List.map_cons, List.map_nil, List.length_cons, List.length_nil, List.replicate, List.append_nil, List.nil_append, List.cons_append, List.getElem?_cons_zero, List.getElem?_cons_succ, List.set_cons_zero, List.set_cons_succ, R.bind_ok, R.bind_ex, if_true, if_false, intOf_i, lift_some, Option.map_some, slc_tup, cmp_eq, cmp_ne, cmp_in, cmp_nin, cmp_is, cmp_isn, cmp_le, cmp_lt, cmp_ge, cmp_gt, bin_add, bin_addt, bin_sub, bin_mod, tru_bl, brB_true, brB_false, toB_some, Nat.sub_self, Nat.zero_add, Nat.reduceAdd, Nat.reduceSub, Nat.reduceLeDiff, Nat.reduceEqDiff, E.draw, E.way, e2, e3, e4, hz]
  have c3 : run Γ (.set (.nm 5) (.cal "_law_row" [.var 1, .cal "_law_pick" [.var 1, .lst [.cst (.int 6), .cst (.int 20), .cst (.int 60)]]])) [some (.fls ns), some (.ref 2), some (.int z), some (.int si), some (encW w), none, none, none, none, none, none, none, none, none] v3 = some (.ok (.nxt [some (.fls ns), some (.ref 2), some (.int z), some (.int si), some (encW w), some (.ref m), none, none, none, none, none, none, none, none]), v) := by
    simp only [body, runs, run.eq_1, run.eq_2, run.eq_3, run.eq_4, run.eq_5, run.eq_6, run.eq_9, run.eq_11, ev.eq_1, ev.eq_2, ev.eq_3, ev.eq_4, ev.eq_5, ev.eq_6, ev.eq_7, ev.eq_8, ev.eq_9, ev.eq_10, ev.eq_11, ev.eq_12, ev.eq_13, ev.eq_14, ev.eq_15, ev.eq_16, ev.eq_17, ev.eq_18, ev.eq_19, ev.eq_20, ev.eq_21, ev.eq_22, ev.eq_23, ev.eq_24, evs, evo, evc, asg, asgs, List.map_cons, List.map_nil, List.length_cons, List.length_nil, List.replicate, List.append_nil, List.nil_append, List.cons_append, List.getElem?_cons_zero, List.getElem?_cons_succ, List.set_cons_zero, List.set_cons_succ, R.bind_ok, R.bind_ex, if_true, if_false, intOf_i, lift_some, Option.map_some, slc_tup, cmp_eq, cmp_ne, cmp_in, cmp_nin, cmp_is, cmp_isn, cmp_le, cmp_lt, cmp_ge, cmp_gt, bin_add, bin_addt, bin_sub, bin_mod, tru_bl, brB_true, brB_false, toB_some, Nat.sub_self, Nat.zero_add, Nat.reduceAdd, Nat.reduceSub, Nat.reduceLeDiff, Nat.reduceEqDiff, E.pick, E.row, e5, e6]
  have ok0 : ∀ h : VH, h[m]? = some (.lst (encR ks)) → Wzr.ok ⟨w, z, m, ks⟩ h := fun h g => ⟨z1, z2, lstAt_of g, hk⟩
  obtain ⟨a1, ha1⟩ : ∃ a1 : VH, a1 = v ++ [.lst (encR ks)] := ⟨_, rfl⟩
  have g1 : a1[m]? = some (.lst (encR ks)) := by rw [ha1]; exact app_get _ gm
  have g1k : a1[v.length]? = some (.lst (encR ks)) := by rw [ha1]; exact last_get _ _
  obtain ⟨a2, ha2⟩ : ∃ a2 : VH, a2 = a1 ++ [.lst (stsD w z ks)] := ⟨_, rfl⟩
  have g2 : a2[m]? = some (.lst (encR ks)) := by rw [ha2]; exact app_get _ g1
  have g2k : a2[v.length]? = some (.lst (encR ks)) := by rw [ha2]; exact app_get _ g1k
  have g2a : a2[a1.length]? = some (.lst (stsD w z ks)) := by rw [ha2]; exact last_get _ _
  have c4 : run Γ (.set (.nm 6) (.bfn .list [.var 5])) [some (.fls ns), some (.ref 2), some (.int z), some (.int si), some (encW w), some (.ref m), none, none, none, none, none, none, none, none] v = some (.ok (.nxt [some (.fls ns), some (.ref 2), some (.int z), some (.int si), some (encW w), some (.ref m), some (.ref v.length), none, none, none, none, none, none, none]), a1) := by
    simp only [body, runs, run.eq_1, run.eq_2, run.eq_3, run.eq_4, run.eq_5, run.eq_6, run.eq_9, run.eq_11, ev.eq_1, ev.eq_2, ev.eq_3, ev.eq_4, ev.eq_5, ev.eq_6, ev.eq_7, ev.eq_8, ev.eq_9, ev.eq_10, ev.eq_11, ev.eq_12, ev.eq_13, ev.eq_14, ev.eq_15, ev.eq_16, ev.eq_17, ev.eq_18, ev.eq_19, ev.eq_20, ev.eq_21, ev.eq_22, ev.eq_23, ev.eq_24, evs, evo, evc, asg, asgs, List.map_cons, List.map_nil, List.length_cons, List.length_nil, List.replicate, List.append_nil, List.nil_append, List.cons_append, List.getElem?_cons_zero, List.getElem?_cons_succ, List.set_cons_zero, List.set_cons_succ, R.bind_ok, R.bind_ex, if_true, if_false, intOf_i, lift_some, Option.map_some, slc_tup, cmp_eq, cmp_ne, cmp_in, cmp_nin, cmp_is, cmp_isn, cmp_le, cmp_lt, cmp_ge, cmp_gt, bin_add, bin_addt, bin_sub, bin_mod, tru_bl, brB_true, brB_false, toB_some, Nat.sub_self, Nat.zero_add, Nat.reduceAdd, Nat.reduceSub, Nat.reduceLeDiff, Nat.reduceEqDiff, bfF, lstAt_of gm, ha1]
  have c5 : run Γ (.set (.nm 7) (.cal "_law_along" [.var 4, .var 2, .var 5])) [some (.fls ns), some (.ref 2), some (.int z), some (.int si), some (encW w), some (.ref m), some (.ref v.length), none, none, none, none, none, none, none] a1 = some (.ok (.nxt [some (.fls ns), some (.ref 2), some (.int z), some (.int si), some (encW w), some (.ref m), some (.ref v.length), some (.ref a1.length), none, none, none, none, none, none]), a2) := by
    simp only [body, runs, run.eq_1, run.eq_2, run.eq_3, run.eq_4, run.eq_5, run.eq_6, run.eq_9, run.eq_11, ev.eq_1, ev.eq_2, ev.eq_3, ev.eq_4, ev.eq_5, ev.eq_6, ev.eq_7, ev.eq_8, ev.eq_9, ev.eq_10, ev.eq_11, ev.eq_12, ev.eq_13, ev.eq_14, ev.eq_15, ev.eq_16, ev.eq_17, ev.eq_18, ev.eq_19, ev.eq_20, ev.eq_21, ev.eq_22, ev.eq_23, ev.eq_24, evs, evo, evc, asg, asgs, List.map_cons, List.map_nil, List.length_cons, List.length_nil, List.replicate, List.append_nil, List.nil_append, List.cons_append, List.getElem?_cons_zero, List.getElem?_cons_succ, List.set_cons_zero, List.set_cons_succ, R.bind_ok, R.bind_ex, if_true, if_false, intOf_i, lift_some, Option.map_some, slc_tup, cmp_eq, cmp_ne, cmp_in, cmp_nin, cmp_is, cmp_isn, cmp_le, cmp_lt, cmp_ge, cmp_gt, bin_add, bin_addt, bin_sub, bin_mod, tru_bl, brB_true, brB_false, toB_some, Nat.sub_self, Nat.zero_add, Nat.reduceAdd, Nat.reduceSub, Nat.reduceLeDiff, Nat.reduceEqDiff, E.along, law_along_at (w := w) (z := z) (n := m) (ks := ks) (vh := a1) ⟨by show 0 < z; omega, lstAt_of g1, by show ks.length ≤ 1000; omega⟩, ha2]
  obtain ⟨a3, ha3⟩ : ∃ a3 : VH, a3 = a2 ++ [.lst (stsD w z ks)] := ⟨_, rfl⟩
  have g3 : a3[m]? = some (.lst (encR ks)) := by rw [ha3]; exact app_get _ g2
  have g3k : a3[v.length]? = some (.lst (encR ks)) := by rw [ha3]; exact app_get _ g2k
  have g3a : a3[a1.length]? = some (.lst (stsD w z ks)) := by rw [ha3]; exact app_get _ g2a
  have g3b : a3[a2.length]? = some (.lst (stsD w z ks)) := by rw [ha3]; exact last_get _ _
  have q3 : eqF a3 (.ref a2.length) (.ref a1.length) = some true := eq_lists (f := encS) (rfy_encS a3 8) g3b g3a
  have q3' : eqF a3 (encS (afterS w z sta0 ks)) (encS (afterS w z sta0 ks)) = some true := by
    obtain ⟨p, hp⟩ := rfy_encS a3 9 (afterS w z sta0 ks)
    exact eq_same hp hp
  have c6 : run Γ (.ite (.or (.cmp .ne (.cal "states_along" [.var 4, .var 2, .var 5]) (.var 7)) (.cmp .ne (.cal "state_after" [.var 4, .var 2, .var 5]) (.idx (.var 7) (.neg (.cst (.int 1)))))) [.ret (.cst (.bl false))] []) [some (.fls ns), some (.ref 2), some (.int z), some (.int si), some (encW w), some (.ref m), some (.ref v.length), some (.ref a1.length), none, none, none, none, none, none] a2 = some (.ok (.nxt [some (.fls ns), some (.ref 2), some (.int z), some (.int si), some (encW w), some (.ref m), some (.ref v.length), some (.ref a1.length), none, none, none, none, none, none]), a3) := by
    simp only [body, runs, run.eq_1, run.eq_2, run.eq_3, run.eq_4, run.eq_5, run.eq_6, run.eq_9, run.eq_11, ev.eq_1, ev.eq_2, ev.eq_3, ev.eq_4, ev.eq_5, ev.eq_6, ev.eq_7, ev.eq_8, ev.eq_9, ev.eq_10, ev.eq_11, ev.eq_12, ev.eq_13, ev.eq_14, ev.eq_15, ev.eq_16, ev.eq_17, ev.eq_18, ev.eq_19, ev.eq_20, ev.eq_21, ev.eq_22, ev.eq_23, ev.eq_24, evs, evo, evc, asg, asgs, List.map_cons, List.map_nil, List.length_cons, List.length_nil, List.replicate, List.append_nil, List.nil_append, List.cons_append, List.getElem?_cons_zero, List.getElem?_cons_succ, List.set_cons_zero, List.set_cons_succ, R.bind_ok, R.bind_ex, if_true, if_false, intOf_i, lift_some, Option.map_some, slc_tup, cmp_eq, cmp_ne, cmp_in, cmp_nin, cmp_is, cmp_isn, cmp_le, cmp_lt, cmp_ge, cmp_gt, bin_add, bin_addt, bin_sub, bin_mod, tru_bl, brB_true, brB_false, toB_some, Nat.sub_self, Nat.zero_add, Nat.reduceAdd, Nat.reduceSub, Nat.reduceLeDiff, Nat.reduceEqDiff, E.states_along, E.state_after, states_along_at (ok0 a2 g2), ← ha3, q3, Bool.not_true, state_after_at (ok0 a3 g3), idx_ref _ g3a, sts_last, q3']
  obtain ⟨A, hA⟩ : ∃ A, A = (along w z sta0 ks).drop 1 := ⟨_, rfl⟩
  have lA : A.length ≤ 60 := by rw [hA, List.length_drop, lg]; omega
  obtain ⟨a4, ha4⟩ : ∃ a4 : VH, a4 = a3 ++ [.lst (A.map encS)] := ⟨_, rfl⟩
  have s4 : slcF (.ref a1.length) (some 1) none a3 = some (.ok (.ref a3.length), a4) := by
    rw [slc_1 a1.length _ a3 g3a, ha4, hA, stsD, List.map_drop]
  have g4c : a4[a3.length]? = some (.lst (A.map encS)) := by rw [ha4]; exact last_get _ _
  obtain ⟨a5, ha5⟩ : ∃ a5 : VH, a5 = a4 ++ [.lst (scrs w z si ks)] := ⟨_, rfl⟩
  have g5 : a5[m]? = some (.lst (encR ks)) := by rw [ha5, ha4]; exact app_get _ (app_get _ g3)
  have g5k : a5[v.length]? = some (.lst (encR ks)) := by rw [ha5, ha4]; exact app_get _ (app_get _ g3k)
  have g5a : a5[a1.length]? = some (.lst (stsD w z ks)) := by rw [ha5, ha4]; exact app_get _ (app_get _ g3a)
  have g5s : a5[a4.length]? = some (.lst (scrs w z si ks)) := by rw [ha5]; exact last_get _ _
  have c7 : run Γ (.set (.nm 8) (.cpr [12] (.nm 12) (.seq (.slc (.var 7) (some (.cst (.int 1))) none)) none (.cal "_law_screen" [.var 4, .var 3, .var 12]))) [some (.fls ns), some (.ref 2), some (.int z), some (.int si), some (encW w), some (.ref m), some (.ref v.length), some (.ref a1.length), none, none, none, none, none, none] a3 = some (.ok (.nxt [some (.fls ns), some (.ref 2), some (.int z), some (.int si), some (encW w), some (.ref m), some (.ref v.length), some (.ref a1.length), some (.ref a4.length), none, none, none, none, none]), a5) := by
    have c : ev Γ (.cpr [12] (.nm 12) (.seq (.slc (.var 7) (some (.cst (.int 1))) none)) none (.cal "_law_screen" [.var 4, .var 3, .var 12])) [some (.fls ns), some (.ref 2), some (.int z), some (.int si), some (encW w), some (.ref m), some (.ref v.length), some (.ref a1.length), none, none, none, none, none, none] a3 = some (.ok (.ref a4.length), a4 ++ [.lst (A.map (scrS w si))]) :=
      ev_cprL encS (scrS w si) A (by simp only [body, runs, run.eq_1, run.eq_2, run.eq_3, run.eq_4, run.eq_5, run.eq_6, run.eq_9, run.eq_11, ev.eq_1, ev.eq_2, ev.eq_3, ev.eq_4, ev.eq_5, ev.eq_6, ev.eq_7, ev.eq_8, ev.eq_9, ev.eq_10, ev.eq_11, ev.eq_12, ev.eq_13, ev.eq_14, ev.eq_15, ev.eq_16, ev.eq_17, ev.eq_18, ev.eq_19, ev.eq_20, ev.eq_21, ev.eq_22, ev.eq_23, ev.eq_24, evs, evo, evc, asg, asgs, List.map_cons, List.map_nil, List.length_cons, List.length_nil, List.replicate, List.append_nil, List.nil_append, List.cons_append, List.getElem?_cons_zero, List.getElem?_cons_succ, List.set_cons_zero, List.set_cons_succ, R.bind_ok, R.bind_ex, if_true, if_false, intOf_i, lift_some, Option.map_some, slc_tup, cmp_eq, cmp_ne, cmp_in, cmp_nin, cmp_is, cmp_isn, cmp_le, cmp_lt, cmp_ge, cmp_gt, bin_add, bin_addt, bin_sub, bin_mod, tru_bl, brB_true, brB_false, toB_some, Nat.sub_self, Nat.zero_add, Nat.reduceAdd, Nat.reduceSub, Nat.reduceLeDiff, Nat.reduceEqDiff, s4]) g4c (fun d hd l => by simp only [body, runs, run.eq_1, run.eq_2, run.eq_3, run.eq_4, run.eq_5, run.eq_6, run.eq_9, run.eq_11, ev.eq_1, ev.eq_2, ev.eq_3, ev.eq_4, ev.eq_5, ev.eq_6, ev.eq_7, ev.eq_8, ev.eq_9, ev.eq_10, ev.eq_11, ev.eq_12, ev.eq_13, ev.eq_14, ev.eq_15, ev.eq_16, ev.eq_17, ev.eq_18, ev.eq_19, ev.eq_20, ev.eq_21, ev.eq_22, ev.eq_23, ev.eq_24, evs, evo, evc, asg, asgs, List.map_cons, List.map_nil, List.length_cons, List.length_nil, List.replicate, List.append_nil, List.nil_append, List.cons_append, List.getElem?_cons_zero, List.getElem?_cons_succ, List.set_cons_zero, List.set_cons_succ, R.bind_ok, R.bind_ex, if_true, if_false, intOf_i, lift_some, Option.map_some, slc_tup, cmp_eq, cmp_ne, cmp_in, cmp_nin, cmp_is, cmp_isn, cmp_le, cmp_lt, cmp_ge, cmp_gt, bin_add, bin_addt, bin_sub, bin_mod, tru_bl, brB_true, brB_false, toB_some, Nat.sub_self, Nat.zero_add, Nat.reduceAdd, Nat.reduceSub, Nat.reduceLeDiff, Nat.reduceEqDiff, wipeF, E.screen, law_screen_at]) (by omega)
    simp only [body, runs, run.eq_1, run.eq_2, run.eq_3, run.eq_4, run.eq_5, run.eq_6, run.eq_9, run.eq_11, ev.eq_1, ev.eq_2, ev.eq_3, ev.eq_4, ev.eq_5, ev.eq_6, ev.eq_7, ev.eq_8, ev.eq_9, ev.eq_10, ev.eq_11, ev.eq_12, ev.eq_13, ev.eq_14, ev.eq_15, ev.eq_16, ev.eq_17, ev.eq_18, ev.eq_19, ev.eq_20, ev.eq_21, ev.eq_22, ev.eq_23, ev.eq_24, evs, evo, evc, asg, asgs, List.map_cons, List.map_nil, List.length_cons, List.length_nil, List.replicate, List.append_nil, List.nil_append, List.cons_append, List.getElem?_cons_zero, List.getElem?_cons_succ, List.set_cons_zero, List.set_cons_succ, R.bind_ok, R.bind_ex, if_true, if_false, intOf_i, lift_some, Option.map_some, slc_tup, cmp_eq, cmp_ne, cmp_in, cmp_nin, cmp_is, cmp_isn, cmp_le, cmp_lt, cmp_ge, cmp_gt, bin_add, bin_addt, bin_sub, bin_mod, tru_bl, brB_true, brB_false, toB_some, Nat.sub_self, Nat.zero_add, Nat.reduceAdd, Nat.reduceSub, Nat.reduceLeDiff, Nat.reduceEqDiff, c, ha5, scrs, hA]
  obtain ⟨a6, ha6⟩ : ∃ a6 : VH, a6 = a5 ++ [.lst (scrs w z si ks)] := ⟨_, rfl⟩
  have g6 : a6[m]? = some (.lst (encR ks)) := by rw [ha6]; exact app_get _ g5
  have g6k : a6[v.length]? = some (.lst (encR ks)) := by rw [ha6]; exact app_get _ g5k
  have g6a : a6[a1.length]? = some (.lst (stsD w z ks)) := by rw [ha6]; exact app_get _ g5a
  have g6s : a6[a4.length]? = some (.lst (scrs w z si ks)) := by rw [ha6]; exact app_get _ g5s
  have g6t : a6[a5.length]? = some (.lst (scrs w z si ks)) := by rw [ha6]; exact last_get _ _
  have ok1 : Wzsr.ok ⟨w, z, si, m, ks⟩ a5 := ⟨ok0 a5 g5, si0, by show si ≤ 1; omega⟩
  have q6 : eqF a6 (.ref a5.length) (.ref a4.length) = some true := eq_lists (f := scrS w si) (rfy_scr a6 9 w si) g6t g6s
  have q6' : eqF a6 (.ref m) (.ref v.length) = some true := eq_lists (f := encK) (rfy_key a6 10) g6 g6k
  have c8 : run Γ (.ite (.or (.cmp .ne (.cal "run" [.var 4, .var 2, .var 3, .var 5]) (.var 8)) (.cmp .ne (.var 5) (.var 6))) [.ret (.cst (.bl false))] []) [some (.fls ns), some (.ref 2), some (.int z), some (.int si), some (encW w), some (.ref m), some (.ref v.length), some (.ref a1.length), some (.ref a4.length), none, none, none, none, none] a5 = some (.ok (.nxt [some (.fls ns), some (.ref 2), some (.int z), some (.int si), some (encW w), some (.ref m), some (.ref v.length), some (.ref a1.length), some (.ref a4.length), none, none, none, none, none]), a6) := by
    simp only [body, runs, run.eq_1, run.eq_2, run.eq_3, run.eq_4, run.eq_5, run.eq_6, run.eq_9, run.eq_11, ev.eq_1, ev.eq_2, ev.eq_3, ev.eq_4, ev.eq_5, ev.eq_6, ev.eq_7, ev.eq_8, ev.eq_9, ev.eq_10, ev.eq_11, ev.eq_12, ev.eq_13, ev.eq_14, ev.eq_15, ev.eq_16, ev.eq_17, ev.eq_18, ev.eq_19, ev.eq_20, ev.eq_21, ev.eq_22, ev.eq_23, ev.eq_24, evs, evo, evc, asg, asgs, List.map_cons, List.map_nil, List.length_cons, List.length_nil, List.replicate, List.append_nil, List.nil_append, List.cons_append, List.getElem?_cons_zero, List.getElem?_cons_succ, List.set_cons_zero, List.set_cons_succ, R.bind_ok, R.bind_ex, if_true, if_false, intOf_i, lift_some, Option.map_some, slc_tup, cmp_eq, cmp_ne, cmp_in, cmp_nin, cmp_is, cmp_isn, cmp_le, cmp_lt, cmp_ge, cmp_gt, bin_add, bin_addt, bin_sub, bin_mod, tru_bl, brB_true, brB_false, toB_some, Nat.sub_self, Nat.zero_add, Nat.reduceAdd, Nat.reduceSub, Nat.reduceLeDiff, Nat.reduceEqDiff, E.run, run_at ok1, ← ha6, q6, q6', Bool.not_true]
  obtain ⟨V, hV⟩ : ∃ V, V = vals w z ks := ⟨_, rfl⟩
  have lV : V.length = ks.length + 1 := by rw [hV, vals, List.length_map, lg]
  obtain ⟨a7, ha7⟩ : ∃ a7 : VH, a7 = a6 ++ [il V] := ⟨_, rfl⟩
  have g7 : a7[m]? = some (.lst (encR ks)) := by rw [ha7]; exact app_get _ g6
  have g7a : a7[a1.length]? = some (.lst (stsD w z ks)) := by rw [ha7]; exact app_get _ g6a
  have g7v : a7[a6.length]? = some (il V) := by rw [ha7]; exact last_get _ _
  have c9 : run Γ (.set (.nm 9) (.cpr [12] (.nm 12) (.seq (.var 7)) none (.idx (.var 12) (.cst (.int 0))))) [some (.fls ns), some (.ref 2), some (.int z), some (.int si), some (encW w), some (.ref m), some (.ref v.length), some (.ref a1.length), some (.ref a4.length), none, none, none, none, none] a6 = some (.ok (.nxt [some (.fls ns), some (.ref 2), some (.int z), some (.int si), some (encW w), some (.ref m), some (.ref v.length), some (.ref a1.length), some (.ref a4.length), some (.ref a6.length), none, none, none, none]), a7) := by
    have c : ev Γ (.cpr [12] (.nm 12) (.seq (.var 7)) none (.idx (.var 12) (.cst (.int 0)))) [some (.fls ns), some (.ref 2), some (.int z), some (.int si), some (encW w), some (.ref m), some (.ref v.length), some (.ref a1.length), some (.ref a4.length), none, none, none, none, none] a6 = some (.ok (.ref a6.length), a6 ++ [.lst ((along w z sta0 ks).map fun s => .int s.v)]) :=
      ev_cprL encS (fun s => .int s.v) (along w z sta0 ks) (by simp only [body, runs, run.eq_1, run.eq_2, run.eq_3, run.eq_4, run.eq_5, run.eq_6, run.eq_9, run.eq_11, ev.eq_1, ev.eq_2, ev.eq_3, ev.eq_4, ev.eq_5, ev.eq_6, ev.eq_7, ev.eq_8, ev.eq_9, ev.eq_10, ev.eq_11, ev.eq_12, ev.eq_13, ev.eq_14, ev.eq_15, ev.eq_16, ev.eq_17, ev.eq_18, ev.eq_19, ev.eq_20, ev.eq_21, ev.eq_22, ev.eq_23, ev.eq_24, evs, evo, evc, asg, asgs, List.map_cons, List.map_nil, List.length_cons, List.length_nil, List.replicate, List.append_nil, List.nil_append, List.cons_append, List.getElem?_cons_zero, List.getElem?_cons_succ, List.set_cons_zero, List.set_cons_succ, R.bind_ok, R.bind_ex, if_true, if_false, intOf_i, lift_some, Option.map_some, slc_tup, cmp_eq, cmp_ne, cmp_in, cmp_nin, cmp_is, cmp_isn, cmp_le, cmp_lt, cmp_ge, cmp_gt, bin_add, bin_addt, bin_sub, bin_mod, tru_bl, brB_true, brB_false, toB_some, Nat.sub_self, Nat.zero_add, Nat.reduceAdd, Nat.reduceSub, Nat.reduceLeDiff, Nat.reduceEqDiff]) g6a (fun d hd l => by simp only [body, runs, run.eq_1, run.eq_2, run.eq_3, run.eq_4, run.eq_5, run.eq_6, run.eq_9, run.eq_11, ev.eq_1, ev.eq_2, ev.eq_3, ev.eq_4, ev.eq_5, ev.eq_6, ev.eq_7, ev.eq_8, ev.eq_9, ev.eq_10, ev.eq_11, ev.eq_12, ev.eq_13, ev.eq_14, ev.eq_15, ev.eq_16, ev.eq_17, ev.eq_18, ev.eq_19, ev.eq_20, ev.eq_21, ev.eq_22, ev.eq_23, ev.eq_24, evs, evo, evc, asg, asgs, List.map_cons, List.map_nil, List.length_cons, List.length_nil, List.replicate, List.append_nil, List.nil_append, List.cons_append, List.getElem?_cons_zero, List.getElem?_cons_succ, List.set_cons_zero, List.set_cons_succ, R.bind_ok, R.bind_ex, if_true, if_false, intOf_i, lift_some, Option.map_some, slc_tup, cmp_eq, cmp_ne, cmp_in, cmp_nin, cmp_is, cmp_isn, cmp_le, cmp_lt, cmp_ge, cmp_gt, bin_add, bin_addt, bin_sub, bin_mod, tru_bl, brB_true, brB_false, toB_some, Nat.sub_self, Nat.zero_add, Nat.reduceAdd, Nat.reduceSub, Nat.reduceLeDiff, Nat.reduceEqDiff, wipeF, idx_encS]) (by omega)
    simp only [body, runs, run.eq_1, run.eq_2, run.eq_3, run.eq_4, run.eq_5, run.eq_6, run.eq_9, run.eq_11, ev.eq_1, ev.eq_2, ev.eq_3, ev.eq_4, ev.eq_5, ev.eq_6, ev.eq_7, ev.eq_8, ev.eq_9, ev.eq_10, ev.eq_11, ev.eq_12, ev.eq_13, ev.eq_14, ev.eq_15, ev.eq_16, ev.eq_17, ev.eq_18, ev.eq_19, ev.eq_20, ev.eq_21, ev.eq_22, ev.eq_23, ev.eq_24, evs, evo, evc, asg, asgs, List.map_cons, List.map_nil, List.length_cons, List.length_nil, List.replicate, List.append_nil, List.nil_append, List.cons_append, List.getElem?_cons_zero, List.getElem?_cons_succ, List.set_cons_zero, List.set_cons_succ, R.bind_ok, R.bind_ex, if_true, if_false, intOf_i, lift_some, Option.map_some, slc_tup, cmp_eq, cmp_ne, cmp_in, cmp_nin, cmp_is, cmp_isn, cmp_le, cmp_lt, cmp_ge, cmp_gt, bin_add, bin_addt, bin_sub, bin_mod, tru_bl, brB_true, brB_false, toB_some, Nat.sub_self, Nat.zero_add, Nat.reduceAdd, Nat.reduceSub, Nat.reduceLeDiff, Nat.reduceEqDiff, c, ha7, hV, vals, il, List.map_map]
    rfl
  obtain ⟨a8, ha8⟩ : ∃ a8 : VH, a8 = a7 ++ [il V] := ⟨_, rfl⟩
  have g8 : a8[m]? = some (.lst (encR ks)) := by rw [ha8]; exact app_get _ g7
  have g8a : a8[a1.length]? = some (.lst (stsD w z ks)) := by rw [ha8]; exact app_get _ g7a
  have g8v : a8[a6.length]? = some (il V) := by rw [ha8]; exact app_get _ g7v
  have g8w : a8[a7.length]? = some (il V) := by rw [ha8]; exact last_get _ _
  have q8 : eqF a8 (.ref a7.length) (.ref a6.length) = some true := eq_lists (f := D.int) (fun i => ⟨_, rfy_int a8 10 i⟩) g8w g8v
  have c10 : run Γ (.ite (.cmp .ne (.cal "values_shown" [.var 4, .var 2, .var 5]) (.var 9)) [.ret (.cst (.bl false))] []) [some (.fls ns), some (.ref 2), some (.int z), some (.int si), some (encW w), some (.ref m), some (.ref v.length), some (.ref a1.length), some (.ref a4.length), some (.ref a6.length), none, none, none, none] a7 = some (.ok (.nxt [some (.fls ns), some (.ref 2), some (.int z), some (.int si), some (encW w), some (.ref m), some (.ref v.length), some (.ref a1.length), some (.ref a4.length), some (.ref a6.length), none, none, none, none]), a8) := by
    have q := values_shown_at (ok0 a7 g7)
    rw [← hV] at q
    simp only [body, runs, run.eq_1, run.eq_2, run.eq_3, run.eq_4, run.eq_5, run.eq_6, run.eq_9, run.eq_11, ev.eq_1, ev.eq_2, ev.eq_3, ev.eq_4, ev.eq_5, ev.eq_6, ev.eq_7, ev.eq_8, ev.eq_9, ev.eq_10, ev.eq_11, ev.eq_12, ev.eq_13, ev.eq_14, ev.eq_15, ev.eq_16, ev.eq_17, ev.eq_18, ev.eq_19, ev.eq_20, ev.eq_21, ev.eq_22, ev.eq_23, ev.eq_24, evs, evo, evc, asg, asgs, List.map_cons, List.map_nil, List.length_cons, List.length_nil, List.replicate, List.append_nil, List.nil_append, List.cons_append, List.getElem?_cons_zero, List.getElem?_cons_succ, List.set_cons_zero, List.set_cons_succ, R.bind_ok, R.bind_ex, if_true, if_false, intOf_i, lift_some, Option.map_some, slc_tup, cmp_eq, cmp_ne, cmp_in, cmp_nin, cmp_is, cmp_isn, cmp_le, cmp_lt, cmp_ge, cmp_gt, bin_add, bin_addt, bin_sub, bin_mod, tru_bl, brB_true, brB_false, toB_some, Nat.sub_self, Nat.zero_add, Nat.reduceAdd, Nat.reduceSub, Nat.reduceLeDiff, Nat.reduceEqDiff, E.values_shown, q]
    rw [show a7 ++ [Cell.lst (V.map D.int)] = a8 from ha8.symm, q8]
    simp only [body, runs, run.eq_1, run.eq_2, run.eq_3, run.eq_4, run.eq_5, run.eq_6, run.eq_9, run.eq_11, ev.eq_1, ev.eq_2, ev.eq_3, ev.eq_4, ev.eq_5, ev.eq_6, ev.eq_7, ev.eq_8, ev.eq_9, ev.eq_10, ev.eq_11, ev.eq_12, ev.eq_13, ev.eq_14, ev.eq_15, ev.eq_16, ev.eq_17, ev.eq_18, ev.eq_19, ev.eq_20, ev.eq_21, ev.eq_22, ev.eq_23, ev.eq_24, evs, evo, evc, asg, asgs, List.map_cons, List.map_nil, List.length_cons, List.length_nil, List.replicate, List.append_nil, List.nil_append, List.cons_append, List.getElem?_cons_zero, List.getElem?_cons_succ, List.set_cons_zero, List.set_cons_succ, R.bind_ok, R.bind_ex, if_true, if_false, intOf_i, lift_some, Option.map_some, slc_tup, cmp_eq, cmp_ne, cmp_in, cmp_nin, cmp_is, cmp_isn, cmp_le, cmp_lt, cmp_ge, cmp_gt, bin_add, bin_addt, bin_sub, bin_mod, tru_bl, brB_true, brB_false, toB_some, Nat.sub_self, Nat.zero_add, Nat.reduceAdd, Nat.reduceSub, Nat.reduceLeDiff, Nat.reduceEqDiff, Bool.not_true]
  obtain ⟨C, hC⟩ : ∃ C : List D, C = (List.range' 0 ks.length).filterMap fun i => if V.getD i 0 = V.getD (i + 1) 0 then none else some (D.int (i : Nat)) := ⟨_, rfl⟩
  have lC : C.length = chg V := by
    have := chg_range V [] ks.length lV
    rw [hC]
    simpa using this
  obtain ⟨a9, ha9⟩ : ∃ a9 : VH, a9 = a8 ++ [.lst C] := ⟨_, rfl⟩
  have g9 : a9[m]? = some (.lst (encR ks)) := by rw [ha9]; exact app_get _ g8
  have g9a : a9[a1.length]? = some (.lst (stsD w z ks)) := by rw [ha9]; exact app_get _ g8a
  have g9c : a9[a8.length]? = some (.lst C) := by rw [ha9]; exact last_get _ _
  have c11 := changed_run Γ (x0 := some (.fls ns)) (x1 := some (.ref 2)) (x2 := some (.int z)) (x3 := some (.int si)) (x4 := some (encW w)) (x6 := some (.ref v.length)) (x7 := some (.ref a1.length)) (x8 := some (.ref a4.length)) hk lV g8 g8v
  rw [← hC, ← ha9, lC] at c11
  have gdr := Wzr.ok.row (ok0 a9 g9)
  have c12 : run Γ (.ite (.or (.cmp .ne (.cal "count_done" [.var 4, .var 2, .var 5]) (.var 10)) (.or (.cmp .isnot (.cal "is_way" [.var 4]) (.cst (.bl true))) (.cmp .isnot (.cal "is_row" [.var 5]) (.cst (.bl true))))) [.ret (.cst (.bl false))] []) [some (.fls ns), some (.ref 2), some (.int z), some (.int si), some (encW w), some (.ref m), some (.ref v.length), some (.ref a1.length), some (.ref a4.length), some (.ref a6.length), some (.int (chg V)), none, none, none] a9 = some (.ok (.nxt [some (.fls ns), some (.ref 2), some (.int z), some (.int si), some (encW w), some (.ref m), some (.ref v.length), some (.ref a1.length), some (.ref a4.length), some (.ref a6.length), some (.int (chg V)), none, none, none]), a9) := by
    have q := count_done_at (ok0 a9 g9)
    rw [← hV] at q
    simp only [body, runs, run.eq_1, run.eq_2, run.eq_3, run.eq_4, run.eq_5, run.eq_6, run.eq_9, run.eq_11, ev.eq_1, ev.eq_2, ev.eq_3, ev.eq_4, ev.eq_5, ev.eq_6, ev.eq_7, ev.eq_8, ev.eq_9, ev.eq_10, ev.eq_11, ev.eq_12, ev.eq_13, ev.eq_14, ev.eq_15, ev.eq_16, ev.eq_17, ev.eq_18, ev.eq_19, ev.eq_20, ev.eq_21, ev.eq_22, ev.eq_23, ev.eq_24, evs, evo, evc, asg, asgs, List.map_cons, List.map_nil, List.length_cons, List.length_nil, List.replicate, List.append_nil, List.nil_append, List.cons_append, List.getElem?_cons_zero, List.getElem?_cons_succ, List.set_cons_zero, List.set_cons_succ, R.bind_ok, R.bind_ex, if_true, if_false, intOf_i, lift_some, Option.map_some, slc_tup, cmp_eq, cmp_ne, cmp_in, cmp_nin, cmp_is, cmp_isn, cmp_le, cmp_lt, cmp_ge, cmp_gt, bin_add, bin_addt, bin_sub, bin_mod, tru_bl, brB_true, brB_false, toB_some, Nat.sub_self, Nat.zero_add, Nat.reduceAdd, Nat.reduceSub, Nat.reduceLeDiff, Nat.reduceEqDiff, E.count_done, E.is_way, E.is_row, q, eqF_int, decide_true, Bool.not_true, is_way_at _ _ (gdT_way a9 w), wayB_way, isF, is_row_at _ _ gdr.1, gdr.2]
  have c13 : run Γ (.set (.nm 11) (.ite (.cmp .eq (.idx (.var 4) (.cst (.int 0))) (.cst (.str "swap"))) (.cst (.int 1)) (.idx (.var 4) (.cst (.int 1))))) [some (.fls ns), some (.ref 2), some (.int z), some (.int si), some (encW w), some (.ref m), some (.ref v.length), some (.ref a1.length), some (.ref a4.length), some (.ref a6.length), some (.int (chg V)), none, none, none] a9 = some (.ok (.nxt [some (.fls ns), some (.ref 2), some (.int z), some (.int si), some (encW w), some (.ref m), some (.ref v.length), some (.ref a1.length), some (.ref a4.length), some (.ref a6.length), some (.int (chg V)), some (.int w.rm), none, none]), a9) := by
    simp only [body, runs, run.eq_1, run.eq_2, run.eq_3, run.eq_4, run.eq_5, run.eq_6, run.eq_9, run.eq_11, ev.eq_1, ev.eq_2, ev.eq_3, ev.eq_4, ev.eq_5, ev.eq_6, ev.eq_7, ev.eq_8, ev.eq_9, ev.eq_10, ev.eq_11, ev.eq_12, ev.eq_13, ev.eq_14, ev.eq_15, ev.eq_16, ev.eq_17, ev.eq_18, ev.eq_19, ev.eq_20, ev.eq_21, ev.eq_22, ev.eq_23, ev.eq_24, evs, evo, evc, asg, asgs, List.map_cons, List.map_nil, List.length_cons, List.length_nil, List.replicate, List.append_nil, List.nil_append, List.cons_append, List.getElem?_cons_zero, List.getElem?_cons_succ, List.set_cons_zero, List.set_cons_succ, R.bind_ok, R.bind_ex, if_true, if_false, intOf_i, lift_some, Option.map_some, slc_tup, cmp_eq, cmp_ne, cmp_in, cmp_nin, cmp_is, cmp_isn, cmp_le, cmp_lt, cmp_ge, cmp_gt, bin_add, bin_addt, bin_sub, bin_mod, tru_bl, brB_true, brB_false, toB_some, Nat.sub_self, Nat.zero_add, Nat.reduceAdd, Nat.reduceSub, Nat.reduceLeDiff, Nat.reduceEqDiff, way_0, kd_3, brB_d, way_room]
  obtain ⟨fr14, vh14, c14, o14, fe14, ve14, _⟩ := run_for (Γ := Γ) (t := .nm 12) (it := .seq (.var 7)) (b := [.ite (.or (.cmp .gt (.bfn .len [.idx (.var 12) (.cst (.int 2))]) (.var 11)) (.or (.cmp .gt (.bfn .len [.idx (.var 12) (.cst (.int 3))]) (.var 11)) (.and (.cmp .eq (.idx (.var 4) (.cst (.int 0))) (.cst (.str "line"))) (.cmp .gt (.bin .add (.bfn .len [.idx (.var 12) (.cst (.int 2))]) (.bfn .len [.idx (.var 12) (.cst (.int 3))])) (.var 11))))) [.ret (.cst (.bl false))] [], .ite (.or (.and (.cmp .eq (.idx (.var 4) (.cst (.int 0))) (.cst (.str "swap"))) (.or (.cmp .ne (.idx (.var 12) (.cst (.int 3))) (.tup [])) (.cmp .ne (.idx (.var 12) (.cst (.int 4))) (.cst (.int 0))))) (.and (.cmp .eq (.idx (.var 12) (.cst (.int 4))) (.cst (.int 2))) (.cmp .ne (.idx (.var 4) (.cst (.int 0))) (.cst (.str "deed"))))) [.ret (.cst (.bl false))] []])
    (fr := [some (.fls ns), some (.ref 2), some (.int z), some (.int si), some (encW w), some (.ref m), some (.ref v.length), some (.ref a1.length), some (.ref a4.length), some (.ref a6.length), some (.int (chg V)), some (.int w.rm), none, none])
    (vh := a9) (vh1 := a9) (ds := stsD w z ks) (gs := [(a1.length, .lst (stsD w z ks))]) (by simp only [evI, body, runs, run.eq_1, run.eq_2, run.eq_3, run.eq_4, run.eq_5, run.eq_6, run.eq_9, run.eq_11, ev.eq_1, ev.eq_2, ev.eq_3, ev.eq_4, ev.eq_5, ev.eq_6, ev.eq_7, ev.eq_8, ev.eq_9, ev.eq_10, ev.eq_11, ev.eq_12, ev.eq_13, ev.eq_14, ev.eq_15, ev.eq_16, ev.eq_17, ev.eq_18, ev.eq_19, ev.eq_20, ev.eq_21, ev.eq_22, ev.eq_23, ev.eq_24, evs, evo, evc, asg, asgs, List.map_cons, List.map_nil, List.length_cons, List.length_nil, List.replicate, List.append_nil, List.nil_append, List.cons_append, List.getElem?_cons_zero, List.getElem?_cons_succ, List.set_cons_zero, List.set_cons_succ, R.bind_ok, R.bind_ex, if_true, if_false, intOf_i, lift_some, Option.map_some, slc_tup, cmp_eq, cmp_ne, cmp_in, cmp_nin, cmp_is, cmp_isn, cmp_le, cmp_lt, cmp_ge, cmp_gt, bin_add, bin_addt, bin_sub, bin_mod, tru_bl, brB_true, brB_false, toB_some, Nat.sub_self, Nat.zero_add, Nat.reduceAdd, Nat.reduceSub, Nat.reduceLeDiff, Nat.reduceEqDiff, seqF, g9a])
    (fun ds fr h => ∃ (o : Option D), fr = [some (.fls ns), some (.ref 2), some (.int z), some (.int si), some (encW w), some (.ref m), some (.ref v.length), some (.ref a1.length), some (.ref a4.length), some (.ref a6.length), some (.int (chg V)), some (.int w.rm), o, none] ∧ h = a9 ∧ ∃ l : List Sta, ds = l.map encS ∧ ∀ s ∈ l, Inv w s)
    ⟨none, rfl, rfl, along w z sta0 ks, rfl, along_inv w z ks sta0 (inv0 w)⟩
    (fun rest fr h ⟨o, e1, e2, l, e3, e4⟩ => by
      rw [e2]
      simp only [grd, List.all_cons, List.all_nil, Bool.and_true, g9a, decide_true])
    (fun d rest fr h ⟨o, e1, e2, l, e3, e4⟩ => by
      cases l with
      | nil => cases e3
      | cons s l =>
        simp only [List.map_cons, List.cons.injEq] at e3
        refine ⟨[some (.fls ns), some (.ref 2), some (.int z), some (.int si), some (encW w), some (.ref m), some (.ref v.length), some (.ref a1.length), some (.ref a4.length), some (.ref a6.length), some (.int (chg V)), some (.int w.rm), some (encS s), none], a9, ?_, some (encS s), rfl, rfl, l, e3.2, fun s hs => e4 s (List.mem_cons_of_mem _ hs)⟩
        obtain ⟨i1, i2, i3, i4, i5⟩ := e4 s List.mem_cons_self
        have b0 : ∀ (l : List Int) (h : VH), bfF .len [iv l] h = some (.ok (.int l.length), h) := fun l h => by simp only [bfF, iv, List.length_map]
        have j1 : ¬ w.rm < (s.f.length : Int) := by omega
        have j2 : ¬ w.rm < (s.s.length : Int) := by omega
        rw [e1, e2, e3.1]
        cases ek : w.kd with
        | line =>
          have j3 : ¬ w.rm < (s.f.length : Int) + s.s.length := by have := i3 ek; omega
          have j5 : ¬ s.g = 2 := fun z => by have := i5 z; rw [ek] at this; cases this
          simp only [body, runs, run.eq_1, run.eq_2, run.eq_3, run.eq_4, run.eq_5, run.eq_6, run.eq_9, run.eq_11, ev.eq_1, ev.eq_2, ev.eq_3, ev.eq_4, ev.eq_5, ev.eq_6, ev.eq_7, ev.eq_8, ev.eq_9, ev.eq_10, ev.eq_11, ev.eq_12, ev.eq_13, ev.eq_14, ev.eq_15, ev.eq_16, ev.eq_17, ev.eq_18, ev.eq_19, ev.eq_20, ev.eq_21, ev.eq_22, ev.eq_23, ev.eq_24, evs, evo, evc, asg, asgs, List.map_cons, List.map_nil, List.length_cons, List.length_nil, List.replicate, List.append_nil, List.nil_append, List.cons_append, List.getElem?_cons_zero, List.getElem?_cons_succ, List.set_cons_zero, List.set_cons_succ, R.bind_ok, R.bind_ex, if_true, if_false, intOf_i, lift_some, Option.map_some, slc_tup, cmp_eq, cmp_ne, cmp_in, cmp_nin, cmp_is, cmp_isn, cmp_le, cmp_lt, cmp_ge, cmp_gt, bin_add, bin_addt, bin_sub, bin_mod, tru_bl, brB_true, brB_false, toB_some, Nat.sub_self, Nat.zero_add, Nat.reduceAdd, Nat.reduceSub, Nat.reduceLeDiff, Nat.reduceEqDiff, idx_encS, b0, j1, j2, j3, j5, decide_false, decide_true, way_0, kd_0, kd_1, kd_2, kd_3, ek, eqF_int, reduceCtorEq]
        | ring =>
          have j5 : ¬ s.g = 2 := fun z => by have := i5 z; rw [ek] at this; cases this
          simp only [body, runs, run.eq_1, run.eq_2, run.eq_3, run.eq_4, run.eq_5, run.eq_6, run.eq_9, run.eq_11, ev.eq_1, ev.eq_2, ev.eq_3, ev.eq_4, ev.eq_5, ev.eq_6, ev.eq_7, ev.eq_8, ev.eq_9, ev.eq_10, ev.eq_11, ev.eq_12, ev.eq_13, ev.eq_14, ev.eq_15, ev.eq_16, ev.eq_17, ev.eq_18, ev.eq_19, ev.eq_20, ev.eq_21, ev.eq_22, ev.eq_23, ev.eq_24, evs, evo, evc, asg, asgs, List.map_cons, List.map_nil, List.length_cons, List.length_nil, List.replicate, List.append_nil, List.nil_append, List.cons_append, List.getElem?_cons_zero, List.getElem?_cons_succ, List.set_cons_zero, List.set_cons_succ, R.bind_ok, R.bind_ex, if_true, if_false, intOf_i, lift_some, Option.map_some, slc_tup, cmp_eq, cmp_ne, cmp_in, cmp_nin, cmp_is, cmp_isn, cmp_le, cmp_lt, cmp_ge, cmp_gt, bin_add, bin_addt, bin_sub, bin_mod, tru_bl, brB_true, brB_false, toB_some, Nat.sub_self, Nat.zero_add, Nat.reduceAdd, Nat.reduceSub, Nat.reduceLeDiff, Nat.reduceEqDiff, idx_encS, b0, j1, j2, j5, decide_false, decide_true, way_0, kd_0, kd_1, kd_2, kd_3, ek, eqF_int, reduceCtorEq]
        | deed =>
          by_cases j5 : s.g = 2 <;> simp only [body, runs, run.eq_1, run.eq_2, run.eq_3, run.eq_4, run.eq_5, run.eq_6, run.eq_9, run.eq_11, ev.eq_1, ev.eq_2, ev.eq_3, ev.eq_4, ev.eq_5, ev.eq_6, ev.eq_7, ev.eq_8, ev.eq_9, ev.eq_10, ev.eq_11, ev.eq_12, ev.eq_13, ev.eq_14, ev.eq_15, ev.eq_16, ev.eq_17, ev.eq_18, ev.eq_19, ev.eq_20, ev.eq_21, ev.eq_22, ev.eq_23, ev.eq_24, evs, evo, evc, asg, asgs, List.map_cons, List.map_nil, List.length_cons, List.length_nil, List.replicate, List.append_nil, List.nil_append, List.cons_append, List.getElem?_cons_zero, List.getElem?_cons_succ, List.set_cons_zero, List.set_cons_succ, R.bind_ok, R.bind_ex, if_true, if_false, intOf_i, lift_some, Option.map_some, slc_tup, cmp_eq, cmp_ne, cmp_in, cmp_nin, cmp_is, cmp_isn, cmp_le, cmp_lt, cmp_ge, cmp_gt, bin_add, bin_addt, bin_sub, bin_mod, tru_bl, brB_true, brB_false, toB_some, Nat.sub_self, Nat.zero_add, Nat.reduceAdd, Nat.reduceSub, Nat.reduceLeDiff, Nat.reduceEqDiff, idx_encS, b0, j1, j2, j5, decide_false, decide_true, way_0, kd_0, kd_1, kd_2, kd_3, ek, eqF_int, reduceCtorEq, Bool.not_true]
        | swap =>
          obtain ⟨j6, j7⟩ := i4 ek
          have j5 : ¬ s.g = 2 := by rw [j7]; decide
          have j8 : eqF a9 (iv s.s) (.tup []) = some true := by rw [eqF_iv0, j6]; rfl
          simp only [body, runs, run.eq_1, run.eq_2, run.eq_3, run.eq_4, run.eq_5, run.eq_6, run.eq_9, run.eq_11, ev.eq_1, ev.eq_2, ev.eq_3, ev.eq_4, ev.eq_5, ev.eq_6, ev.eq_7, ev.eq_8, ev.eq_9, ev.eq_10, ev.eq_11, ev.eq_12, ev.eq_13, ev.eq_14, ev.eq_15, ev.eq_16, ev.eq_17, ev.eq_18, ev.eq_19, ev.eq_20, ev.eq_21, ev.eq_22, ev.eq_23, ev.eq_24, evs, evo, evc, asg, asgs, List.map_cons, List.map_nil, List.length_cons, List.length_nil, List.replicate, List.append_nil, List.nil_append, List.cons_append, List.getElem?_cons_zero, List.getElem?_cons_succ, List.set_cons_zero, List.set_cons_succ, R.bind_ok, R.bind_ex, if_true, if_false, intOf_i, lift_some, Option.map_some, slc_tup, cmp_eq, cmp_ne, cmp_in, cmp_nin, cmp_is, cmp_isn, cmp_le, cmp_lt, cmp_ge, cmp_gt, bin_add, bin_addt, bin_sub, bin_mod, tru_bl, brB_true, brB_false, toB_some, Nat.sub_self, Nat.zero_add, Nat.reduceAdd, Nat.reduceSub, Nat.reduceLeDiff, Nat.reduceEqDiff, idx_encS, b0, j1, j2, j5, j7, j8, decide_false, decide_true, way_0, kd_0, kd_1, kd_2, kd_3, ek, eqF_int, reduceCtorEq, Bool.not_true]
          rw [show decide ((0 : Int) = 2) = false from rfl]
          simp only [body, runs, run.eq_1, run.eq_2, run.eq_3, run.eq_4, run.eq_5, run.eq_6, run.eq_9, run.eq_11, ev.eq_1, ev.eq_2, ev.eq_3, ev.eq_4, ev.eq_5, ev.eq_6, ev.eq_7, ev.eq_8, ev.eq_9, ev.eq_10, ev.eq_11, ev.eq_12, ev.eq_13, ev.eq_14, ev.eq_15, ev.eq_16, ev.eq_17, ev.eq_18, ev.eq_19, ev.eq_20, ev.eq_21, ev.eq_22, ev.eq_23, ev.eq_24, evs, evo, evc, asg, asgs, List.map_cons, List.map_nil, List.length_cons, List.length_nil, List.replicate, List.append_nil, List.nil_append, List.cons_append, List.getElem?_cons_zero, List.getElem?_cons_succ, List.set_cons_zero, List.set_cons_succ, R.bind_ok, R.bind_ex, if_true, if_false, intOf_i, lift_some, Option.map_some, slc_tup, cmp_eq, cmp_ne, cmp_in, cmp_nin, cmp_is, cmp_isn, cmp_le, cmp_lt, cmp_ge, cmp_gt, bin_add, bin_addt, bin_sub, bin_mod, tru_bl, brB_true, brB_false, toB_some, Nat.sub_self, Nat.zero_add, Nat.reduceAdd, Nat.reduceSub, Nat.reduceLeDiff, Nat.reduceEqDiff])
  subst fe14 ve14
  obtain ⟨b1, hb1⟩ : ∃ b1 : VH, b1 = vh14 ++ [.lst []] := ⟨_, rfl⟩
  have okn : ∀ (h : VH) (n : Nat), h[n]? = some (.lst []) → Wzr.ok ⟨w, z, n, []⟩ h := fun h n g => ⟨z1, z2, lstAt_of g, by simp⟩
  have gb1 : b1[vh14.length]? = some (.lst []) := by rw [hb1]; exact last_get _ _
  have rb1 := run_at (w := w) (z := z) (si := si) (n := vh14.length) (ks := []) (vh := b1) ⟨okn b1 _ gb1, si0, by show si ≤ 1; omega⟩
  have hs0 : scrs w z si [] = [] := rfl
  rw [hs0] at rb1
  obtain ⟨b2, hb2⟩ : ∃ b2 : VH, b2 = b1 ++ [.lst []] := ⟨_, rfl⟩
  obtain ⟨b3, hb3⟩ : ∃ b3 : VH, b3 = b2 ++ [.lst []] := ⟨_, rfl⟩
  have gb3a : b3[b1.length]? = some (.lst ([] : List D)) := by rw [hb3, hb2]; exact app_get _ (last_get _ _)
  have gb3b : b3[b2.length]? = some (.lst ([] : List D)) := by rw [hb3]; exact last_get _ _
  have qb3 : eqF b3 (.ref b1.length) (.ref b2.length) = some true := eq_lists (f := D.int) (l := []) (fun i => ⟨_, rfy_int b3 10 i⟩) gb3a gb3b
  obtain ⟨b4, hb4⟩ : ∃ b4 : VH, b4 = b3 ++ [.lst []] := ⟨_, rfl⟩
  have gb4 : b4[b3.length]? = some (.lst []) := by rw [hb4]; exact last_get _ _
  have rb4 := state_after_at (okn b4 _ gb4)
  have qb4 : eqF b4 (encS (afterS w z sta0 [])) (.tup [.int 0, .int 0, .tup [], .tup [], .int 0]) = some true := by
    obtain ⟨p, hp⟩ := rfy_encS b4 9 sta0
    exact eq_same hp hp
  obtain ⟨b5, hb5⟩ : ∃ b5 : VH, b5 = b4 ++ [.lst []] := ⟨_, rfl⟩
  have gb5 : b5[b4.length]? = some (.lst []) := by rw [hb5]; exact last_get _ _
  have rb5 := values_shown_at (okn b5 _ gb5)
  rw [show (vals w z []).map D.int = [D.int 0] from rfl] at rb5
  obtain ⟨b6, hb6⟩ : ∃ b6 : VH, b6 = b5 ++ [.lst [.int 0]] := ⟨_, rfl⟩
  obtain ⟨b7, hb7⟩ : ∃ b7 : VH, b7 = b6 ++ [.lst [.int 0]] := ⟨_, rfl⟩
  have gb7a : b7[b5.length]? = some (.lst [.int 0]) := by rw [hb7, hb6]; exact app_get _ (last_get _ _)
  have gb7b : b7[b6.length]? = some (.lst [.int 0]) := by rw [hb7]; exact last_get _ _
  have qb7 : eqF b7 (.ref b5.length) (.ref b6.length) = some true := eq_lists (f := D.int) (l := [0]) (fun i => ⟨_, rfy_int b7 10 i⟩) gb7a gb7b
  refine ⟨b7, ?_⟩
  simp only [body, b_law, List.map_cons, List.map_nil, List.length_cons, List.length_nil, List.replicate, List.nil_append, List.cons_append, Nat.reduceAdd, Nat.reduceSub, runs, c1, c2, c3, c4, c5, c6, c7, c8, c9, c10, c11, c12, c13, c14, R.bind_ok]
  simp only [body, runs, run.eq_1, run.eq_2, run.eq_3, run.eq_4, run.eq_5, run.eq_6, run.eq_9, run.eq_11, ev.eq_1, ev.eq_2, ev.eq_3, ev.eq_4, ev.eq_5, ev.eq_6, ev.eq_7, ev.eq_8, ev.eq_9, ev.eq_10, ev.eq_11, ev.eq_12, ev.eq_13, ev.eq_14, ev.eq_15, ev.eq_16, ev.eq_17, ev.eq_18, ev.eq_19, ev.eq_20, ev.eq_21, ev.eq_22, ev.eq_23, ev.eq_24, evs, evo, evc, asg, asgs, List.map_cons, List.map_nil, List.length_cons, List.length_nil, List.replicate, List.append_nil, List.nil_append, List.cons_append, List.getElem?_cons_zero, List.getElem?_cons_succ, List.set_cons_zero, List.set_cons_succ, R.bind_ok, R.bind_ex, if_true, if_false, intOf_i, lift_some, Option.map_some, slc_tup, cmp_eq, cmp_ne, cmp_in, cmp_nin, cmp_is, cmp_isn, cmp_le, cmp_lt, cmp_ge, cmp_gt, bin_add, bin_addt, bin_sub, bin_mod, tru_bl, brB_true, brB_false, toB_some, Nat.sub_self, Nat.zero_add, Nat.reduceAdd, Nat.reduceSub, Nat.reduceLeDiff, Nat.reduceEqDiff, E.run, E.state_after, E.values_shown, ← hb1, rb1, ← hb2, ← hb3, qb3, ← hb4, rb4, qb4, ← hb5, rb5, ← hb6, ← hb7, qb7]
end Sb

namespace Asm
open PySem PySem.Spec PyProof.Rows L2 Sb
def top (i : Nat) : Stmt := PySem.Challenge.pw_screenbacks_k01_whole_runs.main.body.getD i (.Pass ⟨0, 0, 0, 0⟩)
def fa0 : List He.Fa := [.glo "BackError", .exc "BackError", .glo "BadWay", .exc "BadWay", .glo "BadKeys", .exc "BadKeys", .glo "BadNumber", .exc "BadNumber", .glo "is_int", .glo "check_number", .glo "check_sight", .glo "KEYS", .int "MOST_KEYS" 60, .glo "is_key", .glo "is_row", .glo "check_row", .glo "pushed", .glo "room_of", .glo "first_state", .glo "step_on"]
def fa1 : List He.Fa := [.glo "go_home", .glo "taken", .glo "turned", .glo "step_back", .glo "step_again", .glo "step", .glo "screen_of", .glo "KINDS", .glo "HOMES", .glo "is_word", .glo "is_way", .glo "check_way", .glo "states_of", .glo "screens_of", .glo "run", .glo "states_along", .glo "state_after", .glo "values_shown", .glo "count_done", .glo "_law_start"]
def fa2 : List He.Fa := [.glo "_law_draw", .glo "_law_pick", .glo "_law_way", .glo "_law_row", .glo "_law_put", .glo "_law_move", .glo "_law_back", .glo "_law_again", .glo "_law_change", .glo "_law_step", .glo "_law_along", .glo "_law_screen", .glo "law", .free "ValueError", .free "all", .free "bool", .free "int", .free "isinstance", .free "len", .free "list"]
def fa3 : List He.Fa := [.free "range", .free "str", .free "tuple", .free "zip"]
def fa : List He.Fa := fa0 ++ fa1 ++ fa2 ++ fa3
def d_is_int : He.DefD := ⟨("is_int", none), "is_int", "is_int", defArgs (top 5), defBody (top 5), defScope (top 5), [], []⟩
def d_check_number : He.DefD := ⟨("check_number", none), "check_number", "check_number", defArgs (top 6), defBody (top 6), defScope (top 6), [], []⟩
def d_check_sight : He.DefD := ⟨("check_sight", none), "check_sight", "check_sight", defArgs (top 7), defBody (top 7), defScope (top 7), [], []⟩
def d_is_key : He.DefD := ⟨("is_key", none), "is_key", "is_key", defArgs (top 11), defBody (top 11), defScope (top 11), [], []⟩
def d_is_row : He.DefD := ⟨("is_row", none), "is_row", "is_row", defArgs (top 12), defBody (top 12), defScope (top 12), [], []⟩
def d_check_row : He.DefD := ⟨("check_row", none), "check_row", "check_row", defArgs (top 13), defBody (top 13), defScope (top 13), [], []⟩
def d_pushed : He.DefD := ⟨("pushed", none), "pushed", "pushed", defArgs (top 15), defBody (top 15), defScope (top 15), [], []⟩
def d_room_of : He.DefD := ⟨("room_of", none), "room_of", "room_of", defArgs (top 16), defBody (top 16), defScope (top 16), [], []⟩
def d_first_state : He.DefD := ⟨("first_state", none), "first_state", "first_state", defArgs (top 17), defBody (top 17), defScope (top 17), [], []⟩
def d_step_on : He.DefD := ⟨("step_on", none), "step_on", "step_on", defArgs (top 18), defBody (top 18), defScope (top 18), [], []⟩
def d_go_home : He.DefD := ⟨("go_home", none), "go_home", "go_home", defArgs (top 19), defBody (top 19), defScope (top 19), [], []⟩
def d_taken : He.DefD := ⟨("taken", none), "taken", "taken", defArgs (top 20), defBody (top 20), defScope (top 20), [], []⟩
def d_turned : He.DefD := ⟨("turned", none), "turned", "turned", defArgs (top 21), defBody (top 21), defScope (top 21), [], []⟩
def d_step_back : He.DefD := ⟨("step_back", none), "step_back", "step_back", defArgs (top 22), defBody (top 22), defScope (top 22), [], []⟩
def d_step_again : He.DefD := ⟨("step_again", none), "step_again", "step_again", defArgs (top 23), defBody (top 23), defScope (top 23), [], []⟩
def d_step : He.DefD := ⟨("step", none), "step", "step", defArgs (top 24), defBody (top 24), defScope (top 24), [], []⟩
def d_screen_of : He.DefD := ⟨("screen_of", none), "screen_of", "screen_of", defArgs (top 25), defBody (top 25), defScope (top 25), [], []⟩
def d_is_word : He.DefD := ⟨("is_word", none), "is_word", "is_word", defArgs (top 29), defBody (top 29), defScope (top 29), [], []⟩
def d_is_way : He.DefD := ⟨("is_way", none), "is_way", "is_way", defArgs (top 30), defBody (top 30), defScope (top 30), [], []⟩
def d_check_way : He.DefD := ⟨("check_way", none), "check_way", "check_way", defArgs (top 31), defBody (top 31), defScope (top 31), [], []⟩
def d_states_of : He.DefD := ⟨("states_of", none), "states_of", "states_of", defArgs (top 33), defBody (top 33), defScope (top 33), [], []⟩
def d_screens_of : He.DefD := ⟨("screens_of", none), "screens_of", "screens_of", defArgs (top 34), defBody (top 34), defScope (top 34), [], []⟩
def d_run : He.DefD := ⟨("run", none), "run", "run", defArgs (top 35), defBody (top 35), defScope (top 35), [], []⟩
def d_states_along : He.DefD := ⟨("states_along", none), "states_along", "states_along", defArgs (top 36), defBody (top 36), defScope (top 36), [], []⟩
def d_state_after : He.DefD := ⟨("state_after", none), "state_after", "state_after", defArgs (top 37), defBody (top 37), defScope (top 37), [], []⟩
def d_values_shown : He.DefD := ⟨("values_shown", none), "values_shown", "values_shown", defArgs (top 38), defBody (top 38), defScope (top 38), [], []⟩
def d_count_done : He.DefD := ⟨("count_done", none), "count_done", "count_done", defArgs (top 39), defBody (top 39), defScope (top 39), [], []⟩
def d_law_start : He.DefD := ⟨("_law_start", none), "_law_start", "_law_start", defArgs (top 41), defBody (top 41), defScope (top 41), [], []⟩
def d_law_draw : He.DefD := ⟨("_law_draw", none), "_law_draw", "_law_draw", defArgs (top 42), defBody (top 42), defScope (top 42), [], []⟩
def d_law_pick : He.DefD := ⟨("_law_pick", none), "_law_pick", "_law_pick", defArgs (top 43), defBody (top 43), defScope (top 43), [], []⟩
def d_law_way : He.DefD := ⟨("_law_way", none), "_law_way", "_law_way", defArgs (top 44), defBody (top 44), defScope (top 44), [], []⟩
def d_law_row : He.DefD := ⟨("_law_row", none), "_law_row", "_law_row", defArgs (top 45), defBody (top 45), defScope (top 45), [], []⟩
def d_law_put : He.DefD := ⟨("_law_put", none), "_law_put", "_law_put", defArgs (top 46), defBody (top 46), defScope (top 46), [], []⟩
def d_law_move : He.DefD := ⟨("_law_move", none), "_law_move", "_law_move", defArgs (top 47), defBody (top 47), defScope (top 47), [], []⟩
def d_law_back : He.DefD := ⟨("_law_back", none), "_law_back", "_law_back", defArgs (top 48), defBody (top 48), defScope (top 48), [], []⟩
def d_law_again : He.DefD := ⟨("_law_again", none), "_law_again", "_law_again", defArgs (top 49), defBody (top 49), defScope (top 49), [], []⟩
def d_law_change : He.DefD := ⟨("_law_change", none), "_law_change", "_law_change", defArgs (top 50), defBody (top 50), defScope (top 50), [], []⟩
def d_law_step : He.DefD := ⟨("_law_step", none), "_law_step", "_law_step", defArgs (top 51), defBody (top 51), defScope (top 51), [], []⟩
def d_law_along : He.DefD := ⟨("_law_along", none), "_law_along", "_law_along", defArgs (top 52), defBody (top 52), defScope (top 52), [], []⟩
def d_law_screen : He.DefD := ⟨("_law_screen", none), "_law_screen", "_law_screen", defArgs (top 53), defBody (top 53), defScope (top 53), [], []⟩
def d_law : He.DefD := ⟨("law", none), "law", "law", defArgs (top 54), defBody (top 54), defScope (top 54), [], []⟩
def fn0 : List He.DefD := [d_is_int, d_check_number, d_check_sight, d_is_key, d_is_row, d_check_row, d_pushed, d_room_of, d_first_state, d_step_on, d_go_home, d_taken, d_turned, d_step_back, d_step_again, d_step, d_screen_of, d_is_word, d_is_way, d_check_way]
def fn1 : List He.DefD := [d_states_of, d_screens_of, d_run, d_states_along, d_state_after, d_values_shown, d_count_done, d_law_start, d_law_draw, d_law_pick, d_law_way, d_law_row, d_law_put, d_law_move, d_law_back, d_law_again, d_law_change, d_law_step, d_law_along, d_law_screen]
def fn2 : List He.DefD := [d_law]
def fn : List He.DefD := fn0 ++ fn1 ++ fn2
def ts : List (Str × List Str) := [("KEYS", keysL), ("KINDS", kindsL), ("HOMES", homesL)]
def loose0 : List Str := ["BackError", "BadWay", "BadKeys", "BadNumber", "is_int", "check_number", "check_sight", "is_key", "is_row", "check_row", "pushed", "room_of", "first_state", "step_on", "go_home", "taken", "turned", "step_back", "step_again", "step"]
def loose1 : List Str := ["screen_of", "is_word", "is_way", "check_way", "states_of", "screens_of", "run", "states_along", "state_after", "values_shown", "count_done", "_law_start", "_law_draw", "_law_pick", "_law_way", "_law_row", "_law_put", "_law_move", "_law_back", "_law_again"]
def loose2 : List Str := ["_law_change", "_law_step", "_law_along", "_law_screen", "KEYS", "MOST_KEYS", "KINDS", "HOMES"]
def loose : List Str := loose0 ++ loose1 ++ loose2
abbrev R : PySem.W.OpenRow := PySem.W.OpenLaw.row PySem.Challenge.rw_screenbacks_k01_whole_runs
abbrev hk : PySem.W.Hook := hookX 5 fa fn ts
def ob (s : PySem.W.SharedT) : AlX := obsXG 5 fa fn ts (HandSHeadRun.getT s)
theorem ob_eq (s : PySem.W.SharedT) : ob s = hk.obs s.abs := obsXG_eq (HandSHeadRun.getT_eq s)
theorem run (w : World) : HandSHeadRun.RunEq R (PySem.W.view R.prog [54]) hk ob 40000 loose w := by
  intro os
  kernel_rfl
noncomputable def fnT : List (Str × Ct) := ([("is_int", m_is_int), ("check_number", m_check_number), ("check_sight", m_check_sight), ("is_key", m_is_key), ("is_row", m_is_row), ("check_row", m_check_row), ("pushed", m_pushed), ("room_of", m_room_of), ("first_state", m_first_state), ("step_on", m_step_on), ("go_home", m_go_home), ("taken", m_taken), ("turned", m_turned), ("step_back", m_step_back), ("step_again", m_step_again), ("step", m_step), ("screen_of", m_screen_of), ("is_word", m_is_word), ("is_way", m_is_way), ("check_way", m_check_way)] : List (Str × Ct)) ++ ([("states_of", m_states_of), ("screens_of", m_screens_of), ("run", m_run), ("states_along", m_states_along), ("state_after", m_state_after), ("values_shown", m_values_shown), ("count_done", m_count_done), ("_law_start", m_law_start), ("_law_draw", m_law_draw), ("_law_pick", m_law_pick), ("_law_way", m_law_way), ("_law_row", m_law_row), ("_law_put", m_law_put), ("_law_move", m_law_move), ("_law_back", m_law_back), ("_law_again", m_law_again), ("_law_change", m_law_change), ("_law_step", m_law_step), ("_law_along", m_law_along), ("_law_screen", m_law_screen)] : List (Str × Ct))
def csT : List (Str × D) := [("KEYS", words keysL), ("MOST_KEYS", D.int 60), ("KINDS", words kindsL), ("HOMES", words homesL)]
noncomputable def Γ : Sb.Env := ⟨look fnT, fun _ _ => none, look csT, fun _ _ => none, 0⟩
theorem f_is_int : Γ.fn "is_int" = some m_is_int := by kernel_rfl
theorem f_check_number : Γ.fn "check_number" = some m_check_number := by kernel_rfl
theorem f_check_sight : Γ.fn "check_sight" = some m_check_sight := by kernel_rfl
theorem f_is_key : Γ.fn "is_key" = some m_is_key := by kernel_rfl
theorem f_is_row : Γ.fn "is_row" = some m_is_row := by kernel_rfl
theorem f_check_row : Γ.fn "check_row" = some m_check_row := by kernel_rfl
theorem f_pushed : Γ.fn "pushed" = some m_pushed := by kernel_rfl
theorem f_room_of : Γ.fn "room_of" = some m_room_of := by kernel_rfl
theorem f_first_state : Γ.fn "first_state" = some m_first_state := by kernel_rfl
theorem f_step_on : Γ.fn "step_on" = some m_step_on := by kernel_rfl
theorem f_go_home : Γ.fn "go_home" = some m_go_home := by kernel_rfl
theorem f_taken : Γ.fn "taken" = some m_taken := by kernel_rfl
theorem f_turned : Γ.fn "turned" = some m_turned := by kernel_rfl
theorem f_step_back : Γ.fn "step_back" = some m_step_back := by kernel_rfl
theorem f_step_again : Γ.fn "step_again" = some m_step_again := by kernel_rfl
theorem f_step : Γ.fn "step" = some m_step := by kernel_rfl
theorem f_screen_of : Γ.fn "screen_of" = some m_screen_of := by kernel_rfl
theorem f_is_word : Γ.fn "is_word" = some m_is_word := by kernel_rfl
theorem f_is_way : Γ.fn "is_way" = some m_is_way := by kernel_rfl
theorem f_check_way : Γ.fn "check_way" = some m_check_way := by kernel_rfl
theorem f_states_of : Γ.fn "states_of" = some m_states_of := by kernel_rfl
theorem f_screens_of : Γ.fn "screens_of" = some m_screens_of := by kernel_rfl
theorem f_run : Γ.fn "run" = some m_run := by kernel_rfl
theorem f_states_along : Γ.fn "states_along" = some m_states_along := by kernel_rfl
theorem f_state_after : Γ.fn "state_after" = some m_state_after := by kernel_rfl
theorem f_values_shown : Γ.fn "values_shown" = some m_values_shown := by kernel_rfl
theorem f_count_done : Γ.fn "count_done" = some m_count_done := by kernel_rfl
theorem f_law_start : Γ.fn "_law_start" = some m_law_start := by kernel_rfl
theorem f_law_draw : Γ.fn "_law_draw" = some m_law_draw := by kernel_rfl
theorem f_law_pick : Γ.fn "_law_pick" = some m_law_pick := by kernel_rfl
theorem f_law_way : Γ.fn "_law_way" = some m_law_way := by kernel_rfl
theorem f_law_row : Γ.fn "_law_row" = some m_law_row := by kernel_rfl
theorem f_law_put : Γ.fn "_law_put" = some m_law_put := by kernel_rfl
theorem f_law_move : Γ.fn "_law_move" = some m_law_move := by kernel_rfl
theorem f_law_back : Γ.fn "_law_back" = some m_law_back := by kernel_rfl
theorem f_law_again : Γ.fn "_law_again" = some m_law_again := by kernel_rfl
theorem f_law_change : Γ.fn "_law_change" = some m_law_change := by kernel_rfl
theorem f_law_step : Γ.fn "_law_step" = some m_law_step := by kernel_rfl
theorem f_law_along : Γ.fn "_law_along" = some m_law_along := by kernel_rfl
theorem f_law_screen : Γ.fn "_law_screen" = some m_law_screen := by kernel_rfl
theorem k_KEYS : Γ.cst "KEYS" = some (words keysL) := by kernel_rfl
theorem k_MOST_KEYS : Γ.cst "MOST_KEYS" = some (D.int 60) := by kernel_rfl
theorem k_KINDS : Γ.cst "KINDS" = some (words kindsL) := by kernel_rfl
theorem k_HOMES : Γ.cst "HOMES" = some (words homesL) := by kernel_rfl
noncomputable def G (w : World) (K : PySem.W.Frag) (mg : Str → Option Value) (base : Heap) : GC := ⟨(PySem.Challenge.rw_screenbacks_k01_whole_runs).prog, w, K, mg, base, He.ga K, fun _ => false, Γ⟩
def tb0 : Tab := { fns := [], mts := [], cls := [], exc := (["BackError", "BadWay", "BadKeys", "BadNumber"] : List Str), csts := (["KEYS", "MOST_KEYS", "KINDS", "HOMES"] : List Str), flds := [], blts := (["ValueError", "all", "bool", "int", "isinstance", "len", "list", "range", "str", "tuple", "zip"] : List Str) }
section
variable {w : World} {K : PySem.W.Frag} {mg : Str → Option Value} {base h : Heap}
theorem o_0 (X : K.In h) (G0 : h.Ns mainGlobals mg) (c : SaysX fa fn ts K) : GokS (G w K mg base) tb0 0 where
  fn := al0
  cst := al1 (cst_tup (G := G w K mg base) (c.tab 0 (t := ("KEYS", keysL)) rfl) (He.glo_ok X G0 (c.d.fact 11 (f := .glo "KEYS") rfl)) k_KEYS) (al1 (let ⟨t, q⟩ := He.int_ok X G0 (c.d.fact 12 (f := .int "MOST_KEYS" 60) rfl); cst_int (G := G w K mg base) q k_MOST_KEYS) (al1 (cst_tup (G := G w K mg base) (c.tab 1 (t := ("KINDS", kindsL)) rfl) (He.glo_ok X G0 (c.d.fact 27 (f := .glo "KINDS") rfl)) k_KINDS) (al1 (cst_tup (G := G w K mg base) (c.tab 2 (t := ("HOMES", homesL)) rfl) (He.glo_ok X G0 (c.d.fact 28 (f := .glo "HOMES") rfl)) k_HOMES) (al0))))
  blt := al1 (He.free_ok X G0 (c.d.fact 53 (f := .free "ValueError") rfl)) (al1 (He.free_ok X G0 (c.d.fact 54 (f := .free "all") rfl)) (al1 (He.free_ok X G0 (c.d.fact 55 (f := .free "bool") rfl)) (al1 (He.free_ok X G0 (c.d.fact 56 (f := .free "int") rfl)) (al1 (He.free_ok X G0 (c.d.fact 57 (f := .free "isinstance") rfl)) (al1 (He.free_ok X G0 (c.d.fact 58 (f := .free "len") rfl)) (al1 (He.free_ok X G0 (c.d.fact 59 (f := .free "list") rfl)) (al1 (He.free_ok X G0 (c.d.fact 60 (f := .free "range") rfl)) (al1 (He.free_ok X G0 (c.d.fact 61 (f := .free "str") rfl)) (al1 (He.free_ok X G0 (c.d.fact 62 (f := .free "tuple") rfl)) (al1 (He.free_ok X G0 (c.d.fact 63 (f := .free "zip") rfl)) (al0)))))))))))
  exc := al1 (let q := He.exc_ok (c.d.fact 1 (f := .exc "BackError") rfl); ⟨q.1, q.2.1, q.2.2.1, q.2.2.2, He.glo_ok X G0 (c.d.fact 0 (f := .glo "BackError") rfl)⟩) (al1 (let q := He.exc_ok (c.d.fact 3 (f := .exc "BadWay") rfl); ⟨q.1, q.2.1, q.2.2.1, q.2.2.2, He.glo_ok X G0 (c.d.fact 2 (f := .glo "BadWay") rfl)⟩) (al1 (let q := He.exc_ok (c.d.fact 5 (f := .exc "BadKeys") rfl); ⟨q.1, q.2.1, q.2.2.1, q.2.2.2, He.glo_ok X G0 (c.d.fact 4 (f := .glo "BadKeys") rfl)⟩) (al1 (let q := He.exc_ok (c.d.fact 7 (f := .exc "BadNumber") rfl); ⟨q.1, q.2.1, q.2.2.1, q.2.2.2, He.glo_ok X G0 (c.d.fact 6 (f := .glo "BadNumber") rfl)⟩) (al0))))
theorem s_is_int : FnScope (["value", "low", "high"] : List Str) (["value", "low", "high"] : List Str) (defScope (top 5)) := ⟨rfl, rfl, rfl, by decide +kernel, rfl, by decide +kernel, by decide +kernel⟩
theorem c_is_int : cSs tb0 (["value", "low", "high"] : List Str) 60 (defScope (top 5)) (defBody (top 5)) = some b_is_int := by kernel_rfl
def tb1 : Tab := { tb0 with fns := "is_int" :: tb0.fns }
theorem o_1 (X : K.In h) (G0 : h.Ns mainGlobals mg) (c : SaysX fa fn ts K) : GokS (G w K mg base) tb1 1 := by
  obtain ⟨fd, F0⟩ := c.d.def_ 0 (d := d_is_int) rfl
  have F : FunD K "is_int" "is_int" (defArgs (top 5)) (defBody (top 5)) (defScope (top 5)) [] [] (He.ga K "is_int") fd := F0
  exact (o_0 X G0 c).step F s_is_int c_is_int (is_int_ct Γ ) f_is_int (He.glo_ok X G0 (c.d.fact 8 (f := .glo "is_int") rfl)) (F.bindsN fun _ _ _ _ _ _ us hl => match us, hl with | [_, _, _], _ => by kernel_rfl)
theorem s_check_number : FnScope (["value", "low", "high"] : List Str) (["value", "low", "high"] : List Str) (defScope (top 6)) := ⟨rfl, rfl, rfl, by decide +kernel, rfl, by decide +kernel, by decide +kernel⟩
theorem c_check_number : cSs tb1 (["value", "low", "high"] : List Str) 60 (defScope (top 6)) (defBody (top 6)) = some b_check_number := by kernel_rfl
def tb2 : Tab := { tb1 with fns := "check_number" :: tb1.fns }
theorem o_2 (X : K.In h) (G0 : h.Ns mainGlobals mg) (c : SaysX fa fn ts K) : GokS (G w K mg base) tb2 2 := by
  obtain ⟨fd, F0⟩ := c.d.def_ 1 (d := d_check_number) rfl
  have F : FunD K "check_number" "check_number" (defArgs (top 6)) (defBody (top 6)) (defScope (top 6)) [] [] (He.ga K "check_number") fd := F0
  exact (o_1 X G0 c).step F s_check_number c_check_number (check_number_ct Γ f_is_int) f_check_number (He.glo_ok X G0 (c.d.fact 9 (f := .glo "check_number") rfl)) (F.bindsN fun _ _ _ _ _ _ us hl => match us, hl with | [_, _, _], _ => by kernel_rfl)
theorem s_check_sight : FnScope (["value"] : List Str) (["value"] : List Str) (defScope (top 7)) := ⟨rfl, rfl, rfl, by decide +kernel, rfl, by decide +kernel, by decide +kernel⟩
theorem c_check_sight : cSs tb2 (["value"] : List Str) 60 (defScope (top 7)) (defBody (top 7)) = some b_check_sight := by kernel_rfl
def tb3 : Tab := { tb2 with fns := "check_sight" :: tb2.fns }
theorem o_3 (X : K.In h) (G0 : h.Ns mainGlobals mg) (c : SaysX fa fn ts K) : GokS (G w K mg base) tb3 3 := by
  obtain ⟨fd, F0⟩ := c.d.def_ 2 (d := d_check_sight) rfl
  have F : FunD K "check_sight" "check_sight" (defArgs (top 7)) (defBody (top 7)) (defScope (top 7)) [] [] (He.ga K "check_sight") fd := F0
  exact (o_2 X G0 c).step F s_check_sight c_check_sight (check_sight_ct Γ f_check_number) f_check_sight (He.glo_ok X G0 (c.d.fact 10 (f := .glo "check_sight") rfl)) (F.bindsN fun _ _ _ _ _ _ us hl => match us, hl with | [_], _ => by kernel_rfl)
theorem s_is_key : FnScope (["value"] : List Str) (["value"] : List Str) (defScope (top 11)) := ⟨rfl, rfl, rfl, by decide +kernel, rfl, by decide +kernel, by decide +kernel⟩
theorem c_is_key : cSs tb3 (["value"] : List Str) 60 (defScope (top 11)) (defBody (top 11)) = some b_is_key := by kernel_rfl
def tb4 : Tab := { tb3 with fns := "is_key" :: tb3.fns }
theorem o_4 (X : K.In h) (G0 : h.Ns mainGlobals mg) (c : SaysX fa fn ts K) : GokS (G w K mg base) tb4 4 := by
  obtain ⟨fd, F0⟩ := c.d.def_ 3 (d := d_is_key) rfl
  have F : FunD K "is_key" "is_key" (defArgs (top 11)) (defBody (top 11)) (defScope (top 11)) [] [] (He.ga K "is_key") fd := F0
  exact (o_3 X G0 c).step F s_is_key c_is_key (is_key_ct Γ k_KEYS) f_is_key (He.glo_ok X G0 (c.d.fact 13 (f := .glo "is_key") rfl)) (F.bindsN fun _ _ _ _ _ _ us hl => match us, hl with | [_], _ => by kernel_rfl)
theorem s_is_row : FnScope (["value", "one"] : List Str) (["value"] : List Str) (defScope (top 12)) := ⟨rfl, rfl, rfl, by decide +kernel, rfl, by decide +kernel, by decide +kernel⟩
theorem c_is_row : cSs tb4 (["value", "one"] : List Str) 60 (defScope (top 12)) (defBody (top 12)) = some b_is_row := by kernel_rfl
def tb5 : Tab := { tb4 with fns := "is_row" :: tb4.fns }
theorem o_5 (X : K.In h) (G0 : h.Ns mainGlobals mg) (c : SaysX fa fn ts K) : GokS (G w K mg base) tb5 5 := by
  obtain ⟨fd, F0⟩ := c.d.def_ 4 (d := d_is_row) rfl
  have F : FunD K "is_row" "is_row" (defArgs (top 12)) (defBody (top 12)) (defScope (top 12)) [] [] (He.ga K "is_row") fd := F0
  exact (o_4 X G0 c).step F s_is_row c_is_row (is_row_ct Γ f_is_key k_MOST_KEYS) f_is_row (He.glo_ok X G0 (c.d.fact 14 (f := .glo "is_row") rfl)) (F.bindsN fun _ _ _ _ _ _ us hl => match us, hl with | [_], _ => by kernel_rfl)
theorem s_check_row : FnScope (["value"] : List Str) (["value"] : List Str) (defScope (top 13)) := ⟨rfl, rfl, rfl, by decide +kernel, rfl, by decide +kernel, by decide +kernel⟩
theorem c_check_row : cSs tb5 (["value"] : List Str) 60 (defScope (top 13)) (defBody (top 13)) = some b_check_row := by kernel_rfl
def tb6 : Tab := { tb5 with fns := "check_row" :: tb5.fns }
theorem o_6 (X : K.In h) (G0 : h.Ns mainGlobals mg) (c : SaysX fa fn ts K) : GokS (G w K mg base) tb6 6 := by
  obtain ⟨fd, F0⟩ := c.d.def_ 5 (d := d_check_row) rfl
  have F : FunD K "check_row" "check_row" (defArgs (top 13)) (defBody (top 13)) (defScope (top 13)) [] [] (He.ga K "check_row") fd := F0
  exact (o_5 X G0 c).step F s_check_row c_check_row (check_row_ct Γ f_is_row) f_check_row (He.glo_ok X G0 (c.d.fact 15 (f := .glo "check_row") rfl)) (F.bindsN fun _ _ _ _ _ _ us hl => match us, hl with | [_], _ => by kernel_rfl)
theorem s_pushed : FnScope (["values", "value", "room"] : List Str) (["values", "value", "room"] : List Str) (defScope (top 15)) := ⟨rfl, rfl, rfl, by decide +kernel, rfl, by decide +kernel, by decide +kernel⟩
theorem c_pushed : cSs tb6 (["values", "value", "room"] : List Str) 60 (defScope (top 15)) (defBody (top 15)) = some b_pushed := by kernel_rfl
def tb7 : Tab := { tb6 with fns := "pushed" :: tb6.fns }
theorem o_7 (X : K.In h) (G0 : h.Ns mainGlobals mg) (c : SaysX fa fn ts K) : GokS (G w K mg base) tb7 7 := by
  obtain ⟨fd, F0⟩ := c.d.def_ 6 (d := d_pushed) rfl
  have F : FunD K "pushed" "pushed" (defArgs (top 15)) (defBody (top 15)) (defScope (top 15)) [] [] (He.ga K "pushed") fd := F0
  exact (o_6 X G0 c).step F s_pushed c_pushed (pushed_ct Γ ) f_pushed (He.glo_ok X G0 (c.d.fact 16 (f := .glo "pushed") rfl)) (F.bindsN fun _ _ _ _ _ _ us hl => match us, hl with | [_, _, _], _ => by kernel_rfl)
theorem s_room_of : FnScope (["way"] : List Str) (["way"] : List Str) (defScope (top 16)) := ⟨rfl, rfl, rfl, by decide +kernel, rfl, by decide +kernel, by decide +kernel⟩
theorem c_room_of : cSs tb7 (["way"] : List Str) 60 (defScope (top 16)) (defBody (top 16)) = some b_room_of := by kernel_rfl
def tb8 : Tab := { tb7 with fns := "room_of" :: tb7.fns }
theorem o_8 (X : K.In h) (G0 : h.Ns mainGlobals mg) (c : SaysX fa fn ts K) : GokS (G w K mg base) tb8 8 := by
  obtain ⟨fd, F0⟩ := c.d.def_ 7 (d := d_room_of) rfl
  have F : FunD K "room_of" "room_of" (defArgs (top 16)) (defBody (top 16)) (defScope (top 16)) [] [] (He.ga K "room_of") fd := F0
  exact (o_7 X G0 c).step F s_room_of c_room_of (room_of_ct Γ ) f_room_of (He.glo_ok X G0 (c.d.fact 17 (f := .glo "room_of") rfl)) (F.bindsN fun _ _ _ _ _ _ us hl => match us, hl with | [_], _ => by kernel_rfl)
theorem s_first_state : FnScope ([] : List Str) ([] : List Str) (defScope (top 17)) := ⟨rfl, rfl, rfl, by decide +kernel, rfl, by decide +kernel, by decide +kernel⟩
theorem c_first_state : cSs tb8 ([] : List Str) 60 (defScope (top 17)) (defBody (top 17)) = some b_first_state := by kernel_rfl
def tb9 : Tab := { tb8 with fns := "first_state" :: tb8.fns }
theorem o_9 (X : K.In h) (G0 : h.Ns mainGlobals mg) (c : SaysX fa fn ts K) : GokS (G w K mg base) tb9 9 := by
  obtain ⟨fd, F0⟩ := c.d.def_ 8 (d := d_first_state) rfl
  have F : FunD K "first_state" "first_state" (defArgs (top 17)) (defBody (top 17)) (defScope (top 17)) [] [] (He.ga K "first_state") fd := F0
  exact (o_8 X G0 c).step F s_first_state c_first_state (first_state_ct Γ ) f_first_state (He.glo_ok X G0 (c.d.fact 18 (f := .glo "first_state") rfl)) (F.bindsN fun _ _ _ _ _ _ us hl => match us, hl with | [], _ => by kernel_rfl)
theorem s_step_on : FnScope (["way", "size", "state", "value", "mark", "first", "second", "flag", "joins"] : List Str) (["way", "size", "state"] : List Str) (defScope (top 18)) := ⟨rfl, rfl, rfl, by decide +kernel, rfl, by decide +kernel, by decide +kernel⟩
theorem c_step_on : cSs tb9 (["way", "size", "state", "value", "mark", "first", "second", "flag", "joins"] : List Str) 60 (defScope (top 18)) (defBody (top 18)) = some b_step_on := by kernel_rfl
def tb10 : Tab := { tb9 with fns := "step_on" :: tb9.fns }
theorem o_10 (X : K.In h) (G0 : h.Ns mainGlobals mg) (c : SaysX fa fn ts K) : GokS (G w K mg base) tb10 10 := by
  obtain ⟨fd, F0⟩ := c.d.def_ 9 (d := d_step_on) rfl
  have F : FunD K "step_on" "step_on" (defArgs (top 18)) (defBody (top 18)) (defScope (top 18)) [] [] (He.ga K "step_on") fd := F0
  exact (o_9 X G0 c).step F s_step_on c_step_on (step_on_ct Γ f_pushed f_room_of) f_step_on (He.glo_ok X G0 (c.d.fact 19 (f := .glo "step_on") rfl)) (F.bindsN fun _ _ _ _ _ _ us hl => match us, hl with | [_, _, _], _ => by kernel_rfl)
theorem s_go_home : FnScope (["way", "state", "value", "mark", "first", "second", "flag"] : List Str) (["way", "state"] : List Str) (defScope (top 19)) := ⟨rfl, rfl, rfl, by decide +kernel, rfl, by decide +kernel, by decide +kernel⟩
theorem c_go_home : cSs tb10 (["way", "state", "value", "mark", "first", "second", "flag"] : List Str) 60 (defScope (top 19)) (defBody (top 19)) = some b_go_home := by kernel_rfl
def tb11 : Tab := { tb10 with fns := "go_home" :: tb10.fns }
theorem o_11 (X : K.In h) (G0 : h.Ns mainGlobals mg) (c : SaysX fa fn ts K) : GokS (G w K mg base) tb11 11 := by
  obtain ⟨fd, F0⟩ := c.d.def_ 10 (d := d_go_home) rfl
  have F : FunD K "go_home" "go_home" (defArgs (top 19)) (defBody (top 19)) (defScope (top 19)) [] [] (He.ga K "go_home") fd := F0
  exact (o_10 X G0 c).step F s_go_home c_go_home (go_home_ct Γ f_pushed f_room_of) f_go_home (He.glo_ok X G0 (c.d.fact 20 (f := .glo "go_home") rfl)) (F.bindsN fun _ _ _ _ _ _ us hl => match us, hl with | [_, _], _ => by kernel_rfl)
theorem s_taken : FnScope (["state", "room", "value", "mark", "first", "second", "flag"] : List Str) (["state", "room"] : List Str) (defScope (top 20)) := ⟨rfl, rfl, rfl, by decide +kernel, rfl, by decide +kernel, by decide +kernel⟩
theorem c_taken : cSs tb11 (["state", "room", "value", "mark", "first", "second", "flag"] : List Str) 60 (defScope (top 20)) (defBody (top 20)) = some b_taken := by kernel_rfl
def tb12 : Tab := { tb11 with fns := "taken" :: tb11.fns }
theorem o_12 (X : K.In h) (G0 : h.Ns mainGlobals mg) (c : SaysX fa fn ts K) : GokS (G w K mg base) tb12 12 := by
  obtain ⟨fd, F0⟩ := c.d.def_ 11 (d := d_taken) rfl
  have F : FunD K "taken" "taken" (defArgs (top 20)) (defBody (top 20)) (defScope (top 20)) [] [] (He.ga K "taken") fd := F0
  exact (o_11 X G0 c).step F s_taken c_taken (taken_ct Γ f_pushed) f_taken (He.glo_ok X G0 (c.d.fact 21 (f := .glo "taken") rfl)) (F.bindsN fun _ _ _ _ _ _ us hl => match us, hl with | [_, _], _ => by kernel_rfl)
theorem s_turned : FnScope (["state", "value", "mark", "first", "second", "flag"] : List Str) (["state"] : List Str) (defScope (top 21)) := ⟨rfl, rfl, rfl, by decide +kernel, rfl, by decide +kernel, by decide +kernel⟩
theorem c_turned : cSs tb12 (["state", "value", "mark", "first", "second", "flag"] : List Str) 60 (defScope (top 21)) (defBody (top 21)) = some b_turned := by kernel_rfl
def tb13 : Tab := { tb12 with fns := "turned" :: tb12.fns }
theorem o_13 (X : K.In h) (G0 : h.Ns mainGlobals mg) (c : SaysX fa fn ts K) : GokS (G w K mg base) tb13 13 := by
  obtain ⟨fd, F0⟩ := c.d.def_ 12 (d := d_turned) rfl
  have F : FunD K "turned" "turned" (defArgs (top 21)) (defBody (top 21)) (defScope (top 21)) [] [] (He.ga K "turned") fd := F0
  exact (o_12 X G0 c).step F s_turned c_turned (turned_ct Γ ) f_turned (He.glo_ok X G0 (c.d.fact 22 (f := .glo "turned") rfl)) (F.bindsN fun _ _ _ _ _ _ us hl => match us, hl with | [_], _ => by kernel_rfl)
theorem s_step_back : FnScope (["way", "state", "value", "mark", "first", "second", "flag"] : List Str) (["way", "state"] : List Str) (defScope (top 22)) := ⟨rfl, rfl, rfl, by decide +kernel, rfl, by decide +kernel, by decide +kernel⟩
theorem c_step_back : cSs tb13 (["way", "state", "value", "mark", "first", "second", "flag"] : List Str) 60 (defScope (top 22)) (defBody (top 22)) = some b_step_back := by kernel_rfl
def tb14 : Tab := { tb13 with fns := "step_back" :: tb13.fns }
theorem o_14 (X : K.In h) (G0 : h.Ns mainGlobals mg) (c : SaysX fa fn ts K) : GokS (G w K mg base) tb14 14 := by
  obtain ⟨fd, F0⟩ := c.d.def_ 13 (d := d_step_back) rfl
  have F : FunD K "step_back" "step_back" (defArgs (top 22)) (defBody (top 22)) (defScope (top 22)) [] [] (He.ga K "step_back") fd := F0
  exact (o_13 X G0 c).step F s_step_back c_step_back (step_back_ct Γ f_pushed f_taken) f_step_back (He.glo_ok X G0 (c.d.fact 23 (f := .glo "step_back") rfl)) (F.bindsN fun _ _ _ _ _ _ us hl => match us, hl with | [_, _], _ => by kernel_rfl)
theorem s_step_again : FnScope (["way", "state"] : List Str) (["way", "state"] : List Str) (defScope (top 23)) := ⟨rfl, rfl, rfl, by decide +kernel, rfl, by decide +kernel, by decide +kernel⟩
theorem c_step_again : cSs tb14 (["way", "state"] : List Str) 60 (defScope (top 23)) (defBody (top 23)) = some b_step_again := by kernel_rfl
def tb15 : Tab := { tb14 with fns := "step_again" :: tb14.fns }
theorem o_15 (X : K.In h) (G0 : h.Ns mainGlobals mg) (c : SaysX fa fn ts K) : GokS (G w K mg base) tb15 15 := by
  obtain ⟨fd, F0⟩ := c.d.def_ 14 (d := d_step_again) rfl
  have F : FunD K "step_again" "step_again" (defArgs (top 23)) (defBody (top 23)) (defScope (top 23)) [] [] (He.ga K "step_again") fd := F0
  exact (o_14 X G0 c).step F s_step_again c_step_again (step_again_ct Γ f_turned f_taken f_step_back) f_step_again (He.glo_ok X G0 (c.d.fact 24 (f := .glo "step_again") rfl)) (F.bindsN fun _ _ _ _ _ _ us hl => match us, hl with | [_, _], _ => by kernel_rfl)
theorem s_step : FnScope (["way", "size", "state", "key", "value", "mark", "first", "second", "flag"] : List Str) (["way", "size", "state", "key"] : List Str) (defScope (top 24)) := ⟨rfl, rfl, rfl, by decide +kernel, rfl, by decide +kernel, by decide +kernel⟩
theorem c_step : cSs tb15 (["way", "size", "state", "key", "value", "mark", "first", "second", "flag"] : List Str) 60 (defScope (top 24)) (defBody (top 24)) = some b_step := by kernel_rfl
def tb16 : Tab := { tb15 with fns := "step" :: tb15.fns }
theorem o_16 (X : K.In h) (G0 : h.Ns mainGlobals mg) (c : SaysX fa fn ts K) : GokS (G w K mg base) tb16 16 := by
  obtain ⟨fd, F0⟩ := c.d.def_ 15 (d := d_step) rfl
  have F : FunD K "step" "step" (defArgs (top 24)) (defBody (top 24)) (defScope (top 24)) [] [] (He.ga K "step") fd := F0
  exact (o_15 X G0 c).step F s_step c_step (step_ct Γ f_step_on f_step_back f_step_again f_go_home) f_step (He.glo_ok X G0 (c.d.fact 25 (f := .glo "step") rfl)) (F.bindsN fun _ _ _ _ _ _ us hl => match us, hl with | [_, _, _, _], _ => by kernel_rfl)
theorem s_screen_of : FnScope (["way", "sight", "state", "value", "mark", "first", "second", "flag", "lit"] : List Str) (["way", "sight", "state"] : List Str) (defScope (top 25)) := ⟨rfl, rfl, rfl, by decide +kernel, rfl, by decide +kernel, by decide +kernel⟩
theorem c_screen_of : cSs tb16 (["way", "sight", "state", "value", "mark", "first", "second", "flag", "lit"] : List Str) 60 (defScope (top 25)) (defBody (top 25)) = some b_screen_of := by kernel_rfl
def tb17 : Tab := { tb16 with fns := "screen_of" :: tb16.fns }
theorem o_17 (X : K.In h) (G0 : h.Ns mainGlobals mg) (c : SaysX fa fn ts K) : GokS (G w K mg base) tb17 17 := by
  obtain ⟨fd, F0⟩ := c.d.def_ 16 (d := d_screen_of) rfl
  have F : FunD K "screen_of" "screen_of" (defArgs (top 25)) (defBody (top 25)) (defScope (top 25)) [] [] (He.ga K "screen_of") fd := F0
  exact (o_16 X G0 c).step F s_screen_of c_screen_of (screen_of_ct Γ ) f_screen_of (He.glo_ok X G0 (c.d.fact 26 (f := .glo "screen_of") rfl)) (F.bindsN fun _ _ _ _ _ _ us hl => match us, hl with | [_, _, _], _ => by kernel_rfl)
theorem s_is_word : FnScope (["value", "words"] : List Str) (["value", "words"] : List Str) (defScope (top 29)) := ⟨rfl, rfl, rfl, by decide +kernel, rfl, by decide +kernel, by decide +kernel⟩
theorem c_is_word : cSs tb17 (["value", "words"] : List Str) 60 (defScope (top 29)) (defBody (top 29)) = some b_is_word := by kernel_rfl
def tb18 : Tab := { tb17 with fns := "is_word" :: tb17.fns }
theorem o_18 (X : K.In h) (G0 : h.Ns mainGlobals mg) (c : SaysX fa fn ts K) : GokS (G w K mg base) tb18 18 := by
  obtain ⟨fd, F0⟩ := c.d.def_ 17 (d := d_is_word) rfl
  have F : FunD K "is_word" "is_word" (defArgs (top 29)) (defBody (top 29)) (defScope (top 29)) [] [] (He.ga K "is_word") fd := F0
  exact (o_17 X G0 c).step F s_is_word c_is_word (is_word_ct Γ ) f_is_word (He.glo_ok X G0 (c.d.fact 29 (f := .glo "is_word") rfl)) (F.bindsN fun _ _ _ _ _ _ us hl => match us, hl with | [_, _], _ => by kernel_rfl)
theorem s_is_way : FnScope (["value"] : List Str) (["value"] : List Str) (defScope (top 30)) := ⟨rfl, rfl, rfl, by decide +kernel, rfl, by decide +kernel, by decide +kernel⟩
theorem c_is_way : cSs tb18 (["value"] : List Str) 60 (defScope (top 30)) (defBody (top 30)) = some b_is_way := by kernel_rfl
def tb19 : Tab := { tb18 with fns := "is_way" :: tb18.fns }
theorem o_19 (X : K.In h) (G0 : h.Ns mainGlobals mg) (c : SaysX fa fn ts K) : GokS (G w K mg base) tb19 19 := by
  obtain ⟨fd, F0⟩ := c.d.def_ 18 (d := d_is_way) rfl
  have F : FunD K "is_way" "is_way" (defArgs (top 30)) (defBody (top 30)) (defScope (top 30)) [] [] (He.ga K "is_way") fd := F0
  exact (o_18 X G0 c).step F s_is_way c_is_way (is_way_ct Γ f_is_word f_is_int k_HOMES k_KINDS) f_is_way (He.glo_ok X G0 (c.d.fact 30 (f := .glo "is_way") rfl)) (F.bindsN fun _ _ _ _ _ _ us hl => match us, hl with | [_], _ => by kernel_rfl)
theorem s_check_way : FnScope (["value"] : List Str) (["value"] : List Str) (defScope (top 31)) := ⟨rfl, rfl, rfl, by decide +kernel, rfl, by decide +kernel, by decide +kernel⟩
theorem c_check_way : cSs tb19 (["value"] : List Str) 60 (defScope (top 31)) (defBody (top 31)) = some b_check_way := by kernel_rfl
def tb20 : Tab := { tb19 with fns := "check_way" :: tb19.fns }
theorem o_20 (X : K.In h) (G0 : h.Ns mainGlobals mg) (c : SaysX fa fn ts K) : GokS (G w K mg base) tb20 20 := by
  obtain ⟨fd, F0⟩ := c.d.def_ 19 (d := d_check_way) rfl
  have F : FunD K "check_way" "check_way" (defArgs (top 31)) (defBody (top 31)) (defScope (top 31)) [] [] (He.ga K "check_way") fd := F0
  exact (o_19 X G0 c).step F s_check_way c_check_way (check_way_ct Γ f_is_way) f_check_way (He.glo_ok X G0 (c.d.fact 31 (f := .glo "check_way") rfl)) (F.bindsN fun _ _ _ _ _ _ us hl => match us, hl with | [_], _ => by kernel_rfl)
theorem s_states_of : FnScope (["way", "size", "row", "found", "key"] : List Str) (["way", "size", "row"] : List Str) (defScope (top 33)) := ⟨rfl, rfl, rfl, by decide +kernel, rfl, by decide +kernel, by decide +kernel⟩
theorem c_states_of : cSs tb20 (["way", "size", "row", "found", "key"] : List Str) 60 (defScope (top 33)) (defBody (top 33)) = some b_states_of := by kernel_rfl
def tb21 : Tab := { tb20 with fns := "states_of" :: tb20.fns }
theorem o_21 (X : K.In h) (G0 : h.Ns mainGlobals mg) (c : SaysX fa fn ts K) : GokS (G w K mg base) tb21 21 := by
  obtain ⟨fd, F0⟩ := c.d.def_ 20 (d := d_states_of) rfl
  have F : FunD K "states_of" "states_of" (defArgs (top 33)) (defBody (top 33)) (defScope (top 33)) [] [] (He.ga K "states_of") fd := F0
  exact (o_20 X G0 c).step F s_states_of c_states_of (states_of_ct Γ f_first_state f_step) f_states_of (He.glo_ok X G0 (c.d.fact 32 (f := .glo "states_of") rfl)) (F.bindsN fun _ _ _ _ _ _ us hl => match us, hl with | [_, _, _], _ => by kernel_rfl)
theorem s_screens_of : FnScope (["way", "size", "sight", "row", "state"] : List Str) (["way", "size", "sight", "row"] : List Str) (defScope (top 34)) := ⟨rfl, rfl, rfl, by decide +kernel, rfl, by decide +kernel, by decide +kernel⟩
theorem c_screens_of : cSs tb21 (["way", "size", "sight", "row", "state"] : List Str) 60 (defScope (top 34)) (defBody (top 34)) = some b_screens_of := by kernel_rfl
def tb22 : Tab := { tb21 with fns := "screens_of" :: tb21.fns }
theorem o_22 (X : K.In h) (G0 : h.Ns mainGlobals mg) (c : SaysX fa fn ts K) : GokS (G w K mg base) tb22 22 := by
  obtain ⟨fd, F0⟩ := c.d.def_ 21 (d := d_screens_of) rfl
  have F : FunD K "screens_of" "screens_of" (defArgs (top 34)) (defBody (top 34)) (defScope (top 34)) [] [] (He.ga K "screens_of") fd := F0
  exact (o_21 X G0 c).step F s_screens_of c_screens_of (screens_of_ct Γ f_states_of f_screen_of) f_screens_of (He.glo_ok X G0 (c.d.fact 33 (f := .glo "screens_of") rfl)) (F.bindsN fun _ _ _ _ _ _ us hl => match us, hl with | [_, _, _, _], _ => by kernel_rfl)
theorem s_run : FnScope (["way", "size", "sight", "row"] : List Str) (["way", "size", "sight", "row"] : List Str) (defScope (top 35)) := ⟨rfl, rfl, rfl, by decide +kernel, rfl, by decide +kernel, by decide +kernel⟩
theorem c_run : cSs tb22 (["way", "size", "sight", "row"] : List Str) 60 (defScope (top 35)) (defBody (top 35)) = some b_run := by kernel_rfl
def tb23 : Tab := { tb22 with fns := "run" :: tb22.fns }
theorem o_23 (X : K.In h) (G0 : h.Ns mainGlobals mg) (c : SaysX fa fn ts K) : GokS (G w K mg base) tb23 23 := by
  obtain ⟨fd, F0⟩ := c.d.def_ 22 (d := d_run) rfl
  have F : FunD K "run" "run" (defArgs (top 35)) (defBody (top 35)) (defScope (top 35)) [] [] (He.ga K "run") fd := F0
  exact (o_22 X G0 c).step F s_run c_run (run_ct Γ f_check_way f_check_number f_check_sight f_check_row f_screens_of) f_run (He.glo_ok X G0 (c.d.fact 34 (f := .glo "run") rfl)) (F.bindsN fun _ _ _ _ _ _ us hl => match us, hl with | [_, _, _, _], _ => by kernel_rfl)
theorem s_states_along : FnScope (["way", "size", "row"] : List Str) (["way", "size", "row"] : List Str) (defScope (top 36)) := ⟨rfl, rfl, rfl, by decide +kernel, rfl, by decide +kernel, by decide +kernel⟩
theorem c_states_along : cSs tb23 (["way", "size", "row"] : List Str) 60 (defScope (top 36)) (defBody (top 36)) = some b_states_along := by kernel_rfl
def tb24 : Tab := { tb23 with fns := "states_along" :: tb23.fns }
theorem o_24 (X : K.In h) (G0 : h.Ns mainGlobals mg) (c : SaysX fa fn ts K) : GokS (G w K mg base) tb24 24 := by
  obtain ⟨fd, F0⟩ := c.d.def_ 23 (d := d_states_along) rfl
  have F : FunD K "states_along" "states_along" (defArgs (top 36)) (defBody (top 36)) (defScope (top 36)) [] [] (He.ga K "states_along") fd := F0
  exact (o_23 X G0 c).step F s_states_along c_states_along (states_along_ct Γ f_check_way f_check_number f_check_row f_states_of) f_states_along (He.glo_ok X G0 (c.d.fact 35 (f := .glo "states_along") rfl)) (F.bindsN fun _ _ _ _ _ _ us hl => match us, hl with | [_, _, _], _ => by kernel_rfl)
theorem s_state_after : FnScope (["way", "size", "row"] : List Str) (["way", "size", "row"] : List Str) (defScope (top 37)) := ⟨rfl, rfl, rfl, by decide +kernel, rfl, by decide +kernel, by decide +kernel⟩
theorem c_state_after : cSs tb24 (["way", "size", "row"] : List Str) 60 (defScope (top 37)) (defBody (top 37)) = some b_state_after := by kernel_rfl
def tb25 : Tab := { tb24 with fns := "state_after" :: tb24.fns }
theorem o_25 (X : K.In h) (G0 : h.Ns mainGlobals mg) (c : SaysX fa fn ts K) : GokS (G w K mg base) tb25 25 := by
  obtain ⟨fd, F0⟩ := c.d.def_ 24 (d := d_state_after) rfl
  have F : FunD K "state_after" "state_after" (defArgs (top 37)) (defBody (top 37)) (defScope (top 37)) [] [] (He.ga K "state_after") fd := F0
  exact (o_24 X G0 c).step F s_state_after c_state_after (state_after_ct Γ f_states_along) f_state_after (He.glo_ok X G0 (c.d.fact 36 (f := .glo "state_after") rfl)) (F.bindsN fun _ _ _ _ _ _ us hl => match us, hl with | [_, _, _], _ => by kernel_rfl)
theorem s_values_shown : FnScope (["way", "size", "row", "state"] : List Str) (["way", "size", "row"] : List Str) (defScope (top 38)) := ⟨rfl, rfl, rfl, by decide +kernel, rfl, by decide +kernel, by decide +kernel⟩
theorem c_values_shown : cSs tb25 (["way", "size", "row", "state"] : List Str) 60 (defScope (top 38)) (defBody (top 38)) = some b_values_shown := by kernel_rfl
def tb26 : Tab := { tb25 with fns := "values_shown" :: tb25.fns }
theorem o_26 (X : K.In h) (G0 : h.Ns mainGlobals mg) (c : SaysX fa fn ts K) : GokS (G w K mg base) tb26 26 := by
  obtain ⟨fd, F0⟩ := c.d.def_ 25 (d := d_values_shown) rfl
  have F : FunD K "values_shown" "values_shown" (defArgs (top 38)) (defBody (top 38)) (defScope (top 38)) [] [] (He.ga K "values_shown") fd := F0
  exact (o_25 X G0 c).step F s_values_shown c_values_shown (values_shown_ct Γ f_states_along) f_values_shown (He.glo_ok X G0 (c.d.fact 37 (f := .glo "values_shown") rfl)) (F.bindsN fun _ _ _ _ _ _ us hl => match us, hl with | [_, _, _], _ => by kernel_rfl)
theorem s_count_done : FnScope (["way", "size", "row", "values", "one", "other"] : List Str) (["way", "size", "row"] : List Str) (defScope (top 39)) := ⟨rfl, rfl, rfl, by decide +kernel, rfl, by decide +kernel, by decide +kernel⟩
theorem c_count_done : cSs tb26 (["way", "size", "row", "values", "one", "other"] : List Str) 60 (defScope (top 39)) (defBody (top 39)) = some b_count_done := by kernel_rfl
def tb27 : Tab := { tb26 with fns := "count_done" :: tb26.fns }
theorem o_27 (X : K.In h) (G0 : h.Ns mainGlobals mg) (c : SaysX fa fn ts K) : GokS (G w K mg base) tb27 27 := by
  obtain ⟨fd, F0⟩ := c.d.def_ 26 (d := d_count_done) rfl
  have F : FunD K "count_done" "count_done" (defArgs (top 39)) (defBody (top 39)) (defScope (top 39)) [] [] (He.ga K "count_done") fd := F0
  exact (o_26 X G0 c).step F s_count_done c_count_done (count_done_ct Γ f_values_shown) f_count_done (He.glo_ok X G0 (c.d.fact 38 (f := .glo "count_done") rfl)) (F.bindsN fun _ _ _ _ _ _ us hl => match us, hl with | [_, _, _], _ => by kernel_rfl)
theorem s_law_start : FnScope (["script"] : List Str) (["script"] : List Str) (defScope (top 41)) := ⟨rfl, rfl, rfl, by decide +kernel, rfl, by decide +kernel, by decide +kernel⟩
theorem c_law_start : cSs tb27 (["script"] : List Str) 60 (defScope (top 41)) (defBody (top 41)) = some b_law_start := by kernel_rfl
def tb28 : Tab := { tb27 with fns := "_law_start" :: tb27.fns }
theorem o_28 (X : K.In h) (G0 : h.Ns mainGlobals mg) (c : SaysX fa fn ts K) : GokS (G w K mg base) tb28 28 := by
  obtain ⟨fd, F0⟩ := c.d.def_ 27 (d := d_law_start) rfl
  have F : FunD K "_law_start" "_law_start" (defArgs (top 41)) (defBody (top 41)) (defScope (top 41)) [] [] (He.ga K "_law_start") fd := F0
  exact (o_27 X G0 c).step F s_law_start c_law_start (law_start_ct Γ ) f_law_start (He.glo_ok X G0 (c.d.fact 39 (f := .glo "_law_start") rfl)) (F.bindsN fun _ _ _ _ _ _ us hl => match us, hl with | [_], _ => by kernel_rfl)
theorem s_law_draw : FnScope (["draws", "limit", "numbers", "at", "cell", "mixed"] : List Str) (["draws", "limit"] : List Str) (defScope (top 42)) := ⟨rfl, rfl, rfl, by decide +kernel, rfl, by decide +kernel, by decide +kernel⟩
theorem c_law_draw : cSs tb28 (["draws", "limit", "numbers", "at", "cell", "mixed"] : List Str) 60 (defScope (top 42)) (defBody (top 42)) = some b_law_draw := by kernel_rfl
def tb29 : Tab := { tb28 with fns := "_law_draw" :: tb28.fns }
theorem o_29 (X : K.In h) (G0 : h.Ns mainGlobals mg) (c : SaysX fa fn ts K) : GokS (G w K mg base) tb29 29 := by
  obtain ⟨fd, F0⟩ := c.d.def_ 28 (d := d_law_draw) rfl
  have F : FunD K "_law_draw" "_law_draw" (defArgs (top 42)) (defBody (top 42)) (defScope (top 42)) [] [] (He.ga K "_law_draw") fd := F0
  exact (o_28 X G0 c).step F s_law_draw c_law_draw (law_draw_ct Γ ) f_law_draw (He.glo_ok X G0 (c.d.fact 40 (f := .glo "_law_draw") rfl)) (F.bindsN fun _ _ _ _ _ _ us hl => match us, hl with | [_, _], _ => by kernel_rfl)
theorem s_law_pick : FnScope (["draws", "choices"] : List Str) (["draws", "choices"] : List Str) (defScope (top 43)) := ⟨rfl, rfl, rfl, by decide +kernel, rfl, by decide +kernel, by decide +kernel⟩
theorem c_law_pick : cSs tb29 (["draws", "choices"] : List Str) 60 (defScope (top 43)) (defBody (top 43)) = some b_law_pick := by kernel_rfl
def tb30 : Tab := { tb29 with fns := "_law_pick" :: tb29.fns }
theorem o_30 (X : K.In h) (G0 : h.Ns mainGlobals mg) (c : SaysX fa fn ts K) : GokS (G w K mg base) tb30 30 := by
  obtain ⟨fd, F0⟩ := c.d.def_ 29 (d := d_law_pick) rfl
  have F : FunD K "_law_pick" "_law_pick" (defArgs (top 43)) (defBody (top 43)) (defScope (top 43)) [] [] (He.ga K "_law_pick") fd := F0
  exact (o_29 X G0 c).step F s_law_pick c_law_pick (law_pick_ct Γ f_law_draw) f_law_pick (He.glo_ok X G0 (c.d.fact 41 (f := .glo "_law_pick") rfl)) (F.bindsN fun _ _ _ _ _ _ us hl => match us, hl with | [_, _], _ => by kernel_rfl)
theorem s_law_way : FnScope (["draws", "kind", "home"] : List Str) (["draws"] : List Str) (defScope (top 44)) := ⟨rfl, rfl, rfl, by decide +kernel, rfl, by decide +kernel, by decide +kernel⟩
theorem c_law_way : cSs tb30 (["draws", "kind", "home"] : List Str) 60 (defScope (top 44)) (defBody (top 44)) = some b_law_way := by kernel_rfl
def tb31 : Tab := { tb30 with fns := "_law_way" :: tb30.fns }
theorem o_31 (X : K.In h) (G0 : h.Ns mainGlobals mg) (c : SaysX fa fn ts K) : GokS (G w K mg base) tb31 31 := by
  obtain ⟨fd, F0⟩ := c.d.def_ 30 (d := d_law_way) rfl
  have F : FunD K "_law_way" "_law_way" (defArgs (top 44)) (defBody (top 44)) (defScope (top 44)) [] [] (He.ga K "_law_way") fd := F0
  exact (o_30 X G0 c).step F s_law_way c_law_way (law_way_ct Γ f_law_draw f_law_pick) f_law_way (He.glo_ok X G0 (c.d.fact 42 (f := .glo "_law_way") rfl)) (F.bindsN fun _ _ _ _ _ _ us hl => match us, hl with | [_], _ => by kernel_rfl)
theorem s_law_row : FnScope (["draws", "longest", "keys", "k"] : List Str) (["draws", "longest"] : List Str) (defScope (top 45)) := ⟨rfl, rfl, rfl, by decide +kernel, rfl, by decide +kernel, by decide +kernel⟩
theorem c_law_row : cSs tb31 (["draws", "longest", "keys", "k"] : List Str) 60 (defScope (top 45)) (defBody (top 45)) = some b_law_row := by kernel_rfl
def tb32 : Tab := { tb31 with fns := "_law_row" :: tb31.fns }
theorem o_32 (X : K.In h) (G0 : h.Ns mainGlobals mg) (c : SaysX fa fn ts K) : GokS (G w K mg base) tb32 32 := by
  obtain ⟨fd, F0⟩ := c.d.def_ 31 (d := d_law_row) rfl
  have F : FunD K "_law_row" "_law_row" (defArgs (top 45)) (defBody (top 45)) (defScope (top 45)) [] [] (He.ga K "_law_row") fd := F0
  exact (o_31 X G0 c).step F s_law_row c_law_row (law_row_ct Γ f_law_draw f_law_pick) f_law_row (He.glo_ok X G0 (c.d.fact 43 (f := .glo "_law_row") rfl)) (F.bindsN fun _ _ _ _ _ _ us hl => match us, hl with | [_, _], _ => by kernel_rfl)
theorem s_law_put : FnScope (["values_here", "value", "way"] : List Str) (["values_here", "value", "way"] : List Str) (defScope (top 46)) := ⟨rfl, rfl, rfl, by decide +kernel, rfl, by decide +kernel, by decide +kernel⟩
theorem c_law_put : cSs tb32 (["values_here", "value", "way"] : List Str) 60 (defScope (top 46)) (defBody (top 46)) = some b_law_put := by kernel_rfl
def tb33 : Tab := { tb32 with fns := "_law_put" :: tb32.fns }
theorem o_33 (X : K.In h) (G0 : h.Ns mainGlobals mg) (c : SaysX fa fn ts K) : GokS (G w K mg base) tb33 33 := by
  obtain ⟨fd, F0⟩ := c.d.def_ 32 (d := d_law_put) rfl
  have F : FunD K "_law_put" "_law_put" (defArgs (top 46)) (defBody (top 46)) (defScope (top 46)) [] [] (He.ga K "_law_put") fd := F0
  exact (o_32 X G0 c).step F s_law_put c_law_put (law_put_ct Γ ) f_law_put (He.glo_ok X G0 (c.d.fact 44 (f := .glo "_law_put") rfl)) (F.bindsN fun _ _ _ _ _ _ us hl => match us, hl with | [_, _, _], _ => by kernel_rfl)
theorem s_law_move : FnScope (["source", "target", "shown", "way"] : List Str) (["source", "target", "shown", "way"] : List Str) (defScope (top 47)) := ⟨rfl, rfl, rfl, by decide +kernel, rfl, by decide +kernel, by decide +kernel⟩
theorem c_law_move : cSs tb33 (["source", "target", "shown", "way"] : List Str) 60 (defScope (top 47)) (defBody (top 47)) = some b_law_move := by kernel_rfl
def tb34 : Tab := { tb33 with fns := "_law_move" :: tb33.fns }
theorem o_34 (X : K.In h) (G0 : h.Ns mainGlobals mg) (c : SaysX fa fn ts K) : GokS (G w K mg base) tb34 34 := by
  obtain ⟨fd, F0⟩ := c.d.def_ 33 (d := d_law_move) rfl
  have F : FunD K "_law_move" "_law_move" (defArgs (top 47)) (defBody (top 47)) (defScope (top 47)) [] [] (He.ga K "_law_move") fd := F0
  exact (o_33 X G0 c).step F s_law_move c_law_move (law_move_ct Γ f_law_put) f_law_move (He.glo_ok X G0 (c.d.fact 45 (f := .glo "_law_move") rfl)) (F.bindsN fun _ _ _ _ _ _ us hl => match us, hl with | [_, _, _, _], _ => by kernel_rfl)
theorem s_law_back : FnScope (["way", "value", "first", "second", "flag"] : List Str) (["way", "value", "first", "second", "flag"] : List Str) (defScope (top 48)) := ⟨rfl, rfl, rfl, by decide +kernel, rfl, by decide +kernel, by decide +kernel⟩
theorem c_law_back : cSs tb34 (["way", "value", "first", "second", "flag"] : List Str) 60 (defScope (top 48)) (defBody (top 48)) = some b_law_back := by kernel_rfl
def tb35 : Tab := { tb34 with fns := "_law_back" :: tb34.fns }
theorem o_35 (X : K.In h) (G0 : h.Ns mainGlobals mg) (c : SaysX fa fn ts K) : GokS (G w K mg base) tb35 35 := by
  obtain ⟨fd, F0⟩ := c.d.def_ 34 (d := d_law_back) rfl
  have F : FunD K "_law_back" "_law_back" (defArgs (top 48)) (defBody (top 48)) (defScope (top 48)) [] [] (He.ga K "_law_back") fd := F0
  exact (o_34 X G0 c).step F s_law_back c_law_back (law_back_ct Γ f_law_move) f_law_back (He.glo_ok X G0 (c.d.fact 46 (f := .glo "_law_back") rfl)) (F.bindsN fun _ _ _ _ _ _ us hl => match us, hl with | [_, _, _, _, _], _ => by kernel_rfl)
theorem s_law_again : FnScope (["way", "value", "first", "second"] : List Str) (["way", "value", "first", "second"] : List Str) (defScope (top 49)) := ⟨rfl, rfl, rfl, by decide +kernel, rfl, by decide +kernel, by decide +kernel⟩
theorem c_law_again : cSs tb35 (["way", "value", "first", "second"] : List Str) 60 (defScope (top 49)) (defBody (top 49)) = some b_law_again := by kernel_rfl
def tb36 : Tab := { tb35 with fns := "_law_again" :: tb35.fns }
theorem o_36 (X : K.In h) (G0 : h.Ns mainGlobals mg) (c : SaysX fa fn ts K) : GokS (G w K mg base) tb36 36 := by
  obtain ⟨fd, F0⟩ := c.d.def_ 35 (d := d_law_again) rfl
  have F : FunD K "_law_again" "_law_again" (defArgs (top 49)) (defBody (top 49)) (defScope (top 49)) [] [] (He.ga K "_law_again") fd := F0
  exact (o_35 X G0 c).step F s_law_again c_law_again (law_again_ct Γ f_law_move f_law_back) f_law_again (He.glo_ok X G0 (c.d.fact 47 (f := .glo "_law_again") rfl)) (F.bindsN fun _ _ _ _ _ _ us hl => match us, hl with | [_, _, _, _], _ => by kernel_rfl)
theorem s_law_change : FnScope (["way", "size", "state", "key", "value", "mark", "first", "second", "flag", "joins"] : List Str) (["way", "size", "state", "key"] : List Str) (defScope (top 50)) := ⟨rfl, rfl, rfl, by decide +kernel, rfl, by decide +kernel, by decide +kernel⟩
theorem c_law_change : cSs tb36 (["way", "size", "state", "key", "value", "mark", "first", "second", "flag", "joins"] : List Str) 60 (defScope (top 50)) (defBody (top 50)) = some b_law_change := by kernel_rfl
def tb37 : Tab := { tb36 with fns := "_law_change" :: tb36.fns }
theorem o_37 (X : K.In h) (G0 : h.Ns mainGlobals mg) (c : SaysX fa fn ts K) : GokS (G w K mg base) tb37 37 := by
  obtain ⟨fd, F0⟩ := c.d.def_ 36 (d := d_law_change) rfl
  have F : FunD K "_law_change" "_law_change" (defArgs (top 50)) (defBody (top 50)) (defScope (top 50)) [] [] (He.ga K "_law_change") fd := F0
  exact (o_36 X G0 c).step F s_law_change c_law_change (law_change_ct Γ f_law_put) f_law_change (He.glo_ok X G0 (c.d.fact 48 (f := .glo "_law_change") rfl)) (F.bindsN fun _ _ _ _ _ _ us hl => match us, hl with | [_, _, _, _], _ => by kernel_rfl)
theorem s_law_step : FnScope (["way", "size", "state", "key", "value", "mark", "flag", "first", "second"] : List Str) (["way", "size", "state", "key"] : List Str) (defScope (top 51)) := ⟨rfl, rfl, rfl, by decide +kernel, rfl, by decide +kernel, by decide +kernel⟩
theorem c_law_step : cSs tb37 (["way", "size", "state", "key", "value", "mark", "flag", "first", "second"] : List Str) 60 (defScope (top 51)) (defBody (top 51)) = some b_law_step := by kernel_rfl
def tb38 : Tab := { tb37 with fns := "_law_step" :: tb37.fns }
theorem o_38 (X : K.In h) (G0 : h.Ns mainGlobals mg) (c : SaysX fa fn ts K) : GokS (G w K mg base) tb38 38 := by
  obtain ⟨fd, F0⟩ := c.d.def_ 37 (d := d_law_step) rfl
  have F : FunD K "_law_step" "_law_step" (defArgs (top 51)) (defBody (top 51)) (defScope (top 51)) [] [] (He.ga K "_law_step") fd := F0
  exact (o_37 X G0 c).step F s_law_step c_law_step (law_step_ct Γ f_law_back f_law_again f_law_change) f_law_step (He.glo_ok X G0 (c.d.fact 49 (f := .glo "_law_step") rfl)) (F.bindsN fun _ _ _ _ _ _ us hl => match us, hl with | [_, _, _, _], _ => by kernel_rfl)
theorem s_law_along : FnScope (["way", "size", "row", "found", "key"] : List Str) (["way", "size", "row"] : List Str) (defScope (top 52)) := ⟨rfl, rfl, rfl, by decide +kernel, rfl, by decide +kernel, by decide +kernel⟩
theorem c_law_along : cSs tb38 (["way", "size", "row", "found", "key"] : List Str) 60 (defScope (top 52)) (defBody (top 52)) = some b_law_along := by kernel_rfl
def tb39 : Tab := { tb38 with fns := "_law_along" :: tb38.fns }
theorem o_39 (X : K.In h) (G0 : h.Ns mainGlobals mg) (c : SaysX fa fn ts K) : GokS (G w K mg base) tb39 39 := by
  obtain ⟨fd, F0⟩ := c.d.def_ 38 (d := d_law_along) rfl
  have F : FunD K "_law_along" "_law_along" (defArgs (top 52)) (defBody (top 52)) (defScope (top 52)) [] [] (He.ga K "_law_along") fd := F0
  exact (o_38 X G0 c).step F s_law_along c_law_along (law_along_ct Γ f_law_step) f_law_along (He.glo_ok X G0 (c.d.fact 50 (f := .glo "_law_along") rfl)) (F.bindsN fun _ _ _ _ _ _ us hl => match us, hl with | [_, _, _], _ => by kernel_rfl)
theorem s_law_screen : FnScope (["way", "sight", "state", "sources", "back", "again"] : List Str) (["way", "sight", "state"] : List Str) (defScope (top 53)) := ⟨rfl, rfl, rfl, by decide +kernel, rfl, by decide +kernel, by decide +kernel⟩
theorem c_law_screen : cSs tb39 (["way", "sight", "state", "sources", "back", "again"] : List Str) 60 (defScope (top 53)) (defBody (top 53)) = some b_law_screen := by kernel_rfl
def tb40 : Tab := { tb39 with fns := "_law_screen" :: tb39.fns }
theorem o_40 (X : K.In h) (G0 : h.Ns mainGlobals mg) (c : SaysX fa fn ts K) : GokS (G w K mg base) tb40 40 := by
  obtain ⟨fd, F0⟩ := c.d.def_ 39 (d := d_law_screen) rfl
  have F : FunD K "_law_screen" "_law_screen" (defArgs (top 53)) (defBody (top 53)) (defScope (top 53)) [] [] (He.ga K "_law_screen") fd := F0
  exact (o_39 X G0 c).step F s_law_screen c_law_screen (law_screen_ct Γ ) f_law_screen (He.glo_ok X G0 (c.d.fact 51 (f := .glo "_law_screen") rfl)) (F.bindsN fun _ _ _ _ _ _ us hl => match us, hl with | [_, _, _], _ => by kernel_rfl)
theorem s_law : FnScope (["script", "draws", "size", "sight", "way", "row", "kept", "along", "screens", "values_here", "changed", "room", "state", "k"] : List Str) (["script"] : List Str) (defScope (top 54)) := ⟨rfl, rfl, rfl, by decide +kernel, rfl, by decide +kernel, by decide +kernel⟩
theorem c_law : cSs tb40 (["script", "draws", "size", "sight", "way", "row", "kept", "along", "screens", "values_here", "changed", "room", "state", "k"] : List Str) 60 (defScope (top 54)) (defBody (top 54)) = some b_law := by kernel_rfl
theorem facts {f : Addr} (X : K.In h) (G0 : h.Ns mainGlobals mg) (hfa : mg ("law" : Str) = some (.ref f)) (c : SaysX fa fn ts K) (hl : ∀ ns : List Int, ns.length ≤ 63 → ∃ vh', body Γ 14 b_law [.fls ns] [] = some (.ok (.bl true), vh')) :
    ∃ fd : FuncData, (∀ (s : Shared) (v : Value), BindsTo s fd ⟨[v], []⟩ [("script", v)]) ∧ ∀ base : Heap, K.In base → base.Ns mainGlobals mg → FnOk (PySem.Challenge.rw_screenbacks_k01_whole_runs).prog w K mg base (L2.CX (PySem.Challenge.rw_screenbacks_k01_whole_runs).prog w) 41 f fd ["script"] (spLaw K) := by
  obtain ⟨fd, F0⟩ := c.d.def_ 40 (d := d_law) rfl
  have F : FunD K "law" "law" (defArgs (top 54)) (defBody (top 54)) (defScope (top 54)) [] [] (He.ga K "law") fd := F0
  have e := hfa.symm.trans (He.glo_ok X G0 (c.d.fact 52 (f := .glo "law") rfl))
  cases e
  have b := FunD.bindsA (ps := ["script"]) F fun _ _ _ _ _ _ us hl => match us, hl with | [_], _ => by kernel_rfl
  refine ⟨fd, fun s v => b s [v] rfl, fun base _ _ => ?_⟩
  have O : GokS (G w K mg base) tb40 40 := o_40 X G0 c
  have z := fn_ok (m := opn Γ 14 1 b_law) O F s_law c_law (opn_ct fun _ _ => rfl)
  exact z.imp (spLaw_of (G := G w K mg base) fun ns hn => by
    obtain ⟨vh', q⟩ := hl ns hn
    exact ⟨vh', by unfold opn; rw [if_pos (show [D.fls ns].length = 1 from rfl)]; exact q⟩)
end
theorem law_true : ∀ ns : List Int, ns.length ≤ 63 → ∃ vh', body Γ 14 b_law [.fls ns] [] = some (.ok (.bl true), vh') := fun ns _ => law01 Γ ⟨f_law_start, f_law_draw, f_law_pick, f_law_way, f_law_row, f_law_along, f_law_screen, f_states_along, f_state_after, f_run, f_values_shown, f_count_done, f_is_way, f_is_row⟩ ns
end Asm
open PySem PySem.W PySem.Calls PyProof.Rows
theorem PySem.Challenge.cw_screenbacks_k01_whole_runs_holds : PySem.Challenge.rw_screenbacks_k01_whole_runs.Holds := by
  w_on; o_law
  refine HandSHeadRun.head_any (r := OpenLaw.row PySem.Challenge.rw_screenbacks_k01_whole_runs) (q := view (OpenLaw.row PySem.Challenge.rw_screenbacks_k01_whole_runs).prog [54]) (H := Asm.hk) (ob := Asm.ob) (M := 40000) (loose := Asm.loose) (d := HandSHeadRun.topDef (OpenLaw.row PySem.Challenge.rw_screenbacks_k01_whole_runs).prog 54) (kwd := []) Asm.ob_eq
    (by kernel_rfl) (fun s => by kernel_rfl) Asm.run (by kernel_rfl) (by kernel_rfl) (by kernel_rfl) (by rfl) (by first | assumption | decide +kernel) (by decide +kernel) ⟨rfl, rfl, rfl, rfl, rfl, by decide +kernel⟩ ?hw ?hc
  case hw => w_witness2
  case hc =>
    refine Sb.walk_ofX (l := PySem.Challenge.rw_screenbacks_k01_whole_runs) (n := 63) (k := 41) (x := "script") rfl (by decide) (by kernel_rfl) ⟨rfl, by decide, by decide⟩ ?F
    intro w mg fa h Y G hmg0
    obtain ⟨K, KX, c⟩ := Y
    have hmg : mg ("law" : PySem.Str) = some (.ref fa) := by
      have e : (HandSHeadRun.topDef (OpenLaw.row PySem.Challenge.rw_screenbacks_k01_whole_runs).prog 54).name = ("law" : PySem.Str) := by kernel_rfl
      rw [← e]
      exact hmg0
    obtain ⟨fd, hb, hF⟩ := Asm.facts (w := w) KX G hmg c Asm.law_true
    exact ⟨K, fd, Sb.spLaw K, KX, hb, fun H a ns hl hO hS => ⟨a, ns, rfl, hl, Sb.sqf_of hO hS, fun _ => rfl⟩, hF⟩

