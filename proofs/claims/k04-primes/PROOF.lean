import PyProof.Rows.All
import Wide.All
import OpenK.AllK
import Wide.FinOn
import PyProof.ReprReads
import HandS.ForMost
import HandS.ForExc
import HandS.ExcOwn
import HandS.Wide
import HandS.WideMore
import HandS.Gcd
import HandS.IsInst
import HandS.Flow
import HandS.Style
import HandS.TupAny
import HandS.Conv
import HandS.Zip
import HandS.More
import HandS.Lambda
import HandS.TryMany
import HandS.ExcField
import HandS.RaiseMore
import KE.KExcInit
import KE.KExcSuper
import KE.RegKSuper
import HandS.CallLocal
import PyProof.EqKinds
import HandS.TupMul
import HandS.Dict
import HandS.SortInts
import KE.DataMinMax
import HandS.Star
import HandS.Rev
import KE.GoesEnum
import HandS.WordsExc
import HandS.Codes
import HandS.EndBits
import HandS.NestedK
import KE.KNestM
import KE.KLam
import PySem.Challenge.RW_zeroorone_k04_whole_primes_and_their_pap
set_option linter.all false
/-! MP: a small functional Python over data. -/
namespace MP
open PySem

/-- data -/
inductive D where
  | non | bl (b : Bool) | int (i : Int) | str (s : Str)
  | tup (xs : List D) | lst (xs : List D) | dic (ks : List D) (vs : List D)
  | fn (k : Nat)

/-- a name's slot: nothing known; shared data; data that this frame alone holds (a list that may be changed). The flag: it stands since the entry -/
inductive Slot where
  | non | val (t : Bool) (d : D) | own (t : Bool) (d : D)
abbrev Env := List Slot
/-- a result: shared data, a new list that nobody else holds, or the slot of a name whose list is its own -/
inductive A where
  | dat (d : D) | frs (d : D) | slot (i : Nat)
/-- an exception: the class's number, what it keeps -/
structure Ex where
  cls : Nat
  arg : Option D
abbrev Mr (α : Type) := Option (Except Ex α × Env)
def ok {α : Type} (a : α) (ρ : Env) : Mr α := some (.ok a, ρ)
def bnd {α β : Type} (m : Mr α) (f : α → Env → Mr β) : Mr β :=
  match m with
  | none => none
  | some (.error x, ρ) => some (.error x, ρ)
  | some (.ok a, ρ) => f a ρ

/-! ### data -/
mutual
def D.eqv : D → D → Bool
  | .non, .non => true
  | .bl a, .bl b => a == b
  | .bl a, .int j => (if a then 1 else 0) == j
  | .int i, .bl b => i == (if b then 1 else 0)
  | .int i, .int j => i == j
  | .str x, .str y => x == y
  | .lst xs, .lst ys => D.eqvs xs ys
  | .tup xs, .tup ys => D.eqvs xs ys
  | _, _ => false
def D.eqvs : List D → List D → Bool
  | [], [] => true
  | x :: xs, y :: ys => D.eqv x y && D.eqvs xs ys
  | _, _ => false
end
mutual
def D.same : D → D → Bool
  | .non, .non => true
  | .bl a, .bl b => a == b
  | .int a, .int b => a == b
  | .str a, .str b => a == b
  | .tup a, .tup b => D.sames a b
  | .lst a, .lst b => D.sames a b
  | .dic a b, .dic c d => D.sames a c && D.sames b d
  | .fn a, .fn b => a == b
  | _, _ => false
def D.sames : List D → List D → Bool
  | [], [] => true
  | x :: xs, y :: ys => D.same x y && D.sames xs ys
  | _, _ => false
end
mutual
theorem D.same_eq : ∀ {a b : D}, D.same a b = true → a = b
  | .non, b, h => by cases b <;> simp_all [D.same]
  | .bl a, b, h => by cases b <;> simp_all [D.same]
  | .int a, b, h => by cases b <;> simp_all [D.same]
  | .str a, b, h => by cases b <;> simp_all [D.same]
  | .fn a, b, h => by cases b <;> simp_all [D.same]
  | .tup a, b, h => by
    cases b <;> simp only [D.same, Bool.false_eq_true] at h
    rw [D.sames_eq h]
  | .lst a, b, h => by
    cases b <;> simp only [D.same, Bool.false_eq_true] at h
    rw [D.sames_eq h]
  | .dic a b, c, h => by
    cases c <;> simp only [D.same, Bool.false_eq_true, Bool.and_eq_true] at h
    rw [D.sames_eq h.1, D.sames_eq h.2]
theorem D.sames_eq : ∀ {a b : List D}, D.sames a b = true → a = b
  | [], b, h => by cases b <;> simp_all [D.sames]
  | x :: xs, [], h => by simp [D.sames] at h
  | x :: xs, y :: ys, h => by
    simp only [D.sames, Bool.and_eq_true] at h
    rw [D.same_eq h.1, D.sames_eq h.2]
end
mutual
/-- data that == is told of: no dict within, short texts, not deep -/
def D.shp : Nat → D → Bool
  | _, .non => true
  | _, .bl _ => true
  | _, .int _ => true
  | _, .str x => x.cps.all (· < 1114112)
  | k + 1, .tup xs => D.shps k xs
  | k + 1, .lst xs => D.shps k xs
  | _, _ => false
def D.shps : Nat → List D → Bool
  | _, [] => true
  | k, x :: xs => D.shp k x && D.shps k xs
end
def D.truth : D → Option Bool
  | .non => some false
  | .bl b => some b
  | .int i => some (i != 0)
  | .str x => if x.cps.size ≤ 1000 then some ((x.cps.size : Int) != 0) else none
  | .tup xs => some (!xs.isEmpty)
  | .lst xs => some (!xs.isEmpty)
  | .dic _ _ => none
  | .fn _ => none
def D.flat : D → Bool
  | .non => true | .bl _ => true | .int _ => true | .str _ => true | _ => false

/-! ### data as the library tells it; texts of data -/
mutual
def toPy : D → PyData
  | .non => .none
  | .bl b => .bool b
  | .int i => .int i
  | .str x => .str x
  | .tup xs => .tuple (toPys xs)
  | .lst xs => .list (toPys xs)
  | .dic _ _ => .dict []
  | .fn _ => .dict []
def toPys : List D → List PyData
  | [] => []
  | x :: xs => toPy x :: toPys xs
end
mutual
/-- data whose repr is told of: n levels deep -/
def D.shw : Nat → D → Bool
  | _, .non => true
  | _, .bl _ => true
  | _, .int i => decide (i.natAbs.log2 < 1920)
  | _, .str _ => true
  | k + 1, .tup xs => D.shws k xs
  | k + 1, .lst xs => D.shws k xs
  | _, _ => false
def D.shws : Nat → List D → Bool
  | _, [] => true
  | k, x :: xs => D.shw k x && D.shws k xs
end
def D.nil : D → Bool
  | .dic [] [] => true
  | _ => false
def reprS (d : D) : Option Str := if (d.shw 12 || d.nil) = true then (if (toPy d).shown.length ≤ 16777216 then some (toPy d).shown else none) else none

inductive BOp where
  | add | sub | mul | fdiv | mod | pow | shl | shr | band
  deriving DecidableEq
inductive COp where
  | eq | ne | lt | le | gt | ge | isN | notN | in_ | notIn
  deriving DecidableEq
inductive Ty where
  | int | bool | str | tuple | list | dict
  deriving DecidableEq
inductive Blt where
  | abs | max2 | min2 | int1 | len | gcd | any | all | sum | tuple | list | str1 | repr1 | bool1 | reprv | sorted | min1
  deriving DecidableEq

def bits (i : Int) : Nat := i.natAbs.log2
/-- a op b -/
def binD : BOp → D → D → Option A
  | .add, .int i, .int j => some (.dat (.int (i + j)))
  | .add, .tup xs, .tup ys => if xs.length + ys.length ≤ 16777216 then some (.dat (.tup (xs ++ ys))) else none
  | .add, .lst xs, .lst ys => if xs.length + ys.length ≤ 16777216 then some (.frs (.lst (xs ++ ys))) else none
  | .add, .str x, .str y => if x.cps.size + y.cps.size ≤ 16777216 then some (.dat (.str (x ++ y))) else none
  | .mul, .tup xs, .int j => if 2 ≤ j ∧ j ≤ 1000 ∧ xs.length ≤ 1000 ∧ xs.isEmpty = false then some (.dat (.tup (List.replicate j.toNat xs).flatten)) else none
  | .mul, .lst xs, .int j => if 0 ≤ j ∧ j ≤ 1000 ∧ xs.length ≤ 1000 then some (.frs (.lst (List.replicate j.toNat xs).flatten)) else none
  | .sub, .int i, .int j => some (.dat (.int (i - j)))
  | .mul, .int i, .int j => if bits i + bits j < 1000000 then some (.dat (.int (i * j))) else none
  | .fdiv, .int i, .int j => if j ≠ 0 ∧ bits j < 9000 then some (.dat (.int (i.fdiv j))) else none
  | .mod, .int i, .int j => if j ≠ 0 then some (.dat (.int (i.fmod j))) else none
  | .pow, .int i, .int j => if 0 ≤ j ∧ j ≤ 1000000 ∧ i.natAbs < 2 ^ 64 then some (.dat (.int (i ^ j.toNat))) else none
  | _, _, _ => none
/-- the index's place -/
def ixD (n : Nat) (i : Int) : Option Nat := if 0 ≤ i then (if i < n then some i.toNat else none) else if -(n : Int) ≤ i then some (i + n).toNat else none
def getD (x : D) (i : Int) : Option D :=
  match x with
  | .tup xs => (ixD xs.length i).bind fun j => xs[j]?
  | .lst xs => (ixD xs.length i).bind fun j => xs[j]?
  | _ => none
def D.isTup : D → Bool
  | .tup _ => true
  | _ => false
def cmpD : COp → D → D → Option Bool
  | .eq, x, y => if x.shp 12 && y.shp 12 then some (x.eqv y) else if x.nil && y.isTup then some false else none
  | .ne, x, y => if x.shp 12 && y.shp 12 then some (!x.eqv y) else none
  | .lt, .int i, .int j => some (decide (i < j))
  | .le, .int i, .int j => some (decide (i ≤ j))
  | .gt, .int i, .int j => some (decide (j < i))
  | .ge, .int i, .int j => some (decide (j ≤ i))
  | _, _, _ => none
def isND (x : D) : Bool := match x with | .non => true | _ => false
def inD (x : D) : D → Option Bool
  | .lst ys => if x.flat && ys.all D.flat then some (ys.any fun y => y.eqv x) else none
  | .tup ys => if x.flat && ys.all D.flat then some (ys.any fun y => y.eqv x) else none
  | _ => none
def tyD : D → Ty → Bool
  | .bl _, .bool => true
  | .bl _, .int => true
  | .int _, .int => true
  | .str _, .str => true
  | .tup _, .tuple => true
  | .lst _, .list => true
  | .dic _ _, .dict => true
  | _, _ => false
def blsD : List D → Option (List Bool)
  | [] => some []
  | .bl b :: r => (blsD r).map (b :: ·)
  | _ => none
def intsD : List D → Option (List Int)
  | [] => some []
  | .int i :: r => (intsD r).map (i :: ·)
  | _ => none
def absD : List D → Option A
  | [.int i] => some (.dat (.int (if i < 0 then -i else i)))
  | _ => none
def maxD : List D → Option A
  | [.int i, .int j] => some (.dat (.int (if j > i then j else i)))
  | _ => none
def minD : List D → Option A
  | [.int i, .int j] => some (.dat (.int (if j < i then j else i)))
  | _ => none
def min1D : List D → Option A
  | [.tup [.int i, .int j]] => some (.dat (.int (if j < i then j else i)))
  | _ => none
def int1D : List D → Option A
  | [.int i] => some (.dat (.int i))
  | [.bl b] => some (.dat (.int (if b then 1 else 0)))
  | _ => none
def lenD : List D → Option A
  | [.tup xs] => some (.dat (.int xs.length))
  | [.lst xs] => some (.dat (.int xs.length))
  | _ => none
def gcdD : List D → Option A
  | [.int i, .int j] => some (.dat (.int (Nat.gcd i.natAbs j.natAbs : Nat)))
  | _ => none
def D.isFn : D → Bool
  | .fn _ => true
  | _ => false
def isiD (ts : List Ty) (x : D) : Option A := if x.isFn = true then none else some (.dat (.bl (ts.any (tyD x))))
def anyD : List D → Option A
  | [.lst xs] => match blsD xs with
    | some bs => some (.dat (.bl (bs.any id)))
    | none => none
  | _ => none
def allD : List D → Option A
  | [.lst xs] => match blsD xs with
    | some bs => some (.dat (.bl (bs.all id)))
    | none => none
  | _ => none
def sumD : List D → Option A
  | [.lst xs] => match intsD xs with
    | some bs => some (.dat (.int bs.sum))
    | none => none
  | _ => none
def tupleD : List D → Option A
  | [.lst xs] => some (.dat (.tup xs))
  | [.tup xs] => some (.dat (.tup xs))
  | _ => none
def listD : List D → Option A
  | [.lst xs] => some (.frs (.lst xs))
  | [.tup xs] => some (.frs (.lst xs))
  | _ => none
def boolS (b : Bool) : Str := if b then "True" else "False"
def strD : List D → Option A
  | [.int i] => if bits i < 1920 then some (.dat (.str ((toString i : String) : Str))) else none
  | [.bl b] => some (.dat (.str (boolS b)))
  | [.str x] => some (.dat (.str x))
  | _ => none
def reprD : List D → Option A
  | [.int i] => if bits i < 1920 then some (.dat (.str ((toString i : String) : Str))) else none
  | [.bl b] => some (.dat (.str (boolS b)))
  | _ => none
def showD : List D → Option A
  | [d] => (reprS d).map fun x => .dat (.str x)
  | _ => none
/-! ### a def that calls what it is handed, and tells what is raised -/
/-- a part of what is told: a text, repr of what the error keeps, a text and repr behind it -/
inductive Pt where
  | s (x : Str) | r | sr (x : Str)
  deriving DecidableEq
/-- an except clause: the classes that it takes, what it tells -/
structure Hd where
  cls : Nat
  subs : List Nat
  parts : List Pt
  deriving DecidableEq
structure Md where
  dflt : List Str
  hds : List Hd
  deriving DecidableEq
def Pt.tell (a : Option D) : Pt → Option Str
  | .s x => some x
  | .r => match a with
    | some d => reprS d
    | none => none
  | .sr x => match a with
    | some d => match reprS d with
      | some y => if x.cps.size + y.cps.size ≤ 16777216 then some (x ++ y) else none
      | none => none
    | none => none
def tells (a : Option D) : List Pt → Option (List Str)
  | [] => some []
  | p :: ps => match p.tell a, tells a ps with
    | some d, some ds => some (d :: ds)
    | _, _ => none
def pickH (x : Ex) : List Hd → Option (List Str)
  | [] => none
  | h :: hs => if h.subs.contains x.cls = true then tells x.arg h.parts else pickH x hs
def keyB : D → Bool
  | .int _ => true | .str _ => true | _ => false
/-! ### dicts whose keys are ints, texts; what is sorted -/
def lookK : List D → List D → D → Option D
  | k0 :: ks, v :: vs, k => if k0.same k = true then some v else lookK ks vs k
  | _, _, _ => none
def putVs : List D → List D → D → D → List D
  | k0 :: ks, v :: vs, k, d => (if k0.same k = true then d else v) :: putVs ks vs k d
  | _, _, _, _ => []
def putDic (ks vs : List D) (k d : D) : D := if (ks.any fun x => x.same k) = true then .dic ks (putVs ks vs k d) else .dic (ks ++ [k]) (vs ++ [d])
def dgetD (x y : D) : Option A := match x with
  | .dic ks vs => if keyB y = true then (lookK ks vs y).map .dat else none
  | _ => none
def dinD (k : Bool) (y x : D) : Option A := match x with
  | .dic ks vs => if keyB y = true then some (.dat (.bl ((lookK ks vs y).isSome == k))) else none
  | _ => none
def dget2D (z : D) (x y : D) : Option A := match x with
  | .dic ks vs => if keyB y = true then some (.dat ((lookK ks vs y).getD z)) else none
  | _ => none
def insI (x : Int) : List Int → List Int
  | [] => [x]
  | y :: ys => if x ≤ y then x :: y :: ys else y :: insI x ys
def sortI : List Int → List Int
  | [] => []
  | x :: xs => insI x (sortI xs)
def sortedD : List D → Option A
  | [.lst xs] => (intsD xs).map fun is => .frs (.lst ((sortI is).map .int))
  | [.dic ks _] => match intsD ks with
    | some is => if is.length < 64 then some (.frs (.lst ((sortI is).map .int))) else none
    | none => none
  | _ => none
def bltD : Blt → List D → Option A
  | .abs => absD | .max2 => maxD | .min2 => minD | .int1 => int1D | .len => lenD | .gcd => gcdD | .any => anyD | .all => allD | .sum => sumD | .tuple => tupleD | .list => listD | .str1 => strD | .repr1 => reprD | .reprv => showD | .sorted => sortedD | .min1 => min1D
  | _ => fun _ => none

/-! ### core syntax -/
mutual
inductive Tg where
  | nm (i : Nat) | tp (ts : Tgs)
inductive Tgs where
  | nil | cons (t : Tg) (ts : Tgs)
end
mutual
inductive C where
  | cst (d : D)
  | var (i : Nat)
  | glb (x : Str) (d : D)
  | tup (es : Cs) | lst (es : Cs)
  | dis0 | dis1 (k v : C)
  | bin (op : BOp) (a b : C)
  | neg (a : C)
  | boo (k : Bool) (es : Cs) | not_ (a : C)
  | cmp (op : COp) (a b : C)
  | chn (op op' : COp) (a b c : C)
  | chn3 (op op' op'' : COp) (a b c d : C)
  | ite (c a b : C)
  | idx (a i : C)
  | slc (a : C) (lo hi : CO)
  | call (f : Nat) (fl : List Bool) (es : Cs)
  | blt (f : Blt) (es : Cs)
  | isi (ts : List Ty) (e : C)
  | lstI (it : I)
  | cmpr (elt : C) (tg : Tg) (it : I) (ifs : CO) (own : List Nat)
  | bad | fnv (k : Nat) | callL (i m : Nat) (fl : List Bool) (es : Cs) | met (g : Nat) (md : Md) (c : C)
  | pop (i : Nat) | ext (i : Nat) (e : C)
  | disO | dget (a i : C) | din (k : Bool) (i a : C) | dget2 (a i z : C)
inductive Cs where
  | nil | cons (e : C) (es : Cs)
inductive CO where
  | none | some (e : C)
inductive I where
  | seq (e : C) | rng1 (a : C) | rng2 (a b : C) | rng3 (a b c : C) | enum (e : C) | zip (a b : C) | zips (e : C) | rev (e : C)
end
mutual
inductive S where
  | asg (tg : Tg) (e : C)
  | par (is : List Nat) (es : Cs)
  | aug (i : Nat) (op : BOp) (e : C)
  | seti (i : Nat) (ix e : C)
  | dset (i : Nat) (ix e : C)
  | app (i : Nat) (e : C)
  | expr (e : C)
  | ife (c : C) (a b : Ss)
  | for_ (tg : Tg) (it : I) (b : Ss)
  | whl (c : C) (b : Ss)
  | ret (e : C) | retN | pas | brk | cnt
  | rse (k : Nat) (e : CO)
  | bad
inductive Ss where
  | nil | cons (s : S) (ss : Ss)
end
inductive Flow where
  | nxt | brk | cnt | ret (r : A)

/-! ### states -/
def putD (i : Nat) (d : D) (ρ : Env) : Option Env := if i < ρ.length then some (ρ.set i (.val false d)) else none
/-- a result made shared -/
def frz (a : A) (ρ : Env) : Option (D × Env) :=
  match a with
  | .dat d => some (d, ρ)
  | .frs d => some (d, ρ)
  | .slot i => match ρ[i]? with
    | some (.val _ d) => some (d, ρ)
    | some (.own t d) => some (d, ρ.set i (.val t d))
    | _ => none
/-- a result looked at -/
def view (a : A) (ρ : Env) : Option D :=
  match a with
  | .dat d => some d
  | .frs d => some d
  | .slot i => match ρ[i]? with
    | some (.val _ d) => some d
    | some (.own _ d) => some d
    | _ => none
def views : List A → Env → Option (List D)
  | [], _ => some []
  | a :: as, ρ => match view a ρ, views as ρ with
    | some d, some ds => some (d :: ds)
    | _, _ => none
mutual
def asgT : Tg → D → Env → Option Env
  | .nm i, d, ρ => putD i d ρ
  | .tp ts, .tup ds, ρ => asgTs ts ds ρ
  | .tp _, _, _ => none
def asgTs : Tgs → List D → Env → Option Env
  | .nil, [], ρ => some ρ
  | .cons t ts, d :: ds, ρ => match asgT t d ρ with
    | some ρ' => asgTs ts ds ρ'
    | none => none
  | _, _, _ => none
end
/-- what a call hands on -/
def lendA (ρ : Env) : A → Slot
  | .dat d => .val false d
  | .frs d => .own false d
  | .slot i => match ρ[i]? with
    | some (.val _ d) => .val false d
    | some (.own _ d) => .own true d
    | _ => .non
def lends (ρ : Env) (as : List A) : List Slot := as.map (lendA ρ)
/-- the slots that are lent -/
def lentIx (ρ : Env) : List A → List Nat
  | [] => []
  | .slot i :: as => match ρ[i]? with
    | some (.own _ _) => i :: lentIx ρ as
    | _ => lentIx ρ as
  | _ :: as => lentIx ρ as
def backS (t : Bool) : Slot → Slot
  | .own true d => .own t d
  | .val true d => .val t d
  | _ => .non
/-- back from a call -/
def backs : List A → List Slot → Env → Env
  | .slot i :: as, b :: bs, ρ => match ρ[i]? with
    | some (.own t _) => backs as bs (ρ.set i (backS t b))
    | _ => backs as bs ρ
  | _ :: as, _ :: bs, ρ => backs as bs ρ
  | _, _, ρ => ρ
abbrev Out := Option (Except Ex A × List Slot)
def doCall (call : Nat → List Slot → Out) (f : Nat) (as : List A) (ρ : Env) : Mr A :=
  if (lentIx ρ as).Nodup then
    match call f (lends ρ as) with
    | none => none
    | some (.ok (.slot _), _) => none
    | some (r, bs) => some (r, backs as bs ρ)
  else none
/-- the slots of a comprehension's own names, hidden -/
def wipeR (ρ : Env) : List Nat → Env
  | [] => ρ
  | v :: vs => (wipeR ρ vs).set v .non
/-- .. as they were -/
def unwipe (ρ ρ' : Env) : List Nat → Env
  | [] => ρ'
  | v :: vs => (unwipe ρ ρ' vs).set v (ρ[v]?.getD .non)
def cutD (xs : List D) (lo hi : Option Int) : List D :=
  let n := xs.length
  let ix (d : Nat) : Option Int → Nat := fun o => match o with
    | none => d
    | some v => if v < 0 then (v + (n : Int)).toNat else min v.toNat n
  (xs.drop (ix 0 lo)).take (ix n hi - ix 0 lo)
def intsL (lo : Int) : Nat → List D
  | 0 => []
  | n + 1 => .int lo :: intsL (lo + 1) n
def enumD (i : Nat) : List D → List D
  | [] => []
  | x :: xs => .tup [.int i, x] :: enumD (i + 1) xs
def zipD : List D → List D → List D
  | x :: xs, y :: ys => .tup [x, y] :: zipD xs ys
  | _, _ => []
def smallI (i : Int) : Bool := Nat.ble i.natAbs 4611686018427387903

def op2 (f : D → D → Option A) (x y : A) (ρ : Env) : Mr A :=
  match view x ρ, view y ρ with
  | some dx, some dy => match f dx dy with
    | some r => ok r ρ
    | none => none
  | _, _ => none
def op1 (f : D → Option A) (x : A) (ρ : Env) : Mr A :=
  match view x ρ with
  | some dx => match f dx with
    | some r => ok r ρ
    | none => none
  | _ => none
/-- a result's truth -/
def tru (x : A) (ρ : Env) : Mr Bool :=
  match view x ρ with
  | some d => match d.truth with
    | some k => ok k ρ
    | none => none
  | none => none
def frzM (a : A) (ρ : Env) : Mr D :=
  match frz a ρ with
  | some (d, ρ') => ok d ρ'
  | none => none
def keepA : Bool → A → Env → Mr A
  | true, a, ρ => ok a ρ
  | false, a, ρ => bnd (frzM a ρ) fun d ρ => ok (.dat d) ρ
/-- a for's turns -/
def forL (tg : Tg) (b : Env → Mr Flow) : List D → Env → Mr Flow
  | [], ρ => ok .nxt ρ
  | d :: ds, ρ => match asgT tg d ρ with
    | none => none
    | some ρ1 => bnd (b ρ1) fun f ρ2 => match f with
      | .nxt => forL tg b ds ρ2
      | .cnt => forL tg b ds ρ2
      | .brk => ok .nxt ρ2
      | .ret r => ok (.ret r) ρ2
/-- in a comprehension nothing is raised -/
def calm {α : Type} (m : Mr α) : Mr α := match m with
  | some (.ok a, ρ) => some (.ok a, ρ)
  | _ => none
/-- a comprehension's turns -/
def compL (own : List Nat) (tg : Tg) (t : Env → Mr Bool) (e : Env → Mr D) : List D → Env → Mr (List D)
  | [], ρ => ok [] ρ
  | d :: ds, ρ => match asgT tg d (wipeR ρ own) with
    | none => none
    | some ρ1 => bnd (t ρ1) fun k ρ2 => if k = true then bnd (e ρ2) fun x ρ3 => bnd (compL own tg t e ds ρ3) fun xs ρ4 => ok (x :: xs) ρ4 else compL own tg t e ds ρ2
/-- a while's turns, n at most -/
def whlN (c : Env → Mr Bool) (b : Env → Mr Flow) : Nat → Env → Mr Flow
  | 0, _ => none
  | n + 1, ρ => bnd (c ρ) fun k ρ1 => if k = true then bnd (b ρ1) fun f ρ2 => match f with
      | .nxt => whlN c b n ρ2
      | .cnt => whlN c b n ρ2
      | .brk => ok .nxt ρ2
      | .ret r => ok (.ret r) ρ2
    else ok .nxt ρ1
open Classical in
noncomputable def whlM (c : Env → Mr Bool) (b : Env → Mr Flow) (ρ : Env) : Mr Flow :=
  if h : ∃ n r, whlN c b n ρ = some r then some (choose (choose_spec h)) else none

def cmpO (op : COp) (x y : D) : Option Bool := match op with
  | .isN => match y with
    | .non => some (isND x)
    | _ => none
  | .notN => match y with
    | .non => some (!isND x)
    | _ => none
  | .in_ => inD x y
  | .notIn => (inD x y).map (! ·)
  | op => cmpD op x y
def datB (o : Option Bool) : Option A := o.map fun k => .dat (.bl k)
def negD : D → Option A
  | .int i => some (.dat (.int (-i)))
  | _ => none
def idxD (x y : D) : Option A := match y with
  | .int k => (getD x k).map .dat
  | _ => none
def slcD (l h : Option Int) : D → Option A
  | .tup xs => some (.dat (.tup (cutD xs l h)))
  | .lst xs => some (.frs (.lst (cutD xs l h)))
  | _ => none
def itemsD : D → Option (List D)
  | .tup xs => some xs
  | .lst xs => some xs
  | _ => none
def liftO {α : Type} (o : Option α) (ρ : Env) : Mr α := match o with
  | some a => ok a ρ
  | none => none
def blts (f : Blt) (as : List A) (ρ : Env) : Mr A := match views as ρ with
  | some ds => liftO (bltD f ds) ρ
  | none => none
def rngD (x y : A) (ρ : Env) : Mr (List D) := match view x ρ, view y ρ with
  | some (.int i), some (.int j) => if smallI i && smallI j then ok (intsL i (j - i).toNat) ρ else none
  | _, _ => none
def zipO (x y : D) : Option (List D) := match x, y with
  | .tup xs, .tup ys => some (zipD xs ys)
  | .lst xs, .lst ys => some (zipD xs ys)
  | .tup xs, .lst ys => some (zipD xs ys)
  | _, _ => none
def zipO2 (x y : D) : Option (List D) := match x, y with
  | .tup xs, .tup ys => some (zipD xs ys)
  | .lst xs, .lst ys => some (zipD xs ys)
  | _, _ => none
def enumO (x : D) : Option (List D) := match x with
  | .lst xs => some (enumD 0 xs)
  | .tup xs => some (enumD 0 xs)
  | _ => none
def zipsO (x : D) : Option (List D) := match itemsD x with
  | some [x, y] => zipO2 x y
  | _ => none
def downL (hi : Int) : Nat → List D
  | 0 => []
  | n + 1 => .int hi :: downL (hi - 1) n
/-- range(i, j, -1) -/
def rngM (x y z : A) (ρ : Env) : Mr (List D) := match view x ρ, view y ρ, view z ρ with
  | some (.int i), some (.int j), some (.int k) => if k = -1 ∧ smallI i = true ∧ smallI j = true then ok (downL i (i - j).toNat) ρ else none
  | _, _, _ => none
def popD (i : Nat) (ρ : Env) : Mr A := match ρ[i]? with
  | some (.own t (.lst xs)) => match xs.getLast? with
    | some d => ok (.dat d) (ρ.set i (.own t (.lst xs.dropLast)))
    | none => none
  | _ => none
def extD (i : Nat) (a : A) (ρ : Env) : Mr A := match a, ρ[i]? with
  | .frs (.lst ys), some (.own t (.lst xs)) => if xs.length + ys.length ≤ 16777216 then ok (.dat .non) (ρ.set i (.own t (.lst (xs ++ ys)))) else none
  | _, _ => none
/-- a dict is looked at -/
def isDicM {α : Type} (x : A) (ρ : Env) (f : Env → Mr α) : Mr α := match view x ρ with
  | some (.dic _ _) => f ρ
  | _ => none
def intO (x : A) (ρ : Env) : Mr (Option Int) := match view x ρ with
  | some (.int i) => ok (some i) ρ
  | _ => none

def metR (md : Md) (m : Mr A) : Mr A := match m with
  | none => none
  | some (.ok _, ρ) => ok (.dat (.tup (md.dflt.map .str))) ρ
  | some (.error x, ρ) => match pickH x md.hds with
    | some ss => ok (.dat (.tup (ss.map .str))) ρ
    | none => none

/-! ### the evaluator -/
section
variable (call : Nat → List Slot → Out)
mutual
def ev : C → Env → Mr A
  | .cst d, ρ => ok (.dat d) ρ
  | .glb _ d, ρ => ok (.dat d) ρ
  | .var i, ρ => match ρ[i]? with
    | some (.val _ d) => ok (.dat d) ρ
    | some (.own _ _) => ok (.slot i) ρ
    | _ => none
  | .tup es, ρ => bnd (evDs es ρ) fun ds ρ => ok (.dat (.tup ds)) ρ
  | .lst es, ρ => bnd (evDs es ρ) fun ds ρ => ok (.frs (.lst ds)) ρ
  | .dis0, ρ => ok (.dat (.dic [] [])) ρ
  | .dis1 k v, ρ => bnd (bnd (ev k ρ) frzM) fun x ρ => bnd (bnd (ev v ρ) frzM) fun y ρ => if keyB x = true then ok (.dat (.dic [x] [y])) ρ else none
  | .bin op a b, ρ => bnd (ev a ρ) fun x ρ => bnd (ev b ρ) fun y ρ => op2 (binD op) x y ρ
  | .neg a, ρ => bnd (ev a ρ) fun x ρ => op1 negD x ρ
  | .boo k es, ρ => evB k es ρ
  | .not_ a, ρ => bnd (ev a ρ) fun x ρ => bnd (tru x ρ) fun k ρ => ok (.dat (.bl (!k))) ρ
  | .cmp op a b, ρ => bnd (ev a ρ) fun x ρ => bnd (ev b ρ) fun y ρ => op2 (fun x y => datB (cmpO op x y)) x y ρ
  | .chn op op' a b c, ρ => bnd (ev a ρ) fun x ρ => bnd (ev b ρ) fun y ρ => bnd (op2 (fun x y => datB (cmpO op x y)) x y ρ) fun z ρ => bnd (tru z ρ) fun k ρ =>
      if k = true then bnd (ev c ρ) fun z ρ => op2 (fun x y => datB (cmpO op' x y)) y z ρ else ok (.dat (.bl false)) ρ
  | .chn3 op op' op'' a b c d, ρ => bnd (ev a ρ) fun x ρ => bnd (ev b ρ) fun y ρ => bnd (op2 (fun x y => datB (cmpO op x y)) x y ρ) fun z ρ => bnd (tru z ρ) fun k ρ =>
      if k = true then bnd (ev c ρ) fun w ρ => bnd (op2 (fun x y => datB (cmpO op' x y)) y w ρ) fun z ρ => bnd (tru z ρ) fun k ρ =>
        if k = true then bnd (ev d ρ) fun v ρ => op2 (fun x y => datB (cmpO op'' x y)) w v ρ else ok (.dat (.bl false)) ρ else ok (.dat (.bl false)) ρ
  | .ite c a b, ρ => bnd (ev c ρ) fun x ρ => bnd (tru x ρ) fun k ρ => if k = true then ev a ρ else ev b ρ
  | .idx a i, ρ => bnd (ev a ρ) fun x ρ => bnd (ev i ρ) fun y ρ => op2 idxD x y ρ
  | .slc a lo hi, ρ => bnd (ev a ρ) fun x ρ => bnd (evO lo ρ) fun l ρ => bnd (evO hi ρ) fun h ρ => op1 (slcD l h) x ρ
  | .call f fl es, ρ => bnd (evAs fl es ρ) fun as ρ => doCall call f as ρ
  | .blt f es, ρ => bnd (evAs [] es ρ) fun as ρ => blts f as ρ
  | .isi ts e, ρ => bnd (ev e ρ) fun x ρ => op1 (isiD ts) x ρ
  | .lstI it, ρ => bnd (evI it ρ) fun ds ρ => if ds.length ≤ 16777216 then ok (.frs (.lst ds)) ρ else none
  | .cmpr elt tg it ifs own, ρ => bnd (evI it ρ) fun ds ρ1 => if ds.length ≤ 16777216 then
      bnd (calm (compL own tg (fun ρ => evIf ifs ρ) (fun ρ => bnd (ev elt ρ) frzM) ds ρ1)) fun xs ρ2 => ok (.frs (.lst xs)) (unwipe ρ1 ρ2 own)
      else none
  | .bad, _ => none
  | .fnv k, ρ => ok (.dat (.fn k)) ρ
  | .callL i m fl es, ρ => match ρ[i]? with
    | some (.val _ (.fn f)) => if f < m then bnd (evAs fl es ρ) fun as ρ => doCall call f as ρ else none
    | _ => none
  | .met _ md c, ρ => metR md (ev c ρ)
  | .pop i, ρ => popD i ρ
  | .ext i e, ρ => match ρ[i]? with
    | some (.own _ (.lst _)) => bnd (ev e ρ) fun a ρ => extD i a ρ
    | _ => none
  | .disO, ρ => ok (.frs (.dic [] [])) ρ
  | .dget a i, ρ => bnd (ev a ρ) fun x ρ => bnd (ev i ρ) fun y ρ => op2 dgetD x y ρ
  | .din k i a, ρ => bnd (ev i ρ) fun x ρ => bnd (ev a ρ) fun y ρ => op2 (dinD k) x y ρ
  | .dget2 a i z, ρ => bnd (ev a ρ) fun x ρ => isDicM x ρ fun ρ => bnd (ev i ρ) fun y ρ => bnd (bnd (ev z ρ) frzM) fun d ρ => op2 (dget2D d) x y ρ
def evB : Bool → Cs → Env → Mr A
  | _, .nil, _ => none
  | k, .cons e es, ρ => bnd (ev e ρ) fun x ρ => match es with
    | .nil => ok x ρ
    | .cons _ _ => bnd (tru x ρ) fun t ρ => if t = k then evB k es ρ else ok x ρ
def evIf : CO → Env → Mr Bool
  | .none, ρ => ok true ρ
  | .some c, ρ => bnd (ev c ρ) tru
def evO : CO → Env → Mr (Option Int)
  | .none, ρ => ok none ρ
  | .some e, ρ => bnd (ev e ρ) intO
def evAs : List Bool → Cs → Env → Mr (List A)
  | _, .nil, ρ => ok [] ρ
  | fl, .cons e es, ρ => bnd (bnd (ev e ρ) (keepA (fl.headD true))) fun x ρ => bnd (evAs fl.tail es ρ) fun xs ρ => ok (x :: xs) ρ
def evDs : Cs → Env → Mr (List D)
  | .nil, ρ => ok [] ρ
  | .cons e es, ρ => bnd (bnd (ev e ρ) frzM) fun x ρ => bnd (evDs es ρ) fun xs ρ => ok (x :: xs) ρ
def evI : I → Env → Mr (List D)
  | .seq e, ρ => bnd (bnd (ev e ρ) frzM) fun d ρ => liftO (itemsD d) ρ
  | .rng1 a, ρ => bnd (ev a ρ) fun x ρ => rngD (.dat (.int 0)) x ρ
  | .rng2 a b, ρ => bnd (ev a ρ) fun x ρ => bnd (ev b ρ) fun y ρ => rngD x y ρ
  | .rng3 a b c, ρ => bnd (ev a ρ) fun x ρ => bnd (ev b ρ) fun y ρ => bnd (ev c ρ) fun z ρ => rngM x y z ρ
  | .enum e, ρ => bnd (bnd (ev e ρ) frzM) fun d ρ => liftO (enumO d) ρ
  | .zip a b, ρ => bnd (bnd (ev a ρ) frzM) fun x ρ => bnd (bnd (ev b ρ) frzM) fun y ρ => liftO (zipO x y) ρ
  | .zips e, ρ => bnd (bnd (ev e ρ) frzM) fun d ρ => liftO (zipsO d) ρ
  | .rev e, ρ => bnd (bnd (ev e ρ) frzM) fun d ρ => liftO ((itemsD d).map List.reverse) ρ
end
def evT (c : C) (ρ : Env) : Mr Bool := bnd (ev call c ρ) tru
/-- results kept apart: a list that is a name's own is made shared -/
def unslot (a : A) (ρ : Env) : Mr A := match a with
  | .slot i => bnd (frzM (.slot i) ρ) fun d ρ => ok (.dat d) ρ
  | a => ok a ρ
def evRs : Cs → Env → Mr (List A)
  | .nil, ρ => ok [] ρ
  | .cons e es, ρ => bnd (bnd (ev call e ρ) unslot) fun a ρ => bnd (evRs es ρ) fun as ρ => ok (a :: as) ρ
def slotOf : A → Slot
  | .dat d => .val false d
  | .frs d => .own false d
  | .slot _ => .non
def putA (i : Nat) (a : A) (ρ : Env) : Option Env := if i < ρ.length then some (ρ.set i (slotOf a)) else none
def putAs : List Nat → List A → Env → Option Env
  | [], [], ρ => some ρ
  | i :: is, a :: as, ρ => match putA i a ρ with
    | some ρ' => putAs is as ρ'
    | none => none
  | _, _, _ => none
def nxtO (o : Option Env) : Mr Flow := match o with
  | some ρ => ok .nxt ρ
  | none => none
def augD (i : Nat) (op : BOp) (x : Int) (a : A) (ρ : Env) : Mr Flow := match view a ρ with
  | some (.int y) => match binD op (.int x) (.int y) with
    | some (.dat d) => nxtO (putD i d ρ)
    | _ => none
  | _ => none
def setiD (i : Nat) (d : D) (k : A) (ρ : Env) : Mr Flow := match ρ[i]?, view k ρ with
  | some (.own t (.lst xs)), some (.int k) => match ixD xs.length k with
    | some j => ok .nxt (ρ.set i (.own t (.lst (xs.set j d))))
    | none => none
  | _, _ => none
def dsetD (i : Nat) (d : D) (k : A) (ρ : Env) : Mr Flow := match ρ[i]?, view k ρ with
  | some (.own t (.dic ks vs)), some k => if keyB k = true ∧ ks.length < 16777216 then ok .nxt (ρ.set i (.own t (putDic ks vs k d))) else none
  | _, _ => none
def appD (i : Nat) (d : D) (ρ : Env) : Mr Flow := match ρ[i]? with
  | some (.own t (.lst xs)) => if xs.length < 16777216 then ok .nxt (ρ.set i (.own t (.lst (xs ++ [d])))) else none
  | _ => none
def retA (a : A) (ρ : Env) : Mr Flow := match a with
  | .dat d => ok (.ret (.dat d)) ρ
  | .frs d => ok (.ret (.frs d)) ρ
  | .slot i => match ρ[i]? with
    | some (.own false d) => ok (.ret (.frs d)) (ρ.set i .non)
    | some (.own true d) => ok (.ret (.dat d)) (ρ.set i (.val true d))
    | some (.val _ d) => ok (.ret (.dat d)) ρ
    | _ => none
mutual
noncomputable def exec : S → Env → Mr Flow
  | .asg tg e, ρ => match tg with
    | .nm i => bnd (bnd (ev call e ρ) unslot) fun a ρ => nxtO (putA i a ρ)
    | tg => bnd (bnd (ev call e ρ) frzM) fun d ρ => nxtO (asgT tg d ρ)
  | .par is es, ρ => bnd (evRs call es ρ) fun as ρ => nxtO (putAs is as ρ)
  | .aug i op e, ρ => match ρ[i]? with
    | some (.val _ (.int x)) => bnd (ev call e ρ) fun a ρ => augD i op x a ρ
    | _ => none
  | .seti i ix e, ρ => bnd (bnd (ev call e ρ) frzM) fun d ρ => match ρ[i]? with
    | some (.own _ (.lst _)) => bnd (ev call ix ρ) fun k ρ => setiD i d k ρ
    | _ => none
  | .dset i ix e, ρ => bnd (bnd (ev call e ρ) frzM) fun d ρ => match ρ[i]? with
    | some (.own _ (.dic _ _)) => bnd (ev call ix ρ) fun k ρ => dsetD i d k ρ
    | _ => none
  | .app i e, ρ => match ρ[i]? with
    | some (.own _ (.lst _)) => bnd (bnd (ev call e ρ) frzM) fun d ρ => appD i d ρ
    | _ => none
  | .expr e, ρ => bnd (ev call e ρ) fun _ ρ => ok .nxt ρ
  | .ife c a b, ρ => bnd (evT call c ρ) fun k ρ => if k = true then execs a ρ else execs b ρ
  | .for_ tg it b, ρ => bnd (evI call it ρ) fun ds ρ => forL tg (fun ρ => execs b ρ) ds ρ
  | .whl c b, ρ => whlM (evT call c) (fun ρ => execs b ρ) ρ
  | .ret e, ρ => bnd (ev call e ρ) fun a ρ => retA a ρ
  | .retN, ρ => ok (.ret (.dat .non)) ρ
  | .pas, ρ => ok .nxt ρ
  | .brk, ρ => ok .brk ρ
  | .cnt, ρ => ok .cnt ρ
  | .rse k e, ρ => match e with
    | .none => some (.error ⟨k, none⟩, ρ)
    | .some c => bnd (bnd (ev call c ρ) frzM) fun d ρ => some (.error ⟨k, some d⟩, ρ)
  | .bad, _ => none
noncomputable def execs : Ss → Env → Mr Flow
  | .nil, ρ => ok .nxt ρ
  | .cons s ss, ρ => bnd (exec s ρ) fun f ρ => match f with
    | .nxt => execs ss ρ
    | f => ok f ρ
end
end
/-! ### defs -/
structure Fd where
  name : Str
  np : Nat
  N : List Str
  body : Ss
def mask1 : Slot → Option Slot → Slot
  | .own true _, some (.own true d) => .own true d
  | .own true _, some (.val true d) => .val true d
  | _, _ => .non
def maskS : List Slot → Env → List Slot
  | [], _ => []
  | a :: as, ρ => mask1 a ρ.head? :: maskS as ρ.tail
noncomputable def runF (call : Nat → List Slot → Out) (fd : Fd) (args : List Slot) : Out :=
  if args.length = fd.np then
    match execs call fd.body (args ++ List.replicate (fd.N.length - fd.np) .non) with
    | some (.ok (.ret (.dat d)), ρ) => some (.ok (.dat d), maskS args ρ)
    | some (.ok (.ret (.frs d)), ρ) => some (.ok (.frs d), maskS args ρ)
    | some (.ok .nxt, ρ) => some (.ok (.dat .non), maskS args ρ)
    | some (.error x, ρ) => some (.error x, maskS args ρ)
    | _ => none
  else none
noncomputable def callN (P : Nat → Option Fd) : Nat → Nat → List Slot → Out
  | 0, _, _ => none
  | n + 1, f, args => match P f with
    | some fd => runF (callN P n) fd args
    | none => none
end MP
set_option Elab.async false
set_option linter.all false
set_option maxRecDepth 100000
set_option maxHeartbeats 2000000
/-! MP: data in the abstract heap -/
namespace MP
open PySem PySem.Spec PyProof.Rows L2

/-- the world of a law: the tables of code objects, where defs and classes stand, the fields that errors keep -/
structure Wd where
  T : List (Addr × Str)
  fa : Nat → Option Addr
  cl : Nat → Addr
  fl : Nat → Str
  ok : Nat → Bool
/-! ### data that stands in a part of the heap that never changes -/
/-- a list: one that is tracked, or one of the written part's own (a plain one) -/
def RL (K : PySem.W.Frag) (P : Hp) (a : Addr) (xs : List V) : Prop :=
  Rd P a (.lst xs) ∨ ∃ (its : Array Value) (n : Nat), K.lookup a = some { cls := .type "list", data := .seq its n } ∧ its.size ≤ sizeLine ∧ Vals xs its.toList
theorem RL.sq {K : PySem.W.Frag} {P : Hp} {a : Addr} {xs : List V} (h : RL K P a xs) : SqL K P a xs := by
  rcases h with h | ⟨its, n, h1, h2, h3⟩
  · exact .inl h
  · exact .inr ⟨_, its, n, h1, rfl, rfl, rfl, h2, h3⟩
def keyD : Key → D
  | .inl i => .int i
  | .inr x => .str x
mutual
inductive Rp (K : PySem.W.Frag) (cl : Wd) (P : Hp) : V → D → Prop
  | non : Rp K cl P .non .non
  | bl (b : Bool) : Rp K cl P (.bl b) (.bl b)
  | int (i : Int) : Rp K cl P (.int i) (.int i)
  | str (x : Str) : Rp K cl P (.str x) (.str x)
  | tup {a : Addr} {vs : List V} {ds : List D} : SqT K P a vs → Rps K cl P vs ds → Rp K cl P (.ref a) (.tup ds)
  | lst {a : Addr} {vs : List V} {ds : List D} : RL K P a vs → Rps K cl P vs ds → Rp K cl P (.ref a) (.lst ds)
  | fn {a : Addr} {k : Nat} : cl.fa k = some a → Rp K cl P (.ref a) (.fn k)
  | dic {a : Addr} {kvs : List (Key × V)} {ds : List D} : Rd P a (.dK kvs) → Rps K cl P (kvs.map (·.2)) ds → Rp K cl P (.ref a) (.dic (kvs.map fun kv => keyD kv.1) ds)
inductive Rps (K : PySem.W.Frag) (cl : Wd) (P : Hp) : List V → List D → Prop
  | nil : Rps K cl P [] []
  | cons {v : V} {vs : List V} {d : D} {ds : List D} : Rp K cl P v d → Rps K cl P vs ds → Rps K cl P (v :: vs) (d :: ds)
end

theorem same_rd {P P' : Hp} (h : Same P P') {a : Addr} {u : HO} (r : Rd P a u) : Rd P' a u := by
  rcases r with r | ⟨o, r⟩
  · exact .inl (h _ _ r)
  · exact .inr ⟨o, h _ _ r⟩
theorem same_sqt {K : PySem.W.Frag} {P P' : Hp} (h : Same P P') {a : Addr} {vs : List V} (r : SqT K P a vs) : SqT K P' a vs := by
  rcases r with r | r
  · exact .inl (same_rd h r)
  · exact .inr r
theorem same_rl {K : PySem.W.Frag} {P P' : Hp} (h : Same P P') {a : Addr} {vs : List V} (r : RL K P a vs) : RL K P' a vs := by
  rcases r with r | r
  · exact .inl (same_rd h r)
  · exact .inr r
mutual
theorem Rp.mono {K : PySem.W.Frag} {P P' : Hp} (h : Same P P') : ∀ {v : V} {d : D}, Rp K cl P v d → Rp K cl P' v d
  | _, _, .non => .non
  | _, _, .bl b => .bl b
  | _, _, .int i => .int i
  | _, _, .str x => .str x
  | _, _, .tup s r => .tup (same_sqt h s) (Rps.mono h r)
  | _, _, .lst s r => .lst (same_rl h s) (Rps.mono h r)
  | _, _, .dic s r => .dic (same_rd h s) (Rps.mono h r)
  | _, _, .fn e => .fn e
theorem Rps.mono {K : PySem.W.Frag} {P P' : Hp} (h : Same P P') : ∀ {vs : List V} {ds : List D}, Rps K cl P vs ds → Rps K cl P' vs ds
  | _, _, .nil => .nil
  | _, _, .cons r t => .cons (Rp.mono h r) (Rps.mono h t)
end
section
variable {K : PySem.W.Frag} {P : Hp}
theorem Rps.length : ∀ {vs : List V} {ds : List D}, Rps K cl P vs ds → vs.length = ds.length
  | _, _, .nil => rfl
  | _, _, .cons _ t => by rw [List.length_cons, List.length_cons, Rps.length t]
theorem Rps.append : ∀ {vs ws : List V} {ds es : List D}, Rps K cl P vs ds → Rps K cl P ws es → Rps K cl P (vs ++ ws) (ds ++ es)
  | _, _, _, _, .nil, s => s
  | _, _, _, _, .cons r t, s => .cons r (Rps.append t s)
theorem Rps.drop : ∀ {vs : List V} {ds : List D} (n : Nat), Rps K cl P vs ds → Rps K cl P (vs.drop n) (ds.drop n)
  | _, _, 0, r => r
  | _, _, _ + 1, .nil => .nil
  | _, _, n + 1, .cons _ t => Rps.drop n t
theorem Rps.take : ∀ {vs : List V} {ds : List D} (n : Nat), Rps K cl P vs ds → Rps K cl P (vs.take n) (ds.take n)
  | _, _, 0, _ => .nil
  | _, _, _ + 1, .nil => .nil
  | _, _, n + 1, .cons r t => .cons r (Rps.take n t)
theorem Rps.set {w : V} {d : D} (q : Rp K cl P w d) : ∀ {vs : List V} {ds : List D} (n : Nat), Rps K cl P vs ds → Rps K cl P (vs.set n w) (ds.set n d)
  | _, _, _, .nil => .nil
  | _, _, 0, .cons _ t => .cons q t
  | _, _, n + 1, .cons r t => .cons r (Rps.set q n t)
theorem Rps.get : ∀ {vs : List V} {ds : List D} {i : Nat} {d : D}, Rps K cl P vs ds → ds[i]? = some d → ∃ v, vs[i]? = some v ∧ Rp K cl P v d
  | _, _, _, _, .nil, h => by simp at h
  | v :: _, _, 0, _, .cons r _, h => by
    simp only [List.getElem?_cons_zero, Option.some.injEq] at h
    subst h
    exact ⟨v, rfl, r⟩
  | _, _, n + 1, _, .cons _ t, h => by
    simp only [List.getElem?_cons_succ] at h ⊢
    exact Rps.get t h
theorem Rp.int_inv {v : V} {i : Int} (r : Rp K cl P v (.int i)) : v = .int i := by cases r; rfl
theorem Rp.bl_inv {v : V} {b : Bool} (r : Rp K cl P v (.bl b)) : v = .bl b := by cases r; rfl
theorem Rp.str_inv {v : V} {x : Str} (r : Rp K cl P v (.str x)) : v = .str x := by cases r; rfl
theorem Rp.non_inv {v : V} (r : Rp K cl P v .non) : v = .non := by cases r; rfl
theorem Rp.tup_inv {v : V} {ds : List D} (r : Rp K cl P v (.tup ds)) : ∃ a vs, v = .ref a ∧ SqT K P a vs ∧ Rps K cl P vs ds := by
  cases r with
  | tup s q => exact ⟨_, _, rfl, s, q⟩
theorem Rp.lst_inv {v : V} {ds : List D} (r : Rp K cl P v (.lst ds)) : ∃ a vs, v = .ref a ∧ RL K P a vs ∧ Rps K cl P vs ds := by
  cases r with
  | lst s q => exact ⟨_, _, rfl, s, q⟩
end

/-! ### frames -/
/-- the address that a name of this frame alone holds -/
def Own (σ : L2.St) (ρ : Env) (a : Addr) : Prop := ∃ (i : Nat) (t : Bool) (d : D), ρ[i]? = some (.own t d) ∧ σ[i]? = some (some (V.ref a))
/-- what stands there tells the data: a list, a dict -/
def Sto (K : PySem.W.Frag) (cl : Wd) (P : Hp) (o : HO) (d : D) : Prop := (∃ vs ds, o = .lst vs ∧ d = D.lst ds ∧ Rps K cl P vs ds) ∨ (∃ (kvs : List (Key × V)) (ds : List D), o = .dK kvs ∧ d = D.dic (kvs.map fun kv => keyD kv.1) ds ∧ Rps K cl P (kvs.map (·.2)) ds)
theorem Sto.mono {K : PySem.W.Frag} {cl : Wd} {P P' : Hp} {o : HO} {d : D} (h : Sto K cl P o d) (s : Same P P') : Sto K cl P' o d := by
  rcases h with ⟨vs, ds, rfl, rfl, r⟩ | ⟨kvs, ds, rfl, rfl, r⟩
  · exact .inl ⟨vs, ds, rfl, rfl, r.mono s⟩
  · exact .inr ⟨kvs, ds, rfl, rfl, r.mono s⟩
theorem Sto.rp {K : PySem.W.Frag} {cl : Wd} {P P' : Hp} {o : HO} {d : D} {a : Addr} (h : Sto K cl P o d) (s : Same P P') (e : P' a = some o) : Rp K cl P' (.ref a) d := by
  rcases h with ⟨vs, ds, rfl, rfl, r⟩ | ⟨kvs, ds, rfl, rfl, r⟩
  · exact .lst (.inl (.inl e)) (r.mono s)
  · exact .dic (.inl e) (r.mono s)
theorem Sto.nt {K : PySem.W.Frag} {cl : Wd} {P : Hp} {o : HO} {d : D} (h : Sto K cl P o d) : ∀ ps, o ≠ .tbl ps := by
  rcases h with ⟨vs, ds, rfl, rfl, r⟩ | ⟨kvs, ds, rfl, rfl, r⟩ <;> exact fun _ z => nomatch z
theorem Sto.ne {K : PySem.W.Frag} {cl : Wd} {P : Hp} {o : HO} {d : D} (h : Sto K cl P o d) : ∀ φ, o ≠ .ext φ := by
  rcases h with ⟨vs, ds, rfl, rfl, r⟩ | ⟨kvs, ds, rfl, rfl, r⟩ <;> exact fun _ z => nomatch z
theorem Sto.l {K : PySem.W.Frag} {cl : Wd} {P : Hp} {o : HO} {ds : List D} (h : Sto K cl P o (.lst ds)) : ∃ vs, o = .lst vs ∧ Rps K cl P vs ds := by
  rcases h with ⟨vs, ds, rfl, e, r⟩ | ⟨kvs, ds, rfl, e, r⟩
  · cases e; exact ⟨vs, rfl, r⟩
  · cases e
theorem Sto.d {K : PySem.W.Frag} {cl : Wd} {P : Hp} {o : HO} {ks ds : List D} (h : Sto K cl P o (.dic ks ds)) : ∃ kvs : List (Key × V), o = .dK kvs ∧ ks = kvs.map (fun kv => keyD kv.1) ∧ Rps K cl P (kvs.map (·.2)) ds := by
  rcases h with ⟨vs, ds, rfl, e, r⟩ | ⟨kvs, ds, rfl, e, r⟩
  · cases e
  · cases e; exact ⟨kvs, rfl, rfl, r⟩
def Cont (K : PySem.W.Frag) (cl : Wd) (H P : Hp) (v : V) (d : D) : Prop := ∃ a o, v = V.ref a ∧ H a = some o ∧ P a = none ∧ Sto K cl P o d
theorem Cont.l {K : PySem.W.Frag} {cl : Wd} {H P : Hp} {v : V} {ds : List D} (h : Cont K cl H P v (.lst ds)) : ∃ a vs, v = V.ref a ∧ H a = some (.lst vs) ∧ P a = none ∧ Rps K cl P vs ds := by
  obtain ⟨a, o, rfl, h1, h2, h3⟩ := h
  obtain ⟨vs, rfl, r⟩ := h3.l
  exact ⟨a, vs, rfl, h1, h2, r⟩
theorem Cont.d {K : PySem.W.Frag} {cl : Wd} {H P : Hp} {v : V} {ks ds : List D} (h : Cont K cl H P v (.dic ks ds)) : ∃ a, ∃ kvs : List (Key × V), v = V.ref a ∧ H a = some (.dK kvs) ∧ P a = none ∧ ks = kvs.map (fun kv => keyD kv.1) ∧ Rps K cl P (kvs.map (·.2)) ds := by
  obtain ⟨a, o, rfl, h1, h2, h3⟩ := h
  obtain ⟨kvs, rfl, e, r⟩ := h3.d
  exact ⟨a, kvs, rfl, h1, h2, e, r⟩
theorem Cont.ofL {K : PySem.W.Frag} {cl : Wd} {H P : Hp} {a : Addr} {vs : List V} {ds : List D} (h : H a = some (.lst vs)) (p : P a = none) (r : Rps K cl P vs ds) : Cont K cl H P (.ref a) (.lst ds) := ⟨a, _, rfl, h, p, .inl ⟨vs, ds, rfl, rfl, r⟩⟩
theorem Cont.ofD {K : PySem.W.Frag} {cl : Wd} {H P : Hp} {a : Addr} {kvs : List (Key × V)} {ds : List D} (h : H a = some (.dK kvs)) (p : P a = none) (r : Rps K cl P (kvs.map (·.2)) ds) : Cont K cl H P (.ref a) (.dic (kvs.map fun kv => keyD kv.1) ds) := ⟨a, _, rfl, h, p, .inr ⟨kvs, ds, rfl, rfl, r⟩⟩
/-- nothing that is kept stands there: it is free, or a table -/
def Nw (H : Hp) (a : Addr) : Prop := ∀ o, H a = some o → ∃ ps, o = .tbl ps
theorem Nw.of {H : Hp} {a : Addr} (h : H a = none) : Nw H a := fun o e => by rw [h] at e; cases e
theorem Nw.no {H : Hp} {a : Addr} {vs : List V} (n : Nw H a) (h : H a = some (.lst vs)) : False := by
  obtain ⟨ps, e⟩ := n _ h
  cases e
theorem Nw.noO {H : Hp} {a : Addr} {o : HO} (n : Nw H a) (h : H a = some o) (nt : ∀ ps, o ≠ .tbl ps) : False := by
  obtain ⟨ps, e⟩ := n _ h
  exact nt ps e
/-- the tables stand, and are not shared -/
structure TB (cl : Wd) (H P : Hp) : Prop where
  tabs : LamX.Tabs cl.T H
  nt : ∀ a ps, P a ≠ some (.tbl ps)
structure FR (K : PySem.W.Frag) (cl : Wd) (σ0 σ : L2.St) (H P : Hp) (ρ : Env) : Prop where
  sub : Same P H
  len : ρ.length = σ.length
  val : ∀ (i : Nat) (t : Bool) (d : D), ρ[i]? = some (.val t d) → ∃ v, σ[i]? = some (some v) ∧ Rp K cl P v d
  own : ∀ (i : Nat) (t : Bool) (d : D), ρ[i]? = some (.own t d) → ∃ v, σ[i]? = some (some v) ∧ Cont K cl H P v d
  inj : ∀ (i j : Nat) (t t' : Bool) (d d' : D) (a : Addr), ρ[i]? = some (.own t d) → ρ[j]? = some (.own t' d') → σ[i]? = some (some (V.ref a)) → σ[j]? = some (some (V.ref a)) → i = j
  tag : ∀ (i : Nat) (d : D), ρ[i]? = some (.val true d) ∨ ρ[i]? = some (.own true d) → σ[i]? = σ0[i]?
  tb : TB cl H P
structure Step (σ : L2.St) (ρ : Env) (H P : Hp) (σ' : L2.St) (ρ' : Env) (H' P' : Hp) : Prop where
  keep : ∀ a o, H a = some o → (∀ ps, o ≠ .tbl ps) → ¬ Own σ ρ a → H' a = some o
  mono : Same P P'
  newP : ∀ a, P a = none → P' a ≠ none → Nw H a ∨ Own σ ρ a
  newO : ∀ a, Own σ' ρ' a → Nw H a ∨ Own σ ρ a

section
variable {K : PySem.W.Frag} {σ0 σ σ1 σ2 : L2.St} {ρ ρ1 ρ2 : Env} {H H1 H2 P P1 P2 : Hp}
theorem Step.refl : Step σ ρ H P σ ρ H P := ⟨fun _ _ h _ _ => h, Same.refl _, fun _ h h' => absurd h h', fun _ h => .inr h⟩
theorem Step.none (s : Step σ ρ H P σ1 ρ1 H1 P1) {a : Addr} (h : Nw H1 a) : Nw H a ∨ Own σ ρ a := by
  by_cases o : Own σ ρ a
  · exact .inr o
  · refine .inl fun u e => ?_
    apply Classical.byContradiction
    intro n
    have n' : ∀ ps, u ≠ .tbl ps := fun ps z => n ⟨ps, z⟩
    exact n (h _ (s.keep a u e n' o))
theorem Step.back (s : Step σ ρ H P σ1 ρ1 H1 P1) {a : Addr} (h : Nw H1 a ∨ Own σ1 ρ1 a) : Nw H a ∨ Own σ ρ a := by
  rcases h with h | h
  · exact s.none h
  · exact s.newO a h
theorem Step.trans (s : Step σ ρ H P σ1 ρ1 H1 P1) (t : Step σ1 ρ1 H1 P1 σ2 ρ2 H2 P2) : Step σ ρ H P σ2 ρ2 H2 P2 where
  keep := fun a o h nt n => t.keep a o (s.keep a o h nt n) nt fun x => by
    rcases s.newO a x with z | z
    · obtain ⟨ps, z⟩ := z o h
      exact nt ps z
    · exact n z
  mono := s.mono.trans t.mono
  newP := fun a h h' => by
    cases e : P1 a with
    | none => exact s.back (t.newP a e h')
    | some u => exact s.newP a h (by rw [e]; exact fun z => nomatch z)
  newO := fun a h => s.back (t.newO a h)
/-- what is nobody's own here keeps its content -/
theorem Cont.step {v : V} {d : D} (c : Cont K cl H P v d) (n : ∀ a, v = V.ref a → ¬ Own σ ρ a) (s : Step σ ρ H P σ1 ρ1 H1 P1) : Cont K cl H1 P1 v d ∧ ∀ a, v = V.ref a → ¬ Own σ1 ρ1 a := by
  obtain ⟨a, ob, rfl, h, p, r⟩ := c
  have na := n a rfl
  refine ⟨⟨a, ob, rfl, s.keep a _ h r.nt na, ?_, r.mono s.mono⟩, fun b e o => ?_⟩
  · cases e : P1 a with
    | none => rfl
    | some u =>
      rcases s.newP a p (by rw [e]; exact fun z => nomatch z) with z | z
      · exact (z.noO h r.nt).elim
      · exact absurd z na
  · injection e with e
    subst e
    rcases s.newO _ o with z | z
    · exact (z.noO h r.nt).elim
    · exact na z
theorem FR.own_at (F : FR K cl σ0 σ H P ρ) {a : Addr} (o : Own σ ρ a) : ∃ ob, H a = some ob ∧ P a = none ∧ (∀ ps, ob ≠ .tbl ps) ∧ ∀ φ, ob ≠ .ext φ := by
  obtain ⟨i, t, d, e, e2⟩ := o
  obtain ⟨v, e3, b, ob, rfl, h, p, r⟩ := F.own i t d e
  rw [e2] at e3
  cases e3
  exact ⟨ob, h, p, r.nt, r.ne⟩

/-! ### results -/
/-- a value that tells a result -/
def AR (K : PySem.W.Frag) (cl : Wd) (σ : L2.St) (H P : Hp) (ρ : Env) (v : V) (a : A) : Prop :=
  match a with
  | .dat d => Rp K cl P v d
  | .frs d => Cont K cl H P v d ∧ ∀ b, v = V.ref b → ¬ Own σ ρ b
  | .slot i => σ[i]? = some (some v)
/-- a new list is new -/
def AF (σ : L2.St) (ρ : Env) (H : Hp) (v : V) (a : A) : Prop := ∀ d, a = .frs d → ∀ b, v = V.ref b → Nw H b ∨ Own σ ρ b
theorem AR.step {v : V} {a : A} (r : AR K cl σ H P ρ v a) (s : Step σ ρ H P σ ρ1 H1 P1) : AR K cl σ H1 P1 ρ1 v a := by
  cases a with
  | dat d => exact Rp.mono s.mono r
  | frs d => exact r.1.step r.2 s
  | slot i => exact r
theorem AF.back {v : V} {a : A} (r : AF σ1 ρ1 H1 v a) (s : Step σ ρ H P σ1 ρ1 H1 P1) : AF σ ρ H v a := fun d e b eb => s.back (r d e b eb)
inductive ARs (K : PySem.W.Frag) (cl : Wd) (σ : L2.St) (H P : Hp) (ρ : Env) : List V → List A → Prop
  | nil : ARs K cl σ H P ρ [] []
  | cons {v : V} {vs : List V} {a : A} {as : List A} : AR K cl σ H P ρ v a → ARs K cl σ H P ρ vs as → (∀ d, a = .frs d → ∀ (j : Nat) d', as[j]? = some (.frs d') → vs[j]? ≠ some v) → ARs K cl σ H P ρ (v :: vs) (a :: as)
inductive AFs (σ : L2.St) (ρ : Env) (H : Hp) : List V → List A → Prop
  | nil : AFs σ ρ H [] []
  | cons {v : V} {vs : List V} {a : A} {as : List A} : AF σ ρ H v a → AFs σ ρ H vs as → AFs σ ρ H (v :: vs) (a :: as)
theorem AFs.back : ∀ {vs : List V} {as : List A}, AFs σ1 ρ1 H1 vs as → Step σ ρ H P σ1 ρ1 H1 P1 → AFs σ ρ H vs as
  | _, _, .nil, _ => .nil
  | _, _, .cons r t, s => .cons (r.back s) (t.back s)
theorem AFs.get : ∀ {vs : List V} {as : List A}, AFs σ ρ H vs as → ∀ (j : Nat) (v : V) (a : A), vs[j]? = some v → as[j]? = some a → AF σ ρ H v a
  | _, _, .nil, _, _, _, h, _ => by simp at h
  | _, _, .cons r t, 0, _, _, h, h2 => by
    simp only [List.getElem?_cons_zero, Option.some.injEq] at h h2
    subst h h2
    exact r
  | _, _, .cons r t, j + 1, v, a, h, h2 => t.get j v a (by simpa using h) (by simpa using h2)
theorem ARs.length : ∀ {vs : List V} {as : List A}, ARs K cl σ H P ρ vs as → vs.length = as.length
  | _, _, .nil => rfl
  | _, _, .cons _ t _ => by rw [List.length_cons, List.length_cons, t.length]
theorem ARs.get : ∀ {vs : List V} {as : List A}, ARs K cl σ H P ρ vs as → ∀ (j : Nat) (v : V) (a : A), vs[j]? = some v → as[j]? = some a → AR K cl σ H P ρ v a
  | _, _, .nil, _, _, _, h, _ => by simp at h
  | _, _, .cons r t _, 0, _, _, h, h2 => by
    simp only [List.getElem?_cons_zero, Option.some.injEq] at h h2
    subst h h2
    exact r
  | _, _, .cons r t _, j + 1, v, a, h, h2 => t.get j v a (by simpa using h) (by simpa using h2)

/-- what is looked at: shared, or held by one name alone -/
def Vw (K : PySem.W.Frag) (cl : Wd) (H P : Hp) (v : V) (d : D) : Prop := Rp K cl P v d ∨ Cont K cl H P v d
theorem AR.view {v : V} {a : A} {d : D} (F : FR K cl σ0 σ H P ρ) (r : AR K cl σ H P ρ v a) (h : view a ρ = some d) : Vw K cl H P v d := by
  cases a with
  | dat e => cases h; exact .inl r
  | frs e => cases h; exact .inr r.1
  | slot i =>
    dsimp only [MP.view] at h
    cases e : ρ[i]? with
    | none => rw [e] at h; cases h
    | some s =>
      rw [e] at h
      have r' : σ[i]? = some (some v) := r
      cases s with
      | non => cases h
      | val t x =>
        cases h
        obtain ⟨w, e2, q⟩ := F.val i t d e
        rw [r'] at e2; cases e2
        exact .inl q
      | own t x =>
        cases h
        obtain ⟨w, e2, q⟩ := F.own i t d e
        rw [r'] at e2; cases e2
        exact .inr q
theorem Vw.int {v : V} {i : Int} (h : Vw K cl H P v (.int i)) : v = .int i := by
  rcases h with h | ⟨_, _, _, _, _, e⟩
  · exact h.int_inv
  · rcases e with ⟨_, _, _, e, _⟩ | ⟨_, _, _, e, _⟩ <;> cases e
theorem Vw.rp {v : V} {d : D} (s : Same P H) (h : Vw K cl H P v d) : Rp K cl H v d := by
  rcases h with h | ⟨a, o, rfl, h, p, r⟩
  · exact h.mono s
  · exact r.rp s h
theorem Vw.lst {v : V} {ds : List D} (s : Same P H) (h : Vw K cl H P v (.lst ds)) : ∃ a vs, v = .ref a ∧ RL K H a vs ∧ Rps K cl P vs ds := by
  rcases h with h | h
  · obtain ⟨a, vs, rfl, r, q⟩ := h.lst_inv
    exact ⟨a, vs, rfl, same_rl s r, q⟩
  · obtain ⟨a, vs, rfl, h, p, r⟩ := h.l
    exact ⟨a, vs, rfl, .inl (.inl h), r⟩
theorem Vw.tup {v : V} {ds : List D} (s : Same P H) (h : Vw K cl H P v (.tup ds)) : ∃ a vs, v = .ref a ∧ SqT K H a vs ∧ SqT K P a vs ∧ Rps K cl P vs ds := by
  rcases h with h | ⟨_, _, _, _, _, e⟩
  · obtain ⟨a, vs, rfl, r, q⟩ := h.tup_inv
    exact ⟨a, vs, rfl, same_sqt s r, r, q⟩
  · rcases e with ⟨_, _, _, e, _⟩ | ⟨_, _, _, e, _⟩ <;> cases e
theorem Vw.dat {v : V} {d : D} (h : Vw K cl H P v d) (n : ∀ ds, d ≠ .lst ds) (n2 : ∀ ks ds, d ≠ .dic ks ds := by exact fun _ _ z => nomatch z) : Rp K cl P v d := by
  rcases h with h | ⟨_, _, _, _, _, e⟩
  · exact h
  · rcases e with ⟨_, ds, _, e, _⟩ | ⟨_, ds, _, e, _⟩
    · exact absurd e (n ds)
    · exact absurd e (n2 _ ds)
/-- a dict that is looked at -/
theorem Vw.dic {v : V} {ks ds : List D} (s : Same P H) (h : Vw K cl H P v (.dic ks ds)) : ∃ a, ∃ kvs : List (Key × V), v = .ref a ∧ Rd H a (.dK kvs) ∧ ks = kvs.map (fun kv => keyD kv.1) ∧ Rps K cl P (kvs.map (·.2)) ds := by
  rcases h with h | h
  · cases h with
    | dic r q => exact ⟨_, _, rfl, same_rd s r, rfl, q⟩
  · obtain ⟨a, kvs, rfl, h, p, e, r⟩ := h.d
    exact ⟨a, kvs, rfl, .inl h, e, r⟩
end

/-! ### relations of results -/
structure Rl (β α : Type) where
  r : L2.St → Env → Hp → Env → Hp → Hp → β → α → Prop
  sh : ∀ {σ ρa Ha Pa ρb Hb Pb ρ H P b a}, Step σ ρa Ha Pa σ ρb Hb Pb → r σ ρb Hb ρ H P b a → r σ ρa Ha ρ H P b a
/-- how an exception lies: c its class, d its own dict -/
def ExR (K : PySem.W.Frag) (cl : Wd) (P : Hp) (x : Ex) (c : Value) (d : Option Addr) : Prop :=
  c = .ref (cl.cl x.cls) ∧ cl.ok x.cls = true ∧ match x.arg with
    | none => True
    | some e => ∃ dx v, d = some dx ∧ P dx = some (.xd [(cl.fl x.cls, v)]) ∧ Rp K cl P v e
section
variable (K : PySem.W.Frag) (cl : Wd)
def rA : Rl V A := ⟨fun σ ρ0 H0 ρ H P v a => AR K cl σ H P ρ v a ∧ AF σ ρ0 H0 v a, fun s h => ⟨h.1, h.2.back s⟩⟩
def rAs : Rl (List V) (List A) := ⟨fun σ ρ0 H0 ρ H P vs as => ARs K cl σ H P ρ vs as ∧ AFs σ ρ0 H0 vs as, fun s h => ⟨h.1, h.2.back s⟩⟩
def rD : Rl V D := ⟨fun _ _ _ _ _ P v d => Rp K cl P v d, fun _ h => h⟩
def rDs : Rl (List V) (List D) := ⟨fun _ _ _ _ _ P vs ds => Rps K cl P vs ds, fun _ h => h⟩
def rB : Rl Bool Bool := ⟨fun _ _ _ _ _ _ b a => b = a, fun _ h => h⟩
def rO : Rl (Option Int) (Option Int) := ⟨fun _ _ _ _ _ _ b a => b = a, fun _ h => h⟩
def Res {β α : Type} (R : Rl β α) (W : WX) (σ0 σ : L2.St) (ρ : Env) (H P : Hp) (m : Mr α) (Q : β → Hp → Prop) : Prop :=
  match m with
  | none => False
  | some (.ok a, ρ') => ∀ b H' P', FR K cl σ0 σ H' P' ρ' → Step σ ρ H P σ ρ' H' P' → R.r σ ρ H ρ' H' P' b a → Q b H'
  | some (.error x, ρ') => ∀ c d H' P', FR K cl σ0 σ H' P' ρ' → Step σ ρ H P σ ρ' H' P' → ExR K cl P' x c d → W c d σ H'
def Can {β α : Type} (R : Rl β α) (W : WX) (σ0 : L2.St) (m : Env → Mr α) : L2.St → Hp → (β → Hp → Prop) → Prop := fun σ H Q =>
  ∃ ρ P, FR K cl σ0 σ H P ρ ∧ Res K cl R W σ0 σ ρ H P (m ρ) Q
end
section
variable {K : PySem.W.Frag} {cl : Wd} {α β γ δ : Type} {R1 : Rl β α} {R2 : Rl γ δ} {W : WX} {σ0 σ : L2.St} {ρ : Env} {H P : Hp}
theorem Can.mono {m : Env → Mr α} {Q Q' : β → Hp → Prop} (h : Can K cl R1 W σ0 m σ H Q) (f : ∀ b H, Q b H → Q' b H) : Can K cl R1 W σ0 m σ H Q' := by
  obtain ⟨ρ, P, F, r⟩ := h
  refine ⟨ρ, P, F, ?_⟩
  unfold Res at r ⊢
  split at r
  · exact r
  · exact fun b H' P' x y z => f _ _ (r b H' P' x y z)
  · exact r
/-- on from a later state -/
theorem Res.later {m : Mr α} {Q : β → Hp → Prop} {ρ1 : Env} {H1 P1 : Hp} (h : Res K cl R1 W σ0 σ ρ H P m Q) (S1 : Step σ ρ H P σ ρ1 H1 P1) : Res K cl R1 W σ0 σ ρ1 H1 P1 m Q := by
  unfold Res at *
  split at h
  · exact h
  · exact fun c H2 P2 F2 S2 r2 => h c H2 P2 F2 (S1.trans S2) (R1.sh S1 r2)
  · exact fun c d H2 P2 F2 S2 r2 => h c d H2 P2 F2 (S1.trans S2) r2
/-- two in a row: the start stays, the state moves on -/
theorem Res.bnd {m : Env → Mr α} {f : α → Env → Mr δ} {Q : γ → Hp → Prop} {ρ1 : Env} {H1 P1 : Hp} (F : FR K cl σ0 σ H1 P1 ρ1) (S : Step σ ρ H P σ ρ1 H1 P1) (h : Res K cl R2 W σ0 σ ρ H P (bnd (m ρ1) f) Q) :
    Can K cl R1 W σ0 m σ H1 fun b H2 => ∃ a ρ2 P2, FR K cl σ0 σ H2 P2 ρ2 ∧ Step σ ρ1 H1 P1 σ ρ2 H2 P2 ∧ Step σ ρ H P σ ρ2 H2 P2 ∧ R1.r σ ρ1 H1 ρ2 H2 P2 b a ∧ Res K cl R2 W σ0 σ ρ H P (f a ρ2) Q := by
  refine ⟨ρ1, P1, F, ?_⟩
  unfold Res MP.bnd at *
  cases e : m ρ1 with
  | none => rw [e] at h; exact h
  | some q =>
    obtain ⟨x, ρ'⟩ := q
    rw [e] at h
    cases x with
    | error x => exact fun c d H' P' F1 S1 r1 => h c d H' P' F1 (S.trans S1) r1
    | ok a => exact fun b H' P' F1 S1 r1 => ⟨a, ρ', P', F1, S1, S.trans S1, r1, h⟩
theorem Res.bndE {m : Env → Mr α} {f : α → Env → Mr δ} {Q : γ → Hp → Prop} {ρ1 : Env} {H1 P1 : Hp} (F : FR K cl σ0 σ H1 P1 ρ1) (S : Step σ ρ H P σ ρ1 H1 P1) (h : Res K cl R2 W σ0 σ ρ H P (MP.bnd (m ρ1) f) Q) :
    Can K cl R1 W σ0 m σ H1 fun b H2 => ∃ a ρ2 P2, FR K cl σ0 σ H2 P2 ρ2 ∧ Step σ ρ1 H1 P1 σ ρ2 H2 P2 ∧ Step σ ρ H P σ ρ2 H2 P2 ∧ R1.r σ ρ1 H1 ρ2 H2 P2 b a ∧ Res K cl R2 W σ0 σ ρ H P (f a ρ2) Q ∧ m ρ1 = some (.ok a, ρ2) := by
  refine ⟨ρ1, P1, F, ?_⟩
  unfold Res MP.bnd at *
  cases e : m ρ1 with
  | none => rw [e] at h; exact h
  | some q =>
    obtain ⟨x, ρ'⟩ := q
    rw [e] at h
    cases x with
    | error x => exact fun c d H' P' F1 S1 r1 => h c d H' P' F1 (S.trans S1) r1
    | ok a => exact fun b H' P' F1 S1 r1 => ⟨a, ρ', P', F1, S1, S.trans S1, r1, h, rfl⟩
/-- .. the first one being nothing but a look -/
theorem Res.bnd_ok {a : α} {ρ' : Env} {f : α → Env → Mr δ} : MP.bnd (ok a ρ') f = f a ρ' := rfl
theorem Res.ret {Q : β → Hp → Prop} {a : α} {b : β} {ρ1 : Env} {H1 P1 : Hp} (F : FR K cl σ0 σ H1 P1 ρ1) (S : Step σ ρ H P σ ρ1 H1 P1) (h : Res K cl R1 W σ0 σ ρ H P (ok a ρ1) Q) (r : R1.r σ ρ H ρ1 H1 P1 b a) : Q b H1 := h b H1 P1 F S r
theorem Res.no {Q : β → Hp → Prop} (h : Res K cl R1 W σ0 σ ρ H P none Q) : False := h
theorem Res.datum {Q : V → Hp → Prop} {d : D} {v : V} {ρ1 : Env} {H1 P1 : Hp} (F : FR K cl σ0 σ H1 P1 ρ1) (S : Step σ ρ H P σ ρ1 H1 P1) (h : Res K cl (rA K cl) W σ0 σ ρ H P (ok (.dat d) ρ1) Q) (r : Rp K cl P1 v d) : Q v H1 :=
  Res.ret F S h ⟨r, fun _ e => nomatch e⟩
theorem same_upd {H : Hp} {p : Addr} {o : HO} (h : H p = none) : Same H (upd H p o) := fun b x e => by
  rw [upd_ne (ne_of_none e h)]
  exact e
theorem Tabs.grow {T : List (Addr × Str)} {p : Addr} {o : HO} (t : LamX.Tabs T H) (hp : H p = none) : LamX.Tabs T (upd H p o) := t.ext fun b x e => same_upd hp _ _ e
/-- what is neither a table nor told by a property is written anew -/
theorem Tabs.set {T : List (Addr × Str)} {p : Addr} {o o' : HO} (hp : H p = some o) (n1 : ∀ ps, o ≠ .tbl ps) (n2 : ∀ φ, o ≠ .ext φ) (t : LamX.Tabs T H) : LamX.Tabs T (L2.upd H p o') := fun q hq => by
  obtain ⟨ps, h1, h2, h3⟩ := t q hq
  have m1 : q.1 ≠ p := fun e => by
    rw [e, hp] at h1
    exact n1 _ (Option.some.inj h1)
  refine ⟨ps, by rw [upd_ne m1]; exact h1, h2, fun pos cv hc => ?_⟩
  obtain ⟨c, e1, e2⟩ := h3 pos cv hc
  have m2 : c ≠ p := fun e => by
    rw [e, hp] at e2
    unfold LamX.CodeO at e2
    exact n2 _ (Option.some.inj e2)
  exact ⟨c, e1, by rw [upd_ne m2]; exact e2⟩
theorem Tabs.upd {T : List (Addr × Str)} {p : Addr} {us vs : List V} (t : LamX.Tabs T H) (hp : H p = some (.lst us)) : LamX.Tabs T (L2.upd H p (.lst vs)) := Tabs.set hp (fun _ z => nomatch z) (fun _ z => nomatch z) t
theorem TB.grow {cl : Wd} {p : Addr} {o : HO} (t : TB cl H P) (hp : H p = none) : TB cl (upd H p o) P := ⟨Tabs.grow t.tabs hp, t.nt⟩
theorem TB.updL {cl : Wd} {p : Addr} {us vs : List V} (t : TB cl H P) (hp : H p = some (.lst us)) : TB cl (L2.upd H p (.lst vs)) P := ⟨Tabs.upd t.tabs hp, t.nt⟩
theorem TB.addP {cl : Wd} {p : Addr} {o : HO} (t : TB cl H P) (ho : ∀ ps, o ≠ .tbl ps) : TB cl H (upd P p o) := ⟨t.tabs, fun a ps e => by
  by_cases h : a = p
  · subst h
    rw [upd_same] at e
    cases e
    exact ho _ rfl
  · rw [upd_ne h] at e
    exact t.nt a ps e⟩
/-- the heap grows by one object -/
theorem FR.grow (F : FR K cl σ0 σ H P ρ) {p : Addr} {o : HO} (hp : H p = none) : FR K cl σ0 σ (upd H p o) P ρ where
  sub := F.sub.trans (same_upd hp)
  len := F.len
  val := F.val
  own := fun i t d e => by
    obtain ⟨v, e2, a, ob, rfl, h, q, r⟩ := F.own i t d e
    exact ⟨_, e2, a, ob, rfl, same_upd hp _ _ h, q, r⟩
  inj := F.inj
  tag := F.tag
  tb := F.tb.grow hp
theorem FR.none {p : Addr} (F : FR K cl σ0 σ H P ρ) (hp : H p = Option.none) : P p = Option.none := F.sub.free hp
theorem FR.notOwn {p : Addr} (F : FR K cl σ0 σ H P ρ) (hp : H p = Option.none) : ¬ Own σ ρ p := fun o => by
  obtain ⟨vs, h, _⟩ := F.own_at o
  rw [hp] at h
  cases h
theorem Step.grow {p : Addr} {o : HO} (hp : H p = Option.none) : Step σ ρ H P σ ρ (upd H p o) P :=
  ⟨fun a u e _ _ => same_upd hp _ _ e, Same.refl _, fun _ h h' => absurd h h', fun _ h => .inr h⟩
theorem FR.growP (F : FR K cl σ0 σ H P ρ) {p : Addr} {o : HO} (hp : H p = Option.none) (ho : ∀ ps, o ≠ .tbl ps := by exact fun _ z => nomatch z) : FR K cl σ0 σ (upd H p o) (upd P p o) ρ where
  sub := fun b u e => by
    by_cases hb : b = p
    · subst hb
      rw [upd_same] at e ⊢
      exact e
    · rw [upd_ne hb] at e ⊢
      exact F.sub _ _ e
  len := F.len
  val := fun i t d e => by
    obtain ⟨v, e2, r⟩ := F.val i t d e
    exact ⟨v, e2, r.mono (same_upd (F.none hp))⟩
  own := fun i t d e => by
    obtain ⟨v, e2, a, ob, rfl, h, q, r⟩ := F.own i t d e
    have na : a ≠ p := ne_of_none h hp
    exact ⟨_, e2, a, ob, rfl, same_upd hp _ _ h, by rw [upd_ne na]; exact q, r.mono (same_upd (F.none hp))⟩
  inj := F.inj
  tag := F.tag
  tb := (F.tb.grow hp).addP ho
theorem Step.growP (F : FR K cl σ0 σ H P ρ) {p : Addr} {o : HO} (hp : H p = Option.none) : Step σ ρ H P σ ρ (upd H p o) (upd P p o) :=
  ⟨fun a u e _ _ => same_upd hp _ _ e, same_upd (F.none hp), fun a h h' => by
    by_cases ha : a = p
    · subst ha; exact .inl (.of hp)
    · rw [upd_ne ha] at h'; exact absurd h h', fun _ h => .inr h⟩
/-- a list that is nobody's here is written -/
theorem FR.updH {D : Addr} {o : HO} (F : FR K cl σ0 σ H P ρ) (h1 : P D = Option.none) (h2 : ¬ Own σ ρ D) (ht : LamX.Tabs cl.T (L2.upd H D o)) : FR K cl σ0 σ (L2.upd H D o) P ρ := by
  refine ⟨fun b x e => ?_, F.len, F.val, fun i t d h => ?_, F.inj, F.tag, ⟨ht, F.tb.nt⟩⟩
  · rw [upd_ne (ne_of_none e h1)]
    exact F.sub _ _ e
  · obtain ⟨v, g1, a, ob, rfl, g2, g3, g4⟩ := F.own i t d h
    have n : a ≠ D := fun e => by subst e; exact h2 ⟨i, t, _, h, g1⟩
    exact ⟨_, g1, a, ob, rfl, by rw [upd_ne n]; exact g2, g3, g4⟩
theorem Step.updH {D : Addr} {o : HO} (S : Step σ ρ H P σ1 ρ1 H1 P1) (hD : H D = Option.none) : Step σ ρ H P σ1 ρ1 (L2.upd H1 D o) P1 :=
  ⟨fun a u h nt n => by rw [upd_ne (ne_of_none h hD)]; exact S.keep a u h nt n, S.mono, S.newP, S.newO⟩
/-- an object that nobody writes from now on is shared -/
theorem FR.addP (F : FR K cl σ0 σ H P ρ) {p : Addr} {o : HO} (hp : H p = some o) (pp : P p = Option.none) (no : ¬ Own σ ρ p) (ho : ∀ ps, o ≠ .tbl ps := by exact fun _ z => nomatch z) : FR K cl σ0 σ H (upd P p o) ρ where
  sub := fun b u e => by
    by_cases hb : b = p
    · subst hb
      rw [upd_same] at e
      cases e
      exact hp
    · rw [upd_ne hb] at e
      exact F.sub _ _ e
  len := F.len
  val := fun i t d e => by
    obtain ⟨v, e2, r⟩ := F.val i t d e
    exact ⟨v, e2, r.mono (same_upd pp)⟩
  own := fun i t d e => by
    obtain ⟨v, e2, a, ob, rfl, h, q, r⟩ := F.own i t d e
    have na : a ≠ p := fun z => by subst z; exact no ⟨i, t, _, e, e2⟩
    exact ⟨_, e2, a, ob, rfl, h, by rw [upd_ne na]; exact q, r.mono (same_upd pp)⟩
  inj := F.inj
  tag := F.tag
  tb := F.tb.addP ho
theorem Step.addP (S : Step σ ρ H P σ1 ρ1 H1 P1) {p : Addr} {o : HO} (hp : H p = Option.none) (pp : P1 p = Option.none) : Step σ ρ H P σ1 ρ1 H1 (upd P1 p o) :=
  ⟨S.keep, S.mono.trans (same_upd pp), fun a h h' => by
    by_cases ha : a = p
    · subst ha; exact .inl (.of hp)
    · rw [upd_ne ha] at h'; exact S.newP a h h', S.newO⟩
/-- a new shared tuple -/
theorem Res.newTup {Q : V → Hp → Prop} {vs : List V} {ds : List D} {p : Addr} {ρ1 : Env} {H1 P1 : Hp} (F : FR K cl σ0 σ H1 P1 ρ1) (S : Step σ ρ H P σ ρ1 H1 P1) (h : Res K cl (rA K cl) W σ0 σ ρ H P (ok (.dat (.tup ds)) ρ1) Q) (r : Rps K cl P1 vs ds) (hp : H1 p = Option.none) : Q (.ref p) (upd H1 p (.tup vs)) :=
  h _ _ _ (F.growP hp) (S.trans (Step.growP F hp)) ⟨.tup (.inl (.inl upd_same)) (r.mono (same_upd (F.none hp))), fun _ e => nomatch e⟩
/-- a new list of one's own -/
theorem Res.newLst {Q : V → Hp → Prop} {vs : List V} {ds : List D} {p : Addr} {ρ1 : Env} {H1 P1 : Hp} (F : FR K cl σ0 σ H1 P1 ρ1) (S : Step σ ρ H P σ ρ1 H1 P1) (h : Res K cl (rA K cl) W σ0 σ ρ H P (ok (.frs (.lst ds)) ρ1) Q) (r : Rps K cl P1 vs ds) (hp : H1 p = Option.none) : Q (.ref p) (upd H1 p (.lst vs)) :=
  h _ _ _ (F.grow hp) (S.trans (Step.grow hp)) ⟨⟨.ofL upd_same (F.none hp) r, fun b e o => by
    injection e with e
    subst e
    exact F.notOwn hp o⟩, fun _ _ b e => by
    injection e with e
    subst e
    exact S.none (.of hp)⟩
/-- a list is made shared: those names that hold it tell it as data from now on -/
theorem FR.share {ob : HO} {dt : D} {b : Addr} {ρ1 : Env} (F : FR K cl σ0 σ H P ρ) (hb : H b = some ob) (pb : P b = Option.none) (q : Sto K cl P ob dt) (hl : ρ1.length = ρ.length)
    (ho : ∀ (i : Nat) (s : Slot), ρ1[i]? = some s → s = .non ∨ ρ[i]? = some s ∨ ∃ (t : Bool) (d : D), s = .val t dt ∧ ρ[i]? = some (.own t d) ∧ σ[i]? = some (some (V.ref b)))
    (hn : ∀ (i : Nat) (t : Bool) (d : D), ρ1[i]? = some (.own t d) → σ[i]? ≠ some (some (V.ref b))) : FR K cl σ0 σ H (upd P b ob) ρ1 := by
  have sm : Same P (upd P b ob) := same_upd pb
  have rb : Rp K cl (upd P b ob) (.ref b) dt := q.rp sm upd_same
  refine ⟨fun c o e => ?_, hl.trans F.len, fun i t d e => ?_, fun i t d e => ?_, fun i j t t' d d' a e1 e2 e3 e4 => ?_, fun i d e => ?_, F.tb.addP q.nt⟩
  · by_cases hc : c = b
    · subst hc; rw [upd_same] at e; cases e; exact hb
    · rw [upd_ne hc] at e; exact F.sub _ _ e
  · rcases ho i _ e with z | z | ⟨t', d', z, z2, z3⟩
    · cases z
    · obtain ⟨w, e2, r2⟩ := F.val i t d z
      exact ⟨w, e2, r2.mono sm⟩
    · cases z
      exact ⟨_, z3, rb⟩
  · rcases ho i _ e with z | z | ⟨t', d', z, z2, z3⟩
    · cases z
    · obtain ⟨w, e2, c, o', rfl, h1, h2, h3⟩ := F.own i t d z
      have hc : c ≠ b := fun z => by subst z; exact hn i t _ e e2
      exact ⟨_, e2, c, o', rfl, h1, by rw [upd_ne hc]; exact h2, h3.mono sm⟩
    · cases z
  · rcases ho i _ e1 with z | z | ⟨_, _, z, _⟩
    · cases z
    · rcases ho j _ e2 with z' | z' | ⟨_, _, z', _⟩
      · cases z'
      · exact F.inj i j t t' d d' a z z' e3 e4
      · cases z'
    · cases z
  · rcases e with e | e
    · rcases ho i _ e with z | z | ⟨t', d', z, z2, z3⟩
      · cases z
      · exact F.tag i d (.inl z)
      · cases z
        exact F.tag i d' (.inr z2)
    · rcases ho i _ e with z | z | ⟨t', d', z, z2, z3⟩
      · cases z
      · exact F.tag i d (.inr z)
      · cases z
theorem Step.share {ob : HO} {b : Addr} {ρ1 ρ2 : Env} {H1 P1 : Hp} (S : Step σ ρ H P σ ρ1 H1 P1) (pb : P1 b = Option.none) (hb : Nw H b ∨ Own σ ρ b) (ho : ∀ a, Own σ ρ2 a → Own σ ρ1 a) : Step σ ρ H P σ ρ2 H1 (upd P1 b ob) :=
  ⟨S.keep, S.mono.trans (same_upd pb), fun a e1 e2 => by
    by_cases ha : a = b
    · subst ha; exact hb
    · rw [upd_ne ha] at e2; exact S.newP a e1 e2, fun a o => S.newO a (ho a o)⟩
theorem get_set {α : Type} {l : List α} {i j : Nat} {x y : α} (h : (l.set i x)[j]? = some y) : (i = j ∧ y = x) ∨ (i ≠ j ∧ l[j]? = some y) := by
  by_cases e : i = j
  · subst e
    rw [List.getElem?_set] at h
    split at h
    · split at h
      · exact .inl ⟨rfl, (Option.some.inj h).symm⟩
      · cases h
    · exact absurd rfl ‹_›
  · rw [List.getElem?_set_ne e] at h
    exact .inr ⟨e, h⟩
/-- a result made shared -/
theorem freeze {ρ1 ρ2 : Env} {H1 P1 : Hp} {v : V} {a : A} {d : D} (F1 : FR K cl σ0 σ H1 P1 ρ1) (S1 : Step σ ρ H P σ ρ1 H1 P1) (r : AR K cl σ H1 P1 ρ1 v a) (f : AF σ ρ H v a) (h : frz a ρ1 = some (d, ρ2)) :
    ∃ P2, FR K cl σ0 σ H1 P2 ρ2 ∧ Step σ ρ H P σ ρ2 H1 P2 ∧ Rp K cl P2 v d := by
  cases a with
  | dat e =>
    cases h
    exact ⟨P1, F1, S1, r⟩
  | frs e =>
    cases h
    obtain ⟨⟨b, ob, rfl, hb, pb, q⟩, hn⟩ := r
    refine ⟨upd P1 b ob, F1.share hb pb q rfl (fun i s e => .inr (.inl e)) (fun i t d e z => hn b rfl ⟨i, t, d, e, z⟩), S1.share pb (f _ rfl b rfl) fun _ o => o, q.rp (same_upd pb) upd_same⟩
  | slot i =>
    dsimp only [frz] at h
    cases e : ρ1[i]? with
    | none => rw [e] at h; cases h
    | some s =>
      rw [e] at h
      have r' : σ[i]? = some (some v) := r
      cases s with
      | non => cases h
      | val t x =>
        cases h
        obtain ⟨w, e2, q⟩ := F1.val i t d e
        rw [r'] at e2; cases e2
        exact ⟨P1, F1, S1, q⟩
      | own t x =>
        cases h
        obtain ⟨w, e2, b, oo, rfl, hb, pb, q⟩ := F1.own i t d e
        rw [r'] at e2; cases e2
        have ob : Own σ ρ1 b := ⟨i, t, _, e, r'⟩
        refine ⟨upd P1 b oo, F1.share hb pb q (by rw [List.length_set]) (fun j s ej => ?_) (fun j t' d' ej z => ?_), S1.share pb (S1.newO b ob) (fun a o => ?_), q.rp (same_upd pb) upd_same⟩
        · rcases get_set ej with ⟨rfl, rfl⟩ | ⟨_, ej⟩
          · exact .inr (.inr ⟨t, _, rfl, e, r'⟩)
          · exact .inr (.inl ej)
        · rcases get_set ej with ⟨_, z'⟩ | ⟨n, ej⟩
          · cases z'
          · exact n (F1.inj i j t t' _ _ b e ej r' z)
        · obtain ⟨j, t', d', ej, z⟩ := o
          rcases get_set ej with ⟨_, z'⟩ | ⟨n, ej⟩
          · cases z'
          · exact ⟨j, t', d', ej, z⟩
end
end MP
set_option Elab.async false
set_option linter.all false
set_option maxRecDepth 100000
set_option maxHeartbeats 2000000
/-! MP: own errors: made, with a field, super().__init__ called -/
namespace PySem
namespace MPX
open PySem.W PySem.Calls PyProof.Rows PySem.HandSPX Builtin.ObjectAttr
/-! ### the text of __init__ -/
def iA (f : Str) (p1 p2 : Pos) : Arguments := { posonlyargs := [], args := [{ arg := PySem.Str.ofString "self", annotation := none, pos := p1 }, { arg := f, annotation := none, pos := p2 }], vararg := none, kwonlyargs := [], kw_defaults := [], kwarg := none, defaults := [] }
def iB (f m : Str) (j : Nat) (q1 q2 q3 q4 q5 q6 r1 r2 r3 r4 : Pos) : List Stmt :=
  [.Expr (.Call (.Attribute (.Call (.Name (PySem.Str.ofString "super") q1) [] [] q2) (PySem.Str.ofString "__init__") q3) [.Constant (.str m) j q4] [] q5) q6,
   .Assign [.Attribute (.Name (PySem.Str.ofString "self") r1) f r2] (.Name f r3) r4]
def iS (f : Str) : Scope := { kind := .function, names := [(PySem.Str.ofString "self", .local), (f, .local), (PySem.Str.ofString "__class__", .free), (PySem.Str.ofString "super", .globalImplicit)], isGenerator := false, isCoroutine := false, more := [] }
/-- facts of the built-in base -/
structure XBase (B newId initId : String) (bmB : List Value) : Prop where
  fb : ExcBaseFacts B newId initId bmB
  st : StoreFacts B bmB "object.__setattr__" "object"
  kf : KxsFacts B initId
/-- what the written part says of such a class, at C -/
structure InitTxt (prog : Program) (K : Frag) (mg : Str → Option Value) (B newId initId : String) (bmB : List Value) (f : Str) (C : Addr) : Prop where
  base : XBase B newId initId bmB
  kC : keepIn K (.ref C) = true
  xC : excInitIn K C bmB newId = true
  oC : excOver K C bmB = true
  sa : findIn K (.ref C) "__setattr__" = some (some (.builtin "object.__setattr__"))
  xf : L2.XfC K C
  noN : findIn K (.ref C) f = some none
  tk : takerIn K C f = some none
  tyC : typeIn K (.ref C) = some (.type "type")
  sup : ks_superIn K C C "__init__" = some (some (.builtin initId))
  sB : subIn K (.ref C) (.type B) = some true
  opq : nsIn K cStatics "thirdparty.any" = some none
  sub : mroIn K C (.ref C) = some true
  supG : mg "super" = none
  htop : (prog.main.scope.names.lookup ("super" : Str)).isSome = false
  fd1 : (f == ("__debug__" : Str)) = false
  s1 : (iS f).names.lookup (PySem.Str.ofString "super") = some .globalImplicit
  s2 : (iS f).names.lookup (PySem.Str.ofString "__class__") = some .free
  s3 : (iS f).names.lookup (PySem.Str.ofString "self") = some .local
  s4 : (iS f).names.lookup f = some .local
  bnd : ∀ (q m : Str) (kV doc pm cdv ct : Value) (an : Option Addr) (cc : Addr) (p1 p2 q1 q2 q3 q4 q5 q6 r1 r2 r3 r4 : Pos) (j : Nat) (x v : Value),
    bindArgs (ksFn "__init__" q (iA f p1 p2) (iB f m j q1 q2 q3 q4 q5 q6 r1 r2 r3 r4) (iS f) .none kV doc pm an cdv ct cc) ⟨[x, v], []⟩ = pure [(PySem.Str.ofString "self", x), (f, v)]
  l1 : ∀ x v : Value, ([(PySem.Str.ofString "self", x), (f, v)] : List (Str × Value)).reverse.lookup (PySem.Str.ofString "self") = some x
  l2 : ∀ x v : Value, ([(PySem.Str.ofString "self", x), (f, v)] : List (Str × Value)).reverse.lookup f = some v
  fn : ∃ (fI cda cc : Addr) (oc : Value) (od : Option Addr) (q : Str) (kV doc pm : Value) (an : Option Addr) (ct : Value) (osl : Array (Option Value)) (p1 p2 q1 q2 q3 q4 q5 q6 r1 r2 r3 r4 : Pos) (m : Str) (j : Nat) (ccl : Value) (cdd : Option Addr) (vs : Array Value) (ccs : Array (Option Value)) (file : Str) (tf : Tok) (cl : Value) (cld : Option Addr) (csl : Array (Option Value)),
    findIn K (.ref C) "__init__" = some (some (.ref fI)) ∧ typeIn K (.ref fI) = some (.type "function") ∧
    K.lookup fI = some ⟨oc, od, .func (ksFn "__init__" q (iA f p1 p2) (iB f m j q1 q2 q3 q4 q5 q6 r1 r2 r3 r4) (iS f) .none kV doc pm an (.ref cda) ct cc), osl⟩ ∧ codeIn K (.ref cda) q = true ∧ (q3.endLine == q5.line) = true ∧
    K.lookup cda = some ⟨ccl, cdd, .fields vs, ccs⟩ ∧ vs[2]? = some (.str file tf) ∧ ((prog.main.file : Str) == file) = true ∧
    K.lookup cc = some ⟨cl, cld, .cell (some (.ref C)), csl⟩
theorem one_size (v : Value) : [v].length ≤ sizeLine := by
  rw [sizeLine_eq]
  exact (by decide : 1 ≤ 16777216)
theorem kept_but {K : Frag} {h h' : Heap} {x : Addr} (X : K.In h) (hx : K.lookup x = none) (k : ∀ b o, b ≠ x → h.get? b = some o → h'.get? b = some o) : K.In h' := fun a o e =>
  k a o (fun z => by rw [z, hx] at e; cases e) (X a o e)
/-- what __init__ leaves of a fresh exception at x -/
structure InitEnd (h h' : Heap) (x C dx t1 : Addr) (f : Str) (v : Value) : Prop where
  keep : ∀ b o, b ≠ x → h.get? b = some o → h'.get? b = some o
  obj : h'.get? x = some { cls := .ref C, dict := some dx, data := .fields #[.ref t1, .none, .none, .none, .bool false, .none] }
  dbig : h.objs.size ≤ dx
  dne : dx ≠ x
  ns : h'.Ns1 dx (fun y => if y = f then some v else none)
/-- a made error -/
structure OwnMade (h h' : Heap) (e C d : Addr) (f : Str) (v : Value) : Prop where
  keep : ∀ b o, h.get? b = some o → h'.get? b = some o
  new : h.objs.size ≤ e
  obj : ∃ oe vs, h'.get? e = some oe ∧ oe.cls = .ref C ∧ oe.dict = some d ∧ oe.data = .fields vs ∧ vs[1]? = some .none
  dbig : h.objs.size ≤ d
  dne : d ≠ e
  ns : h'.Ns1 d (fun y => if y = f then some v else none)
section
variable {prog : Program} {w : World} {A : Around} {E : Value → Shared → Prop} {R : Result → Shared → Prop} {s : Shared} {K : Frag} {mg mb : Str → Option Value} {C : Addr} {B newId initId : String} {bmB : List Value} {f : Str}
/-- super().__init__(..), bound: called -/
theorem call_mw {u x t0 : Addr} {rest : List Value} {Q : Value → Shared → Prop} (X : K.In s.heap) (FB : ExcBaseFacts B newId initId bmB) (q : excInitIn K C bmB newId = true)
    (hu : s.heap.get? u = some (kxs_mw initId x)) (hx : s.heap.get? x = some (excO C t0)) (hz : rest.length ≤ sizeLine)
    (hq : ∀ h' t1, (∀ b o, b ≠ x → s.heap.get? b = some o → h'.get? b = some o) → h'.get? x = some (excO C t1) → Q .none { s with heap := h' }) :
    wpAny (model prog w) A (call (.ref u) rest) Q E s := by
  obtain ⟨nm, N', qn, bs, bm, hdct, sn, sub, ab, col, dd, k0, k1, k2, k3, k5, hC, hT⟩ := excInit_of X q
  obtain ⟨hh, g, d, tk, os⟩ := s
  refine wpAny_call (codeAny_of_tree ?_)
  show wpAny _ A.in1 (callAny (.ref u) ⟨rest, []⟩) _ _ _
  simp only [callAny]
  refine wpAny_bind (wpAny_load hu ?_)
  simp only [kxs_mw, show (Value.type "method-wrapper" == Value.type "method" || Value.type "method-wrapper" == Value.type "builtin_function_or_method" || Value.type "method-wrapper" == Value.type "method-wrapper") = true by decide, if_true]
  refine KFB.if_so (by decide) ?_
  refine wpAny_bind (check_bound_init FB.toExcCallFacts hC hx rfl ?_)
  refine wpAny_bind (wpAny_pure (wpAny_pure ?_))
  refine ⟨plainId_quiet FB.init.plain _, codeAny_builtin FB.initEntry ?_⟩
  exact exc_init_tree (cls := .ref C) (t0 := t0) (dv := none) (c2 := .none) (c3 := .none) (b4 := .bool false) hx hz fun h' k e' _ => hq h' _ k e'
/-- self.f = v, no dict yet -/
theorem set_new {x t0 : Addr} {v : Value} {Q : Unit → Shared → Prop} (X : K.In s.heap) (T : InitTxt prog K mg B newId initId bmB f C) (hx : s.heap.get? x = some (excO C t0))
    (hq : ∀ h' tk' dx, (∀ b o, b ≠ x → s.heap.get? b = some o → h'.get? b = some o) → s.heap.objs.size ≤ dx → dx ≠ x → h'.get? x = some { cls := .ref C, dict := some dx, data := .fields #[.ref t0, .none, .none, .none, .bool false, .none] } →
      h'.Ns1 dx (fun y => if y = f then some v else none) → Q () { s with heap := h', toks := tk' }) :
    wpAny (model prog w) A (setAttr (.ref x) f v) Q E s := by
  have I : W.InstAt s.heap x (excO C t0) C none := ⟨hx, rfl, rfl, trivial⟩
  have hxs : x ≠ s.heap.objs.size := Nat.ne_of_lt (Heap.lt_size hx)
  refine set_plain X I T.sa ?_
  obtain ⟨hp, g, d, t, os⟩ := s
  refine osa_openX (s := ⟨hp, g, d, t + 1, os⟩) T.base.st X I T.oC T.tk fun b => ?_
  show wpAny _ _ (storeInOwnDict (.ref x) (.ref C) (.str f t) f v b) _ _ _
  have hh := T.xf.hdC
  unfold hasDictIn at hh
  cases hcd : clsIn K C with
  | none => rw [hcd] at hh; cases hh
  | some cd =>
    rw [hcd] at hh
    have hcls : W.Looks (model prog w) hp (classData C) cd := W.looks_clsIn X hcd
    obtain ⟨nm, bs, mro, ns, qn, hd, sn, sb, ab, col, del⟩ := cd
    have hh : hd = true := by simpa using hh
    subst hh
    unfold storeInOwnDict ownDictForStores
    repeat (first | with_reducible refine HandSPX.store_in_new ?_ ?_ | with_reducible refine wpAny_loadPart_at hx ?_ | with_reducible refine hcls.at ?_ | wp_step)
    · exact ⟨_, #[], _, (Heap.get?_update_ne _ _ _ _ hxs.symm).trans (Heap.get?_push_at rfl rfl), rfl, fun e he => absurd he (by simp), fun _ => rfl⟩
    · intro h' tk' hn' hs
      have hx₁ : (hp.push { cls := .type "dict", data := .dict #[] }).get? x = some (excO C t0) := Heap.get?_push_of_some _ hx
      refine hq h' tk' hp.objs.size (fun b o hb ho => ?_) (Nat.le_refl _) hxs.symm ?_ hn'
      · exact (hs.2 b (Nat.ne_of_lt (Heap.lt_size ho))).trans ((Heap.get?_update_ne _ _ _ _ hb).trans (Heap.get?_push_of_some _ ho))
      · exact (hs.2 x hxs).trans (Heap.get?_update_self _ hx₁ rfl)
theorem own_init (T : InitTxt prog K mg B newId initId bmB f C) {fI cda cc x t0 : Addr} {oc : Value} {od : Option Addr} {q : Str} {kV doc pm : Value} {an : Option Addr} {ct : Value} {osl : Array (Option Value)} {p1 p2 q1 q2 q3 q4 q5 q6 r1 r2 r3 r4 : Pos} {m : Str} {j : Nat} {ccl : Value} {cdd : Option Addr} {vs : Array Value} {ccs : Array (Option Value)} {file : Str} {tf : Tok} {cl : Value} {cld : Option Addr} {csl : Array (Option Value)} {v : Value}
    (ho : K.lookup fI = some ⟨oc, od, .func (ksFn "__init__" q (iA f p1 p2) (iB f m j q1 q2 q3 q4 q5 q6 r1 r2 r3 r4) (iS f) .none kV doc pm an (.ref cda) ct cc), osl⟩) (hcd : codeIn K (.ref cda) q = true) (hline : (q3.endLine == q5.line) = true)
    (hco : K.lookup cda = some ⟨ccl, cdd, .fields vs, ccs⟩) (hvs : vs[2]? = some (.str file tf)) (hfile : ((prog.main.file : Str) == file) = true) (hcc : K.lookup cc = some ⟨cl, cld, .cell (some (.ref C)), csl⟩)
    (X : K.In s.heap) (hlim : s.heap.NoLimit) (hg : s.heap.Ns mainGlobals mg) (hb : s.heap.Ns builtinsNs mb) (hbs : mb "super" = some (.type "super"))
    (hx : s.heap.get? x = some (excO C t0)) (hnx : K.lookup x = none) (hroom : A.depth < recursionLimit)
    (hq : ∀ h' tk dx t1, InitEnd s.heap h' x C dx t1 f v → R (.ok (.ret .none)) { s with heap := h', toks := tk }) :
    codeAny (model prog w) A (.call (.ref fI) ⟨[.ref x, v], []⟩) R s := by
  refine ks_codeAny_call_defAt (fd := ksFn "__init__" q (iA f p1 p2) (iB f m j q1 q2 q3 q4 q5 q6 r1 r2 r3 r4) (iS f) .none kV doc pm an (.ref cda) ct cc) (body := iB f m j q1 q2 q3 q4 q5 q6 r1 r2 r3 r4) (binds := [(PySem.Str.ofString "self", .ref x), (f, v)]) hroom (X _ _ ho) rfl hlim (codeRec_of X hcd) rfl (BindsTo.of_eq ?b1) ?b2 ?b3 (fun h₁ hn k => ?_)
  case b1 => exact T.bnd ..
  case b2 =>
    intro y hy
    have hy : y ∈ (iS f).names := hy
    simp only [iS, List.mem_cons, List.not_mem_nil, or_false] at hy
    rcases hy with rfl | rfl | rfl | rfl <;> exact fun z => nomatch z
  case b3 =>
    intro y hy
    simp only [List.mem_cons, List.not_mem_nil, or_false] at hy
    rcases hy with rfl | rfl
    · exact T.s3
    · exact T.s4
  have X₁ : K.In h₁ := X.keeps k
  have hx₁ := k _ _ hx
  have nC : x ≠ C := fun e => by
    have := T.xC
    unfold excInitIn at this
    rw [← e, hnx] at this
    cases this
  obtain ⟨cd, hcl⟩ : ∃ cd, clsIn K C = some cd := by
    have := T.oC
    unfold excOver at this
    cases e : clsIn K C with
    | none => rw [e] at this; cases this
    | some cd => exact ⟨cd, rfl⟩
  obtain ⟨oD, hD1, hD2⟩ : ∃ oD, h₁.get? C = some oD ∧ oD.data = .cls cd := by
    unfold clsIn at hcl
    split at hcl
    · rename_i c d cd' sl ho
      cases hcl
      exact ⟨_, X₁ _ _ ho, rfl⟩
    · cases hcl
  have he : ∀ env : Env, eval (.Call (.Attribute (.Call (.Name (PySem.Str.ofString "super") q1) [] [] q2) (PySem.Str.ofString "__init__") q3) [.Constant (.str m) j q4] [] q5) env = (do
      let ov ← attributeBase (.Call (.Name (PySem.Str.ofString "super") q1) [] [] q2) (PySem.Str.ofString "__init__") env (eval (.Call (.Name (PySem.Str.ofString "super") q1) [] [] q2) env)
      standAt q3.atName
      let (f, first) ← holding [ov] (getMethod ov (PySem.Str.ofString "__init__") (do return (← importBound (.Call (.Name (PySem.Str.ofString "super") q1) [] [] q2) env).getD true))
      callWith q5 f first (backTo q5 (starEach [.Constant (.str m) j q4] env)) []) := fun env => by
    rw [arm_eval_Call]
    have hpos : methodCallPos true (.Call (.Name (PySem.Str.ofString "super") q1) [] [] q2) env q3 q5 = pure q5 := by unfold methodCallPos; simp [hline]
    refine congrArg (fun g => attributeBase _ _ env (eval _ env) >>= g) (funext fun ov => ?_)
    refine congrArg (fun g => standAt _ >>= g) (funext fun _ => ?_)
    show (do
      let (f, first) ← holding [ov] (getMethod ov (PySem.Str.ofString "__init__") (do return (← importBound (.Call (.Name (PySem.Str.ofString "super") q1) [] [] q2) env).getD true))
      let callPos ← methodCallPos true (.Call (.Name (PySem.Str.ofString "super") q1) [] [] q2) env q3 q5
      callWith callPos f first (backTo q5 (starEach [.Constant (.str m) j q4] env)) []) = _
    rw [hpos]
    rfl
  refine ks_wpAt_execs_cons (ks_wpAt_Expr_any (ks_wpAt_MethodCall ?_ (he _)))
  refine ks_wpAt_super_base T.s1 T.s2 (by decide +kernel) rfl (k _ _ (X _ _ ho)) rfl rfl rfl (k _ _ (X _ _ hco)) rfl hvs hfile T.htop ?_
  refine ks_loadName_global rfl T.s1 (loadGlobal_builtin (hg.keeps k) T.supG (hb.keeps k) hbs ⟨rfl, ?_⟩)
  refine wpAny_loadName_free rfl T.s2 rfl ⟨_, X₁ _ _ hcc, rfl⟩ ?_
  refine wpAny_loadName_local rfl T.s3 hn (T.l1 _ _) ?_
  refine ks_wpAny_isType_cls hD1 hD2 ⟨rfl, ?_⟩
  refine ks_wpAny_call_super hD1 hD2 hx₁ rfl (fun c e => nomatch e) (looks_mroIn X₁ T.sub) (fun h2 e2 k2 => ?_)
  have X₂ : K.In h2 := X₁.keeps k2
  have hx₂ := k2 _ _ hx₁
  have hI : Looks (model prog w) h2 (isInstance (.ref x) (.type B)) true := (show W.InstAt h2 x (excO C t0) C none from ⟨hx₂, rfl, rfl, trivial⟩).type.andThen (looks_subIn X₂ T.sB)
  have hm := T.sup
  unfold ks_superIn at hm
  rw [hcl] at hm
  refine kxs_getMethod T.base.kf e2 (looks_opaque X₂ T.opq) (l₀ := cd.mro) ((looks_clsIn X₂ hcl).andThen .now) rfl X₂ hm hI nC (by decide +kernel) ?_
  refine kxs_callWith (i := initId) (x := x) rfl (evalArgs_plain ?_)
  show wpAny _ _ (spliced ((false, eval (.Constant (.str m) j q4) _) :: backTo q5 (starEach [] _))) _ _ _
  refine Calls.spliced_cons (Calls.Constant_str (Calls.spliced_nil ⟨Heap.get?_push_at rfl rfl, ?_⟩))
  have k3 : ∀ b o, h2.get? b = some o → (h2.push (kxs_mw initId x)).get? b = some o := fun b o e => Heap.get?_push_of_some _ e
  refine call_mw (x := x) (t0 := t0) (X₂.keeps k3) T.base.fb T.xC (Heap.get?_push_at rfl rfl) (k3 _ _ hx₂) (one_size _) fun h4 t1 k4 e4 => ?_
  have hxL : s.heap.objs.size ≠ x := Nat.ne_of_gt (Heap.lt_size hx)
  have n4 : h4.Ns s.heap.objs.size (fun y => ([(PySem.Str.ofString "self", .ref x), (f, v)] : List (Str × Value)).reverse.lookup y) := by
    obtain ⟨oL, es, ep, hL, r⟩ := hn
    exact ⟨oL, es, ep, k4 _ _ hxL (k3 _ _ (k2 _ _ hL)), r⟩
  have X4 : K.In h4 := kept_but (X₂.keeps k3) hnx k4
  refine wpAt_of_wpAny (wpAny_execs_cons (plainObj_wpAny_Assign_Attribute ?_))
  refine wpAny_Name (wpAny_loadName_local rfl T.s4 n4 (T.l2 _ _) ?_) T.fd1
  refine wpAny_Name (wpAny_loadName_local rfl T.s3 n4 (T.l1 _ _) ?_) (by decide +kernel)
  refine set_new X4 T e4 fun h5 tk5 dx k5 d5 n5 e5 ns5 => wpAny_execs_nil ?_
  have old : ∀ b o, b ≠ x → s.heap.get? b = some o → h5.get? b = some o := fun b o hb e => k5 b o hb (k4 b o hb (k3 _ _ (k2 _ _ (k _ _ e))))
  refine hq h5 tk5 dx t1 ⟨old, e5, ?_, n5, ns5⟩
  refine Nat.le_trans ?_ d5
  obtain ⟨oL, es, ep, hL, r⟩ := n4
  exact Nat.le_of_lt (Heap.lt_size (show h4.get? s.heap.objs.size = some oL from hL))
theorem own_made (T : InitTxt prog K mg B newId initId bmB f C) {v : Value} {Q : Value → Shared → Prop} (X : K.In s.heap) (hlim : s.heap.NoLimit) (hg : s.heap.Ns mainGlobals mg) (hb : s.heap.Ns builtinsNs mb) (hbs : mb "super" = some (.type "super")) (hroom : A.depth + 1 < recursionLimit)
    (hq : ∀ h' tk e d, OwnMade s.heap h' e C d f v → Q (.ref e) { s with heap := h', toks := tk }) :
    wpAny (model prog w) A (call (.ref C) [v]) Q E s := by
  obtain ⟨nm, N, q', bs, bm, hdct, sn, sub, ab, col, dd, k0, k1, k2, k3, k5, hC, hT⟩ := excInit_of X T.xC
  obtain ⟨fI, cda, cc, oc, od, q, kV, doc, pm, an, ct, osl, p1, p2, q1, q2, q3, q4, q5, q6, r1, r2, r3, r4, m, j, ccl, cdd, vs, ccs, file, tf, cl, cld, csl, hi, ht, ho, hcd, hline, hco, hvs, hfile, hcc⟩ := T.fn
  obtain ⟨oI, hoI, hcI⟩ : ∃ oI, s.heap.get? fI = some oI ∧ oI.cls = .type "function" := by
    obtain ⟨o, ho, hc⟩ := Option.map_eq_some_iff.mp (show (K.lookup fI).map (·.cls) = some (.type "function") from ht)
    exact ⟨o, X _ _ ho, hc⟩
  obtain ⟨hp, g, dr, tk, os⟩ := s
  have k : ∀ b o, hp.get? b = some o → ((hp.push (kdv_tup [v])).push (excO C hp.objs.size)).get? b = some o := fun b o e => Heap.get?_push_of_some _ (Heap.get?_push_of_some _ e)
  have hget : ((hp.push (kdv_tup [v])).push (excO C hp.objs.size)).get? (hp.objs.size + 1) = some (excO C hp.objs.size) := by heap_get
  have hnx : K.lookup (hp.objs.size + 1) = none := by
    cases e : K.lookup (hp.objs.size + 1) with
    | none => rfl
    | some o =>
      have z : hp.get? (hp.objs.size + 1) = some o := X _ _ e
      exact absurd (Nat.lt_of_succ_lt (Heap.lt_size z)) (Nat.lt_irrefl _)
  refine wpAny_call (HandSPX.call_own T.base.fb hT hC (looks_findIn X hi) (fun self => exc_bind hoI hcI self) (one_size v) ?_)
  refine own_init (s := ⟨(hp.push (kdv_tup [v])).push (excO C hp.objs.size), g, dr, tk, os⟩) T ho hcd hline hco hvs hfile hcc (X.keeps k) (hlim.keeps k) (hg.keeps k) (hb.keeps k) hbs hget hnx ?_ fun h' tk' dx t1 ⟨k', hx, dn, dne, hns⟩ => ?_
  · show A.depth + 1 < recursionLimit
    exact hroom
  · have old : ∀ b o, hp.get? b = some o → h'.get? b = some o := fun b o e => k' b o (Nat.ne_of_lt (Nat.lt_succ_of_lt (Heap.lt_size e))) (k b o e)
    have z : hp.objs.size + 1 + 1 ≤ dx := by
      have q := dn
      rw [Heap.size_push, Heap.size_push] at q
      exact q
    exact ⟨rfl, hq h' tk' (hp.objs.size + 1) dx ⟨old, Nat.le_succ _, ⟨_, _, hx, rfl, rfl, rfl, rfl⟩, Nat.le_trans (Nat.le_trans (Nat.le_succ _) (Nat.le_succ _)) z, dne, hns⟩⟩
end
end MPX
end PySem
namespace MP
open PySem PySem.Spec PyProof.Rows L2 PySem.MPX
/-- the built-in class that an own error comes from -/
inductive XB where
  | value | index | key | runtime | overflow | arith
  deriving DecidableEq
def XB.nm : XB → String
  | .value => "ValueError" | .index => "IndexError" | .key => "KeyError" | .runtime => "RuntimeError" | .overflow => "OverflowError" | .arith => "ArithmeticError"
def XB.tail : XB → List Value
  | .value => [.type "ValueError", .type "Exception", .type "BaseException", .type "object"]
  | .index => [.type "IndexError", .type "LookupError", .type "Exception", .type "BaseException", .type "object"]
  | .key => [.type "KeyError", .type "LookupError", .type "Exception", .type "BaseException", .type "object"]
  | .runtime => [.type "RuntimeError", .type "Exception", .type "BaseException", .type "object"]
  | .overflow => [.type "OverflowError", .type "ArithmeticError", .type "Exception", .type "BaseException", .type "object"]
  | .arith => [.type "ArithmeticError", .type "Exception", .type "BaseException", .type "object"]
/-- an own class of errors: its field (none: no __init__ of its own) -/
structure Cd where
  name : Str
  base : XB
  fld : Option Str
theorem relO_one {f : Str} {v : V} {v' : Value} (r : RelV v v') (y : Str) : RelO (List.lookup y [(f, v)]) (if y = f then some v' else none) := by
  by_cases hw : y = f
  · subst hw
    rw [if_pos rfl]
    have q : List.lookup y [(y, v)] = some v := by simp [List.lookup]
    rw [q]
    exact r
  · rw [if_neg hw]
    have qw : (y == f) = false := by simpa using hw
    have q2 : List.lookup y [(f, v)] = none := by simp [List.lookup, qw]
    rw [q2]
    trivial
section
variable {X : Cx} {C : Addr} {B newId initId : String} {bmB : List Value} {f x : Str}
/-- C(e), C's __init__ keeping e -/
def tMkI (C : Addr) (f : Str) (ta : TA) : L2.St → Hp → XK → Prop := fun σ H Q => ta σ H fun vs H1 => ∃ v, vs = [v] ∧ ∀ d, H1 d = none → Q (.ref C) (some d) (upd H1 d (.xd [(f, v)]))
theorem pmk_init {a : Expr} {ta : TA} {p pos : Pos} {k : Nat} (T : InitTxt X.prog X.K X.mg B newId initId bmB f C) (eC : PySem.W.subIn X.K (.ref C) (.type "BaseException") = some true) (gC : X.mg x = some (.ref C)) (hr : Room k X.A) (ha : PA X [a] ta) (hg : Gl X x) (hdb : (x == ("__debug__" : Str)) = false)
    (he : starEach (a :: []) X.env = (false, eval a X.env) :: starEach [] X.env) (hpl : (backTo pos (starEach [] X.env)).any (·.1) = false := by rfl) :
    PMk X (.Call (.Name x p) [a] [] pos) (tMkI C f ta) := by
  intro pins s σ H Q I h
  refine wpAny_Call_Name_kw (ld_glob I hg gC ?_ hdb)
  refine PySem.W.callWith_K (h₀ := X.base) I.ok.mod.kin T.kC (thn (ha.run pos pins s σ H _ I h) fun us s1 hh => ?_) he hpl
  obtain ⟨vs, H1, I1, r1, v, ev, q1⟩ := hh
  subst ev
  refine ⟨I1.kIn, ?_⟩
  cases r1 with
  | cons rv rn =>
    rename_i v' us'
    cases rn
    show wpAny _ _ (call (.ref C) [v']) _ _ _
    have hlim := I1.nolimit
    have hgl : s1.heap.Ns mainGlobals X.mg := I1.ok.mod.glob.keeps I1.bk
    obtain ⟨mb, hb, hbb⟩ := I1.ok.mod.blt
    have hb1 : s1.heap.Ns builtinsNs mb := hb.keeps I1.bk
    have hbs : mb (PySem.Str.ofString "super") = some (.type "super") := (hbb _ (by decide +kernel)).trans (by decide +kernel)
    obtain ⟨hp, g, dr, tk, os⟩ := s1
    refine own_made T I1.kIn hlim hgl hb1 hbs (by have := hr.dp; omega) fun h' tk' e d M => ?_
    show MkP X pins σ Q (.ref e) ⟨h', g, dr, tk', os⟩
    obtain ⟨oe, fv, hoe, hc, hd, hdat, h1⟩ := M.obj
    have hns := M.ns
    obtain ⟨G', g1, g2⟩ := restrict h' fun b => decide (b ≠ e)
    have gk : ∀ b, b ≠ e → G'.get? b = h'.get? b := fun b hb => g1 b (decide_eq_true hb)
    have ge : G'.get? e = none := g2 e (by simp)
    have old : ∀ b o, hp.get? b = some o → G'.get? b = some o := fun b o q => (gk b (Nat.ne_of_lt (Nat.lt_of_lt_of_le (Heap.lt_size q) M.new))).trans (M.keep b o q)
    have ob : ObjOk X.prog X.w (upd H1 d (.xd [(f, v)])) G' d (.xd [(f, v)]) :=
      ⟨_, hns.at (fun o q => (gk d M.dne).trans q), fun y => relO_one rv y⟩
    have J : Inv X pins σ (upd H1 d (.xd [(f, v)])) ⟨G', g, dr, tk', os⟩ := I1.laid (t' := tk') old M.dbig ob
    refine ⟨e, oe, fv, ⟨G', g, dr, tk', os⟩, _, .ref C, some d, rfl, J, fun b o q => ?_, ge, hoe, ⟨hc, hd⟩, hdat, h1, ?_, rfl, I1.bare, raises_own eC T.tyC, q1 d (I1.hok.fresh M.dbig)⟩
    · by_cases hb : b = e
      · have q' : G'.get? b = some o := q
        rw [hb, ge] at q'; cases q'
      · exact (gk b hb).symm.trans q
    · rw [upd_ne (Ne.symm M.dne)]
      exact I1.hok.fresh M.new
end
/-- what the written part says of an own class of errors -/
structure ClsFacts (prog : Program) (K : PySem.W.Frag) (mg : Str → Option Value) (C : Addr) (cd : Cd) : Prop where
  gC : mg cd.name = some (.ref C)
  kC : PySem.W.keepIn K (.ref C) = true
  eC : PySem.W.subIn K (.ref C) (.type "BaseException") = some true
  tC : PySem.W.typeIn K (.ref C) = some (.type "type")
  how : match cd.fld with
    | none => ∃ newId initId, ExcBaseFacts cd.base.nm newId initId cd.base.tail ∧ PySem.W.excIn K C cd.base.tail newId = true
    | some f => ∃ newId initId, InitTxt prog K mg cd.base.nm newId initId cd.base.tail f C
structure ClsOk (prog : Program) (K : PySem.W.Frag) (mg : Str → Option Value) (cl : Wd) (k : Nat) (cd : Cd) : Prop where
  ok : ClsFacts prog K mg (cl.cl k) cd
  fl : ∀ f, cd.fld = some f → cl.fl k = f
  okk : cl.ok k = true
end MP
set_option Elab.async false
set_option linter.all false
set_option maxRecDepth 100000
set_option maxHeartbeats 2000000
/-! MP: expressions -/
namespace MP
open PySem PySem.Spec PyProof.Rows L2

section
variable {X : Cx} {e : Expr}
theorem pe_imp {t t' : TE} (h : PE X e t) (f : ∀ σ H Q, t' σ H Q → t σ H Q) : PE X e t' := ⟨fun pins s σ H Q I q => h.run pins s σ H Q I (f σ H Q q)⟩
theorem pt_imp {t t' : TT} (h : PT X e t) (f : ∀ σ H Q, t' σ H Q → t σ H Q) : PT X e t' := ⟨fun pins s σ H Q I q => h.run pins s σ H Q I (f σ H Q q)⟩
theorem pw_imp {t t' : TT} (h : PW X e t) (f : ∀ σ H Q, t' σ H Q → t σ H Q) : PW X e t' := ⟨fun wh pins s σ H Q I q => h.run wh pins s σ H Q I (f σ H Q q)⟩
theorem pa_imp {es : List Expr} {t t' : TA} (h : PA X es t) (f : ∀ σ H Q, t' σ H Q → t σ H Q) : PA X es t' := ⟨fun pos pins s σ H Q I q => h.run pos pins s σ H Q I (f σ H Q q)⟩
theorem po_imp {o : Option Expr} {t t' : TO} (h : PO X o t) (f : ∀ σ H Q, t' σ H Q → t σ H Q) : PO X o t' := ⟨fun pins s σ H Q I q => h.run pins s σ H Q I (f σ H Q q)⟩
theorem pi_imp {tg : Expr} {t t' : TI} (h : PI X tg e t) (f : ∀ σ H Q, t' σ H Q → t σ H Q) : PI X tg e t' := ⟨fun pins s σ H Q I q => h.run pins s σ H Q I (f σ H Q q)⟩
end

/-! ### syntax -/
def star : Expr → Bool
  | .Starred .. => true
  | _ => false
theorem star_each {e : Expr} (h : star e = false) (es : List Expr) (env : PySem.Env) : starEach (e :: es) env = (false, eval e env) :: starEach es env := by
  cases e <;> first | rfl | exact nomatch h
theorem back_any : ∀ {es : List Expr} (h : es.any star = false) (pos : Pos) (env : PySem.Env), (backTo pos (starEach es env)).any (·.1) = false
  | [], _, _, _ => rfl
  | e :: es, h, pos, env => by
    rw [List.any_cons, Bool.or_eq_false_iff] at h
    rw [star_each h.1]
    show (false || (backTo pos (starEach es env)).any (·.1)) = false
    rw [back_any h.2 pos env]
    rfl
theorem each_assign {e : Expr} (h : star e = false) (es : List Expr) (env : PySem.Env) : assignEach (e :: es) env = (false, assign e env) :: assignEach es env := by
  cases e <;> first | rfl | exact nomatch h
theorem each_len : ∀ {es : List Expr} (h : es.any star = false) (env : PySem.Env), (assignEach es env).length = es.length
  | [], _, _ => rfl
  | e :: es, h, env => by
    rw [List.any_cons, Bool.or_eq_false_iff] at h
    rw [each_assign h.1, List.length_cons, List.length_cons, each_len h.2]
theorem each_find : ∀ {es : List Expr} (h : es.any star = false) (env : PySem.Env), (assignEach es env).findIdx? (·.1) = none
  | [], _, _ => rfl
  | e :: es, h, env => by
    rw [List.any_cons, Bool.or_eq_false_iff] at h
    rw [each_assign h.1, List.findIdx?_cons, each_find h.2]
    rfl
def isSet : Expr → Bool
  | .Set .. => true
  | _ => false
theorem marks_of {b : Expr} (h : isSet b = false) (op : CmpOp) : behindInMarks op b = false := by
  cases b <;> first | rfl | exact nomatch h
def isSlice : Expr → Bool
  | .Slice .. => true
  | _ => false
theorem plain_of {b : Expr} (h : isSlice b = false) : PlainIx b := by
  intro o i
  cases b <;> first | rfl | exact nomatch h
theorem folded_of {b : Expr} (h : isSet b = false) (env : PySem.Env) (x : Value) : foldedSetIterable b env x = pure x := by
  cases b <;> first | rfl | exact nomatch h

def visB (sc : Scope) (x : Str) : Bool := match sc.names.lookup x with
  | some .local => true
  | some .cell => true
  | some .free => true
  | _ => false
theorem vis_of {sc : Scope} {x : Str} (h : visB sc x = true) : Vis sc x := by
  unfold visB at h
  unfold Vis
  split at h <;> simp_all
def glB (sc : Scope) (x : Str) : Bool := match sc.names.lookup x with
  | some .globalImplicit => true
  | _ => false
theorem gl_of {sc : Scope} {x : Str} (h : glB sc x = true) : sc.names.lookup x = some .globalImplicit := by
  unfold glB at h
  split at h <;> simp_all
def oddB (x : Str) : Bool := (x == ("__debug__" : Str)) || (x == ("__classdict__" : Str)) || (x == ("__name__" : Str))
theorem odd_of {x : Str} (h : oddB x = false) : (x == ("__debug__" : Str)) = false ∧ (x == ("__classdict__" : Str)) = false ∧ x ≠ "__name__" := by
  unfold oddB at h
  rw [Bool.or_eq_false_iff, Bool.or_eq_false_iff] at h
  exact ⟨h.1.1, h.1.2, by simpa using h.2⟩

/-! ### the world around -/
/-! ### calls of defs that may want to know that no repr is under way -/
structure FnG (g : Bool) (P : Program) (w : World) (K : PySem.W.Frag) (mg : Str → Option Value) (base : Heap) (k : Nat) (f : Addr) (fd : FuncData) (ps : List Str) (sp : Sp) : Prop where
  len : ∀ vs H Q E, sp vs H Q E → vs.length = ps.length
  run : ∀ (A : Around) (outer : List PySem.Env) (s : Shared) (H : Hp) (args : Args) (us : List Value) (vs : List V) (Q : VK) (E : XK), Room k A → (g = true → A.guards = some []) → Env0 P w K mg base A outer s H → BindsTo s fd args (ps.zip us) → Vals vs us → sp vs H Q E →
    codeAny (model P w) A (.call (.ref f) args) (CR (L2.CX P w) outer P w H s Q E) s
section
variable {X : Cx} {g : Bool} {k i : Nat} {f : Addr} {fd : FuncData} {ps : List Str} {sp : Sp} {E : L2.St → XK} {x : Str} {p pos : Pos} {e : Expr} {es : List Expr} {t : TA}
theorem run_fnG {pins : List (Addr × Obj)} {σ : L2.St} {H : Hp} {s : Shared} {Q : VK} {us : List Value} {vs : List V} (F : FnG g X.prog X.w X.K X.mg X.base k f fd ps sp) (hr : Room k X.A) (hgd : g = true → X.A.guards = some []) (hb : Binds X.K fd ps []) (hx : PassesAt (L2.CX X.prog X.w) X σ (E σ))
    (I : Inv X pins σ H s) (r : Vals vs us) (q : sp vs H Q (E σ)) : wpAny (model X.prog X.w) X.A (call (.ref f) us) (EP X pins σ Q) X.xe s := by
  have hn : us.length = ps.length := (r.length).symm.trans (F.len _ _ _ _ q)
  have b0 := hb s us I.kIn (by rw [List.append_nil]; exact hn)
  rw [List.append_nil] at b0
  refine wpAny_call (codeAny_mono (F.run X.A X.stack s H ⟨us, []⟩ us vs Q (E σ) hr hgd I.env0 b0 r q) fun res s2 h2 => ?_)
  match res, h2 with
  | .error er, h2 => exact hx pins H s er s2 I h2
  | .ok (.ret u), h2 => exact I.after h2
theorem pe_callG (F : FnG g X.prog X.w X.K X.mg X.base k f fd ps sp) (hr : Room k X.A) (hgd : g = true → X.A.guards = some []) (hl : Gl X x) (hm : X.mg x = some (.ref f)) (hk : PySem.W.keepIn X.K (.ref f) = true) (hb : Binds X.K fd ps []) (hx : ∀ σ, PassesAt (L2.CX X.prog X.w) X σ (E σ))
    (ha : PA X (e :: es) t) (hdb : (x == ("__debug__" : Str)) = false) (he : starEach (e :: es) X.env = (false, eval e X.env) :: starEach es X.env) (hpl : (backTo pos (starEach es X.env)).any (·.1) = false) :
    PE X (.Call (.Name x p) (e :: es) [] pos) (tCallS sp E t) := ⟨fun pins s σ H Q I h => by
  refine wpAny_Call_Name_kw (ld_glob I hl hm ?_ hdb)
  exact PySem.W.callWith_K (h₀ := X.base) I.ok.mod.kin hk (thn (ha.run pos pins s σ H _ I h) fun us s1 ⟨vs, H1, I1, r, q⟩ => ⟨I1.kIn, run_fnG F hr hgd hb (hx σ) I1 r q⟩) he hpl⟩
/-- a local name that holds a def: which one is seen at the slot -/
def tCallV (i : Nat) (S : Addr → Sp → Prop) (E : L2.St → XK) (t : TA) : TE := fun σ H Q => ∃ f sp, σ[i]? = some (some (.ref f)) ∧ S f sp ∧ t σ H fun vs H1 => sp vs H1 Q (E σ)
theorem pe_callV {S : Addr → Sp → Prop} (A : ∀ f sp, S f sp → ∃ (g : Bool) (fd : FuncData) (ps : List Str), FnG g X.prog X.w X.K X.mg X.base k f fd ps sp ∧ (g = true → X.A.guards = some []) ∧ PySem.W.keepIn X.K (.ref f) = true ∧ Binds X.K fd ps []) (hr : Room k X.A)
    (hN : X.N[i]? = some x) (hv : Vis X.env.scope x) (hx : ∀ σ, PassesAt (L2.CX X.prog X.w) X σ (E σ)) (ha : PA X (e :: es) t) (hdb : (x == ("__debug__" : Str)) = false) (hcd : (x == ("__classdict__" : Str)) = false)
    (he : starEach (e :: es) X.env = (false, eval e X.env) :: starEach es X.env) (hpl : (backTo pos (starEach es X.env)).any (·.1) = false) : PE X (.Call (.Name x p) (e :: es) [] pos) (tCallV i S E t) := ⟨fun pins s σ H Q I ⟨f, sp, hs, hS, ht⟩ => by
  obtain ⟨g, fd, ps, F, hgd, hk, hb⟩ := A f sp hS
  refine wpAny_Call_Name_kw (thn ((pe_var (pos := p) hN hv hdb hcd).run pins s σ H (fun v H1 => v = .ref f ∧ H1 = H) I ⟨.ref f, hs, rfl, rfl⟩) fun u s1 ⟨v, H1, I1, r1, e1, e2⟩ => ?_)
  subst e1 e2
  cases r1
  exact PySem.W.callWith_K (h₀ := X.base) I.ok.mod.kin hk (thn (ha.run pos pins s1 σ _ _ I1 ht) fun us s2 ⟨vs, H2, I2, r, q⟩ => ⟨I2.kIn, run_fnG F hr hgd hb (hx σ) I2 r q⟩) he hpl⟩
end
theorem fnG_of {P : Program} {w : World} {K : PySem.W.Frag} {mg : Str → Option Value} {base : Heap} {g : Bool} {x qual : Str} {st : Stmt} {f : Addr} {fd : FuncData} {N ps : List Str} {k : Nat} {sp : Sp} (F : Fun K x qual st f fd) (S : FnScope N ps (defScope st)) (len : ∀ vs H Q E, sp vs H Q E → vs.length = ps.length)
    (hbody : ∀ (cdv : Value) (A : Around) (outer : List PySem.Env) (s : Shared) (H : Hp) (vs : List V) (Q : VK) (E : XK), fd.code = cdv → Room k (A.deeper (envOfC qual (defScope st) s.heap.objs.size f cdv)) → (g = true → A.guards = some []) → sp vs H Q E →
      ∃ t, PSs (cxOf (L2.CX P w) P w K mg base N qual (defScope st) f cdv A outer s H E) (defBody st) t ∧ t { nx := fun _ H' => Q .non H', rt := Q } (L2.start N vs) H) : FnG g P w K mg base (k + 1) f fd ps sp := by
  obtain ⟨oc, od, kV, doc, pm, an, cdv, ct, osl, rfl, lk, hcd⟩ := F.ex
  exact ⟨len, fun A outer s H args us vs Q E hr hg he hb hv hs => LamX.run_ofS lk hcd S hr he hb hv (len _ _ _ _ hs) fun hr' => hbody cdv A outer s H vs Q E rfl hr' hg hs⟩

structure Tb where
  gcd : Bool
  fns : Nat → Option Fd
  consts : List (Str × D)
  cls : Nat → Option Cd
  mets : Nat → Option (Str × Md)
  gs : Nat → Bool
  lam : Bool
  grd : Bool
def bltL : List Str := ["abs", "max", "min", "int", "len", "isinstance", "any", "all", "sum", "tuple", "list", "bool", "str", "dict", "range", "enumerate", "zip", "sorted", "repr", "reversed"]
def spOf (K : PySem.W.Frag) (cl : Wd) (np : Nat) (g : List Slot → Out) : Sp := fun vs H Q E =>
  vs.length = np ∧ Can K cl (rA K cl) (fun c d _ H => E c d H) (vs.map some) g (vs.map some) H Q
/-! ### a def that calls what it is handed: its text -/
def isRepr (sc : Scope) (n f : Str) : Expr → Bool
  | .Call (.Name x _) [.Attribute (.Name y _) g _] [] _ => decide (x = ("repr" : Str)) && glB sc "repr" && decide (y = n) && decide (g = f)
  | _ => false
def ptB (sc : Scope) (n f : Str) : Pt → Expr → Bool
  | .s x, e => match e with
    | .Constant (.str y) _ _ => decide (y = x)
    | _ => false
  | .r, e => isRepr sc n f e
  | .sr x, e => match e with
    | .BinOp (.Constant (.str y) _ _) .Add b _ => decide (y = x) && isRepr sc n f b
    | _ => false
def ptsB (sc : Scope) (n f : Str) : List Pt → List Expr → Bool
  | [], [] => true
  | p :: ps, e :: es => ptB sc n f p e && !star e && ptsB sc n f ps es
  | _, _ => false
def noR (ps : List Pt) : Bool := ps.all fun p => match p with | .s _ => true | _ => false
def fldOf (cd : Cd) : Str := cd.fld.getD Str.empty
/-- a written clause is the core's -/
def hdB (cls : Nat → Option Cd) (N : List Str) (sc : Scope) (h : Hd) : ExceptHandler → Option Nat → Bool
  | .ExceptHandler (some (.Name x _)) on [.Return (some (.Tuple es _ _)) _] _, oi => match cls h.cls with
    | some cd => decide (cd.name = x) && glB sc x && !oddB x && decide (h.parts.length ≤ 1000) && (match on, oi with
      | none, none => noR h.parts && ptsB sc Str.empty Str.empty h.parts es
      | some n, some i => (noR h.parts || (cd.fld.isSome && decide (h.subs = [h.cls]))) && decide (N[i]? = some n) && decide (sc.names.lookup n = some .local) && !oddB n && ptsB sc n (fldOf cd) h.parts es
      | _, _ => false)
    | none => false
  | _, _ => false
def hdsB (cls : Nat → Option Cd) (N : List Str) (sc : Scope) : List Hd → List ExceptHandler → List (Option Nat) → Bool
  | [], [], [] => true
  | h :: hs, e :: es, o :: os => hdB cls N sc h e o && hdsB cls N sc hs es os
  | _, _, _ => false
def strsB : List Str → List Expr → Bool
  | [], [] => true
  | x :: xs, .Constant (.str y) _ _ :: es => decide (y = x) && strsB xs es
  | _, _ => false
/-- the written def -/
def metB (cls : Nat → Option Cd) (a : Str) (N : List Str) (md : Md) (ois : List (Option Nat)) (st : Stmt) : Bool :=
  decide (N[0]? = some a) && C8.scC N [a] (defScope st) && visB (defScope st) a && !oddB a && decide (md.dflt.length ≤ 1000) && (match defBody st with
    | [.Try [.Expr (.Call (.Name x _) [] [] _) _] (h :: hs) [] [] _, .Return (some (.Tuple es _ _)) _] => decide (x = a) && hdsB cls N (defScope st) md.hds (h :: hs) ois && strsB md.dflt es
    | _ => false)
/-- facts of a def that calls what it is handed and tells what is raised -/
structure MetFacts (K : PySem.W.Frag) (mg : Str → Option Value) (cl : Wd) (tcls : Nat → Option Cd) (nm : Str) (md : Md) : Prop where
  ex : ∃ (g : Addr) (st : Stmt) (fdt : FuncData) (N : List Str) (a : Str) (ois : List (Option Nat)), L2.Fun K nm nm st g fdt ∧ mg nm = some (.ref g) ∧ (∀ us : List Value, us.length = [a].length → bindArgs fdt ⟨us, []⟩ = pure ([a].zip us)) ∧ metB tcls a N md ois st = true
  exm : ∀ k, cl.ok k = true → ∀ h ∈ md.hds, PySem.W.exmOne K (.ref (cl.cl k)) (.ref (cl.cl h.cls)) = some (h.subs.contains k)
structure Gd (tb : Tb) (cl : Wd) (call : Nat → List Slot → Out) (X : Cx) (N : List Str) (sc : Scope) (fnB : Str → Bool) (W : WX) : Prop where
  calm : X.calm = true
  hN : X.N = N
  nd : N.Nodup
  sc : X.env.scope = sc
  fn : ∀ x, fnB x = true → X.fn x = true
  takes : Takes X W
  passes : PassesOwn (model X.prog X.w) X.A X.env X.xe
  units : X.A.units + 65 < cLine
  calls : ∃ k : Nat, Room k X.A ∧ (tb.lam = true → Room (k + 2) X.A) ∧ ∀ f fd, tb.fns f = some fd → ∃ (ad : Addr) (fdt : FuncData), FnG (tb.gs f) X.prog X.w X.K X.mg X.base k ad fdt (fd.N.take fd.np) (spOf X.K cl fd.np (call f)) ∧
    X.mg fd.name = some (.ref ad) ∧ cl.fa f = some ad ∧ PySem.W.keepIn X.K (.ref ad) = true ∧ Binds X.K fdt (fd.N.take fd.np) []
  consts : ∀ x d, (x, d) ∈ tb.consts → ∃ u v, X.mg x = some u ∧ RelV v u ∧ ∀ P, Rp X.K cl P v d
  blt : ∀ x ∈ bltL, X.mg x = none
  gcd : tb.gcd = true → X.mg "gcd" = some (.builtin "math.gcd")
  cls : ∀ k cd, tb.cls k = some cd → ClsOk X.prog X.K X.mg cl k cd
  mets : ∀ g nm md, tb.mets g = some (nm, md) → MetFacts X.K X.mg cl tb.cls nm md
  guards : tb.grd = true → X.A.guards = some []
  fa : ∀ f a, cl.fa f = some a → ∃ fd, tb.fns f = some fd
  np : ∀ f fd args r, tb.fns f = some fd → call f args = some r → args.length = fd.np
  lam : tb.lam = true → ∃ c P, X.env.code = .ref c ∧ LamX.TabB X.base X.mg c P ∧ (P, X.env.qual ++ "<lambda>") ∈ cl.T ∧ ∀ p ∈ cl.T, p.1 = P → p.2 = X.env.qual ++ "<lambda>"
abbrev Tb.off (tb : Tb) : Tb := { tb with lam := false }
theorem Gd.off {tb : Tb} {cl : Wd} {call : Nat → List Slot → Out} {X : Cx} {N : List Str} {sc : Scope} {fnB : Str → Bool} {W : WX} (G : Gd tb cl call X N sc fnB W) : Gd tb.off cl call X N sc fnB W :=
  ⟨G.calm, G.hN, G.nd, G.sc, G.fn, G.takes, G.passes, G.units, let ⟨k, h1, _, h3⟩ := G.calls; ⟨k, h1, (fun z => nomatch z), h3⟩, G.consts, G.blt, G.gcd, G.cls, G.mets, G.guards, G.fa, G.np, (fun z => nomatch z)⟩
theorem Gd.blk {tb : Tb} {cl : Wd} {call : Nat → List Slot → Out} {X : Cx} {N : List Str} {sc : Scope} {fnB : Str → Bool} {W : WX} (G : Gd tb cl call X N sc fnB W) (s : Shared) (H : Hp) (scope : Scope) (C : Addr) (c : List (Str × Addr)) (fp : List Addr) :
    Gd tb.off cl call (X.blk s H scope (compEnvC scope c C X.env) fp) N (relS scope sc) (fun x => scope.names.lookup x == some .cell) (fun _ _ _ _ => False) where
  calm := G.calm
  hN := G.hN
  nd := G.nd
  sc := by rw [← G.sc]; rfl
  fn := fun _ h => h
  takes := takes0
  passes := PassesOwn.never
  units := G.units
  calls := let ⟨k, h1, _, h3⟩ := G.calls; ⟨k, h1, (fun z => nomatch z), h3⟩
  consts := G.consts
  blt := G.blt
  gcd := G.gcd
  cls := G.cls
  mets := G.mets
  guards := G.guards
  fa := G.fa
  np := G.np
  lam := fun z => nomatch z

section
variable {tb : Tb} {cl : Wd} {call : Nat → List Slot → Out} {X : Cx} {N : List Str} {sc : Scope} {fnB : Str → Bool} {W : WX} {σ0 : L2.St}
abbrev CA (cl : Wd) (call : Nat → List Slot → Out) (X : Cx) (W : WX) (σ0 : L2.St) (c : C) : TE := Can X.K cl (rA X.K cl) W σ0 (ev call c)

/-! ### names, constants -/
theorem c_var {i : Nat} {x : Str} {pos : Pos} (G : Gd tb cl call X N sc fnB W) (hi : N[i]? = some x) (hv : visB sc x = true) (ho : oddB x = false) : PE X (.Name x pos) (CA cl call X W σ0 (.var i)) := by
  obtain ⟨o1, o2, o3⟩ := odd_of ho
  refine pe_imp (pe_var (i := i) (by rw [G.hN]; exact hi) (by rw [G.sc]; exact vis_of hv) o1 o2) fun σ H Q h => ?_
  obtain ⟨ρ, P, F, R⟩ := h
  simp only [ev] at R
  cases e : ρ[i]? with
  | none => rw [e] at R; exact R.elim
  | some s =>
    rw [e] at R
    cases s with
    | non => exact R.elim
    | val t d =>
      obtain ⟨v, e2, r⟩ := F.val i t d e
      exact ⟨v, e2, Res.datum F Step.refl R r⟩
    | own t d =>
      obtain ⟨v, e2, r⟩ := F.own i t d e
      exact ⟨v, e2, Res.ret F Step.refl R ⟨e2, fun _ z => nomatch z⟩⟩
def cstB : D → Const → Bool
  | .non, .none => true
  | .bl b, .bool c => b == c
  | .int i, .int j => i == j
  | .str x, .str y => x == y
  | _, _ => false
theorem c_cst {d : D} {k : Const} {j : Nat} {pos : Pos} (h : cstB d k = true) : PE X (.Constant k j pos) (CA cl call X W σ0 (.cst d)) := by
  have go : ∀ {v : V}, PE X (.Constant k j pos) (tC v) → (∀ P, Rp X.K cl P v d) → PE X (.Constant k j pos) (CA cl call X W σ0 (.cst d)) := fun {v} p r => pe_imp p fun σ H Q h => by
    obtain ⟨ρ, P, F, R⟩ := h
    exact Res.datum F Step.refl R (r P)
  unfold cstB at h
  split at h
  · exact go pe_non fun _ => .non
  · rw [beq_iff_eq] at h; subst h; exact go pe_bl fun _ => .bl _
  · rw [beq_iff_eq] at h; subst h; exact go pe_int fun _ => .int _
  · rw [beq_iff_eq] at h; subst h; exact go pe_str fun _ => .str _
  · cases h
theorem c_glb {x : Str} {d : D} {pos : Pos} (G : Gd tb cl call X N sc fnB W) (hg : glB sc x = true) (ho : oddB x = false) (hc : (x, d) ∈ tb.consts) : PE X (.Name x pos) (CA cl call X W σ0 (.glb x d)) := by
  obtain ⟨o1, o2, o3⟩ := odd_of ho
  obtain ⟨u, v, hm, hr, hp⟩ := G.consts x d hc
  refine pe_imp (pe_glob (v := v) (show X.env.scope.names.lookup x = _ by rw [G.sc]; exact gl_of hg) hm hr o1) fun σ H Q h => ?_
  obtain ⟨ρ, P, F, R⟩ := h
  exact Res.datum F Step.refl R (hp P)

/-! ### lists of expressions -/
/-- an expression whose value is shared from then on -/
theorem can_frz {c : C} {σ : L2.St} {H : Hp} {Q : V → Hp → Prop} (h : Can X.K cl (rD X.K cl) W σ0 (fun ρ => bnd (ev call c ρ) frzM) σ H Q) : CA cl call X W σ0 c σ H Q := by
  obtain ⟨ρ, P, F, R⟩ := h
  refine (Res.bnd (R1 := rA X.K cl) F Step.refl R).mono fun v H1 ⟨a, ρ1, P1, F1, S1, _, ⟨r1, f1⟩, R1⟩ => ?_
  cases e : frz a ρ1 with
  | none => rw [frzM, e] at R1; exact R1.elim
  | some q =>
    obtain ⟨d, ρ2⟩ := q
    rw [frzM, e] at R1
    obtain ⟨P2, F2, S2, r2⟩ := freeze F1 S1 r1 f1 e
    exact R1 v H1 P2 F2 S2 r2
theorem pe_frz {c : C} {e : Expr} (h : PE X e (CA cl call X W σ0 c)) : PE X e (Can X.K cl (rD X.K cl) W σ0 (fun ρ => bnd (ev call c ρ) frzM)) := pe_imp h fun _ _ _ => can_frz
/-- data, one after another -/
theorem pa_ds_nil : PA X [] (Can X.K cl (rDs X.K cl) W σ0 (evDs call .nil)) := pa_imp pa_nil fun σ H Q h => by
  obtain ⟨ρ, P, F, R⟩ := h
  exact Res.ret F Step.refl R (.nil : Rps X.K cl P [] [])
theorem pa_ds_cons {c : C} {cs : Cs} {e : Expr} {es : List Expr} (h1 : PE X e (CA cl call X W σ0 c)) (h2 : PA X es (Can X.K cl (rDs X.K cl) W σ0 (evDs call cs))) (hs : star e = false) : PA X (e :: es) (Can X.K cl (rDs X.K cl) W σ0 (evDs call (.cons c cs))) := by
  refine pa_imp (pa_cons (pe_frz h1) h2 (star_each hs _ _)) fun σ H Q h => ?_
  obtain ⟨ρ, P, F, R⟩ := h
  simp only [evDs] at R
  refine (Res.bnd (R1 := rD X.K cl) F Step.refl R).mono fun v H1 ⟨d, ρ1, P1, F1, S1, _, r1, R1⟩ => ?_
  refine (Res.bnd (R1 := rDs X.K cl) F1 S1 R1).mono fun vs H2 ⟨ds, ρ2, P2, F2, S2, S, r2, R2⟩ => ?_
  exact Res.ret F2 S R2 (Rps.cons (Rp.mono S2.mono r1) r2)
/-- results, one after another -/
theorem pa_as_nil {fl : List Bool} : PA X [] (Can X.K cl (rAs X.K cl) W σ0 (evAs call fl .nil)) := pa_imp pa_nil fun σ H Q h => by
  obtain ⟨ρ, P, F, R⟩ := h
  exact Res.ret F Step.refl R ⟨.nil, .nil⟩
theorem can_keep {c : C} {k : Bool} {σ : L2.St} {H : Hp} {Q : V → Hp → Prop} (h : Can X.K cl (rA X.K cl) W σ0 (fun ρ => bnd (ev call c ρ) (keepA k)) σ H Q) : CA cl call X W σ0 c σ H Q := by
  obtain ⟨ρ, P, F, R⟩ := h
  refine (Res.bnd (R1 := rA X.K cl) F Step.refl R).mono fun v H1 ⟨a, ρ1, P1, F1, S1, _, ⟨r1, f1⟩, R1⟩ => ?_
  cases k with
  | true => exact R1 v H1 P1 F1 S1 ⟨r1, f1⟩
  | false =>
    cases e : frz a ρ1 with
    | none => rw [keepA, frzM, e] at R1; exact R1.elim
    | some q =>
      obtain ⟨d, ρ2⟩ := q
      rw [keepA, frzM, e] at R1
      obtain ⟨P2, F2, S2, r2⟩ := freeze F1 S1 r1 f1 e
      exact R1 v H1 P2 F2 S2 ⟨r2, fun _ z => nomatch z⟩
theorem ars_cons {K : PySem.W.Frag} {σ : L2.St} {ρ ρ1 ρ2 : Env} {H H1 H2 P P1 P2 : Hp} {v : V} {vs : List V} {a : A} {as : List A} (r1 : AR K cl σ H1 P1 ρ1 v a) (f1 : AF σ ρ H v a) (r2 : ARs K cl σ H2 P2 ρ2 vs as) (f2 : AFs σ ρ1 H1 vs as)
    (S1 : Step σ ρ H P σ ρ1 H1 P1) (S2 : Step σ ρ1 H1 P1 σ ρ2 H2 P2) : ARs K cl σ H2 P2 ρ2 (v :: vs) (a :: as) ∧ AFs σ ρ H (v :: vs) (a :: as) := by
  refine ⟨.cons (r1.step S2) r2 fun d' e' j d'' ej ev' => ?_, .cons f1 (f2.back S1)⟩
  subst e'
  obtain ⟨⟨b, us, rfl, hb, pb, q⟩, hn⟩ := r1
  rcases f2.get j _ _ ev' ej _ rfl b rfl with z | z
  · exact (z.noO hb q.nt).elim
  · exact hn b rfl z
theorem pa_as_cons {fl : List Bool} {c : C} {cs : Cs} {e : Expr} {es : List Expr} (h1 : PE X e (CA cl call X W σ0 c)) (h2 : PA X es (Can X.K cl (rAs X.K cl) W σ0 (evAs call fl.tail cs))) (hs : star e = false) :
    PA X (e :: es) (Can X.K cl (rAs X.K cl) W σ0 (evAs call fl (.cons c cs))) := by
  have p1 : PE X e (Can X.K cl (rA X.K cl) W σ0 (fun ρ => bnd (ev call c ρ) (keepA (fl.headD true)))) := pe_imp h1 fun _ _ _ => can_keep
  refine pa_imp (pa_cons p1 h2 (star_each hs _ _)) fun σ H Q h => ?_
  obtain ⟨ρ, P, F, R⟩ := h
  simp only [evAs] at R
  refine (Res.bnd (R1 := rA X.K cl) F Step.refl R).mono fun v H1 ⟨d, ρ1, P1, F1, S1, _, ⟨r1, f1⟩, R1⟩ => ?_
  refine (Res.bnd (R1 := rAs X.K cl) F1 S1 R1).mono fun vs H2 ⟨ds, ρ2, P2, F2, S2, S, ⟨r2, f2⟩, R2⟩ => ?_
  exact Res.ret F2 S R2 (ars_cons r1 f1 r2 f2 S1 S2)
end
end MP
set_option Elab.async false
set_option linter.all false
set_option maxRecDepth 100000
set_option maxHeartbeats 2000000
/-! MP: a dict is no tuple -/
namespace MP
open PySem PySem.Spec PyProof.Rows L2
theorem dict_no_tup (d t : Addr) : Meets (Builtin.«dict.__eq__» ⟨[.ref d, .ref t], []⟩) (fun _ R s => s.TypeIs (.ref d) "dict" ∧ s.TypeIs (.ref t) "tuple" ∧ R (.ok (.ret .notImplemented)) s) :=
  .of_wp fun prog w A R s h => by
    obtain ⟨hp, g, dr, tk, os⟩ := s
    obtain ⟨h1, h2, h⟩ := h
    have f1 := F.sub_tuple_dict
    wp_walk using wpAny_typeOf h2, wpAny_typeOf h1
    exact ⟨_, rfl, h⟩
theorem tup_no_dict (d t : Addr) : Meets (Builtin.«tuple.__eq__» ⟨[.ref t, .ref d], []⟩) (fun _ R s => s.TypeIs (.ref d) "dict" ∧ s.TypeIs (.ref t) "tuple" ∧ R (.ok (.ret .notImplemented)) s) :=
  .of_wp fun prog w A R s h => by
    obtain ⟨hp, g, dr, tk, os⟩ := s
    obtain ⟨h1, h2, h⟩ := h
    have f1 := F.sub_dict_tuple
    wp_walk using wpAny_typeOf h2, wpAny_typeOf h1
    exact ⟨_, rfl, h⟩
theorem same_no_tup {M : Model} {A : Around} {E : Value → Shared → Prop} {s : Shared} {x y : Addr} {ox oy : Obj} {R : Bool → Shared → Prop} (hxy : x ≠ y) (hx : s.heap.get? x = some ox) (hy : s.heap.get? y = some oy) (hnt : ox.cls ≠ .type "tuple") (h : R false s) : wpAny M A (isSame (.ref x) (.ref y)) R E s := by
  show wpAny M A (if (x == y) = true then pure true else _) R E s
  rw [if_neg (by simpa using hxy)]
  refine wpAny_bind (wpAny_load hx (wpAny_bind (wpAny_load hy ?_)))
  split
  · rename_i h1 _ _ _
    exact absurd h1 hnt
  · exact wpAny_pure h
/-- a dict beside a tuple -/
def rDT (K : PySem.W.Frag) : R2 := fun x y H Q => ∃ a b kvs xs, x = .ref a ∧ y = .ref b ∧ Rd H a (.dK kvs) ∧ SqT K H b xs ∧ Q (.bl false) H
theorem op_eqDT {X : Cx} (hu : X.A.units + 64 < cLine) : OpR X (compareOp .Eq) (rDT X.K) := by
  intro pins s σ H x y v u Q I rx ry h
  obtain ⟨a, b, kvs, xs, rfl, rfl, sd, sq, q⟩ := h
  obtain rfl : v = Value.ref a := rx
  obtain rfl : u = Value.ref b := ry
  obtain ⟨_, hm, vs, hkv, o, es, ep, ho1, ho2, _⟩ := sd.ok I.hok
  obtain ⟨its, rv, p, hz⟩ := I.tuple sq
  obtain ⟨o2, hp1, hp2, _⟩ := p
  have t1 : s.TypeIs (.ref a) "dict" := ⟨_, ho1, ho2.1⟩
  have t2 : s.TypeIs (.ref b) "tuple" := ⟨_, hp1, hp2⟩
  have c1 : o.cls ≠ .type "tuple" := fun e => by
    rw [ho2.1] at e
    exact absurd e (by decide)
  have n : a ≠ b := fun e => by
    subst e
    rw [ho1] at hp1
    cases hp1
    exact c1 hp2
  exact SeqAt.rc_eq_decline_or (k := false) t1 t2 (by decide) F.sub_tuple_dict F.slot_dict_eq F.slot_tuple_eq_refl
    (fun _ hq => call_meets F.slot_dict_eq t1 F.entry_dict_eq (F.args_dict_eq_2 _ _) (dict_no_tup a b) ⟨t1, t2, hq⟩)
    (fun _ hq => call_meets F.slot_tuple_eq_refl t2 F.entry_tuple_eq (F.args_tuple_eq_2 _ _) (tup_no_dict a b) ⟨t1, t2, hq⟩)
    (fun _ hq => same_no_tup n ho1 hp1 c1 hq) (.inr (by omega)) ⟨.bl false, H, I, rfl, q⟩
end MP
set_option Elab.async false
set_option linter.all false
set_option maxRecDepth 100000
set_option maxHeartbeats 2000000
/-! MP: operations -/
namespace MP
open PySem PySem.Spec PyProof.Rows L2

/-! ### operators -/
def opB : BOp → Operator
  | .add => .Add | .sub => .Sub | .mul => .Mult | .fdiv => .FloorDiv | .mod => .Mod | .pow => .Pow | .shl => .LShift | .shr => .RShift | .band => .BitAnd
def binR (K : PySem.W.Frag) : BOp → R2
  | .add => fun x y H Q => rI0 (fun i j => .int (i + j)) x y H Q ∨ rCatA K x y H Q ∨ (∃ l b xs zs, x = .ref l ∧ y = .ref b ∧ RL K H l xs ∧ RL K H b zs ∧ xs.length + zs.length ≤ sizeLine ∧ ∀ p, H p = none → Q (.ref p) (upd H p (.lst (xs ++ zs)))) ∨ (∃ i j, x = .str i ∧ y = .str j ∧ i.length + j.length ≤ sizeLine ∧ Q (.str (i ++ j)) H)
  | .sub => rI0 fun i j => .int (i - j)
  | .mul => fun x y H Q => rI CMulW (fun i j => .int (i * j)) x y H Q ∨ rRepT K x y H Q ∨ (∃ l k xs, x = .ref l ∧ y = .int k ∧ RL K H l xs ∧ 0 ≤ k ∧ k ≤ 1000 ∧ xs.length ≤ 1000 ∧ ∀ p, H p = none → Q (.ref p) (upd H p (.lst (List.replicate k.toNat xs).flatten)))
  | .fdiv => rI (fun _ j => j ≠ 0 ∧ bits j < 9000) fun i j => .int (i.fdiv j)
  | .mod => rI (fun _ j => j ≠ 0) fun i j => .int (i.fmod j)
  | .pow => rI CPow fun i j => .int (i ^ j.toNat)
  | _ => fun _ _ _ _ => False
theorem rd_list {P : Program} {w : World} {K : PySem.W.Frag} {H : Hp} {h : Heap} {l : Addr} {xs : List V} (ok : HOk P w H h) (ki : K.In h) (r : RL K H l xs) : ∃ (its : List Value) (n : Nat), Vals xs its ∧ xs.length = its.length ∧ h.get? l = some { cls := .type "list", data := .seq its.toArray n } := by
  rcases r with r | ⟨its, n, e, _, q⟩
  · obtain ⟨z, its, n, q, e⟩ := r.ok ok
    exact ⟨its, n, q, q.length, e⟩
  · exact ⟨its.toList, n, q, q.length, ki l _ e⟩
theorem bin_cat {X : Cx} : OpR X (binaryOp .Add) (fun x y H Q => ∃ l b xs zs, x = .ref l ∧ y = .ref b ∧ RL X.K H l xs ∧ RL X.K H b zs ∧ xs.length + zs.length ≤ sizeLine ∧ ∀ p, H p = none → Q (.ref p) (upd H p (.lst (xs ++ zs)))) := by
  intro pins s σ H x y v u Q I rx ry h
  obtain ⟨l, b, xs, zs, rfl, rfl, h1, h2, hz, q⟩ := h
  cases rx
  cases ry
  obtain ⟨its, n, r1, e1, g1⟩ := rd_list I.hok I.kIn h1
  obtain ⟨its2, n2, r2, e2, g2⟩ := rd_list I.hok I.kIn h2
  refine PySem.P.add_list g1 g2 ?_ (by simp only [List.size_toArray]; omega)
  rw [show its.toArray ++ its2.toArray = (its ++ its2).toArray by simp]
  exact ⟨.ref _, _, I.lnew (t' := s.toks) (r1.append r2) (by simp only [List.length_append]; omega), rfl, q _ I.fresh⟩
theorem bin_rep {X : Cx} : OpR X (binaryOp .Mult) (fun x y H Q => ∃ l k xs, x = .ref l ∧ y = .int k ∧ RL X.K H l xs ∧ 0 ≤ k ∧ k ≤ 1000 ∧ xs.length ≤ 1000 ∧ ∀ p, H p = none → Q (.ref p) (upd H p (.lst (List.replicate k.toNat xs).flatten))) := by
  intro pins s σ H x y v u Q I rx ry h
  obtain ⟨l, k, xs, rfl, rfl, hH, h1, h2, hz, q⟩ := h
  cases rx
  obtain ⟨t, rfl⟩ := ry
  obtain ⟨its, n, r, hl, e⟩ := rd_list I.hok I.kIn hH
  have hm : its.length * k.toNat ≤ 1000 * 1000 := Nat.mul_le_mul (by omega) (by omega)
  have hz2 : sizeLine = 16777216 := sizeLine_eq
  have hfit : ¬ (!Builtin.List.listFitsIndex k) = true := by
    rw [fitsIndex_both (by omega) (by omega)]
    exact Bool.false_ne_true
  have hlong : ¬ Builtin.List.listTooLong (its.toArray.size * k.toNat) = true := by
    rw [notLongL (by rw [List.size_toArray]; omega)]
    exact Bool.false_ne_true
  have hcap : ¬ its.toArray.size * k.toNat > (2 ^ 63 - 1) / 8 := by
    rw [List.size_toArray]
    have : (1000 * 1000 : Nat) ≤ (2 ^ 63 - 1) / 8 := by decide
    omega
  have hnew : List.foldl (fun x1 x2 => x1 ++ x2) #[] (List.replicate (if its.toArray.isEmpty = true then 0 else k.toNat) its.toArray) = (List.replicate k.toNat its).flatten.toArray := by
    rw [size_rep]
    cases its with
    | nil => simp
    | cons a r' => rw [if_neg (by simp)]
  refine wpAny_binaryOp_repeat_ref (T := "list") (U := "int") (by decide) ⟨_, e, rfl⟩ (fun s' => typeIs_int s' k t) noFill_list_mul F.fills_int_mul F.slot_int_rmul repeat_list F.slot_int_index.lookup ?_
  refine call_meets F.slot_int_rmul (typeIs_int s k t) F.entry_int_rmul (F.args_int_rmul_2 _ _) (int___rmul___int_list k t l its.toArray n) ⟨e, rfl, ⟨_, e, rfl⟩, ?_⟩
  refine call_meets F.slot_list_mul ⟨_, e, rfl⟩ F.entry_list_mul (F.args_list_mul_2 _ _) (AutoListH.list___mul___list_int_3 l its.toArray n k t hfit hcap hlong) ⟨e, ?_⟩
  rw [hnew]
  refine ⟨.ref _, _, I.lnew (t' := s.toks) (r.rep k.toNat) ?_, rfl, q _ I.fresh⟩
  rw [PyProof.Rows.lm_len_rep_flat, hl, Nat.mul_comm]
  omega
theorem bin_fdiv {X : Cx} : OpR X (binaryOp .FloorDiv) (rI (fun _ j => j ≠ 0 ∧ bits j < 9000) fun i j => .int (i.fdiv j)) := opI fun i j _ _ _ _ _ hc q =>
  floordiv_int hc.1 q (.inl (PyProof.noPylong_of_log2 hc.2))
theorem bin_no {X : Cx} {f : Value → Value → Sem Value} : OpR X f (fun _ _ _ _ => False) := fun _ _ _ _ _ _ _ _ _ _ _ _ h => h.elim
theorem bin_ok {X : Cx} : ∀ op : BOp, OpR X (binaryOp (opB op)) (binR X.K op)
  | .add => op_add.or (op_catA.or (bin_cat.or op_add_str))
  | .sub => op_sub
  | .mul => op_mulW.or (op_repT.or bin_rep)
  | .fdiv => bin_fdiv
  | .mod => op_modN
  | .pow => op_pow
  | .shl => bin_no
  | .shr => bin_no
  | .band => bin_no
section
variable {tb : Tb} {cl : Wd} {call : Nat → List Slot → Out} {X : Cx} {N : List Str} {sc : Scope} {fnB : Str → Bool} {W : WX} {σ0 : L2.St}

theorem Res.op2 {K : PySem.W.Frag} {σ : L2.St} {ρ ρ1 : Env} {H P : Hp} {f : D → D → Option A} {x y : A} {Q : V → Hp → Prop} (R : Res K cl (rA K cl) W σ0 σ ρ H P (op2 f x y ρ1) Q) :
    ∃ dx dy r, view x ρ1 = some dx ∧ view y ρ1 = some dy ∧ f dx dy = some r ∧ Res K cl (rA K cl) W σ0 σ ρ H P (ok r ρ1) Q := by
  unfold MP.op2 at R
  cases e1 : view x ρ1 with
  | none => rw [e1] at R; exact R.elim
  | some dx =>
    cases e2 : view y ρ1 with
    | none => rw [e1, e2] at R; exact R.elim
    | some dy =>
      rw [e1, e2] at R
      dsimp only at R
      cases e3 : f dx dy with
      | none => rw [e3] at R; exact R.elim
      | some r => rw [e3] at R; exact ⟨dx, dy, r, rfl, rfl, e3, R⟩
theorem Res.op1 {K : PySem.W.Frag} {σ : L2.St} {ρ ρ1 : Env} {H P : Hp} {f : D → Option A} {x : A} {Q : V → Hp → Prop} (R : Res K cl (rA K cl) W σ0 σ ρ H P (op1 f x ρ1) Q) :
    ∃ dx r, view x ρ1 = some dx ∧ f dx = some r ∧ Res K cl (rA K cl) W σ0 σ ρ H P (ok r ρ1) Q := by
  unfold MP.op1 at R
  cases e1 : view x ρ1 with
  | none => rw [e1] at R; exact R.elim
  | some dx =>
    rw [e1] at R
    dsimp only at R
    cases e3 : f dx with
    | none => rw [e3] at R; exact R.elim
    | some r => rw [e3] at R; exact ⟨dx, r, rfl, e3, R⟩
/-- a op b of data -/
theorem rps_rep {K : PySem.W.Frag} {P : Hp} {vs : List V} {ds : List D} (r : Rps K cl P vs ds) : ∀ n : Nat, Rps K cl P (List.replicate n vs).flatten (List.replicate n ds).flatten
  | 0 => .nil
  | n + 1 => by
    rw [List.replicate_succ, List.replicate_succ, List.flatten_cons, List.flatten_cons]
    exact r.append (rps_rep r n)
theorem bin_res {K : PySem.W.Frag} {σ : L2.St} {ρ ρ1 : Env} {H P H1 P1 : Hp} {op : BOp} {dx dy : D} {r : A} {x y : V} {Q : V → Hp → Prop} (F : FR K cl σ0 σ H1 P1 ρ1) (S : Step σ ρ H P σ ρ1 H1 P1)
    (hx : Vw K cl H1 P1 x dx) (hy : Vw K cl H1 P1 y dy) (h : binD op dx dy = some r) (R : Res K cl (rA K cl) W σ0 σ ρ H P (ok r ρ1) Q) : binR K op x y H1 Q := by
  unfold binD at h
  split at h
  · cases h
    exact .inl ⟨_, _, hx.int, hy.int, Res.datum F S R (.int _)⟩
  · split at h
    · rename_i hl
      cases h
      obtain ⟨a, vs, rfl, t1, t1', q1⟩ := hx.tup F.sub
      obtain ⟨b, ws, rfl, t2, t2', q2⟩ := hy.tup F.sub
      refine .inr (.inl ⟨a, b, vs, ws, rfl, rfl, t1, t2, by rw [q1.length, q2.length]; exact hl, fun e => ?_, fun _ e => ?_, fun _ _ p hp => ?_⟩)
      · subst e
        cases q1
        exact Res.datum F S R (.tup t2' q2)
      · subst e
        cases q2
        rw [List.append_nil] at R
        exact Res.datum F S R (.tup t1' q1)
      · exact Res.newTup F S R (q1.append q2) hp
    · cases h
  · split at h
    · rename_i hl
      cases h
      obtain ⟨a, vs, rfl, t1, q1⟩ := hx.lst F.sub
      obtain ⟨b, ws, rfl, t2, q2⟩ := hy.lst F.sub
      exact .inr (.inr (.inl ⟨a, b, vs, ws, rfl, rfl, t1, t2, by rw [q1.length, q2.length]; exact hl, fun p hp => Res.newLst F S R (q1.append q2) hp⟩))
    · cases h
  · split at h
    · rename_i hl
      cases h
      exact .inr (.inr (.inr ⟨_, _, (hx.dat fun _ z => nomatch z).str_inv, (hy.dat fun _ z => nomatch z).str_inv, hl, Res.datum F S R (.str _)⟩))
    · cases h
  · split at h
    · rename_i hl
      cases h
      obtain ⟨a, vs, rfl, t1, t1', q1⟩ := hx.tup F.sub
      refine .inr (.inl ⟨a, _, vs, rfl, hy.int, t1, ?_, hl.1, hl.2.1, by rw [q1.length]; exact hl.2.2.1, fun p hp => Res.newTup F S R (rps_rep q1 _) hp⟩)
      rintro rfl
      cases q1
      exact absurd hl.2.2.2 (by decide)
    · cases h
  · split at h
    · rename_i hl
      cases h
      obtain ⟨a, vs, rfl, t1, q1⟩ := hx.lst F.sub
      exact .inr (.inr ⟨a, _, vs, rfl, hy.int, t1, hl.1, hl.2.1, by rw [q1.length]; exact hl.2.2, fun p hp => Res.newLst F S R (rps_rep q1 _) hp⟩)
    · cases h
  · cases h
    exact ⟨_, _, hx.int, hy.int, Res.datum F S R (.int _)⟩
  · split at h
    · rename_i hl
      cases h
      exact .inl ⟨_, _, hx.int, hy.int, hl, Res.datum F S R (.int _)⟩
    · cases h
  · split at h
    · rename_i hl
      cases h
      exact ⟨_, _, hx.int, hy.int, hl, Res.datum F S R (.int _)⟩
    · cases h
  · split at h
    · rename_i hl
      cases h
      exact ⟨_, _, hx.int, hy.int, hl, Res.datum F S R (.int _)⟩
    · cases h
  · split at h
    · rename_i hl
      cases h
      exact ⟨_, _, hx.int, hy.int, hl, Res.datum F S R (.int _)⟩
    · cases h
  · cases h
/-- two operands, then an operation of their data -/
theorem two {a b : C} {f : D → D → Option A} {r : R2} {σ : L2.St} {H : Hp} {Q : V → Hp → Prop}
    (hr : ∀ (ρ ρ1 : Env) (H P H1 P1 : Hp) (dx dy : D) (z : A) (x y : V), FR X.K cl σ0 σ H1 P1 ρ1 → Step σ ρ H P σ ρ1 H1 P1 → Vw X.K cl H1 P1 x dx → Vw X.K cl H1 P1 y dy → f dx dy = some z → Res X.K cl (rA X.K cl) W σ0 σ ρ H P (ok z ρ1) Q → r x y H1 Q)
    (h : Can X.K cl (rA X.K cl) W σ0 (fun ρ => bnd (ev call a ρ) fun x ρ => bnd (ev call b ρ) fun y ρ => op2 f x y ρ) σ H Q) : tOp r (CA cl call X W σ0 a) (CA cl call X W σ0 b) σ H Q := by
  obtain ⟨ρ, P, F, R⟩ := h
  refine (Res.bnd (R1 := rA X.K cl) F Step.refl R).mono fun x H1 ⟨dx, ρ1, P1, F1, S1, _, ⟨r1, f1⟩, R1⟩ => ?_
  refine (Res.bnd (R1 := rA X.K cl) F1 S1 R1).mono fun y H2 ⟨dy, ρ2, P2, F2, S2, S, ⟨r2, f2⟩, R2⟩ => ?_
  obtain ⟨d1, d2, z, v1, v2, e, R3⟩ := R2.op2
  exact hr ρ ρ2 H P H2 P2 d1 d2 z x y F2 S ((r1.step S2).view F2 v1) (r2.view F2 v2) e R3
theorem c_bin {op : BOp} {a b : C} {e1 e2 : Expr} {pos : Pos} (h1 : PE X e1 (CA cl call X W σ0 a)) (h2 : PE X e2 (CA cl call X W σ0 b)) : PE X (.BinOp e1 (opB op) e2 pos) (CA cl call X W σ0 (.bin op a b)) :=
  pe_imp (pe_op (bin_ok op) h1 h2) fun σ H Q h => two (fun _ _ _ _ _ _ _ _ _ _ _ F S hx hy e R => bin_res F S hx hy e R) h
theorem c_neg {a : C} {e : Expr} {pos : Pos} (h1 : PE X e (CA cl call X W σ0 a)) : PE X (.UnaryOp .USub e pos) (CA cl call X W σ0 (.neg a)) := by
  refine pe_imp (pe_un un_neg h1) fun σ H Q h => ?_
  obtain ⟨ρ, P, F, R⟩ := h
  refine (Res.bnd (R1 := rA X.K cl) F Step.refl R).mono fun x H1 ⟨dx, ρ1, P1, F1, S1, _, ⟨r1, f1⟩, R1⟩ => ?_
  obtain ⟨d, z, v1, e, R2⟩ := R1.op1
  unfold negD at e
  split at e
  · cases e
    exact ⟨_, (r1.view F1 v1).int, Res.datum F1 S1 R2 (.int _)⟩
  · cases e

/-! ### comparisons -/
mutual
theorem eqv_py : ∀ x y : D, PyData.eqv (toPy x) (toPy y) = D.eqv x y
  | .non, y => by cases y <;> simp only [toPy, PyData.eqv, D.eqv]
  | .bl _, y => by cases y <;> simp only [toPy, PyData.eqv, D.eqv]
  | .int _, y => by cases y <;> simp only [toPy, PyData.eqv, D.eqv]
  | .str _, y => by cases y <;> simp only [toPy, PyData.eqv, D.eqv]
  | .dic _ _, y => by cases y <;> simp only [toPy, PyData.eqv, D.eqv]
  | .fn _, y => by cases y <;> simp only [toPy, PyData.eqv, D.eqv]
  | .tup xs, y => by
    cases y with
    | tup ys => simp only [toPy, PyData.eqv, D.eqv]; exact eqvs_py xs ys
    | _ => simp only [toPy, PyData.eqv, D.eqv]
  | .lst xs, y => by
    cases y with
    | lst ys => simp only [toPy, PyData.eqv, D.eqv]; exact eqvs_py xs ys
    | _ => simp only [toPy, PyData.eqv, D.eqv]
theorem eqvs_py : ∀ xs ys : List D, PyData.eqvAll (toPys xs) (toPys ys) = D.eqvs xs ys
  | [], [] => by simp only [toPys, PyData.eqvAll, D.eqvs]
  | [], _ :: _ => by simp only [toPys, PyData.eqvAll, D.eqvs]
  | _ :: _, [] => by simp only [toPys, PyData.eqvAll, D.eqvs]
  | x :: xs, y :: ys => by
    simp only [toPys, PyData.eqvAll, D.eqvs]
    rw [eqv_py x y, eqvs_py xs ys]
end
mutual
theorem shp_py : ∀ (k : Nat) (d : D), d.shp k = true → (toPy d).canLay0 = true ∧ (toPy d).depth ≤ k
  | _, .non, _ => by simp [toPy, PyData.canLay0, PyData.depth]
  | _, .bl _, _ => by simp [toPy, PyData.canLay0, PyData.depth]
  | _, .int _, _ => by simp [toPy, PyData.canLay0, PyData.depth]
  | k, .str x, h => by
    have h : x.cps.all (· < 1114112) = true := by cases k <;> simpa only [D.shp] using h
    refine ⟨?_, by simp [toPy, PyData.depth]⟩
    simp only [toPy, PyData.canLay0]
    exact h
  | 0, .tup xs, h => by simp [D.shp] at h
  | 0, .lst xs, h => by simp [D.shp] at h
  | k, .dic _ _, h => by cases k <;> simp [D.shp] at h
  | k, .fn _, h => by cases k <;> simp [D.shp] at h
  | k + 1, .tup xs, h => by
    have h : D.shps k xs = true := by simpa only [D.shp] using h
    obtain ⟨h1, h2⟩ := shps_py k xs h
    simp only [toPy, PyData.canLay0, PyData.depth]
    exact ⟨h1, by omega⟩
  | k + 1, .lst xs, h => by
    have h : D.shps k xs = true := by simpa only [D.shp] using h
    obtain ⟨h1, h2⟩ := shps_py k xs h
    simp only [toPy, PyData.canLay0, PyData.depth]
    exact ⟨h1, by omega⟩
theorem shps_py : ∀ (k : Nat) (ds : List D), D.shps k ds = true → PyData.canLayAll0 (toPys ds) = true ∧ PyData.depthAll (toPys ds) ≤ k
  | _, [], _ => by simp [toPys, PyData.canLayAll0, PyData.depthAll]
  | k, x :: xs, h => by
    simp only [D.shps, Bool.and_eq_true] at h
    obtain ⟨a1, a2⟩ := shp_py k x h.1
    obtain ⟨b1, b2⟩ := shps_py k xs h.2
    simp only [toPys, PyData.canLayAll0, PyData.depthAll, a1, b1, Bool.and_self, true_and]
    omega
end
mutual
theorem rp_dp {K : PySem.W.Frag} {H : Hp} : ∀ {v : V} {d : D} (k : Nat), Rp K cl H v d → d.shp k = true → Dp K H v (toPy d)
  | _, _, _, .non, _ => by simp only [toPy]; exact .non
  | _, _, _, .bl b, _ => by simp only [toPy]; exact .bl b
  | _, _, _, .int i, _ => by simp only [toPy]; exact .int i
  | _, _, _, .str x, _ => by simp only [toPy]; exact .str x
  | _, _, 0, .tup s q, h => by simp [D.shp] at h
  | _, _, 0, .lst s q, h => by simp [D.shp] at h
  | _, _, k, .dic s q, h => by cases k <;> simp [D.shp] at h
  | _, _, k, .fn e, h => by cases k <;> simp [D.shp] at h
  | _, _, k + 1, .tup s q, h => by simp only [toPy]; exact .tup s (rps_dp k q (by simpa only [D.shp] using h))
  | _, _, k + 1, .lst s q, h => by simp only [toPy]; exact .lst s.sq (rps_dp k q (by simpa only [D.shp] using h))
theorem rps_dp {K : PySem.W.Frag} {H : Hp} : ∀ {vs : List V} {ds : List D} (k : Nat), Rps K cl H vs ds → D.shps k ds = true → DpAll K H vs (toPys ds)
  | _, _, _, .nil, _ => by simp only [toPys]; exact .nil
  | _, _, k, .cons r t, h => by
    simp only [D.shps, Bool.and_eq_true] at h
    simp only [toPys]
    exact .cons (rp_dp k r h.1) (rps_dp k t h.2)
end
def opC : COp → CmpOp
  | .eq => .Eq | .ne => .NotEq | .lt => .Lt | .le => .LtE | .gt => .Gt | .ge => .GtE | .isN => .Is | .notN => .IsNot | .in_ => .In | .notIn => .NotIn
def cmpR (K : PySem.W.Frag) : COp → R2
  | .eq => fun x y H Q => rEqD K x y H Q ∨ rDT K x y H Q
  | .ne => rNeD K
  | .lt => rI0 fun i j => .bl (decide (i < j))
  | .le => rI0 fun i j => .bl (decide (i ≤ j))
  | .gt => rI0 fun i j => .bl (decide (j < i))
  | .ge => rI0 fun i j => .bl (decide (j ≤ i))
  | .isN => fun x y H Q => y = .non ∧ Q (.bl (decide (x = .non))) H
  | .notN => fun x y H Q => y = .non ∧ Q (.bl (!decide (x = .non))) H
  | .in_ => rIn K false
  | .notIn => rIn K true
theorem cmp_ok {X : Cx} (hu : X.A.units + 65 < cLine) : ∀ op : COp, OpR X (compareOp (opC op)) (cmpR X.K op)
  | .eq => fun pins s σ H x y v u Q I rx ry h => h.elim (op_eqD (by omega) pins s σ H x y v u Q I rx ry) (op_eqDT (by omega) pins s σ H x y v u Q I rx ry)
  | .ne => op_neD (by omega)
  | .lt => op_lt
  | .le => op_le
  | .gt => op_gt
  | .ge => op_ge
  | .isN => op_isN
  | .notN => op_notN
  | .in_ => op_in_seq
  | .notIn => op_notIn_seq
theorem rp_flat {K : PySem.W.Frag} {P : Hp} {v : V} {d : D} (r : Rp K cl P v d) (h : d.flat = true) : flatV v = true ∧ ∀ w e, Rp K cl P w e → e.flat = true → eqV v w = D.eqv d e := by
  cases r with
  | non => exact ⟨rfl, fun w e q f => by cases q <;> first | rfl | cases f⟩
  | bl b => exact ⟨rfl, fun w e q f => by cases q <;> first | rfl | (simp only [eqV, D.eqv]) | cases f⟩
  | int i => exact ⟨rfl, fun w e q f => by cases q <;> first | rfl | (simp only [eqV, D.eqv]) | cases f⟩
  | str x => exact ⟨rfl, fun w e q f => by cases q <;> first | rfl | (simp only [eqV, D.eqv]) | cases f⟩
  | tup => cases h
  | lst => cases h
  | dic => cases h
  | fn => cases h
theorem rps_flat {K : PySem.W.Frag} {P : Hp} {v : V} {d : D} (r : Rp K cl P v d) (h : d.flat = true) : ∀ {vs : List V} {ds : List D}, Rps K cl P vs ds → ds.all D.flat = true → vs.all flatV = true ∧ inV v vs = ds.any fun y => y.eqv d
  | _, _, .nil, _ => ⟨rfl, rfl⟩
  | _, _, .cons q t, f => by
    rw [List.all_cons, Bool.and_eq_true] at f
    obtain ⟨a, b⟩ := rp_flat q f.1
    obtain ⟨a2, b2⟩ := rps_flat r h t f.2
    refine ⟨by rw [List.all_cons, a, a2]; rfl, ?_⟩
    unfold inV at *
    rw [List.any_cons, List.any_cons, b _ _ r h, b2]
theorem rp_isN {K : PySem.W.Frag} {P : Hp} {v : V} {d : D} (r : Rp K cl P v d) : decide (v = .non) = isND d := by
  cases r <;> rfl
/-- a comparison of data -/
theorem cmp_res {K : PySem.W.Frag} {H1 P1 : Hp} {op : COp} {dx dy : D} {k : Bool} {x y : V} {Q : V → Hp → Prop} (sub : Same P1 H1)
    (hx : Vw K cl H1 P1 x dx) (hy : Vw K cl H1 P1 y dy) (h : cmpO op dx dy = some k) (q : Q (.bl k) H1) : cmpR K op x y H1 Q := by
  have rx := hx.rp sub
  have ry := hy.rp sub
  have intsL : ∀ {f : Int → Int → Bool} {i j : Int}, dx = .int i → dy = .int j → f i j = k → rI0 (fun i j => .bl (f i j)) x y H1 Q := fun {f i j} e1 e2 e3 => by
    subst e1 e2 e3
    exact ⟨i, j, hx.int, hy.int, q⟩
  have eqs : (dx.shp 12 && dy.shp 12) = true → ∃ d e, Dp K H1 x d ∧ Dp K H1 y e ∧ SeqAt.shaped d = true ∧ SeqAt.shaped e = true ∧ PyData.eqv d e = dx.eqv dy := fun z => by
    rw [Bool.and_eq_true] at z
    obtain ⟨a1, a2⟩ := shp_py 12 dx z.1
    obtain ⟨b1, b2⟩ := shp_py 12 dy z.2
    exact ⟨_, _, rp_dp 12 rx z.1, rp_dp 12 ry z.2, by unfold SeqAt.shaped; rw [a1, decide_eq_true (by omega)]; rfl, by unfold SeqAt.shaped; rw [b1, decide_eq_true (by omega)]; rfl, eqv_py dx dy⟩
  cases op with
  | eq =>
    simp only [cmpO, cmpD] at h
    split at h
    · rename_i z
      cases h
      obtain ⟨d, e, h1, h2, h3, h4, h5⟩ := eqs z
      exact .inl ⟨d, e, h1, h2, h3, h4, by rw [h5]; exact q⟩
    · split at h
      · rename_i z
        cases h
        rw [Bool.and_eq_true] at z
        obtain ⟨z1, z2⟩ := z
        have hdx : dx = .dic [] [] := by
          unfold D.nil at z1
          split at z1
          · rfl
          · cases z1
        have hdy : ∃ ys, dy = .tup ys := by
          unfold D.isTup at z2
          split at z2
          · exact ⟨_, rfl⟩
          · cases z2
        obtain ⟨ys, rfl⟩ := hdy
        subst hdx
        obtain ⟨b, ws, rfl, s, _⟩ := ry.tup_inv
        generalize hk : D.dic [] [] = dd at rx
        cases rx with
        | dic sd qd => exact .inr ⟨_, b, _, ws, rfl, rfl, sd, s, q⟩
        | _ => cases hk
      · cases h
  | ne =>
    simp only [cmpO, cmpD] at h
    split at h
    · rename_i z
      cases h
      obtain ⟨d, e, h1, h2, h3, h4, h5⟩ := eqs z
      exact ⟨d, e, h1, h2, h3, h4, by rw [h5]; exact q⟩
    · cases h
  | lt => simp only [cmpO] at h; unfold cmpD at h; split at h <;> first | (rename_i z; cases z; done) | skip
          all_goals first | (cases h; done) | skip
          all_goals first | (exact intsL (f := fun i j => decide (i < j)) rfl rfl (Option.some.inj h)) | (rename_i z; cases z)
  | le => simp only [cmpO] at h; unfold cmpD at h; split at h <;> first | (rename_i z; cases z; done) | skip
          all_goals first | (cases h; done) | skip
          all_goals first | (exact intsL (f := fun i j => decide (i ≤ j)) rfl rfl (Option.some.inj h)) | (rename_i z; cases z)
  | gt => simp only [cmpO] at h; unfold cmpD at h; split at h <;> first | (rename_i z; cases z; done) | skip
          all_goals first | (cases h; done) | skip
          all_goals first | (exact intsL (f := fun i j => decide (j < i)) rfl rfl (Option.some.inj h)) | (rename_i z; cases z)
  | ge => simp only [cmpO] at h; unfold cmpD at h; split at h <;> first | (rename_i z; cases z; done) | skip
          all_goals first | (cases h; done) | skip
          all_goals first | (exact intsL (f := fun i j => decide (j ≤ i)) rfl rfl (Option.some.inj h)) | (rename_i z; cases z)
  | isN =>
    simp only [cmpO] at h
    split at h
    · cases h
      exact ⟨ry.non_inv, by rw [rp_isN rx]; exact q⟩
    · cases h
  | notN =>
    simp only [cmpO] at h
    split at h
    · cases h
      exact ⟨ry.non_inv, by rw [rp_isN rx]; exact q⟩
    · cases h
  | in_ =>
    simp only [cmpO] at h
    unfold inD at h
    split at h
    · split at h
      · rename_i z
        rw [Bool.and_eq_true] at z
        cases h
        obtain ⟨a, vs, rfl, r, q2⟩ := ry.lst_inv
        obtain ⟨f1, f2⟩ := rps_flat rx z.1 q2 z.2
        exact ⟨a, vs, rfl, .inl r.sq, (rp_flat rx z.1).1, f1, by rw [f2]; exact q⟩
      · cases h
    · split at h
      · rename_i z
        rw [Bool.and_eq_true] at z
        cases h
        obtain ⟨a, vs, rfl, r, q2⟩ := ry.tup_inv
        obtain ⟨f1, f2⟩ := rps_flat rx z.1 q2 z.2
        exact ⟨a, vs, rfl, .inr r, (rp_flat rx z.1).1, f1, by rw [f2]; exact q⟩
      · cases h
    · cases h
  | notIn =>
    simp only [cmpO] at h
    unfold inD at h
    split at h
    · split at h
      · rename_i z
        rw [Bool.and_eq_true] at z
        cases h
        obtain ⟨a, vs, rfl, r, q2⟩ := ry.lst_inv
        obtain ⟨f1, f2⟩ := rps_flat rx z.1 q2 z.2
        exact ⟨a, vs, rfl, .inl r.sq, (rp_flat rx z.1).1, f1, by rw [f2]; exact q⟩
      · cases h
    · split at h
      · rename_i z
        rw [Bool.and_eq_true] at z
        cases h
        obtain ⟨a, vs, rfl, r, q2⟩ := ry.tup_inv
        obtain ⟨f1, f2⟩ := rps_flat rx z.1 q2 z.2
        exact ⟨a, vs, rfl, .inr r, (rp_flat rx z.1).1, f1, by rw [f2]; exact q⟩
      · cases h
    · cases h
theorem datB_some {o : Option Bool} {z : A} (h : datB o = some z) : ∃ k, o = some k ∧ z = .dat (.bl k) := by
  cases o with
  | none => cases h
  | some k => cases h; exact ⟨k, rfl, rfl⟩
theorem c_cmp {op : COp} {a b : C} {e1 e2 : Expr} {pos : Pos} (G : Gd tb cl call X N sc fnB W) (h1 : PE X e1 (CA cl call X W σ0 a)) (h2 : PE X e2 (CA cl call X W σ0 b)) (hs : isSet e2 = false) : PE X (.Compare e1 [opC op] [e2] pos) (CA cl call X W σ0 (.cmp op a b)) :=
  pe_imp (pe_cmpR (cmp_ok G.units op) h1 h2 (marks_of hs _)) fun σ H Q h => two (fun _ _ _ _ _ _ _ _ _ _ _ F S hx hy e R => by
    obtain ⟨k, e1, rfl⟩ := datB_some e
    exact cmp_res F.sub hx hy e1 (Res.datum F S R (.bl k))) h
end
end MP
set_option Elab.async false
set_option linter.all false
set_option maxRecDepth 100000
set_option maxHeartbeats 2000000
/-! MP: tests, chains, subscripts, displays -/
namespace MP
open PySem PySem.Spec PyProof.Rows L2

theorem bnd_assoc {α β γ : Type} (m : Mr α) (f : α → Env → Mr β) (g : β → Env → Mr γ) : bnd (bnd m f) g = bnd m fun a ρ => bnd (f a ρ) g := by
  cases m with
  | none => rfl
  | some q => obtain ⟨x, ρ'⟩ := q; cases x <;> rfl
theorem bnd_ok_r {α : Type} (m : Mr α) : bnd m (fun a ρ => ok a ρ) = m := by
  cases m with
  | none => rfl
  | some q => obtain ⟨x, ρ'⟩ := q; cases x <;> rfl
theorem bnd_some {α β : Type} {m : Mr α} {f : α → Env → Mr β} {b : β} {ρ' : Env} (h : bnd m f = some (.ok b, ρ')) : ∃ a ρ1, m = some (.ok a, ρ1) ∧ f a ρ1 = some (.ok b, ρ') := by
  cases m with
  | none => cases h
  | some q =>
    obtain ⟨x, ρ1⟩ := q
    cases x with
    | error x => cases h
    | ok a => exact ⟨a, ρ1, rfl, h⟩
section
variable {tb : Tb} {cl : Wd} {call : Nat → List Slot → Out} {X : Cx} {N : List Str} {sc : Scope} {fnB : Str → Bool} {W : WX} {σ0 : L2.St}
theorem rps_empty {K : PySem.W.Frag} {P : Hp} {vs : List V} {ds : List D} (q : Rps K cl P vs ds) : ds.isEmpty = vs.isEmpty := by
  cases q <;> rfl
theorem vw_tru {K : PySem.W.Frag} {H P : Hp} {v : V} {d : D} {k : Bool} (sub : Same P H) (h : Vw K cl H P v d) (e : d.truth = some k) : TruV K v H k := by
  cases d with
  | non => cases e; rw [(h.dat fun _ z => nomatch z).non_inv]; rfl
  | bl b => cases e; rw [(h.dat fun _ z => nomatch z).bl_inv]; rfl
  | int i => cases e; rw [h.int]; rfl
  | str x =>
    rw [(h.dat fun _ z => nomatch z).str_inv]
    simp only [D.truth] at e
    split at e
    · rename_i z
      cases e
      exact ⟨Nat.le_trans z (by decide), rfl⟩
    · cases e
  | tup ds =>
    cases e
    obtain ⟨a, vs, rfl, s, _, q⟩ := h.tup sub
    exact .inr (.inl ⟨vs, s, by rw [rps_empty q]⟩)
  | lst ds =>
    cases e
    obtain ⟨a, vs, rfl, s, q⟩ := h.lst sub
    exact .inl ⟨vs, s.sq, by rw [rps_empty q]⟩
  | dic _ _ => cases e
  | fn _ => cases e
theorem res_tru {β γ : Type} {R2 : Rl β γ} {K : PySem.W.Frag} {σ : L2.St} {ρ ρ1 : Env} {H P : Hp} {x : A} {f : Bool → Env → Mr γ} {Q : β → Hp → Prop} (R : Res K cl R2 W σ0 σ ρ H P (bnd (tru x ρ1) f) Q) :
    ∃ d k, view x ρ1 = some d ∧ d.truth = some k ∧ Res K cl R2 W σ0 σ ρ H P (f k ρ1) Q := by
  unfold MP.tru at R
  cases e1 : view x ρ1 with
  | none => rw [e1] at R; exact R.elim
  | some d =>
    rw [e1] at R
    dsimp only at R
    cases e3 : d.truth with
    | none => rw [e3] at R; exact R.elim
    | some k => rw [e3] at R; exact ⟨d, k, rfl, e3, R⟩
abbrev CT (cl : Wd) (call : Nat → List Slot → Out) (X : Cx) (W : WX) (σ0 : L2.St) (c : C) : TT := Can X.K cl rB W σ0 (evT call c)
/-- a plain expression as a test -/
theorem t_plain {c : C} {e : Expr} (h : PE X e (CA cl call X W σ0 c)) (he : ∀ whole, isTrue e X.env whole = (do let v ← whole; standAt e.pos; holding [v] (truthy v))) : PT X e (CT cl call X W σ0 c) := by
  refine pt_imp (pt_truth h he) fun σ H Q h => ?_
  obtain ⟨ρ, P, F, R⟩ := h
  refine (Res.bnd (R1 := rA X.K cl) F Step.refl R).mono fun v H1 ⟨a, ρ1, P1, F1, S1, _, ⟨r1, f1⟩, R1⟩ => ?_
  have R1' : Res X.K cl rB W σ0 σ ρ H P (bnd (tru a ρ1) fun k ρ => ok k ρ) Q := by rw [bnd_ok_r]; exact R1
  obtain ⟨d, k, e1, e2, R2⟩ := (res_tru R1')
  exact ⟨k, vw_tru F1.sub (r1.view F1 e1) e2, Res.ret F1 S1 R2 rfl⟩

/-! ### comparisons as values and tests -/
theorem cmp_gen {β γ : Type} {R2 : Rl β γ} {op : COp} {a b : C} {g : A → Env → Mr γ} {σ : L2.St} {ρ : Env} {H P : Hp} {Q : β → Hp → Prop} {Qv : VK} (F : FR X.K cl σ0 σ H P ρ)
    (fin : ∀ ρ1 H1 P1 k, FR X.K cl σ0 σ H1 P1 ρ1 → Step σ ρ H P σ ρ1 H1 P1 → Res X.K cl R2 W σ0 σ ρ H P (g (.dat (.bl k)) ρ1) Q → Qv (.bl k) H1)
    (R : Res X.K cl R2 W σ0 σ ρ H P (bnd (ev call (.cmp op a b) ρ) g) Q) : tOp (cmpR X.K op) (CA cl call X W σ0 a) (CA cl call X W σ0 b) σ H Qv := by
  simp only [ev, bnd_assoc] at R
  refine (Res.bnd (R1 := rA X.K cl) F Step.refl R).mono fun x H1 ⟨dx, ρ1, P1, F1, S1, _, ⟨r1, f1⟩, R1⟩ => ?_
  refine (Res.bnd (R1 := rA X.K cl) F1 S1 R1).mono fun y H2 ⟨dy, ρ2, P2, F2, S2, S, ⟨r2, f2⟩, R2⟩ => ?_
  unfold op2 at R2
  cases e1 : view dx ρ2 with
  | none => rw [e1] at R2; exact R2.elim
  | some d1 =>
    cases e2 : view dy ρ2 with
    | none => rw [e1, e2] at R2; exact R2.elim
    | some d2 =>
      rw [e1, e2] at R2
      dsimp only at R2
      cases e3 : datB (cmpO op d1 d2) with
      | none => rw [e3] at R2; exact R2.elim
      | some z =>
        rw [e3] at R2
        obtain ⟨k, e4, rfl⟩ := datB_some e3
        exact cmp_res F2.sub ((r1.step S2).view F2 e1) (r2.view F2 e2) e4 (fin ρ2 H2 P2 k F2 S R2)
theorem t_cmp {op : COp} {a b : C} {e1 e2 : Expr} {pos : Pos} (G : Gd tb cl call X N sc fnB W) (h1 : PE X e1 (CA cl call X W σ0 a)) (h2 : PE X e2 (CA cl call X W σ0 b)) (hs : isSet e2 = false) : PT X (.Compare e1 [opC op] [e2] pos) (CT cl call X W σ0 (.cmp op a b)) :=
  pt_imp (pt_cmpR (cmp_ok G.units op) h1 h2 (marks_of hs _)) fun σ H Q h => by
    obtain ⟨ρ, P, F, R⟩ := h
    exact cmp_gen (g := tru) F (fun ρ1 H1 P1 k F1 S1 R1 => ⟨k, rfl, Res.ret F1 S1 (show Res X.K cl rB W σ0 σ ρ H P (ok k ρ1) Q from R1) rfl⟩) R
theorem chn_gen {β γ : Type} {RR : Rl β γ} {op op' : COp} {a b c : C} {g : A → Env → Mr γ} {σ : L2.St} {ρ : Env} {H P : Hp} {Q : β → Hp → Prop} {Qv : VK} (F : FR X.K cl σ0 σ H P ρ)
    (fin : ∀ ρ1 H1 P1 k, FR X.K cl σ0 σ H1 P1 ρ1 → Step σ ρ H P σ ρ1 H1 P1 → Res X.K cl RR W σ0 σ ρ H P (g (.dat (.bl k)) ρ1) Q → Qv (.bl k) H1)
    (R : Res X.K cl RR W σ0 σ ρ H P (bnd (ev call (.chn op op' a b c) ρ) g) Q) : tChain (cmpR X.K op) (cmpR X.K op') (CA cl call X W σ0 a) (CA cl call X W σ0 b) (CA cl call X W σ0 c) σ H Qv := by
  simp only [ev, bnd_assoc] at R
  refine (Res.bnd (R1 := rA X.K cl) F Step.refl R).mono fun x H1 ⟨dx, ρ1, P1, F1, S1, _, ⟨r1, f1⟩, R1⟩ => ?_
  refine (Res.bnd (R1 := rA X.K cl) F1 S1 R1).mono fun y H2 ⟨dy, ρ2, P2, F2, S2, S, ⟨r2, f2⟩, R2⟩ => ?_
  unfold op2 at R2
  cases e1 : view dx ρ2 with
  | none => rw [e1] at R2; exact R2.elim
  | some d1 =>
    cases e2 : view dy ρ2 with
    | none => rw [e1, e2] at R2; exact R2.elim
    | some d2 =>
      rw [e1, e2] at R2
      dsimp only at R2
      cases e3 : datB (cmpO op d1 d2) with
      | none => rw [e3] at R2; exact R2.elim
      | some z =>
        rw [e3] at R2
        obtain ⟨k, e4, rfl⟩ := datB_some e3
        refine cmp_res F2.sub ((r1.step S2).view F2 e1) (r2.view F2 e2) e4 ⟨k, rfl, ?_⟩
        cases k with
        | false => exact fin ρ2 H2 P2 false F2 S R2
        | true =>
          rw [if_pos rfl]
          have R3 : Res X.K cl RR W σ0 σ ρ H P (bnd (bnd (ev call c ρ2) fun z ρ => op2 (fun x y => datB (cmpO op' x y)) dy z ρ) g) Q := R2
          rw [bnd_assoc] at R3
          refine (Res.bnd (R1 := rA X.K cl) F2 S R3).mono fun w H3 ⟨dw, ρ3, P3, F3, S3, S', ⟨r3, f3⟩, R4⟩ => ?_
          unfold op2 at R4
          cases e5 : view dy ρ3 with
          | none => rw [e5] at R4; exact R4.elim
          | some d3 =>
            cases e6 : view dw ρ3 with
            | none => rw [e5, e6] at R4; exact R4.elim
            | some d4 =>
              rw [e5, e6] at R4
              dsimp only at R4
              cases e7 : datB (cmpO op' d3 d4) with
              | none => rw [e7] at R4; exact R4.elim
              | some z =>
                rw [e7] at R4
                obtain ⟨k', e8, rfl⟩ := datB_some e7
                exact cmp_res F3.sub ((r2.step S3).view F3 e5) (r3.view F3 e6) e8 (fin ρ3 H3 P3 k' F3 S' R4)
theorem marks2 {b c : Expr} {op op' : CmpOp} (h : isSet c = false) : lastMarks [op, op'] [b, c] = false := marks_of h _
theorem c_chn {op op' : COp} {a b c : C} {e1 e2 e3 : Expr} {pos : Pos} (G : Gd tb cl call X N sc fnB W) (h1 : PE X e1 (CA cl call X W σ0 a)) (h2 : PE X e2 (CA cl call X W σ0 b)) (h3 : PE X e3 (CA cl call X W σ0 c)) (hs : isSet e3 = false) :
    PE X (.Compare e1 [opC op, opC op'] [e2, e3] pos) (CA cl call X W σ0 (.chn op op' a b c)) :=
  pe_imp (pe_chain (cmp_ok G.units op) (cmp_ok G.units op') h1 h2 h3 (marks2 hs)) fun σ H Q h => by
    obtain ⟨ρ, P, F, R⟩ := h
    refine chn_gen (RR := rA X.K cl) (g := fun a ρ => ok a ρ) F (fun ρ1 H1 P1 k F1 S1 R1 => Res.datum F1 S1 R1 (.bl k)) ?_
    rw [bnd_ok_r]
    exact R
theorem t_chn {op op' : COp} {a b c : C} {e1 e2 e3 : Expr} {pos : Pos} (G : Gd tb cl call X N sc fnB W) (h1 : PE X e1 (CA cl call X W σ0 a)) (h2 : PE X e2 (CA cl call X W σ0 b)) (h3 : PE X e3 (CA cl call X W σ0 c)) (hs : isSet e3 = false) :
    PT X (.Compare e1 [opC op, opC op'] [e2, e3] pos) (CT cl call X W σ0 (.chn op op' a b c)) :=
  pt_imp (pt_chain (cmp_ok G.units op) (cmp_ok G.units op') h1 h2 h3 (marks2 hs)) fun σ H Q h => by
    obtain ⟨ρ, P, F, R⟩ := h
    exact chn_gen (g := tru) F (fun ρ1 H1 P1 k F1 S1 R1 => ⟨k, rfl, Res.ret F1 S1 (show Res X.K cl rB W σ0 σ ρ H P (ok k ρ1) Q from R1) rfl⟩) R

/-! ### chains of three -/
/-- a op1 b op2 c op3 d -/
def tChain3 (r r' r'' : R2) (ta tb tc td : TE) : TE := fun σ H Q => ta σ H fun x H1 => tb σ H1 fun y H2 => r x y H2 fun z H3 => ∃ k, z = .bl k ∧
  (if k = true then tc σ H3 fun w H4 => r' y w H4 fun z' H5 => ∃ k', z' = .bl k' ∧ (if k' = true then td σ H5 fun v H6 => r'' w v H6 Q else Q (.bl false) H5) else Q (.bl false) H3)
section
open PyProof.Rows
theorem pe_chain3 {X : Cx} {a b c d : Expr} {ta tb tc td : TE} {pos : Pos} {op op' op'' : CmpOp} {r r' r'' : R2} (ho : OpR X (compareOp op) r) (ho' : OpR X (compareOp op') r') (ho'' : OpR X (compareOp op'') r'') (ha : PE X a ta) (hb : PE X b tb) (hc : PE X c tc) (hd : PE X d td)
    (hm : lastMarks [op, op', op''] [b, c, d] = false) : PE X (.Compare a [op, op', op''] [b, c, d] pos) (tChain3 r r' r'' ta tb tc td) := by
  refine ⟨fun pins s σ H Q I h => ?_⟩
  refine Compare_chain (thn (ha.run pins s σ H _ I h) fun v s1 ⟨x, H1, I1, r1, q1⟩ => chain_link (thn (hb.run pins s1 σ H1 _ I1 q1) fun u s2 ⟨y, H2, I2, r2, q2⟩ =>
    thn (ho pins s2 σ H2 x y v u _ I2 r1 r2 q2) fun d s3 ⟨z, H3, I3, r3, k, e, q3⟩ => ?_)) hm
  subst e
  cases r3
  refine wpAny_truthy_bool ?_
  cases k with
  | false => exact ite_ff ⟨.bl false, H3, I3, rfl, q3⟩
  | true =>
    refine ite_tt (chain_link (thn (hc.run pins s3 σ H3 _ I3 q3) fun w' s4 ⟨w, H4, I4, r4, q4⟩ => thn (ho' pins s4 σ H4 y w u w' _ I4 r2 r4 q4) fun d2 s5 ⟨z', H5, I5, r5, k', e', q5⟩ => ?_))
    subst e'
    cases r5
    refine wpAny_truthy_bool ?_
    cases k' with
    | false => exact ite_ff ⟨.bl false, H5, I5, rfl, q5⟩
    | true => exact ite_tt (chain_last (thn (hd.run pins s5 σ H5 _ I5 q5) fun v' s6 ⟨z2, H6, I6, r6, q6⟩ => ho'' pins s6 σ H6 w z2 w' v' Q I6 r4 r6 q6))
theorem pt_chain3 {X : Cx} {a b c d : Expr} {ta tb tc td : TE} {pos : Pos} {op op' op'' : CmpOp} {r r' r'' : R2} (ho : OpR X (compareOp op) r) (ho' : OpR X (compareOp op') r') (ho'' : OpR X (compareOp op'') r'') (ha : PE X a ta) (hb : PE X b tb) (hc : PE X c tc) (hd : PE X d td)
    (hm : lastMarks [op, op', op''] [b, c, d] = false) : PT X (.Compare a [op, op', op''] [b, c, d] pos) (tTest (tChain3 r r' r'' ta tb tc td)) := by
  refine ⟨fun pins s σ H Q I h => ?_⟩
  refine isTrue_chain (thn (ha.run pins s σ H _ I h) fun v s1 ⟨x, H1, I1, r1, q1⟩ => test_link (thn (hb.run pins s1 σ H1 _ I1 q1) fun u s2 ⟨y, H2, I2, r2, q2⟩ =>
    thn (ho pins s2 σ H2 x y v u _ I2 r1 r2 q2) fun d s3 ⟨z, H3, I3, r3, k, e, q3⟩ => ?_)) hm
  subst e
  cases r3
  refine wpAny_truthy_bool ?_
  cases k with
  | false =>
    obtain ⟨k', e', q'⟩ := q3
    cases e'
    exact ite_ff ⟨H3, I3, q'⟩
  | true =>
    refine ite_tt (test_link (thn (hc.run pins s3 σ H3 _ I3 q3) fun w' s4 ⟨w, H4, I4, r4, q4⟩ => thn (ho' pins s4 σ H4 y w u w' _ I4 r2 r4 q4) fun d2 s5 ⟨z', H5, I5, r5, k', e', q5⟩ => ?_))
    subst e'
    cases r5
    refine wpAny_truthy_bool ?_
    cases k' with
    | false =>
      obtain ⟨k2, e2, q2⟩ := q5
      cases e2
      exact ite_ff ⟨H5, I5, q2⟩
    | true =>
      refine ite_tt (test_last (thn (hd.run pins s5 σ H5 _ I5 q5) fun v' s6 ⟨z2, H6, I6, r6, q6⟩ => thn (ho'' pins s6 σ H6 w z2 w' v' _ I6 r4 r6 q6) fun d' s7 ⟨z3, H7, I7, r7, k3, e3, q7⟩ => ?_))
      subst e3
      cases r7
      exact wpAny_truthy_bool ⟨H7, I7, q7⟩
end
theorem marks3 {b c d : Expr} {op op' op'' : CmpOp} (h : isSet d = false) : lastMarks [op, op', op''] [b, c, d] = false := marks_of h _
theorem chn3_gen {β γ : Type} {RR : Rl β γ} {op op' op'' : COp} {a b c d : C} {g : A → Env → Mr γ} {σ : L2.St} {ρ : Env} {H P : Hp} {Q : β → Hp → Prop} {Qv : VK} (F : FR X.K cl σ0 σ H P ρ)
    (fin : ∀ ρ1 H1 P1 k, FR X.K cl σ0 σ H1 P1 ρ1 → Step σ ρ H P σ ρ1 H1 P1 → Res X.K cl RR W σ0 σ ρ H P (g (.dat (.bl k)) ρ1) Q → Qv (.bl k) H1)
    (R : Res X.K cl RR W σ0 σ ρ H P (bnd (ev call (.chn3 op op' op'' a b c d) ρ) g) Q) : tChain3 (cmpR X.K op) (cmpR X.K op') (cmpR X.K op'') (CA cl call X W σ0 a) (CA cl call X W σ0 b) (CA cl call X W σ0 c) (CA cl call X W σ0 d) σ H Qv := by
  simp only [ev, bnd_assoc] at R
  refine (Res.bnd (R1 := rA X.K cl) F Step.refl R).mono fun x H1 ⟨dx, ρ1, P1, F1, S1, _, ⟨r1, f1⟩, R1⟩ => ?_
  refine (Res.bnd (R1 := rA X.K cl) F1 S1 R1).mono fun y H2 ⟨dy, ρ2, P2, F2, S2, S, ⟨r2, f2⟩, R2⟩ => ?_
  unfold op2 at R2
  cases e1 : view dx ρ2 with
  | none => rw [e1] at R2; exact R2.elim
  | some d1 =>
    cases e2 : view dy ρ2 with
    | none => rw [e1, e2] at R2; exact R2.elim
    | some d2 =>
      rw [e1, e2] at R2
      dsimp only at R2
      cases e3 : datB (cmpO op d1 d2) with
      | none => rw [e3] at R2; exact R2.elim
      | some z =>
        rw [e3] at R2
        obtain ⟨k, e4, rfl⟩ := datB_some e3
        refine cmp_res F2.sub ((r1.step S2).view F2 e1) (r2.view F2 e2) e4 ⟨k, rfl, ?_⟩
        cases k with
        | false => exact fin ρ2 H2 P2 false F2 S R2
        | true =>
          rw [if_pos rfl]
          have R3 : Res X.K cl RR W σ0 σ ρ H P (bnd (bnd (ev call c ρ2) fun w ρ => bnd (op2 (fun x y => datB (cmpO op' x y)) dy w ρ) fun z ρ => bnd (tru z ρ) fun k ρ =>
            if k = true then bnd (ev call d ρ) fun v ρ => op2 (fun x y => datB (cmpO op'' x y)) w v ρ else ok (.dat (.bl false)) ρ) g) Q := R2
          rw [bnd_assoc] at R3
          refine (Res.bnd (R1 := rA X.K cl) F2 S R3).mono fun w H3 ⟨dw, ρ3, P3, F3, S3, S', ⟨r3, f3⟩, R4⟩ => ?_
          rw [bnd_assoc] at R4
          unfold op2 at R4
          cases e5 : view dy ρ3 with
          | none => rw [e5] at R4; exact R4.elim
          | some d3 =>
            cases e6 : view dw ρ3 with
            | none => rw [e5, e6] at R4; exact R4.elim
            | some d4 =>
              rw [e5, e6] at R4
              dsimp only at R4
              cases e7 : datB (cmpO op' d3 d4) with
              | none => rw [e7] at R4; exact R4.elim
              | some z =>
                rw [e7] at R4
                obtain ⟨k', e8, rfl⟩ := datB_some e7
                refine cmp_res F3.sub ((r2.step S3).view F3 e5) (r3.view F3 e6) e8 ⟨k', rfl, ?_⟩
                cases k' with
                | false => exact fin ρ3 H3 P3 false F3 S' R4
                | true =>
                  rw [if_pos rfl]
                  have R5 : Res X.K cl RR W σ0 σ ρ H P (bnd (bnd (ev call d ρ3) fun v ρ => op2 (fun x y => datB (cmpO op'' x y)) dw v ρ) g) Q := R4
                  rw [bnd_assoc] at R5
                  refine (Res.bnd (R1 := rA X.K cl) F3 S' R5).mono fun v H4 ⟨dv, ρ4, P4, F4, S4, S'', ⟨r4, f4⟩, R6⟩ => ?_
                  unfold op2 at R6
                  cases e9 : view dw ρ4 with
                  | none => rw [e9] at R6; exact R6.elim
                  | some d5 =>
                    cases e10 : view dv ρ4 with
                    | none => rw [e9, e10] at R6; exact R6.elim
                    | some d6 =>
                      rw [e9, e10] at R6
                      dsimp only at R6
                      cases e11 : datB (cmpO op'' d5 d6) with
                      | none => rw [e11] at R6; exact R6.elim
                      | some z =>
                        rw [e11] at R6
                        obtain ⟨k2, e12, rfl⟩ := datB_some e11
                        exact cmp_res F4.sub ((r3.step S4).view F4 e9) (r4.view F4 e10) e12 (fin ρ4 H4 P4 k2 F4 S'' R6)
theorem c_chn3 {op op' op'' : COp} {a b c d : C} {e1 e2 e3 e4 : Expr} {pos : Pos} (G : Gd tb cl call X N sc fnB W) (h1 : PE X e1 (CA cl call X W σ0 a)) (h2 : PE X e2 (CA cl call X W σ0 b)) (h3 : PE X e3 (CA cl call X W σ0 c)) (h4 : PE X e4 (CA cl call X W σ0 d)) (hs : isSet e4 = false) :
    PE X (.Compare e1 [opC op, opC op', opC op''] [e2, e3, e4] pos) (CA cl call X W σ0 (.chn3 op op' op'' a b c d)) :=
  pe_imp (pe_chain3 (cmp_ok G.units op) (cmp_ok G.units op') (cmp_ok G.units op'') h1 h2 h3 h4 (marks3 hs)) fun σ H Q h => by
    obtain ⟨ρ, P, F, R⟩ := h
    refine chn3_gen (RR := rA X.K cl) (g := fun a ρ => ok a ρ) F (fun ρ1 H1 P1 k F1 S1 R1 => Res.datum F1 S1 R1 (.bl k)) ?_
    rw [bnd_ok_r]
    exact R
theorem t_chn3 {op op' op'' : COp} {a b c d : C} {e1 e2 e3 e4 : Expr} {pos : Pos} (G : Gd tb cl call X N sc fnB W) (h1 : PE X e1 (CA cl call X W σ0 a)) (h2 : PE X e2 (CA cl call X W σ0 b)) (h3 : PE X e3 (CA cl call X W σ0 c)) (h4 : PE X e4 (CA cl call X W σ0 d)) (hs : isSet e4 = false) :
    PT X (.Compare e1 [opC op, opC op', opC op''] [e2, e3, e4] pos) (CT cl call X W σ0 (.chn3 op op' op'' a b c d)) :=
  pt_imp (pt_chain3 (cmp_ok G.units op) (cmp_ok G.units op') (cmp_ok G.units op'') h1 h2 h3 h4 (marks3 hs)) fun σ H Q h => by
    obtain ⟨ρ, P, F, R⟩ := h
    exact chn3_gen (g := tru) F (fun ρ1 H1 P1 k F1 S1 R1 => ⟨k, rfl, Res.ret F1 S1 (show Res X.K cl rB W σ0 σ ρ H P (ok k ρ1) Q from R1) rfl⟩) R

/-! ### and, or, not, if -/
def opK (k : Bool) : PySem.BoolOp := if k then .And else .Or
theorem c_boo1 {k : Bool} {c : C} {e : Expr} {pos : Pos} (h : PE X e (CA cl call X W σ0 c)) : PE X (.BoolOp (opK k) [e] pos) (Can X.K cl (rA X.K cl) W σ0 (evB call k (.cons c .nil))) :=
  pe_imp (pe_one h) fun σ H Q h => by
    obtain ⟨ρ, P, F, R⟩ := h
    refine ⟨ρ, P, F, ?_⟩
    simp only [evB] at R
    rw [bnd_ok_r] at R
    exact R
theorem c_boo2 {k : Bool} {c c2 : C} {cs : Cs} {e e2 : Expr} {es : List Expr} {pos : Pos} (h : PE X e (CA cl call X W σ0 c)) (h2 : PE X (.BoolOp (opK k) (e2 :: es) pos) (Can X.K cl (rA X.K cl) W σ0 (evB call k (.cons c2 cs)))) :
    PE X (.BoolOp (opK k) (e :: e2 :: es) pos) (Can X.K cl (rA X.K cl) W σ0 (evB call k (.cons c (.cons c2 cs)))) := by
  cases k with
  | true =>
    refine pe_imp (pe_andT h h2) fun σ H Q h => ?_
    obtain ⟨ρ, P, F, R⟩ := h
    rw [evB] at R
    refine (Res.bnd (R1 := rA X.K cl) F Step.refl R).mono fun v H1 ⟨a, ρ1, P1, F1, S1, _, ⟨r1, f1⟩, R1⟩ => ?_
    obtain ⟨d, k, e1, e2, R2⟩ := (res_tru R1)
    refine ⟨k, vw_tru F1.sub (r1.view F1 e1) e2, ?_⟩
    cases k with
    | true => exact ⟨ρ1, P1, F1, Res.later R2 S1⟩
    | false => exact Res.ret F1 S1 R2 ⟨r1, f1⟩
  | false =>
    refine pe_imp (pe_orT h h2) fun σ H Q h => ?_
    obtain ⟨ρ, P, F, R⟩ := h
    rw [evB] at R
    refine (Res.bnd (R1 := rA X.K cl) F Step.refl R).mono fun v H1 ⟨a, ρ1, P1, F1, S1, _, ⟨r1, f1⟩, R1⟩ => ?_
    obtain ⟨d, k, e1, e2, R2⟩ := (res_tru R1)
    refine ⟨k, vw_tru F1.sub (r1.view F1 e1) e2, ?_⟩
    cases k with
    | true => exact Res.ret F1 S1 R2 ⟨r1, f1⟩
    | false => exact ⟨ρ1, P1, F1, Res.later R2 S1⟩
theorem w_boo1 {k : Bool} {c : C} {e : Expr} {pos : Pos} (h : PT X e (CT cl call X W σ0 c)) : PW X (.BoolOp (opK k) [e] pos) (Can X.K cl rB W σ0 (fun ρ => bnd (evB call k (.cons c .nil) ρ) tru)) := by
  have go : ∀ σ H Q, Can X.K cl rB W σ0 (fun ρ => bnd (evB call k (.cons c .nil) ρ) tru) σ H Q → CT cl call X W σ0 c σ H Q := fun σ H Q h => by
    obtain ⟨ρ, P, F, R⟩ := h
    refine ⟨ρ, P, F, ?_⟩
    simp only [evB] at R
    rw [bnd_ok_r] at R
    exact R
  cases k with
  | true => exact pw_imp (pw_and1 h) go
  | false => exact pw_imp (pw_or1 h) go
/-- a test, then more -/
theorem tst_bnd {γ : Type} {c : C} {ρ : Env} (f : A → Env → Mr γ) (g : Bool → Env → Mr γ) (h : ∀ x ρ1 d k, view x ρ1 = some d → d.truth = some k → f x ρ1 = g k ρ1) :
    bnd (ev call c ρ) (fun x ρ => bnd (tru x ρ) fun _ ρ => f x ρ) = bnd (evT call c ρ) g := by
  unfold evT
  rw [bnd_assoc]
  congr 1
  funext x ρ1
  unfold tru
  cases e : view x ρ1 with
  | none => rfl
  | some d =>
    dsimp only
    cases e2 : d.truth with
    | none => rfl
    | some k => exact h x ρ1 d k e e2
theorem w_boo2 {k : Bool} {c c2 : C} {cs : Cs} {e e2 : Expr} {es : List Expr} {pos : Pos} (h : PT X e (CT cl call X W σ0 c)) (h2 : PW X (.BoolOp (opK k) (e2 :: es) pos) (Can X.K cl rB W σ0 (fun ρ => bnd (evB call k (.cons c2 cs) ρ) tru))) :
    PW X (.BoolOp (opK k) (e :: e2 :: es) pos) (Can X.K cl rB W σ0 (fun ρ => bnd (evB call k (.cons c (.cons c2 cs)) ρ) tru)) := by
  have eq : ∀ ρ, bnd (evB call k (.cons c (.cons c2 cs)) ρ) tru = bnd (evT call c ρ) fun t ρ => if t = k then bnd (evB call k (.cons c2 cs) ρ) tru else ok t ρ := fun ρ => by
    rw [evB, bnd_assoc]
    unfold evT
    rw [bnd_assoc]
    congr 1
    funext x ρ1
    dsimp only
    rw [bnd_assoc]
    unfold tru
    cases e : view x ρ1 with
    | none => rfl
    | some d =>
      dsimp only
      cases e2 : d.truth with
      | none => rfl
      | some t =>
        show bnd (if t = k then _ else ok x ρ1) _ = if t = k then _ else _
        split
        · rfl
        · show MP.tru x ρ1 = ok t ρ1
          unfold MP.tru
          rw [e]
          dsimp only
          rw [e2]
  cases k with
  | true =>
    refine pw_imp (pw_and h h2) fun σ H Q h => ?_
    obtain ⟨ρ, P, F, R⟩ := h
    dsimp only at R
    rw [eq] at R
    refine (Res.bnd (R1 := rB) F Step.refl R).mono fun b H1 ⟨t, ρ1, P1, F1, S1, _, r1, R1⟩ => ?_
    cases (show b = t from r1)
    cases b with
    | true => exact ⟨ρ1, P1, F1, Res.later R1 S1⟩
    | false => exact Res.ret F1 S1 R1 rfl
  | false =>
    refine pw_imp (pw_or h h2) fun σ H Q h => ?_
    obtain ⟨ρ, P, F, R⟩ := h
    dsimp only at R
    rw [eq] at R
    refine (Res.bnd (R1 := rB) F Step.refl R).mono fun b H1 ⟨t, ρ1, P1, F1, S1, _, r1, R1⟩ => ?_
    cases (show b = t from r1)
    cases b with
    | true => exact Res.ret F1 S1 R1 rfl
    | false => exact ⟨ρ1, P1, F1, Res.later R1 S1⟩
theorem c_not {c : C} {e : Expr} {pos : Pos} (h : PE X e (CA cl call X W σ0 c)) : PE X (.UnaryOp .Not e pos) (CA cl call X W σ0 (.not_ c)) := by
  refine pe_imp (pe_notT h) fun σ H Q h => ?_
  obtain ⟨ρ, P, F, R⟩ := h
  refine (Res.bnd (R1 := rA X.K cl) F Step.refl R).mono fun v H1 ⟨a, ρ1, P1, F1, S1, _, ⟨r1, f1⟩, R1⟩ => ?_
  obtain ⟨d, k, e1, e2, R2⟩ := (res_tru R1)
  exact ⟨k, vw_tru F1.sub (r1.view F1 e1) e2, Res.datum F1 S1 R2 (.bl _)⟩
theorem t_not {c : C} {e : Expr} {pos : Pos} (h : PT X e (CT cl call X W σ0 c)) : PT X (.UnaryOp .Not e pos) (CT cl call X W σ0 (.not_ c)) := by
  refine pt_imp (pt_not h) fun σ H Q h => ?_
  obtain ⟨ρ, P, F, R⟩ := h
  have eq : evT call (.not_ c) ρ = bnd (evT call c ρ) fun k ρ => ok (!k) ρ := by
    unfold evT
    rw [ev, bnd_assoc, bnd_assoc]
    congr 1
    funext x ρ1
    rw [bnd_assoc]
    rfl
  rw [eq] at R
  refine (Res.bnd (R1 := rB) F Step.refl R).mono fun b H1 ⟨t, ρ1, P1, F1, S1, _, r1, R1⟩ => ?_
  cases (show b = t from r1)
  exact Res.ret F1 S1 R1 rfl
theorem c_ite {c a b : C} {e1 e2 e3 : Expr} {pos : Pos} (h1 : PT X e1 (CT cl call X W σ0 c)) (h2 : PE X e2 (CA cl call X W σ0 a)) (h3 : PE X e3 (CA cl call X W σ0 b)) : PE X (.IfExp e1 e2 e3 pos) (CA cl call X W σ0 (.ite c a b)) := by
  refine pe_imp (pe_ifExp h1 h2 h3) fun σ H Q h => ?_
  obtain ⟨ρ, P, F, R⟩ := h
  have eq : ev call (.ite c a b) ρ = bnd (evT call c ρ) fun k ρ => if k = true then ev call a ρ else ev call b ρ := by
    unfold evT
    rw [ev, bnd_assoc]
  rw [eq] at R
  refine (Res.bnd (R1 := rB) F Step.refl R).mono fun k H1 ⟨t, ρ1, P1, F1, S1, _, r1, R1⟩ => ?_
  cases (show k = t from r1)
  cases k with
  | true => exact ⟨ρ1, P1, F1, Res.later R1 S1⟩
  | false => exact ⟨ρ1, P1, F1, Res.later R1 S1⟩

/-! ### displays, subscripts -/
theorem thousand {n : Nat} (h : n ≤ 1000) : n ≤ sizeLine := Nat.le_trans h (by decide)
def csLen : Cs → Nat
  | .nil => 0
  | .cons _ cs => csLen cs + 1
theorem ds_len : ∀ {cs : Cs} {ρ ρ' : Env} {ds : List D}, evDs call cs ρ = some (.ok ds, ρ') → ds.length = csLen cs
  | .nil, _, _, _, h => by simp only [evDs] at h; cases h; rfl
  | .cons c cs, ρ, ρ', ds, h => by
    rw [evDs] at h
    obtain ⟨x, ρ1, _, h⟩ := bnd_some h
    obtain ⟨xs, ρ2, e, h⟩ := bnd_some h
    cases h
    rw [List.length_cons, ds_len e]
    rfl
theorem c_tup {cs : Cs} {es : List Expr} {k : Nat} {pos : Pos} (h : PA X es (Can X.K cl (rDs X.K cl) W σ0 (evDs call cs))) (hl : csLen cs ≤ 1000) : PE X (.Tuple es k pos) (CA cl call X W σ0 (.tup cs)) := by
  refine pe_imp (pe_tup h) fun σ H Q h => ?_
  obtain ⟨ρ, P, F, R⟩ := h
  have key : evDs call cs ρ = evDs call cs ρ := rfl
  refine ⟨ρ, P, F, ?_⟩
  rw [ev] at R
  unfold Res bnd at *
  cases e : evDs call cs ρ with
  | none => rw [e] at R; exact R
  | some q =>
    obtain ⟨x, ρ'⟩ := q
    rw [e] at R
    cases x with
    | error x => exact R
    | ok ds =>
      intro vs H1 P1 F1 S1 r1
      have r1 : Rps X.K cl P1 vs ds := r1
      have R' : Res X.K cl (rA X.K cl) W σ0 σ ρ H P (ok (.dat (.tup ds)) ρ') Q := R
      exact ⟨by rw [r1.length, ds_len e]; exact thousand hl, fun p hp => Res.newTup F1 S1 R' r1 hp⟩
theorem c_lst {cs : Cs} {es : List Expr} {pos : Pos} (h : PA X es (Can X.K cl (rDs X.K cl) W σ0 (evDs call cs))) (hl : csLen cs ≤ 1000) : PE X (.List es pos) (CA cl call X W σ0 (.lst cs)) := by
  refine pe_imp (pe_lst h) fun σ H Q h => ?_
  obtain ⟨ρ, P, F, R⟩ := h
  refine ⟨ρ, P, F, ?_⟩
  rw [ev] at R
  unfold Res bnd at *
  cases e : evDs call cs ρ with
  | none => rw [e] at R; exact R
  | some q =>
    obtain ⟨x, ρ'⟩ := q
    rw [e] at R
    cases x with
    | error x => exact R
    | ok ds =>
      intro vs H1 P1 F1 S1 r1
      have r1 : Rps X.K cl P1 vs ds := r1
      have R' : Res X.K cl (rA X.K cl) W σ0 σ ρ H P (ok (.frs (.lst ds)) ρ') Q := R
      exact ⟨by rw [r1.length, ds_len e]; exact thousand hl, fun p hp => Res.newLst F1 S1 R' r1 hp⟩
theorem ix_eq (n : Nat) (i : Int) : ixD n i = ixN n i := rfl
theorem at_res {K : PySem.W.Frag} {P : Hp} {vs : List V} {ds : List D} {i : Int} {d : D} (q : Rps K cl P vs ds) (h : ((ixD ds.length i).bind fun j => ds[j]?) = some d) : ∃ v, atI vs i = some v ∧ Rp K cl P v d := by
  cases e : ixD ds.length i with
  | none => rw [e] at h; cases h
  | some j =>
    rw [e] at h
    obtain ⟨v, h1, h2⟩ := q.get (show ds[j]? = some d from h)
    refine ⟨v, ?_, h2⟩
    unfold atI
    rw [q.length, ← ix_eq, e]
    exact h1
theorem c_idx {a i : C} {e1 e2 : Expr} {pos : Pos} (h1 : PE X e1 (CA cl call X W σ0 a)) (h2 : PE X e2 (CA cl call X W σ0 i)) (hs : isSlice e2 = false) : PE X (.Subscript e1 e2 pos) (CA cl call X W σ0 (.idx a i)) := by
  refine pe_imp (pe_ix (IxR.or ix_list ix_tup) h1 h2 (plain_of hs)) fun σ H Q h => two (r := fun x y H Q => rIxL X.K x y H Q ∨ rIxT X.K x y H Q) (fun ρ ρ1 H P H1 P1 dx dy z x y F S hx hy e R => ?_) h
  unfold idxD at e
  split at e
  · rename_i k
    have hy := hy.int
    subst hy
    unfold getD at e
    split at e
    · rename_i ds
      cases e2 : ((ixD ds.length k).bind fun j => ds[j]?) with
      | none => rw [e2] at e; cases e
      | some d =>
        rw [e2] at e
        cases e
        obtain ⟨p, vs, rfl, s, _, q⟩ := hx.tup F.sub
        obtain ⟨v, g1, g2⟩ := at_res q e2
        exact .inr ⟨p, vs, k, v, rfl, rfl, s, g1, Res.datum F S R g2⟩
    · rename_i ds
      cases e2 : ((ixD ds.length k).bind fun j => ds[j]?) with
      | none => rw [e2] at e; cases e
      | some d =>
        rw [e2] at e
        cases e
        obtain ⟨p, vs, rfl, s, q⟩ := hx.lst F.sub
        obtain ⟨v, g1, g2⟩ := at_res q e2
        exact .inl ⟨p, vs, k, v, rfl, rfl, s.sq, g1, Res.datum F S R g2⟩
    · cases e
  · cases e
theorem o_none : PO X none (Can X.K cl rO W σ0 (evO call .none)) := po_imp po_none fun σ H Q h => by
  obtain ⟨ρ, P, F, R⟩ := h
  exact Res.ret F Step.refl R rfl
theorem o_some {c : C} {e : Expr} (h : PE X e (CA cl call X W σ0 c)) : PO X (some e) (Can X.K cl rO W σ0 (evO call (.some c))) := po_imp (po_some h) fun σ H Q h => by
  obtain ⟨ρ, P, F, R⟩ := h
  refine (Res.bnd (R1 := rA X.K cl) F Step.refl R).mono fun v H1 ⟨a, ρ1, P1, F1, S1, _, ⟨r1, f1⟩, R1⟩ => ?_
  unfold intO at R1
  cases e1 : view a ρ1 with
  | none => rw [e1] at R1; exact R1.elim
  | some d =>
    rw [e1] at R1
    have r2 := r1.view F1 e1
    cases d with
    | int i => exact ⟨i, r2.int, Res.ret F1 S1 R1 rfl⟩
    | _ => exact (R1 : False).elim
theorem rps_cut {K : PySem.W.Frag} {P : Hp} {vs : List V} {ds : List D} (q : Rps K cl P vs ds) (lo hi : Option Int) : Rps K cl P (cutV vs lo hi) (cutD ds lo hi) := by
  unfold cutV cutD
  rw [q.length]
  exact (q.drop _).take _
theorem c_slc {a : C} {lo hi : CO} {e1 : Expr} {l h : Option Expr} {pos p2 : Pos} (h1 : PE X e1 (CA cl call X W σ0 a)) (h2 : PO X l (Can X.K cl rO W σ0 (evO call lo))) (h3 : PO X h (Can X.K cl rO W σ0 (evO call hi))) :
    PE X (.Subscript e1 (.Slice l h none p2) pos) (CA cl call X W σ0 (.slc a lo hi)) := by
  refine pe_imp (pe_slice (SlR.or sl_list sl_tupA) h1 h2 h3) fun σ H Q h => ?_
  obtain ⟨ρ, P, F, R⟩ := h
  rw [ev] at R
  refine (Res.bnd (R1 := rA X.K cl) F Step.refl R).mono fun v H1 ⟨x, ρ1, P1, F1, S1, _, ⟨r1, f1⟩, R1⟩ => ?_
  refine (Res.bnd (R1 := rO) F1 S1 R1).mono fun l H2 ⟨l', ρ2, P2, F2, S2, S2', r2, R2⟩ => ?_
  refine (Res.bnd (R1 := rO) F2 S2' R2).mono fun h H3 ⟨h', ρ3, P3, F3, S3, S3', r3, R3⟩ => ?_
  cases (show l = l' from r2)
  cases (show h = h' from r3)
  obtain ⟨d, z, e1, e2, R4⟩ := R3.op1
  have vw := ((r1.step S2).step S3).view F3 e1
  unfold slcD at e2
  split at e2
  · cases e2
    obtain ⟨p, vs, rfl, s, s', q⟩ := vw.tup F3.sub
    refine .inr ⟨p, vs, rfl, s, fun w => ?_, fun _ p hp => Res.newTup F3 S3' R4 (rps_cut q l h) hp⟩
    have q2 := rps_cut q l h
    have e : cutV vs l h = vs := by
      unfold cutV
      rw [w.1, w.2]
      simp
    rw [e] at q2
    exact Res.datum F3 S3' R4 (.tup s' q2)
  · cases e2
    obtain ⟨p, vs, rfl, s, q⟩ := vw.lst F3.sub
    exact .inl ⟨p, vs, rfl, s.sq, fun p hp => Res.newLst F3 S3' R4 (rps_cut q l h) hp⟩
  · cases e2
end
end MP
set_option Elab.async false
set_option linter.all false
set_option maxRecDepth 100000
set_option maxHeartbeats 2000000
/-! MP: calls -/
namespace MP
open PySem PySem.Spec PyProof.Rows L2

/-! ### what is lent -/
theorem lent_mem {ρ : Env} {k : Nat} {t : Bool} {d : D} (ho : ρ[k]? = some (.own t d)) : ∀ {as : List A} {j : Nat}, as[j]? = some (.slot k) → k ∈ lentIx ρ as
  | [], _, h => by simp at h
  | a :: as, 0, h => by
    simp only [List.getElem?_cons_zero, Option.some.injEq] at h
    subst h
    simp only [lentIx, ho, List.mem_cons, true_or]
  | a :: as, j + 1, h => by
    have ih := lent_mem ho (as := as) (j := j) (by simpa using h)
    cases a with
    | dat e => exact ih
    | frs e => exact ih
    | slot i =>
      simp only [lentIx]
      split
      · exact List.mem_cons_of_mem _ ih
      · exact ih
theorem lent_tail {ρ : Env} {a : A} {as : List A} (h : (lentIx ρ (a :: as)).Nodup) : (lentIx ρ as).Nodup := by
  cases a with
  | dat e => exact h
  | frs e => exact h
  | slot i =>
    simp only [lentIx] at h
    split at h
    · exact (List.nodup_cons.mp h).2
    · exact h
theorem lent_inj {ρ : Env} {k : Nat} {t : Bool} {d : D} (ho : ρ[k]? = some (.own t d)) : ∀ {as : List A} {i j : Nat}, (lentIx ρ as).Nodup → as[i]? = some (.slot k) → as[j]? = some (.slot k) → i = j
  | [], _, _, _, h, _ => by simp at h
  | a :: as, 0, 0, _, _, _ => rfl
  | a :: as, 0, j + 1, n, h1, h2 => by
    simp only [List.getElem?_cons_zero, Option.some.injEq] at h1
    subst h1
    simp only [lentIx, ho] at n
    exact absurd (lent_mem ho (as := as) (j := j) (by simpa using h2)) (List.nodup_cons.mp n).1
  | a :: as, i + 1, 0, n, h1, h2 => by
    simp only [List.getElem?_cons_zero, Option.some.injEq] at h2
    subst h2
    simp only [lentIx, ho] at n
    exact absurd (lent_mem ho (as := as) (j := i) (by simpa using h1)) (List.nodup_cons.mp n).1
  | a :: as, i + 1, j + 1, n, h1, h2 => by
    have := lent_inj ho (as := as) (i := i) (j := j) (lent_tail n) (by simpa using h1) (by simpa using h2)
    omega
theorem lent_set {ρ : Env} {i : Nat} {s : Slot} : ∀ {as : List A}, (∀ (j : Nat), as[j]? ≠ some (A.slot i)) → lentIx (ρ.set i s) as = lentIx ρ as
  | [], _ => rfl
  | a :: as, h => by
    have ih := lent_set (ρ := ρ) (i := i) (s := s) (as := as) fun j => by simpa using h (j + 1)
    cases a with
    | dat e => exact ih
    | frs e => exact ih
    | slot m =>
      have hm : i ≠ m := fun e => by subst e; exact h 0 rfl
      simp only [lentIx, List.getElem?_set_ne hm, ih]
theorem backs_len : ∀ (as : List A) (bs : List Slot) (ρ : Env), (backs as bs ρ).length = ρ.length
  | [], bs, ρ => by cases bs <;> rfl
  | a :: as, [], ρ => by cases a <;> rfl
  | .dat e :: as, b :: bs, ρ => backs_len as bs ρ
  | .frs e :: as, b :: bs, ρ => backs_len as bs ρ
  | .slot i :: as, b :: bs, ρ => by
    simp only [backs]
    split
    · rw [backs_len as bs, List.length_set]
    · exact backs_len as bs ρ
theorem backs_get : ∀ (as : List A) (bs : List Slot) (ρ : Env), (lentIx ρ as).Nodup → as.length = bs.length → ∀ (k : Nat) (s' : Slot), (backs as bs ρ)[k]? = some s' →
    (ρ[k]? = some s' ∧ ∀ (j : Nat) t d, as[j]? = some (.slot k) → ρ[k]? ≠ some (.own t d)) ∨ ∃ (j : Nat) (t : Bool) (d : D) (b : Slot), as[j]? = some (.slot k) ∧ ρ[k]? = some (.own t d) ∧ bs[j]? = some b ∧ s' = backS t b
  | [], bs, ρ, _, _, k, s', h => by
    have h : ρ[k]? = some s' := by cases bs <;> exact h
    exact .inl ⟨h, fun j _ _ e => by simp at e⟩
  | a :: as, [], ρ, _, hl, _, _, _ => by simp at hl
  | .dat e :: as, b :: bs, ρ, n, hl, k, s', h => by
    rcases backs_get as bs ρ n (by simpa using hl) k s' h with ⟨h1, h2⟩ | ⟨j, t, d, b', h1, h2, h3, h4⟩
    · refine .inl ⟨h1, fun j t d ej => ?_⟩
      cases j with
      | zero => simp at ej
      | succ j => exact h2 j t d (by simpa using ej)
    · exact .inr ⟨j + 1, t, d, b', by simpa using h1, h2, by simpa using h3, h4⟩
  | .frs e :: as, b :: bs, ρ, n, hl, k, s', h => by
    rcases backs_get as bs ρ n (by simpa using hl) k s' h with ⟨h1, h2⟩ | ⟨j, t, d, b', h1, h2, h3, h4⟩
    · refine .inl ⟨h1, fun j t d ej => ?_⟩
      cases j with
      | zero => simp at ej
      | succ j => exact h2 j t d (by simpa using ej)
    · exact .inr ⟨j + 1, t, d, b', by simpa using h1, h2, by simpa using h3, h4⟩
  | .slot i :: as, b :: bs, ρ, n, hl, k, s', h => by
    by_cases ho : ∃ t d, ρ[i]? = some (.own t d)
    · obtain ⟨t, d, ho⟩ := ho
      simp only [backs, ho] at h
      have no : ∀ (j : Nat), as[j]? ≠ some (A.slot i) := fun j ej => by
        have := lent_inj ho n (i := 0) (j := j + 1) rfl (by simpa using ej)
        omega
      have hi : i < ρ.length := (List.getElem?_eq_some_iff.mp ho).1
      rcases backs_get as bs (ρ.set i (backS t b)) (by rw [lent_set no]; exact lent_tail n) (by simpa using hl) k s' h with ⟨h1, h2⟩ | ⟨j, t', d', b', h1, h2, h3, h4⟩
      · by_cases e : i = k
        · subst e
          rw [List.getElem?_set_self hi] at h1
          cases h1
          exact .inr ⟨0, t, d, b, rfl, ho, rfl, rfl⟩
        · rw [List.getElem?_set_ne e] at h1
          refine .inl ⟨h1, fun j t' d' ej => ?_⟩
          cases j with
          | zero => simp only [List.getElem?_cons_zero, Option.some.injEq, A.slot.injEq] at ej; exact absurd ej e
          | succ j =>
            have := h2 j t' d' (by simpa using ej)
            rw [List.getElem?_set_ne e] at this
            exact this
      · have e : i ≠ k := fun e => by subst e; exact no j h1
        rw [List.getElem?_set_ne e] at h2
        exact .inr ⟨j + 1, t', d', b', by simpa using h1, h2, by simpa using h3, h4⟩
    · have h' : (backs as bs ρ)[k]? = some s' := by
        simp only [backs] at h
        split at h
        · rename_i z; exact absurd ⟨_, _, z⟩ ho
        · exact h
      rcases backs_get as bs ρ (lent_tail n) (by simpa using hl) k s' h' with ⟨h1, h2⟩ | ⟨j, t, d, b', h1, h2, h3, h4⟩
      · refine .inl ⟨h1, fun j t d ej => ?_⟩
        cases j with
        | zero =>
          simp only [List.getElem?_cons_zero, Option.some.injEq, A.slot.injEq] at ej
          subst ej
          exact fun z => ho ⟨t, d, z⟩
        | succ j => exact h2 j t d (by simpa using ej)
      · exact .inr ⟨j + 1, t, d, b', by simpa using h1, h2, by simpa using h3, h4⟩

section
variable {K : PySem.W.Frag} {cl : Wd} {W : WX} {σ0 σ : L2.St} {ρ ρ1 : Env} {H P H1 P1 : Hp} {vs : List V} {as : List A}
theorem lends_get {i : Nat} {s : Slot} (h : (lends ρ1 as)[i]? = some s) : ∃ a, as[i]? = some a ∧ lendA ρ1 a = s := by
  unfold lends at h
  rw [List.getElem?_map] at h
  cases e : as[i]? with
  | none => rw [e] at h; cases h
  | some a => rw [e] at h; cases h; exact ⟨a, rfl, rfl⟩
theorem ARs.val_at (A : ARs K cl σ H P ρ vs as) {i : Nat} {a : MP.A} (h : as[i]? = some a) : ∃ v, vs[i]? = some v ∧ (vs.map some)[i]? = some (some v) ∧ AR K cl σ H P ρ v a := by
  have hi : i < vs.length := by rw [A.length]; exact (List.getElem?_eq_some_iff.mp h).1
  refine ⟨vs[i], List.getElem?_eq_getElem hi, by rw [List.getElem?_map, List.getElem?_eq_getElem hi]; rfl, A.get i _ _ (List.getElem?_eq_getElem hi) h⟩
theorem ARs.apart : ∀ {vs : List V} {as : List MP.A}, ARs K cl σ H P ρ vs as → ∀ (i j : Nat) d d' v, i < j → as[i]? = some (.frs d) → as[j]? = some (.frs d') → vs[i]? = some v → vs[j]? ≠ some v
  | _, _, .nil, _, _, _, _, _, _, h, _, _ => by simp at h
  | _, _, .cons r t n, 0, j + 1, d, d', v, _, h1, h2, h3 => by
    simp only [List.getElem?_cons_zero, Option.some.injEq] at h1 h3
    subst h1 h3
    simpa using n d rfl j d' (by simpa using h2)
  | _, _, .cons r t n, i + 1, j + 1, d, d', v, hl, h1, h2, h3 => by
    simpa using t.apart i j d d' v (by omega) (by simpa using h1) (by simpa using h2) (by simpa using h3)
/-- whose an address is that is handed on as own: a new list, or one that is lent -/
theorem own_lends (F1 : FR K cl σ0 σ H1 P1 ρ1) (A : ARs K cl σ H1 P1 ρ1 vs as) {a : Addr} (o : Own (vs.map some) (lends ρ1 as) a) :
    (∃ (i : Nat) (d : D), as[i]? = some (.frs d) ∧ vs[i]? = some (.ref a)) ∨ ∃ (i k : Nat) (t : Bool) (d : D), as[i]? = some (.slot k) ∧ vs[i]? = some (.ref a) ∧ ρ1[k]? = some (.own t d) ∧ σ[k]? = some (some (.ref a)) := by
  obtain ⟨i, t, d, h1, h2⟩ := o
  obtain ⟨x, h3, h4⟩ := lends_get h1
  obtain ⟨v, h5, h6, h7⟩ := A.val_at h3
  rw [h6] at h2
  cases h2
  cases x with
  | dat e => cases h4
  | frs e => cases h4; exact .inl ⟨i, d, h3, h5⟩
  | slot k =>
    refine .inr ⟨i, k, ?_⟩
    simp only [lendA] at h4
    split at h4
    · cases h4
    · rename_i t' d' e
      cases h4
      exact ⟨t', d, h3, h5, e, h7⟩
    · cases h4
theorem FR.lend (F1 : FR K cl σ0 σ H1 P1 ρ1) (A : ARs K cl σ H1 P1 ρ1 vs as) (n : (lentIx ρ1 as).Nodup) : FR K cl (vs.map some) (vs.map some) H1 P1 (lends ρ1 as) where
  sub := F1.sub
  len := by unfold lends; rw [List.length_map, List.length_map, A.length]
  val := fun i t d h => by
    obtain ⟨x, h3, h4⟩ := lends_get h
    obtain ⟨v, h5, h6, h7⟩ := A.val_at h3
    refine ⟨v, h6, ?_⟩
    cases x with
    | dat e => cases h4; exact h7
    | frs e => cases h4
    | slot k =>
      simp only [lendA] at h4
      split at h4
      · rename_i t' d' e
        cases h4
        obtain ⟨w, h8, h9⟩ := F1.val k _ _ e
        rw [show σ[k]? = some (some v) from h7] at h8
        cases h8
        exact h9
      · cases h4
      · cases h4
  own := fun i t d h => by
    obtain ⟨x, h3, h4⟩ := lends_get h
    obtain ⟨v, h5, h6, h7⟩ := A.val_at h3
    refine ⟨v, h6, ?_⟩
    cases x with
    | dat e => cases h4
    | frs e => cases h4; exact h7.1
    | slot k =>
      simp only [lendA] at h4
      split at h4
      · cases h4
      · rename_i t' d' e
        cases h4
        obtain ⟨w, h8, h9⟩ := F1.own k _ _ e
        rw [show σ[k]? = some (some v) from h7] at h8
        cases h8
        exact h9
      · cases h4
  inj := fun i j t t' d d' a h1 h2 h3 h4 => by
    obtain ⟨x, x3, x4⟩ := lends_get h1
    obtain ⟨v, x5, x6, x7⟩ := A.val_at x3
    obtain ⟨y, y3, y4⟩ := lends_get h2
    obtain ⟨u, y5, y6, y7⟩ := A.val_at y3
    rw [x6] at h3; cases h3
    rw [y6] at h4; cases h4
    cases x with
    | dat e => cases x4
    | frs e =>
      cases y with
      | dat e => cases y4
      | frs e' =>
        rcases Nat.lt_trichotomy i j with z | z | z
        · exact absurd y5 (A.apart i j e e' _ z x3 y3 x5)
        · exact z
        · exact absurd x5 (A.apart j i e' e _ z y3 x3 y5)
      | slot k =>
        simp only [lendA] at y4
        split at y4
        · cases y4
        · rename_i e2
          exact absurd ⟨k, _, _, e2, y7⟩ (x7.2 a rfl)
        · cases y4
    | slot m =>
      simp only [lendA] at x4
      split at x4
      · cases x4
      · rename_i e1
        cases y with
        | dat e => cases y4
        | frs e' => exact absurd ⟨m, _, _, e1, x7⟩ (y7.2 a rfl)
        | slot k =>
          simp only [lendA] at y4
          split at y4
          · cases y4
          · rename_i e2
            have := F1.inj m k _ _ _ _ a e1 e2 x7 y7
            subst this
            exact lent_inj e1 n x3 y3
          · cases y4
      · cases x4
  tag := fun _ _ _ => rfl
  tb := F1.tb
/-- behind the call -/
theorem call_back {bs : List Slot} {H2 P2 : Hp} (F1 : FR K cl σ0 σ H1 P1 ρ1) (S1 : Step σ ρ H P σ ρ1 H1 P1) (A : ARs K cl σ H1 P1 ρ1 vs as) (B : AFs σ ρ H vs as) (n : (lentIx ρ1 as).Nodup)
    (F2 : FR K cl (vs.map some) (vs.map some) H2 P2 bs) (S2 : Step (vs.map some) (lends ρ1 as) H1 P1 (vs.map some) bs H2 P2) :
    FR K cl σ0 σ H2 P2 (backs as bs ρ1) ∧ Step σ ρ H P σ (backs as bs ρ1) H2 P2 ∧ (∀ a, Own (vs.map some) (lends ρ1 as) a → Nw H a ∨ Own σ ρ a) ∧
      ∀ a, Own σ (backs as bs ρ1) a → ¬ Own (vs.map some) bs a → ¬ Nw H1 a ∧ ¬ Own (vs.map some) (lends ρ1 as) a := by
  have hl : as.length = bs.length := by
    have := F2.len
    rw [List.length_map, A.length] at this
    exact this.symm
  have cases_ := backs_get as bs ρ1 n hl
  have ol : ∀ a, Own (vs.map some) (lends ρ1 as) a → Nw H a ∨ Own σ ρ a := fun a o => by
    rcases own_lends F1 A o with ⟨i, d, h1, h2⟩ | ⟨i, k, t, d, h1, h2, h3, h4⟩
    · exact B.get i _ _ h2 h1 d rfl a rfl
    · exact S1.newO a ⟨k, t, d, h3, h4⟩
  have ob : ∀ a, Own σ (backs as bs ρ1) a → Own σ ρ1 a := fun a ⟨k, t, d, h1, h2⟩ => by
    rcases cases_ k _ h1 with ⟨h3, _⟩ | ⟨j, t', d', b, h3, h4, h5, h6⟩
    · exact ⟨k, t, d, h3, h2⟩
    · exact ⟨k, t', d', h4, h2⟩
  have nl : ∀ k t d a, ρ1[k]? = some (.own t d) → σ[k]? = some (some (V.ref a)) → (∀ (j : Nat) t d, as[j]? = some (.slot k) → ρ1[k]? ≠ some (.own t d)) → ¬ Own (vs.map some) (lends ρ1 as) a := fun k t d a h1 h2 h3 o => by
    rcases own_lends F1 A o with ⟨i, d', g1, g2⟩ | ⟨i, m, t', d', g1, g2, g3, g4⟩
    · exact (A.get i _ _ g2 g1).2 a rfl ⟨k, t, d, h1, h2⟩
    · have := F1.inj k m _ _ _ _ a h1 g3 h2 g4
      subst this
      exact h3 i t d g1 h1
  refine ⟨⟨F2.sub, (backs_len _ _ _).trans F1.len, fun k t d h => ?_, fun k t d h => ?_, fun i j t t' d d' a h1 h2 h3 h4 => ?_, fun k d h => ?_, F2.tb⟩, ⟨fun a o h nt no => ?_, S1.mono.trans S2.mono, fun a h1 h2 => ?_, fun a o => S1.newO a (ob a o)⟩, ol, fun a o no => ?_⟩
  · rcases cases_ k _ h with ⟨h3, _⟩ | ⟨j, t', d', b, h3, h4, h5, h6⟩
    · obtain ⟨v, g1, g2⟩ := F1.val k t d h3
      exact ⟨v, g1, g2.mono S2.mono⟩
    · cases b with
      | non => cases h6
      | val t2 d2 =>
        cases t2 with
        | false => cases h6
        | true =>
          cases h6
          obtain ⟨v, g1, g2⟩ := F2.val j true d h5
          obtain ⟨w, g3, g4, g5⟩ := A.val_at h3
          rw [g4] at g1; cases g1
          exact ⟨_, g5, g2⟩
      | own t2 d2 => cases t2 <;> cases h6
  · rcases cases_ k _ h with ⟨h3, h3'⟩ | ⟨j, t', d', b, h3, h4, h5, h6⟩
    · obtain ⟨v, g1, g2⟩ := F1.own k t d h3
      refine ⟨v, g1, ?_⟩
      exact (g2.step (fun a e => by subst e; exact nl k t d a h3 g1 h3') S2).1
    · cases b with
      | non => cases h6
      | val t2 d2 => cases t2 <;> cases h6
      | own t2 d2 =>
        cases t2 with
        | false => cases h6
        | true =>
          cases h6
          obtain ⟨v, g1, g2⟩ := F2.own j true d h5
          obtain ⟨w, g3, g4, g5⟩ := A.val_at h3
          rw [g4] at g1; cases g1
          exact ⟨_, g5, g2⟩
  · have e1 : ∃ t d, ρ1[i]? = some (.own t d) := by
      rcases cases_ i _ h1 with ⟨h3, _⟩ | ⟨j, t', d', b, h3, h4, h5, h6⟩
      · exact ⟨_, _, h3⟩
      · exact ⟨_, _, h4⟩
    have e2 : ∃ t d, ρ1[j]? = some (.own t d) := by
      rcases cases_ j _ h2 with ⟨h3, _⟩ | ⟨j, t', d', b, h3, h4, h5, h6⟩
      · exact ⟨_, _, h3⟩
      · exact ⟨_, _, h4⟩
    obtain ⟨_, _, e1⟩ := e1
    obtain ⟨_, _, e2⟩ := e2
    exact F1.inj i j _ _ _ _ a e1 e2 h3 h4
  · rcases h with h | h
    · rcases cases_ k _ h with ⟨h3, _⟩ | ⟨j, t', d', b, h3, h4, h5, h6⟩
      · exact F1.tag k d (.inl h3)
      · cases t' with
        | true => exact F1.tag k d' (.inr h4)
        | false => cases b with
          | non => cases h6
          | val t2 d2 => cases t2 <;> cases h6
          | own t2 d2 => cases t2 <;> cases h6
    · rcases cases_ k _ h with ⟨h3, _⟩ | ⟨j, t', d', b, h3, h4, h5, h6⟩
      · exact F1.tag k d (.inr h3)
      · cases t' with
        | true => exact F1.tag k d' (.inr h4)
        | false => cases b with
          | non => cases h6
          | val t2 d2 => cases t2 <;> cases h6
          | own t2 d2 => cases t2 <;> cases h6
  · refine S2.keep a o (S1.keep a o h nt no) nt fun z => ?_
    rcases ol a z with y | y
    · obtain ⟨ps, y⟩ := y o h
      exact nt ps y
    · exact no y
  · cases e : P1 a with
    | some u => exact S1.newP a h1 (by rw [e]; exact fun z => nomatch z)
    | none =>
      rcases S2.newP a e h2 with z | z
      · exact S1.none z
      · exact ol a z
  · obtain ⟨k, t, d, h1, h2⟩ := o
    rcases cases_ k _ h1 with ⟨h3, h3'⟩ | ⟨j, t', d', b, h3, h4, h5, h6⟩
    · obtain ⟨v, g1, a', us, rfl, g2, _, g4⟩ := F1.own k t d h3
      rw [h2] at g1; cases g1
      exact ⟨fun z => z.noO g2 g4.nt, nl k t _ _ h3 h2 h3'⟩
    · obtain ⟨w, g3, g4, g5⟩ := A.val_at h3
      rw [show σ[k]? = some (some w) from g5] at h2
      cases h2
      cases b with
      | non => cases h6
      | val t2 d2 => cases t2 <;> cases h6
      | own t2 d2 =>
        cases t2 with
        | false => cases h6
        | true => exact absurd ⟨j, true, d2, h5, g4⟩ no
end
section
variable {tb : Tb} {cl : Wd} {call : Nat → List Slot → Out} {X : Cx} {N : List Str} {sc : Scope} {fnB : Str → Bool} {W : WX} {σ0 : L2.St}
theorem call_res {f np : Nat} {σ : L2.St} {ρ ρ1 : Env} {H P H1 P1 : Hp} {vs : List V} {as : List A} {Q : VK} (hn : vs.length = np) (F1 : FR X.K cl σ0 σ H1 P1 ρ1) (S1 : Step σ ρ H P σ ρ1 H1 P1) (A : ARs X.K cl σ H1 P1 ρ1 vs as) (B : AFs σ ρ H vs as)
    (R : Res X.K cl (rA X.K cl) W σ0 σ ρ H P (doCall call f as ρ1) Q) : spOf X.K cl np (call f) vs H1 Q (WE W σ) := by
  unfold doCall at R
  split at R
  · rename_i n
    refine ⟨hn, lends ρ1 as, P1, F1.lend A n, ?_⟩
    cases e : call f (lends ρ1 as) with
    | none => rw [e] at R; exact R.elim
    | some q =>
      obtain ⟨x, bs⟩ := q
      rw [e] at R
      cases x with
      | error x =>
        intro c d H2 P2 F2 S2 r2
        obtain ⟨G1, G2, _, _⟩ := call_back F1 S1 A B n F2 S2
        exact R c d H2 P2 G1 G2 r2
      | ok r =>
        cases r with
        | slot i => exact (R : False).elim
        | dat d =>
          intro v H2 P2 F2 S2 r2
          obtain ⟨G1, G2, _, _⟩ := call_back F1 S1 A B n F2 S2
          exact R v H2 P2 G1 G2 ⟨r2.1, fun _ z => nomatch z⟩
        | frs d =>
          intro v H2 P2 F2 S2 r2
          obtain ⟨G1, G2, G3, G4⟩ := call_back F1 S1 A B n F2 S2
          obtain ⟨⟨r3, r4⟩, r5⟩ := r2
          refine R v H2 P2 G1 G2 ⟨⟨r3, fun b e o => ?_⟩, fun d' e b eb => ?_⟩
          · obtain ⟨z1, z2⟩ := G4 b o (r4 b e)
            rcases r5 d rfl b e with z | z
            · exact z1 z
            · exact z2 z
          · rcases r5 d rfl b eb with z | z
            · exact S1.none z
            · exact G3 b z
  · exact (R : False).elim
end
end MP
set_option Elab.async false
set_option linter.all false
set_option maxRecDepth 100000
set_option maxHeartbeats 2000000
/-! MP: calls of defs and of built-ins -/
namespace MP
open PySem PySem.Spec PyProof.Rows L2
/-! ### sorted -/
theorem ins_perm (x : Int) : ∀ l : List Int, (insI x l).Perm (x :: l)
  | [] => .refl _
  | y :: ys => by
    rw [insI]
    split
    · exact .refl _
    · exact ((ins_perm x ys).cons y).trans (.swap x y ys)
theorem sort_perm : ∀ l : List Int, (sortI l).Perm l
  | [] => .refl _
  | x :: xs => (ins_perm x _).trans ((sort_perm xs).cons x)
theorem ins_sorted (x : Int) : ∀ l : List Int, l.Pairwise (· ≤ ·) → (insI x l).Pairwise (· ≤ ·)
  | [], _ => List.pairwise_singleton _ _
  | y :: ys, h => by
    rw [insI]
    split
    · rename_i hxy
      refine List.Pairwise.cons (fun z hz => ?_) h
      rcases List.mem_cons.mp hz with rfl | hz
      · exact hxy
      · exact Int.le_trans hxy (List.rel_of_pairwise_cons h hz)
    · rename_i hxy
      refine List.Pairwise.cons (fun z hz => ?_) (ins_sorted x ys (List.Pairwise.of_cons h))
      rcases List.mem_cons.mp ((ins_perm x ys).mem_iff.mp hz) with rfl | hz
      · omega
      · exact List.rel_of_pairwise_cons h hz
theorem sort_sorted : ∀ l : List Int, (sortI l).Pairwise (· ≤ ·)
  | [] => .nil
  | x :: xs => ins_sorted x _ (sort_sorted xs)
theorem sorted_one : ∀ {l m : List Int}, l.Perm m → l.Pairwise (· ≤ ·) → m.Pairwise (· ≤ ·) → l = m
  | [], m, p, _, _ => p.nil_eq
  | x :: l, [], p, _, _ => absurd p.length_eq (by simp)
  | x :: l, y :: m, p, h1, h2 => by
    have hx : x ∈ y :: m := p.mem_iff.mp (List.mem_cons_self ..)
    have hy : y ∈ x :: l := p.mem_iff.mpr (List.mem_cons_self ..)
    have e : x = y := by
      rcases List.mem_cons.mp hx with e | hx
      · exact e
      · rcases List.mem_cons.mp hy with e | hy
        · exact e.symm
        · exact Int.le_antisymm (List.rel_of_pairwise_cons h1 hy) (List.rel_of_pairwise_cons h2 hx)
    subst e
    rw [sorted_one p.cons_inv (List.Pairwise.of_cons h1) (List.Pairwise.of_cons h2)]
theorem sort_the {l m : List Int} (p : m.Perm l) (h : m.Pairwise (· ≤ ·)) : m = sortI l := sorted_one (p.trans (sort_perm l).symm) h (sort_sorted l)
theorem cr_min2T {X : Cx} (hcalm : X.calm = true) (hu : X.A.units + 65 < cLine) : CallR X (.builtin "min") (fun xs H Q => ∃ (a : Addr) (i j : Int), xs = [V.ref a] ∧ SqT X.K H a [.int i, .int j] ∧ Q (.int (if j < i then j else i)) H) := by
  intro pins s σ H xs us Q I r h
  obtain ⟨a, i, j, rfl, hs, q⟩ := h
  obtain ⟨its, rv, hl, _⟩ := I.tuple hs
  rw [Vals.ref1 r]
  obtain ⟨t1, t2, rfl⟩ : ∃ t1 t2, its = [.int i t1, .int j t2] := by
    cases rv with
    | cons r1 r2 =>
      cases r2 with
      | cons r2 r3 =>
        cases r3
        obtain ⟨t1, rfl⟩ := r1
        obtain ⟨t2, rfl⟩ := r2
        exact ⟨t1, t2, rfl⟩
  refine PySem.W.min_tuple_data (x := .int i) (xs := [.int j]) (I.ok.hd hcalm) hl (ReadsAll.cons (.int i t1) (.cons (.int j t2) .nil)) ⟨?_, ?_⟩ ?_ fun k v h' tk bs hv hr hk => ?_
  · intro x hx y hy
    simp only [List.mem_cons, List.not_mem_nil, or_false] at hx hy
    rcases hx with rfl | rfl <;> rcases hy with rfl | rfl <;> rfl
  · intro x hx
    simp only [List.mem_cons, List.not_mem_nil, or_false] at hx
    rcases hx with rfl | rfl <;> exact fun z => nomatch z
  · have : PyData.depthAll [PyData.int i, PyData.int j] = 0 := by simp [PyData.depthAll, PyData.depth]
    rw [this]
    omega
  · rw [show [PyData.int j] = [j].map PyData.int from rfl, PySem.W.minD_ints] at hr
    have e : [j].foldl min i = if j < i then j else i := by
      simp only [List.foldl_cons, List.foldl_nil]
      split <;> omega
    rw [e] at hr
    cases hr with
    | int m t => exact ⟨.int _, H, I.kept hk, ⟨_, rfl⟩, q⟩
theorem callR_or {X : Cx} {f : Value} {r r' : List V → Hp → VK → Prop} (h : CallR X f r) (h' : CallR X f r') : CallR X f (fun xs H Q => r xs H Q ∨ r' xs H Q) := by
  intro pins s σ H xs us Q I rr q
  rcases q with q | q
  · exact h pins s σ H xs us Q I rr q
  · exact h' pins s σ H xs us Q I rr q
section
variable {tb : Tb} {cl : Wd} {call : Nat → List Slot → Out} {X : Cx} {N : List Str} {sc : Scope} {fnB : Str → Bool} {W : WX} {σ0 : L2.St}
theorem as_len : ∀ {fl : List Bool} {cs : Cs} {ρ ρ' : Env} {as : List A}, evAs call fl cs ρ = some (.ok as, ρ') → as.length = csLen cs
  | _, .nil, _, _, _, h => by simp only [evAs] at h; cases h; rfl
  | fl, .cons c cs, ρ, ρ', as, h => by
    rw [evAs] at h
    obtain ⟨x, ρ1, _, h⟩ := bnd_some h
    obtain ⟨xs, ρ2, e, h⟩ := bnd_some h
    cases h
    rw [List.length_cons, as_len e]
    rfl
/-- a call of a def -/
theorem c_call {f : Nat} {fd : Fd} {fl : List Bool} {c : C} {cs : Cs} {x : Str} {e : Expr} {es : List Expr} {p pos : Pos} (G : Gd tb cl call X N sc fnB W) (hf : tb.fns f = some fd) (hx : fd.name = x) (hn : csLen (.cons c cs) = fd.np) (hg : glB sc x = true) (ho : oddB x = false) (hq : tb.gs f = true → tb.grd = true)
    (ha : PA X (e :: es) (Can X.K cl (rAs X.K cl) W σ0 (evAs call fl (.cons c cs)))) (hs : (e :: es).any star = false) : PE X (.Call (.Name x p) (e :: es) [] pos) (CA cl call X W σ0 (.call f fl (.cons c cs))) := by
  obtain ⟨k, hr, _, hc⟩ := G.calls
  obtain ⟨ad, fdt, FO, hm, _, hk, hb⟩ := hc f fd hf
  obtain ⟨o1, o2, o3⟩ := odd_of ho
  rw [List.any_cons, Bool.or_eq_false_iff] at hs
  rw [hx] at hm
  refine pe_imp (pe_callG (E := WE W) FO hr (fun z => G.guards (hq z)) (show X.env.scope.names.lookup x = _ by rw [G.sc]; exact gl_of hg) hm hk hb (fun σ => passAt G.takes σ) ha o1 (star_each hs.1 _ _) (back_any hs.2 _ _)) fun σ H Q h => ?_
  obtain ⟨ρ, P, F, R⟩ := h
  rw [ev] at R
  refine (Res.bndE (R1 := rAs X.K cl) F Step.refl R).mono fun vs H1 ⟨as, ρ1, P1, F1, S1, _, ⟨r1, f1⟩, R1, eq⟩ => ?_
  exact call_res (by rw [r1.length, as_len eq, hn]) F1 S1 r1 f1 R1

/-! ### built-ins -/
inductive Vws (K : PySem.W.Frag) (cl : Wd) (H P : Hp) : List V → List D → Prop
  | nil : Vws K cl H P [] []
  | cons {v : V} {vs : List V} {d : D} {ds : List D} : Vw K cl H P v d → Vws K cl H P vs ds → Vws K cl H P (v :: vs) (d :: ds)
theorem ARs.views {K : PySem.W.Frag} {σ : L2.St} {H P : Hp} {ρ : Env} (F : FR K cl σ0 σ H P ρ) : ∀ {vs : List V} {as : List A} {ds : List D}, ARs K cl σ H P ρ vs as → views as ρ = some ds → Vws K cl H P vs ds
  | _, _, _, .nil, h => by cases h; exact .nil
  | _, _, _, .cons (a := a) (as := as) r t _, h => by
    unfold MP.views at h
    cases e1 : view a ρ with
    | none => rw [e1] at h; cases h
    | some d =>
      cases e2 : MP.views as ρ with
      | none => rw [e1, e2] at h; cases h
      | some ds =>
        rw [e1, e2] at h
        cases h
        exact .cons (r.view F e1) (t.views F e2)
theorem blt_gen {f : Blt} {cs : Cs} {r : List V → Hp → VK → Prop} {σ : L2.St} {H : Hp} {Q : VK}
    (hr : ∀ (ρ ρ1 : Env) (H P H1 P1 : Hp) (ds : List D) (z : A) (vs : List V), FR X.K cl σ0 σ H1 P1 ρ1 → Step σ ρ H P σ ρ1 H1 P1 → Vws X.K cl H1 P1 vs ds → bltD f ds = some z → Res X.K cl (rA X.K cl) W σ0 σ ρ H P (ok z ρ1) Q → r vs H1 Q)
    (h : CA cl call X W σ0 (.blt f cs) σ H Q) : tCB r (Can X.K cl (rAs X.K cl) W σ0 (evAs call [] cs)) σ H Q := by
  obtain ⟨ρ, P, F, R⟩ := h
  rw [ev] at R
  refine (Res.bnd (R1 := rAs X.K cl) F Step.refl R).mono fun vs H1 ⟨as, ρ1, P1, F1, S1, _, ⟨r1, f1⟩, R1⟩ => ?_
  unfold blts liftO at R1
  cases e1 : views as ρ1 with
  | none => rw [e1] at R1; exact R1.elim
  | some ds =>
    rw [e1] at R1
    dsimp only at R1
    cases e2 : bltD f ds with
    | none => rw [e2] at R1; exact R1.elim
    | some z =>
      rw [e2] at R1
      exact hr ρ ρ1 H P H1 P1 ds z vs F1 S1 (r1.views F1 e1) e2 R1
def bltN : Blt → Str
  | .abs => "abs" | .max2 => "max" | .min2 => "min" | .int1 => "int" | .len => "len" | .gcd => "gcd" | .any => "any" | .all => "all" | .sum => "sum"
  | .tuple => "tuple" | .list => "list" | .str1 => "str" | .repr1 => "repr" | .bool1 => "bool" | .reprv => "repr" | .sorted => "sorted" | .min1 => "min"
theorem bls_vs {K : PySem.W.Frag} {P : Hp} : ∀ {vs : List V} {ds : List D} {bs : List Bool}, Rps K cl P vs ds → blsD ds = some bs → vs = bs.map V.bl
  | _, _, _, .nil, h => by cases h; rfl
  | _, _, _, .cons (d := d) (ds := ds) r t, h => by
    cases d with
    | bl b =>
      simp only [blsD] at h
      cases e : blsD ds with
      | none => rw [e] at h; cases h
      | some bs' =>
        rw [e] at h
        cases h
        rw [r.bl_inv, bls_vs t e]
        rfl
    | _ => simp [blsD] at h
theorem is_vs {K : PySem.W.Frag} {P : Hp} : ∀ {vs : List V} {ds : List D} {bs : List Int}, Rps K cl P vs ds → intsD ds = some bs → vs = bs.map V.int
  | _, _, _, .nil, h => by cases h; rfl
  | _, _, _, .cons (d := d) (ds := ds) r t, h => by
    cases d with
    | int b =>
      simp only [intsD] at h
      cases e : intsD ds with
      | none => rw [e] at h; cases h
      | some bs' =>
        rw [e] at h
        cases h
        rw [r.int_inv, is_vs t e]
        rfl
    | _ => simp [intsD] at h
theorem vws1 {K : PySem.W.Frag} {H P : Hp} {vs : List V} {d : D} (h : Vws K cl H P vs [d]) : ∃ v, vs = [v] ∧ Vw K cl H P v d := by
  cases h with
  | cons r t => cases t; exact ⟨_, rfl, r⟩
theorem vws2 {K : PySem.W.Frag} {H P : Hp} {vs : List V} {d e : D} (h : Vws K cl H P vs [d, e]) : ∃ v u, vs = [v, u] ∧ Vw K cl H P v d ∧ Vw K cl H P u e := by
  cases h with
  | cons r t =>
    obtain ⟨u, rfl, q⟩ := vws1 t
    exact ⟨_, u, rfl, r, q⟩
theorem c_fun {f : Blt} {id : String} {r : List V → Hp → VK → Prop} {x : Str} {c : C} {cs : Cs} {e : Expr} {es : List Expr} {p pos : Pos} (G : Gd tb cl call X N sc fnB W) (hc : CallR X (.builtin id) r) (hb : x ∈ bltL) (hv : bootBuiltins x = some (.builtin id)) (hg : glB sc x = true) (ho : oddB x = false)
    (ha : PA X (e :: es) (Can X.K cl (rAs X.K cl) W σ0 (evAs call [] (.cons c cs)))) (hs : (e :: es).any star = false)
    (hr : ∀ (σ : L2.St) (Q : VK) (ρ ρ1 : Env) (H P H1 P1 : Hp) (ds : List D) (z : A) (vs : List V), FR X.K cl σ0 σ H1 P1 ρ1 → Step σ ρ H P σ ρ1 H1 P1 → Vws X.K cl H1 P1 vs ds → bltD f ds = some z → Res X.K cl (rA X.K cl) W σ0 σ ρ H P (ok z ρ1) Q → r vs H1 Q) :
    PE X (.Call (.Name x p) (e :: es) [] pos) (CA cl call X W σ0 (.blt f (.cons c cs))) := by
  obtain ⟨o1, o2, o3⟩ := odd_of ho
  rw [List.any_cons, Bool.or_eq_false_iff] at hs
  exact pe_imp (pe_callB hc (show X.env.scope.names.lookup x = _ by rw [G.sc]; exact gl_of hg) (G.blt x hb) hv ha o3 o1 (star_each hs.1 _ _) (back_any hs.2 _ _)) fun σ H Q h => blt_gen (fun ρ ρ1 H P H1 P1 ds z vs F S V e R => hr σ Q ρ ρ1 H P H1 P1 ds z vs F S V e R) h
theorem c_typ {f : Blt} {T : String} {r : List V → Hp → VK → Prop} {x : Str} {c : C} {cs : Cs} {e : Expr} {es : List Expr} {p pos : Pos} (G : Gd tb cl call X N sc fnB W) (hc : CallR X (.type T) r) (hb : x ∈ bltL) (hv : bootBuiltins x = some (.type T)) (hg : glB sc x = true) (ho : oddB x = false)
    (ha : PA X (e :: es) (Can X.K cl (rAs X.K cl) W σ0 (evAs call [] (.cons c cs)))) (hs : (e :: es).any star = false)
    (hr : ∀ (σ : L2.St) (Q : VK) (ρ ρ1 : Env) (H P H1 P1 : Hp) (ds : List D) (z : A) (vs : List V), FR X.K cl σ0 σ H1 P1 ρ1 → Step σ ρ H P σ ρ1 H1 P1 → Vws X.K cl H1 P1 vs ds → bltD f ds = some z → Res X.K cl (rA X.K cl) W σ0 σ ρ H P (ok z ρ1) Q → r vs H1 Q) :
    PE X (.Call (.Name x p) (e :: es) [] pos) (CA cl call X W σ0 (.blt f (.cons c cs))) := by
  obtain ⟨o1, o2, o3⟩ := odd_of ho
  rw [List.any_cons, Bool.or_eq_false_iff] at hs
  exact pe_imp (pe_callTy hc (show X.env.scope.names.lookup x = _ by rw [G.sc]; exact gl_of hg) (G.blt x hb) hv ha o3 o1 (star_each hs.1 _ _) (back_any hs.2 _ _)) fun σ H Q h => blt_gen (fun ρ ρ1 H P H1 P1 ds z vs F S V e R => hr σ Q ρ ρ1 H P H1 P1 ds z vs F S V e R) h
def rStr (xs : List V) (H : Hp) (Q : VK) : Prop := (∃ i, xs = [.int i] ∧ bits i < 1920 ∧ Q (.str ((toString i : String) : Str)) H) ∨ (∃ b, xs = [.bl b] ∧ Q (.str (boolS b)) H) ∨ ∃ x, xs = [.str x] ∧ Q (.str x) H
theorem cr_str : CallR X (.type "str") rStr := by
  intro pins s σ H xs us Q I r h
  rcases h with ⟨i, rfl, hb, q⟩ | ⟨b, rfl, q⟩ | ⟨x, rfl, q⟩
  · obtain ⟨u, rfl, ru⟩ := r.one
    obtain ⟨t, rfl⟩ := ru
    exact PySem.P.str_of_int hb ⟨.str _, H, I.tok _, ⟨_, rfl⟩, q⟩
  · obtain ⟨u, rfl, ru⟩ := r.one
    cases ru
    exact PySem.P.str_of_bool ⟨.str _, H, I.tok _, ⟨_, rfl⟩, q⟩
  · obtain ⟨u, rfl, ru⟩ := r.one
    obtain ⟨t, rfl⟩ := ru
    exact PySem.P.str_of_str ⟨.str _, H, I, ⟨_, rfl⟩, q⟩
def rRepr (xs : List V) (H : Hp) (Q : VK) : Prop := (∃ i, xs = [.int i] ∧ bits i < 1920 ∧ Q (.str ((toString i : String) : Str)) H) ∨ (∃ b, xs = [.bl b] ∧ Q (.str (boolS b)) H)
theorem cr_repr : CallR X (.builtin "repr") rRepr := by
  intro pins s σ H xs us Q I r h
  rcases h with ⟨i, rfl, hb, q⟩ | ⟨b, rfl, q⟩
  · obtain ⟨u, rfl, ru⟩ := r.one
    obtain ⟨t, rfl⟩ := ru
    exact PySem.P.repr_of_int hb ⟨.str _, H, I.tok _, ⟨_, rfl⟩, q⟩
  · obtain ⟨u, rfl, ru⟩ := r.one
    cases ru
    exact PySem.P.repr_of_bool ⟨.str _, H, I.tok _, ⟨_, rfl⟩, q⟩
/-- repr of data, where no repr is under way -/
def rReprV (K : PySem.W.Frag) (cl : Wd) (xs : List V) (H : Hp) (Q : VK) : Prop := ∃ v d x, xs = [v] ∧ Rp K cl H v d ∧ reprS d = some x ∧ Q (.str x) H
mutual
theorem shw_py : ∀ (k : Nat) (d : D), d.shw k = true → (toPy d).showable = true ∧ (toPy d).hasDict = false ∧ (toPy d).depth ≤ k
  | _, .non, _ => by simp [toPy, PyData.showable, PyData.hasDict, PyData.depth]
  | _, .bl _, _ => by simp [toPy, PyData.showable, PyData.hasDict, PyData.depth]
  | k, .int i, h => by
    have h : decide (i.natAbs.log2 < 1920) = true := by cases k <;> simpa only [D.shw] using h
    simp only [toPy, PyData.showable, PyData.hasDict, PyData.depth]
    exact ⟨h, by simp⟩
  | _, .str x, _ => by simp [toPy, PyData.showable, PyData.hasDict, PyData.depth]
  | 0, .tup xs, h => by simp [D.shw] at h
  | 0, .lst xs, h => by simp [D.shw] at h
  | k, .dic _ _, h => by cases k <;> simp [D.shw] at h
  | k, .fn _, h => by cases k <;> simp [D.shw] at h
  | k + 1, .tup xs, h => by
    obtain ⟨h1, h2, h3⟩ := shws_py k xs (by simpa only [D.shw] using h)
    simp only [toPy, PyData.showable, PyData.hasDict, PyData.depth]
    exact ⟨h1, h2, by omega⟩
  | k + 1, .lst xs, h => by
    obtain ⟨h1, h2, h3⟩ := shws_py k xs (by simpa only [D.shw] using h)
    simp only [toPy, PyData.showable, PyData.hasDict, PyData.depth]
    exact ⟨h1, h2, by omega⟩
theorem shws_py : ∀ (k : Nat) (ds : List D), D.shws k ds = true → PyData.showableAll (toPys ds) = true ∧ PyData.hasDictAll (toPys ds) = false ∧ PyData.depthAll (toPys ds) ≤ k
  | _, [], _ => by simp [toPys, PyData.showableAll, PyData.hasDictAll, PyData.depthAll]
  | k, x :: xs, h => by
    simp only [D.shws, Bool.and_eq_true] at h
    obtain ⟨a1, a2, a3⟩ := shw_py k x h.1
    obtain ⟨b1, b2, b3⟩ := shws_py k xs h.2
    simp only [toPys, PyData.showableAll, PyData.hasDictAll, PyData.depthAll, a1, a2, b1, b2, Bool.and_self, Bool.or_self, true_and]
    omega
end
mutual
theorem rp_dps {K : PySem.W.Frag} {H : Hp} : ∀ {v : V} {d : D} (k : Nat), Rp K cl H v d → d.shw k = true → Dp K H v (toPy d)
  | _, _, _, .non, _ => by simp only [toPy]; exact .non
  | _, _, _, .bl b, _ => by simp only [toPy]; exact .bl b
  | _, _, _, .int i, _ => by simp only [toPy]; exact .int i
  | _, _, _, .str x, _ => by simp only [toPy]; exact .str x
  | _, _, 0, .tup s q, h => by simp [D.shw] at h
  | _, _, 0, .lst s q, h => by simp [D.shw] at h
  | _, _, k, .dic s q, h => by cases k <;> simp [D.shw] at h
  | _, _, k, .fn e, h => by cases k <;> simp [D.shw] at h
  | _, _, k + 1, .tup s q, h => by simp only [toPy]; exact .tup s (rps_dps k q (by simpa only [D.shw] using h))
  | _, _, k + 1, .lst s q, h => by simp only [toPy]; exact .lst s.sq (rps_dps k q (by simpa only [D.shw] using h))
theorem rps_dps {K : PySem.W.Frag} {H : Hp} : ∀ {vs : List V} {ds : List D} (k : Nat), Rps K cl H vs ds → D.shws k ds = true → DpAll K H vs (toPys ds)
  | _, _, _, .nil, _ => by simp only [toPys]; exact .nil
  | _, _, k, .cons r t, h => by
    simp only [D.shws, Bool.and_eq_true] at h
    simp only [toPys]
    exact .cons (rp_dps k r h.1) (rps_dps k t h.2)
end
theorem cr_reprv (hg : X.A.guards = some []) (hu : X.A.units + 65 < cLine) : CallR X (.builtin "repr") (rReprV X.K cl) := by
  intro pins s σ H xs us Q I r h
  obtain ⟨v, d, x, rfl, rp, e, q⟩ := h
  obtain ⟨u, rfl, ru⟩ := r.one
  unfold reprS at e
  split at e <;> try (cases e; done)
  rename_i hs
  split at e <;> try (cases e; done)
  rename_i hz
  cases e
  have fin : ∀ (h' : Heap) (u : Tok) (tk : Nat), (∀ b o, s.heap.get? b = some o → h'.get? b = some o) → EP X pins σ Q (.str (toPy d).shown u) { s with heap := h', toks := tk } := fun h' u tk k => ⟨.str _, H, I.kept k, ⟨_, rfl⟩, q⟩
  have hz' : (toPy d).shown.length ≤ sizeLine := by rw [sizeLine_eq]; exact hz
  have refs : ∀ {a : Addr}, v = .ref a → ∀ {as}, Reads s.heap u (toPy d) as → (toPy d).showable = true → ((toPy d).hasDict = true → sysModules ∉ as) → (toPy d).depth ≤ 12 → wpAny (model X.prog X.w) X.A (call (.builtin "repr") [u]) (EP X pins σ Q) X.xe s := fun {a} ev {as} rr h1 h2 h3 => by
    subst ev
    obtain rfl : u = Value.ref a := ru
    exact repr_of_reads' rr h1 h2 hg (by omega) (fun _ _ z => z) (fun h' u tk k => fin h' u tk k) hz'
  have deep : d.shw 12 = true → ∀ {a : Addr}, v = .ref a → wpAny (model X.prog X.w) X.A (call (.builtin "repr") [u]) (EP X pins σ Q) X.xe s := fun hs {a} ev => by
    obtain ⟨h1, h2, h3⟩ := shw_py 12 d hs
    obtain ⟨as, rr⟩ := Dp.reads I _ v u (rp_dps 12 rp hs) ru
    exact refs ev rr h1 (fun z => by rw [h2] at z; cases z) h3
  cases rp with
  | non => cases ru; exact PySem.P.repr_of_none ⟨.str _, H, I.tok _, ⟨_, rfl⟩, q⟩
  | bl b =>
    cases ru
    refine PySem.P.repr_of_bool ⟨.str _, H, I.tok _, ⟨_, rfl⟩, ?_⟩
    cases b <;> exact q
  | int i =>
    obtain ⟨t, rfl⟩ := ru
    have hi : i.natAbs.log2 < 1920 := by simpa [D.shw, D.nil] using hs
    exact PySem.P.repr_of_int hi ⟨.str _, H, I.tok _, ⟨_, rfl⟩, q⟩
  | str x =>
    obtain ⟨t, rfl⟩ := ru
    exact PySem.P.repr_of_str ⟨.str _, H, I.tok _, ⟨_, rfl⟩, q⟩ hz'
  | tup s q => exact deep (by simpa [D.nil] using hs) rfl
  | lst s q => exact deep (by simpa [D.nil] using hs) rfl
  | fn e => simp [D.shw, D.nil] at hs
  | @dic a kvs ds sd qd =>
    have hn : kvs = [] := by
      rcases Bool.or_eq_true _ _ ▸ hs with z | z
      · simp [D.shw] at z
      · cases kvs with
        | nil => rfl
        | cons k ks => simp [D.nil] at z
    subst hn
    cases qd
    obtain ⟨_, hm, vs, hkv, ho⟩ := sd.ok I.hok
    cases hkv
    obtain rfl : u = Value.ref a := ru
    refine refs rfl (as := a :: [] ++ []) ?_ rfl (fun _ z => ?_) (by decide)
    · obtain ⟨o, es, ep, ho1, ho2, ho3, _, ho4, _⟩ := ho
      have e0 : es.toList = [] := by
        cases z : es.toList with
        | nil => rfl
        | cons x xs => rw [z] at ho4; cases ho4
      exact .dict (as := []) (bs := []) (kvs := []) ho1 ho2.1 ho3 (by rw [e0]; exact .nil) (by rw [e0]; exact .nil)
    · have z' : sysModules = a := by simpa using z
      rw [← z'] at hm
      simp at hm
theorem rps_is {K : PySem.W.Frag} {P : Hp} : ∀ is : List Int, Rps K cl P (is.map V.int) (is.map D.int)
  | [] => .nil
  | i :: is => .cons (.int i) (rps_is is)
theorem keys_ints : ∀ {kvs : List (Key × V)} {is : List Int}, intsD (kvs.map fun kv => keyD kv.1) = some is → kvs.map (·.1) = is.map Sum.inl
  | [], is, h => by cases h; rfl
  | (k, v) :: kvs, is, h => by
    cases k with
    | inl i =>
      replace h : Option.map (fun x => i :: x) (intsD (kvs.map fun kv => keyD kv.1)) = some is := h
      cases e : intsD (kvs.map fun kv => keyD kv.1) with
      | none => rw [e] at h; cases h
      | some js =>
        rw [e] at h
        cases h
        rw [List.map_cons, List.map_cons, keys_ints e]
    | inr x =>
      replace h : (none : Option (List Int)) = some is := h
      cases h
def isServed : Blt → Bool
  | .bool1 => false
  | _ => true
def srvB (tb : Tb) (f : Blt) : Bool := isServed f && (tb.gcd || decide (f ≠ .gcd)) && (tb.grd || decide (f ≠ .reprv))
theorem c_blt {f : Blt} {c : C} {cs : Cs} {e : Expr} {es : List Expr} {p pos : Pos} (G : Gd tb cl call X N sc fnB W) (hi : srvB tb f = true) (hg : glB sc (bltN f) = true)
    (ha : PA X (e :: es) (Can X.K cl (rAs X.K cl) W σ0 (evAs call [] (.cons c cs)))) (hs : (e :: es).any star = false) : PE X (.Call (.Name (bltN f) p) (e :: es) [] pos) (CA cl call X W σ0 (.blt f (.cons c cs))) := by
  cases f with
  | abs =>
    refine c_fun G call_abs (by decide +kernel) (by decide +kernel) hg (by decide +kernel) ha hs fun σ Q ρ ρ1 H P H1 P1 ds z vs F S V e R => ?_
    replace e : absD ds = some z := e
    unfold absD at e
    split at e <;> cases e
    obtain ⟨v, rfl, h⟩ := vws1 V
    exact ⟨_, by rw [h.int], Res.datum F S R (.int _)⟩
  | max2 =>
    refine c_fun G (call_max2 G.calm) (by decide +kernel) (by decide +kernel) hg (by decide +kernel) ha hs fun σ Q ρ ρ1 H P H1 P1 ds z vs F S V e R => ?_
    replace e : maxD ds = some z := e
    unfold maxD at e
    split at e <;> cases e
    obtain ⟨v, u, rfl, h, h'⟩ := vws2 V
    exact ⟨_, _, by rw [h.int, h'.int], Res.datum F S R (.int _)⟩
  | min2 =>
    refine c_fun G (call_min2 G.calm) (by decide +kernel) (by decide +kernel) hg (by decide +kernel) ha hs fun σ Q ρ ρ1 H P H1 P1 ds z vs F S V e R => ?_
    replace e : minD ds = some z := e
    unfold minD at e
    split at e <;> cases e
    obtain ⟨v, u, rfl, h, h'⟩ := vws2 V
    exact ⟨_, _, by rw [h.int, h'.int], Res.datum F S R (.int _)⟩
  | int1 =>
    refine c_typ G call_int1 (by decide +kernel) (by decide +kernel) hg (by decide +kernel) ha hs fun σ Q ρ ρ1 H P H1 P1 ds z vs F S V e R => ?_
    replace e : int1D ds = some z := e
    unfold int1D at e
    split at e <;> cases e
    · obtain ⟨v, rfl, h⟩ := vws1 V
      exact .inl ⟨_, by rw [h.int], Res.datum F S R (.int _)⟩
    · obtain ⟨v, rfl, h⟩ := vws1 V
      exact .inr ⟨_, by rw [(h.dat fun _ z => nomatch z).bl_inv], Res.datum F S R (.int _)⟩
  | len =>
    refine c_fun G call_len_seq (by decide +kernel) (by decide +kernel) hg (by decide +kernel) ha hs fun σ Q ρ ρ1 H P H1 P1 ds z vs F S V e R => ?_
    replace e : lenD ds = some z := e
    unfold lenD at e
    split at e <;> cases e
    · obtain ⟨v, rfl, h⟩ := vws1 V
      obtain ⟨a, us, rfl, s, _, q⟩ := h.tup F.sub
      exact ⟨a, us, rfl, .inr s, Res.datum F S R (by rw [q.length]; exact .int _)⟩
    · obtain ⟨v, rfl, h⟩ := vws1 V
      obtain ⟨a, us, rfl, s, q⟩ := h.lst F.sub
      exact ⟨a, us, rfl, .inl s.sq, Res.datum F S R (by rw [q.length]; exact .int _)⟩
  | gcd =>
    obtain ⟨o1, o2, o3⟩ := odd_of (show oddB (bltN .gcd) = false by decide +kernel)
    rw [List.any_cons, Bool.or_eq_false_iff] at hs
    refine pe_imp (pe_callBfun cr_gcd (show X.env.scope.names.lookup (bltN .gcd) = _ by rw [G.sc]; exact gl_of hg) (G.gcd (by have := hi; simp only [srvB, isServed, Bool.and_eq_true] at this; simpa using this.1)) ha o1 (star_each hs.1 _ _) (back_any hs.2 _ _)) fun σ H Q h => blt_gen (fun ρ ρ1 H P H1 P1 ds z vs F S V e R => ?_) h
    replace e : gcdD ds = some z := e
    unfold gcdD at e
    split at e <;> cases e
    obtain ⟨v, u, rfl, h, h'⟩ := vws2 V
    exact ⟨_, _, by rw [h.int, h'.int], Res.datum F S R (.int _)⟩
  | any =>
    refine c_fun G (cr_any G.calm) (by decide +kernel) (by decide +kernel) hg (by decide +kernel) ha hs fun σ Q ρ ρ1 H P H1 P1 ds z vs F S V e R => ?_
    replace e : anyD ds = some z := e
    unfold anyD at e
    split at e <;> try (cases e; done)
    rename_i xs
    cases e2 : blsD xs with
    | none => rw [e2] at e; cases e
    | some bs =>
      rw [e2] at e
      cases e
      obtain ⟨v, rfl, h⟩ := vws1 V
      obtain ⟨a, us, rfl, s, q⟩ := h.lst F.sub
      exact ⟨a, bs, rfl, by rw [← bls_vs q e2]; exact s.sq, Res.datum F S R (.bl _)⟩
  | all =>
    refine c_fun G (cr_all G.calm) (by decide +kernel) (by decide +kernel) hg (by decide +kernel) ha hs fun σ Q ρ ρ1 H P H1 P1 ds z vs F S V e R => ?_
    replace e : allD ds = some z := e
    unfold allD at e
    split at e <;> try (cases e; done)
    rename_i xs
    cases e2 : blsD xs with
    | none => rw [e2] at e; cases e
    | some bs =>
      rw [e2] at e
      cases e
      obtain ⟨v, rfl, h⟩ := vws1 V
      obtain ⟨a, us, rfl, s, q⟩ := h.lst F.sub
      exact ⟨a, bs, rfl, by rw [← bls_vs q e2]; exact s.sq, Res.datum F S R (.bl _)⟩
  | sum =>
    refine c_fun G (cr_sum G.calm) (by decide +kernel) (by decide +kernel) hg (by decide +kernel) ha hs fun σ Q ρ ρ1 H P H1 P1 ds z vs F S V e R => ?_
    replace e : sumD ds = some z := e
    unfold sumD at e
    split at e <;> try (cases e; done)
    rename_i xs
    cases e2 : intsD xs with
    | none => rw [e2] at e; cases e
    | some bs =>
      rw [e2] at e
      cases e
      obtain ⟨v, rfl, h⟩ := vws1 V
      obtain ⟨a, us, rfl, s, q⟩ := h.lst F.sub
      exact ⟨a, bs, rfl, by rw [← is_vs q e2]; exact s.sq, Res.datum F S R (.int _)⟩
  | tuple =>
    refine c_typ G call_tuple_of (by decide +kernel) (by decide +kernel) hg (by decide +kernel) ha hs fun σ Q ρ ρ1 H P H1 P1 ds z vs F S V e R => ?_
    replace e : tupleD ds = some z := e
    unfold tupleD at e
    split at e <;> cases e
    · obtain ⟨v, rfl, h⟩ := vws1 V
      obtain ⟨a, us, rfl, s, q⟩ := h.lst F.sub
      exact ⟨a, us, rfl, .inl ⟨s.sq, fun l hl => Res.newTup F S R q hl⟩⟩
    · obtain ⟨v, rfl, h⟩ := vws1 V
      obtain ⟨a, us, rfl, s, s', q⟩ := h.tup F.sub
      exact ⟨a, us, rfl, .inr ⟨s, Res.datum F S R (.tup s' q)⟩⟩
  | list =>
    refine c_typ G call_list_of (by decide +kernel) (by decide +kernel) hg (by decide +kernel) ha hs fun σ Q ρ ρ1 H P H1 P1 ds z vs F S V e R => ?_
    replace e : listD ds = some z := e
    unfold listD at e
    split at e <;> cases e
    · obtain ⟨v, rfl, h⟩ := vws1 V
      obtain ⟨a, us, rfl, s, q⟩ := h.lst F.sub
      exact ⟨a, us, rfl, .inl s.sq, fun l hl => Res.newLst F S R q hl⟩
    · obtain ⟨v, rfl, h⟩ := vws1 V
      obtain ⟨a, us, rfl, s, _, q⟩ := h.tup F.sub
      exact ⟨a, us, rfl, .inr s, fun l hl => Res.newLst F S R q hl⟩
  | str1 =>
    refine c_typ G cr_str (by decide +kernel) (by decide +kernel) hg (by decide +kernel) ha hs fun σ Q ρ ρ1 H P H1 P1 ds z vs F S V e R => ?_
    replace e : strD ds = some z := e
    unfold strD at e
    split at e
    · split at e <;> cases e
      rename_i hb
      obtain ⟨v, rfl, h⟩ := vws1 V
      exact .inl ⟨_, by rw [h.int], hb, Res.datum F S R (.str _)⟩
    · cases e
      obtain ⟨v, rfl, h⟩ := vws1 V
      exact .inr (.inl ⟨_, by rw [(h.dat fun _ z => nomatch z).bl_inv], Res.datum F S R (.str _)⟩)
    · cases e
      obtain ⟨v, rfl, h⟩ := vws1 V
      exact .inr (.inr ⟨_, by rw [(h.dat fun _ z => nomatch z).str_inv], Res.datum F S R (.str _)⟩)
    · cases e
  | repr1 =>
    refine c_fun G cr_repr (by decide +kernel) (by decide +kernel) hg (by decide +kernel) ha hs fun σ Q ρ ρ1 H P H1 P1 ds z vs F S V e R => ?_
    replace e : reprD ds = some z := e
    unfold reprD at e
    split at e
    · split at e <;> cases e
      rename_i hb
      obtain ⟨v, rfl, h⟩ := vws1 V
      exact .inl ⟨_, by rw [h.int], hb, Res.datum F S R (.str _)⟩
    · cases e
      obtain ⟨v, rfl, h⟩ := vws1 V
      exact .inr ⟨_, by rw [(h.dat fun _ z => nomatch z).bl_inv], Res.datum F S R (.str _)⟩
    · cases e
  | sorted =>
    refine c_fun G (callR_or cr_sortedI (call_sortedDI G.calm)) (by decide +kernel) (by decide +kernel) hg (by decide +kernel) ha hs fun σ Q ρ ρ1 H P H1 P1 ds z vs F S V e R => ?_
    replace e : sortedD ds = some z := e
    unfold sortedD at e
    split at e
    · rename_i xs
      cases e2 : intsD xs with
      | none => rw [e2] at e; cases e
      | some is =>
        rw [e2] at e
        cases e
        obtain ⟨v, rfl, h⟩ := vws1 V
        obtain ⟨a, us, rfl, s, q⟩ := h.lst F.sub
        obtain rfl := is_vs q e2
        exact .inl ⟨a, is, rfl, s.sq, fun ns' p hp hs hn => by rw [sort_the hp hs]; exact Res.newLst F S R (rps_is _) hn⟩
    · rename_i ks vs
      split at e
      · rename_i is e2
        split at e
        · rename_i hl
          cases e
          obtain ⟨v, rfl, h⟩ := vws1 V
          obtain ⟨a, kvs, rfl, rd, rfl, q⟩ := h.dic F.sub
          exact .inr ⟨a, kvs, is, rfl, rd, keys_ints e2, hl, fun ns' p hp hs hn => by rw [sort_the hp hs]; exact Res.newLst F S R (rps_is _) hn⟩
        · cases e
      · cases e
    · cases e
  | min1 =>
    refine c_fun G (cr_min2T G.calm G.units) (by decide +kernel) (by decide +kernel) hg (by decide +kernel) ha hs fun σ Q ρ ρ1 H P H1 P1 ds z vs F S V e R => ?_
    replace e : min1D ds = some z := e
    unfold min1D at e
    split at e
    · rename_i i j
      cases e
      obtain ⟨v, rfl, h⟩ := vws1 V
      obtain ⟨a, us, rfl, s, _, q⟩ := h.tup F.sub
      cases q with
      | cons q1 q2 =>
        cases q2 with
        | cons q2 q3 =>
          cases q3
          obtain rfl := q1.int_inv
          obtain rfl := q2.int_inv
          exact ⟨a, i, j, rfl, s, Res.datum F S R (.int _)⟩
    · cases e
  | bool1 => simp [srvB, isServed] at hi
  | reprv =>
    have hgd : tb.grd = true := by
      have := hi
      simp only [srvB, isServed, Bool.and_eq_true] at this
      simpa using this.2
    refine c_fun G (cr_reprv (cl := cl) (G.guards hgd) G.units) (by decide +kernel) (by decide +kernel) hg (by decide +kernel) ha hs fun σ Q ρ ρ1 H P H1 P1 ds z vs F S V e R => ?_
    replace e : showD ds = some z := e
    unfold showD at e
    split at e
    · rename_i d
      cases e2 : reprS d with
      | none => rw [e2] at e; cases e
      | some x =>
        rw [e2] at e
        cases e
        obtain ⟨v, rfl, h⟩ := vws1 V
        exact ⟨v, d, x, rfl, h.rp F.sub, e2, Res.datum F S R (.str _)⟩
    · cases e
/-! ### dict displays -/
theorem c_dis0 {pos : Pos} : PE X (.Dict [] [] pos) (CA cl call X W σ0 .dis0) := pe_imp pe_dnewK fun σ H Q h => by
  obtain ⟨ρ, P, F, R⟩ := h
  rw [ev] at R
  intro p hp
  exact Res.datum (F.growP hp) (Step.growP F hp) R (.dic (kvs := []) (.inl upd_same) .nil)
theorem key_of {K : PySem.W.Frag} {P : Hp} {v : V} {d : D} (r : Rp K cl P v d) (h : keyB d = true) : ∃ k : Key, v = kV k ∧ d = keyD k := by
  cases r with
  | int i => exact ⟨.inl i, rfl, rfl⟩
  | str x => exact ⟨.inr x, rfl, rfl⟩
  | _ => cases h
theorem c_dis1 {a b : C} {e1 e2 : Expr} {pos : Pos} (h1 : PE X e1 (CA cl call X W σ0 a)) (h2 : PE X e2 (CA cl call X W σ0 b)) : PE X (.Dict [some e1] [e2] pos) (CA cl call X W σ0 (.dis1 a b)) := by
  refine pe_imp (pe_disp (pps_cons (pe_frz h1) (pe_frz h2) pps_nil) rfl rfl (fun z => nomatch z) (by rw [List.length_singleton]; decide)) fun σ H Q h => ?_
  obtain ⟨ρ, P, F, R⟩ := h
  simp only [ev] at R
  intro p hp
  have no := F.notOwn hp
  refine (Res.bnd (R1 := rD X.K cl) (F.grow hp) (Step.grow hp) R).mono fun v H1 ⟨x, ρ1, P1, F1, S1, T1, r1, R1⟩ => ?_
  refine (Res.bnd (R1 := rD X.K cl) F1 T1 R1).mono fun w H2 ⟨y, ρ2, P2, F2, S2, T2, r2, R2⟩ => ?_
  have r1 : Rp X.K cl P1 v x := r1
  have r2 : Rp X.K cl P2 w y := r2
  have S := S1.trans S2
  have e2 : H2 p = some (.dK []) := S.keep p _ upd_same (fun _ z => nomatch z) no
  have p2 : P2 p = none := by
    cases z : P2 p with
    | none => rfl
    | some u =>
      rcases S.newP p (F.none hp) (by rw [z]; exact fun y => nomatch y) with q | q
      · obtain ⟨_, q⟩ := q _ upd_same
        cases q
      · exact absurd q no
  have no2 : ¬ Own σ ρ2 p := fun o => by
    rcases S.newO p o with q | q
    · obtain ⟨_, q⟩ := q _ upd_same
      cases q
    · exact no q
  have R2 : Res X.K cl (rA X.K cl) W σ0 σ ρ H P (if keyB x = true then ok (.dat (.dic [x] [y])) ρ2 else none) Q := R2
  split at R2
  · rename_i hk
    obtain ⟨k, rfl, rfl⟩ := key_of r1 hk
    exact ⟨e2, [(k, w)], rfl, (by rw [List.length_singleton]; decide), R2 _ _ _ ((F2.updH p2 no2 (Tabs.set e2 (fun _ z => nomatch z) (fun φ z => nomatch z) F2.tb.tabs)).addP upd_same p2 no2) ((T2.updH hp).addP hp p2) ⟨.dic (kvs := [(k, w)]) (.inl upd_same) (.cons (r2.mono (same_upd p2)) .nil), fun _ z => nomatch z⟩⟩
  · exact (R2 : False).elim
/-! ### isinstance -/
def tyN : Ty → String
  | .int => "int" | .bool => "bool" | .str => "str" | .tuple => "tuple" | .list => "list" | .dict => "dict"
def tyS : Ty → Str
  | .int => "int" | .bool => "bool" | .str => "str" | .tuple => "tuple" | .list => "list" | .dict => "dict"
def tyT : D → String
  | .non => "NoneType" | .bl _ => "bool" | .int _ => "int" | .str _ => "str" | .tup _ => "tuple" | .lst _ => "list" | .dic _ _ => "dict" | .fn _ => "function"
theorem kit_all (d : D) (nf : ¬ d.isFn = true) (t : Ty) : kitB (tyT d) (tyN t) = some (tyD d t) := by
  cases d <;> cases t <;> first | exact absurd rfl nf | (clear nf; dsimp only [tyT, tyN, tyD]; decide +kernel)
theorem boot_ty (t : Ty) : bootBuiltins (tyS t) = some (.type (tyN t)) := by
  cases t <;> decide +kernel
theorem ty_in (t : Ty) : tyS t ∈ bltL ∧ oddB (tyS t) = false := by
  cases t <;> decide +kernel
theorem rp_ty {K : PySem.W.Frag} {H : Hp} {v : V} {d : D} (nf : ¬ d.isFn = true) (r : Rp K cl H v d) : TyX K H v (.type (tyT d)) := by
  cases r with
  | non => exact .base .non
  | bl b => exact .base (.bl b)
  | int i => exact .base (.int i)
  | str x => exact .base (.str x)
  | tup s q =>
    rcases s with (s | ⟨o, s⟩) | ⟨o, its, n, s, c, _⟩
    · exact .base (.tup s)
    · exact .fTuple s
    · exact .kTuple s c
  | lst s q =>
    rcases s with (s | ⟨o, s⟩) | ⟨its, n, s, _⟩
    · exact .base (.lst s)
    · exact .base (.frz s)
    · exact .kList s rfl
  | dic s q =>
    rcases s with s | ⟨o, s⟩
    · exact .base (.dK s)
    · exact .fDict s
  | fn e => exact absurd rfl nf
theorem pe_ty {t : Ty} {pos : Pos} (G : Gd tb cl call X N sc fnB W) (hg : glB sc (tyS t) = true) : PE X (.Name (tyS t) pos) (tC (.ty (tyN t))) := by
  obtain ⟨o1, o2, o3⟩ := odd_of (ty_in t).2
  exact pe_bltn (show X.env.scope.names.lookup (tyS t) = _ by rw [G.sc]; exact gl_of hg) (G.blt _ (ty_in t).1) (boot_ty t) rfl o3 o1
def tyNames (sc : Scope) : List Ty → List Expr → Bool
  | [], [] => true
  | t :: ts, .Name x _ :: es => decide (x = tyS t) && glB sc x && tyNames sc ts es
  | _, _ => false
theorem ty_star {sc : Scope} : ∀ {ts : List Ty} {es : List Expr}, tyNames sc ts es = true → es.any star = false
  | [], [], _ => rfl
  | t :: ts, .Name x _ :: es, h => by
    simp only [tyNames, Bool.and_eq_true] at h
    show (star _ || es.any star) = false
    rw [ty_star h.2]
    rfl
  | [], _ :: _, h => by simp [tyNames] at h
  | _ :: _, [], h => by simp [tyNames] at h
theorem pa_tys (G : Gd tb cl call X N sc fnB W) : ∀ {ts : List Ty} {es : List Expr}, tyNames sc ts es = true → PA X es (fun _ H Q => Q (ts.map fun t => .ty (tyN t)) H)
  | [], [], _ => pa_nil
  | t :: ts, .Name x p :: es, h => by
    simp only [tyNames, Bool.and_eq_true, decide_eq_true_eq] at h
    obtain ⟨⟨rfl, hg⟩, h2⟩ := h
    exact pa_cons (pe_ty G hg) (pa_tys G h2) rfl
  | [], _ :: _, h => by simp [tyNames] at h
  | _ :: _, [], h => by simp [tyNames] at h
theorem kit_any {K : PySem.W.Frag} (d : D) (nf : ¬ d.isFn = true) : ∀ ts : List Ty, PySem.W.kitAny K (.type (tyT d)) (ts.map fun t => .type (tyN t)) = some (ts.any (tyD d))
  | [] => kitAny_nil
  | t :: ts => by
    have ih := kit_any (K := K) d nf ts
    refine kitAny_cons (kit_ty (kit_all d nf t)) (fun e => ?_) fun e => ?_
    · rw [ih, List.any_cons, e]; rfl
    · rw [List.any_cons, e]; rfl
theorem cls_all : ∀ ts : List Ty, Paired ClsV (ts.map fun t => V.ty (tyN t)) (ts.map fun t => Value.type (tyN t))
  | [] => .nil
  | t :: ts => .cons (.ty _) (cls_all ts)
theorem c_isi1 {t : Ty} {c : C} {e : Expr} {p q pos : Pos} (G : Gd tb cl call X N sc fnB W) (hg : glB sc "isinstance" = true) (ht : glB sc (tyS t) = true) (he : PE X e (CA cl call X W σ0 c)) (hs : star e = false) :
    PE X (.Call (.Name "isinstance" p) [e, .Name (tyS t) q] [] pos) (CA cl call X W σ0 (.isi [t] c)) := by
  refine pe_imp (pe_callB call_isi (show X.env.scope.names.lookup ("isinstance" : Str) = _ by rw [G.sc]; exact gl_of hg) (G.blt _ (by decide +kernel)) (by decide +kernel) (pa_cons he (pa_cons (pe_ty G ht) pa_nil rfl) (star_each hs _ _)) (by decide) (by decide) (star_each hs _ _) rfl) fun σ H Q h => ?_
  obtain ⟨ρ, P, F, R⟩ := h
  rw [ev] at R
  refine (Res.bnd (R1 := rA X.K cl) F Step.refl R).mono fun v H1 ⟨a, ρ1, P1, F1, S1, _, ⟨r1, f1⟩, R1⟩ => ?_
  obtain ⟨d, z, e1, e2, R2⟩ := R1.op1
  unfold isiD at e2
  split at e2
  · cases e2
  rename_i nf
  cases e2
  have rr := (r1.view F1 e1).rp F1.sub
  refine ⟨v, _, .type (tyT d), _, tyD d t, rfl, .ty _, rp_ty nf rr, kit_ty (kit_all d nf t), ?_⟩
  rw [show [t].any (tyD d) = tyD d t by rw [List.any_cons, List.any_nil, Bool.or_false]] at R2
  exact Res.datum F1 S1 R2 (.bl _)
theorem c_isiT {ts : List Ty} {c : C} {e : Expr} {es : List Expr} {k : Nat} {p q pos : Pos} (G : Gd tb cl call X N sc fnB W) (hg : glB sc "isinstance" = true) (ht : tyNames sc ts es = true) (hl : ts.length ≤ 1000) (he : PE X e (CA cl call X W σ0 c)) (hs : star e = false) :
    PE X (.Call (.Name "isinstance" p) [e, .Tuple es k q] [] pos) (CA cl call X W σ0 (.isi ts c)) := by
  refine pe_imp (pe_callB call_isiT (show X.env.scope.names.lookup ("isinstance" : Str) = _ by rw [G.sc]; exact gl_of hg) (G.blt _ (by decide +kernel)) (by decide +kernel) (pa_cons he (pa_cons (pe_tup (pa_tys G ht)) pa_nil rfl) (star_each hs _ _)) (by decide) (by decide) (star_each hs _ _) rfl) fun σ H Q h => ?_
  obtain ⟨ρ, P, F, R⟩ := h
  rw [ev] at R
  refine (Res.bnd (R1 := rA X.K cl) F Step.refl R).mono fun v H1 ⟨a, ρ1, P1, F1, S1, _, ⟨r1, f1⟩, R1⟩ => ?_
  obtain ⟨d, z, e1, e2, R2⟩ := R1.op1
  unfold isiD at e2
  split at e2
  · cases e2
  rename_i nf
  cases e2
  have rr := (r1.view F1 e1).rp F1.sub
  exact ⟨by rw [List.length_map]; exact thousand hl, fun tp hp => ⟨v, tp, _, .type (tyT d), _, ts.any (tyD d), rfl, upd_same, cls_all ts, rp_ty nf (rr.mono (same_upd hp)), kit_any d nf ts, Res.datum (F1.grow hp) (S1.trans (Step.grow hp)) R2 (.bl _)⟩⟩
end
end MP
set_option Elab.async false
set_option linter.all false
set_option maxRecDepth 100000
set_option maxHeartbeats 2000000
/-! MP: what is walked, targets, comprehensions -/
namespace MP
open PySem PySem.Spec PyProof.Rows L2

/-- a walk that yields the data ds -/
def JOk (K : PySem.W.Frag) (cl : Wd) (J : It) (P : Hp) (ds : List D) : Prop := ∀ (H2 P2 : Hp), Same P P2 → Same P2 H2 → ∀ i : Nat,
  (∀ d, ds[i]? = some d → J.go i H2 ∧ ∀ x H3, J.yld i H2 x H3 → ∃ P3, Same P2 P3 ∧ Same P3 H3 ∧ Same H2 H3 ∧ (∀ a o, P3 a = some o → P2 a = some o ∨ (H2 a = none ∧ ∀ ps, o ≠ .tbl ps)) ∧ Rp K cl P3 x d) ∧ (ds.length ≤ i → J.stop i H2)
def rI (K : PySem.W.Frag) (cl : Wd) : Rl It (List D) := ⟨fun _ _ _ _ _ P J ds => JOk K cl J P ds, fun _ h => h⟩
theorem jok_tup' {K : PySem.W.Frag} {P : Hp} {a : Addr} {vs : List V} {ds : List D} (s : SqT K P a vs) (q : Rps K cl P vs ds) : JOk K cl (Itt K a) P ds := fun H2 P2 h1 h2 i => by
  have s2 : SqT K H2 a vs := same_sqt (h1.trans h2) s
  refine ⟨fun d hd => ?_, fun hl => ⟨vs, s2, by rw [q.length]; exact hl⟩⟩
  obtain ⟨v, g1, g2⟩ := q.get hd
  refine ⟨⟨vs, v, s2, g1⟩, fun x H3 y => ?_⟩
  obtain ⟨rfl, y⟩ := y
  have := y vs s2
  rw [g1] at this
  cases this
  exact ⟨P2, Same.refl _, h2, Same.refl _, fun _ _ h => .inl h, g2.mono h1⟩
theorem jok_lst {K : PySem.W.Frag} {P : Hp} {a : Addr} {vs : List V} {ds : List D} (s : RL K P a vs) (q : Rps K cl P vs ds) : JOk K cl (Itl K a) P ds := fun H2 P2 h1 h2 i => by
  have s2 : SqL K H2 a vs := (same_rl (h1.trans h2) s).sq
  refine ⟨fun d hd => ?_, fun hl => ⟨vs, s2, by rw [q.length]; exact hl⟩⟩
  obtain ⟨v, g1, g2⟩ := q.get hd
  refine ⟨⟨vs, v, s2, g1⟩, fun x H3 y => ?_⟩
  obtain ⟨rfl, y⟩ := y
  have := y vs s2
  rw [g1] at this
  cases this
  exact ⟨P2, Same.refl _, h2, Same.refl _, fun _ _ h => .inl h, g2.mono h1⟩
theorem intsL_get : ∀ (lo : Int) (n i : Nat), (intsL lo n)[i]? = if i < n then some (.int (lo + i)) else none
  | lo, 0, i => by simp [intsL]
  | lo, n + 1, 0 => by simp [intsL]
  | lo, n + 1, i + 1 => by
    simp only [intsL, List.getElem?_cons_succ, intsL_get (lo + 1) n i]
    by_cases h : i < n
    · rw [if_pos h, if_pos (by omega)]
      congr 2
      omega
    · rw [if_neg h, if_neg (by omega)]
theorem intsL_len : ∀ (lo : Int) (n : Nat), (intsL lo n).length = n
  | _, 0 => rfl
  | lo, n + 1 => by rw [intsL, List.length_cons, intsL_len]
theorem jok_rng {K : PySem.W.Frag} {P : Hp} (lo : Int) (n : Nat) : JOk K cl (Itr lo n) P (intsL lo n) := fun H2 P2 h1 h2 i => by
  refine ⟨fun d hd => ?_, fun hl => by rw [intsL_len] at hl; exact hl⟩
  rw [intsL_get] at hd
  split at hd
  · rename_i hi
    cases hd
    refine ⟨hi, fun x H3 y => ?_⟩
    obtain ⟨rfl, rfl⟩ := y
    exact ⟨P2, Same.refl _, h2, Same.refl _, fun _ _ h => .inl h, .int _⟩
  · cases hd
theorem enumD_get : ∀ (k : Nat) (ds : List D) (i : Nat), (enumD k ds)[i]? = (ds[i]?).map fun d => .tup [.int ((k + i : Nat) : Int), d]
  | k, [], i => by simp [enumD]
  | k, x :: xs, 0 => by simp [enumD]
  | k, x :: xs, i + 1 => by
    simp only [enumD, List.getElem?_cons_succ, enumD_get (k + 1) xs i]
    congr 1
    funext d
    rw [show k + 1 + i = k + (i + 1) by omega]
theorem enumD_len : ∀ (k : Nat) (ds : List D), (enumD k ds).length = ds.length
  | _, [] => rfl
  | k, x :: xs => by rw [enumD, List.length_cons, List.length_cons, enumD_len]
/-- a new tuple is yielded -/
theorem yld_tup {K : PySem.W.Frag} {H2 P2 : Hp} {T : Addr} {vs : List V} {ds : List D} (h2 : Same P2 H2) (hT : H2 T = none) (q : Rps K cl P2 vs ds) :
    ∃ P3, Same P2 P3 ∧ Same P3 (upd H2 T (.tup vs)) ∧ Same H2 (upd H2 T (.tup vs)) ∧ (∀ a o, P3 a = some o → P2 a = some o ∨ (H2 a = none ∧ ∀ ps, o ≠ .tbl ps)) ∧ Rp K cl P3 (.ref T) (.tup ds) := by
  have pT : P2 T = none := h2.free hT
  refine ⟨upd P2 T (.tup vs), same_upd pT, fun b o e => ?_, same_upd hT, fun a o h => ?_, .tup (.inl (.inl upd_same)) (q.mono (same_upd pT))⟩
  · by_cases hb : b = T
    · subst hb; rw [upd_same] at e ⊢; exact e
    · rw [upd_ne hb] at e ⊢; exact h2 _ _ e
  · by_cases ha : a = T
    · subst ha
      rw [upd_same] at h
      cases h
      exact .inr ⟨hT, fun _ z => nomatch z⟩
    · rw [upd_ne ha] at h; exact .inl h
theorem jok_enum {K : PySem.W.Frag} {P : Hp} {a : Addr} {vs : List V} {ds : List D} (s : RL K P a vs) (q : Rps K cl P vs ds) : JOk K cl (Ite K a) P (enumD 0 ds) := fun H2 P2 h1 h2 i => by
  have s2 : SqL K H2 a vs := (same_rl (h1.trans h2) s).sq
  refine ⟨fun d hd => ?_, fun hl => ⟨vs, s2, by rw [q.length, ← enumD_len 0]; exact hl⟩⟩
  rw [enumD_get] at hd
  cases e : ds[i]? with
  | none => rw [e] at hd; cases hd
  | some d' =>
    rw [e] at hd
    cases hd
    obtain ⟨v, g1, g2⟩ := q.get e
    refine ⟨⟨vs, v, s2, g1⟩, fun x H3 y => ?_⟩
    obtain ⟨T, x', rfl, hT, rfl, y⟩ := y
    have := y vs s2
    rw [g1] at this
    cases this
    rw [Nat.zero_add]
    exact yld_tup h2 hT (.cons (.int _) (.cons (g2.mono h1) .nil))
theorem zipD_get : ∀ (xs ys : List D) (i : Nat) (d : D), (zipD xs ys)[i]? = some d → ∃ x y, xs[i]? = some x ∧ ys[i]? = some y ∧ d = .tup [x, y]
  | [], _, i, d, h => by simp [zipD] at h
  | _ :: _, [], i, d, h => by simp [zipD] at h
  | x :: xs, y :: ys, 0, d, h => by
    simp only [zipD, List.getElem?_cons_zero, Option.some.injEq] at h
    exact ⟨x, y, rfl, rfl, h.symm⟩
  | x :: xs, y :: ys, i + 1, d, h => by
    simp only [zipD, List.getElem?_cons_succ] at h ⊢
    exact zipD_get xs ys i d h
theorem zipD_len : ∀ (xs ys : List D), (zipD xs ys).length = min xs.length ys.length
  | [], _ => by simp [zipD]
  | _ :: _, [] => by simp [zipD]
  | x :: xs, y :: ys => by
    simp only [zipD, List.length_cons, zipD_len xs ys]
    omega
theorem jok_zipL {K : PySem.W.Frag} {P : Hp} {a b : Addr} {vs ws : List V} {ds es : List D} (s : RL K P a vs) (q : Rps K cl P vs ds) (s' : RL K P b ws) (q' : Rps K cl P ws es) : JOk K cl (Itz K a b) P (zipD ds es) := fun H2 P2 h1 h2 i => by
  have s2 : SqL K H2 a vs := (same_rl (h1.trans h2) s).sq
  have s3 : SqL K H2 b ws := (same_rl (h1.trans h2) s').sq
  refine ⟨fun d hd => ?_, fun hl => ⟨vs, ws, s2, s3, by rw [zipD_len] at hl; rw [q.length, q'.length]; omega⟩⟩
  obtain ⟨x, y, e1, e2, rfl⟩ := zipD_get _ _ _ _ hd
  obtain ⟨v, g1, g2⟩ := q.get e1
  obtain ⟨u, g3, g4⟩ := q'.get e2
  refine ⟨⟨vs, ws, v, u, s2, s3, g1, g3⟩, fun z H3 y => ?_⟩
  obtain ⟨T, x', y', rfl, hT, rfl, k1, k2⟩ := y
  have t1 := k1 vs s2
  rw [g1] at t1; cases t1
  have t2 := k2 ws s3
  rw [g3] at t2; cases t2
  exact yld_tup h2 hT (.cons (g2.mono h1) (.cons (g4.mono h1) .nil))
theorem jok_zipT {K : PySem.W.Frag} {P : Hp} {a b : Addr} {vs ws : List V} {ds es : List D} (s : SqT K P a vs) (q : Rps K cl P vs ds) (s' : SqT K P b ws) (q' : Rps K cl P ws es) : JOk K cl (RZ.ItzT K a b) P (zipD ds es) := fun H2 P2 h1 h2 i => by
  have s2 : SqT K H2 a vs := same_sqt (h1.trans h2) s
  have s3 : SqT K H2 b ws := same_sqt (h1.trans h2) s'
  refine ⟨fun d hd => ?_, fun hl => ⟨vs, ws, s2, s3, by rw [zipD_len] at hl; rw [q.length, q'.length]; omega⟩⟩
  obtain ⟨x, y, e1, e2, rfl⟩ := zipD_get _ _ _ _ hd
  obtain ⟨v, g1, g2⟩ := q.get e1
  obtain ⟨u, g3, g4⟩ := q'.get e2
  refine ⟨⟨vs, ws, v, u, s2, s3, g1, g3⟩, fun z H3 y => ?_⟩
  obtain ⟨T, x', y', rfl, hT, rfl, k1, k2⟩ := y
  have t1 := k1 vs s2
  rw [g1] at t1; cases t1
  have t2 := k2 ws s3
  rw [g3] at t2; cases t2
  exact yld_tup h2 hT (.cons (g2.mono h1) (.cons (g4.mono h1) .nil))

section
variable {tb : Tb} {cl : Wd} {call : Nat → List Slot → Out} {X : Cx} {N : List Str} {sc : Scope} {fnB : Str → Bool} {W : WX} {σ0 : L2.St} {tg : Expr}
abbrev CI (cl : Wd) (call : Nat → List Slot → Out) (X : Cx) (W : WX) (σ0 : L2.St) (it : I) : TI := Can X.K cl (rI X.K cl) W σ0 (evI call it)
theorem res_lift {β α : Type} {R : Rl β α} {K : PySem.W.Frag} {σ : L2.St} {ρ ρ1 : Env} {H P : Hp} {o : Option α} {Q : β → Hp → Prop} (h : Res K cl R W σ0 σ ρ H P (liftO o ρ1) Q) : ∃ a, o = some a ∧ Res K cl R W σ0 σ ρ H P (ok a ρ1) Q := by
  cases o with
  | none => exact (h : False).elim
  | some a => exact ⟨a, rfl, h⟩
/-- a list or a tuple, whichever it is -/
theorem pi_any {l : Expr} {tl : TE} (hl : PE X l tl) : PI X tg l (fun σ H R => tl σ H fun x H1 => ∃ a, x = .ref a ∧ (((∃ xs, SqL X.K H1 a xs) ∧ R (Itl X.K a) H1) ∨ ((∃ xs, SqT X.K H1 a xs) ∧ R (Itt X.K a) H1))) := by
  refine ⟨fun pl st σ G RR J hw => ?_⟩
  refine thn (hl.run pl st σ G _ J hw) fun u s2 ⟨y, G1, J1, r2, a, ey, z⟩ => ?_
  subst ey
  cases r2
  have new : ∀ b ∈ [s2.heap.objs.size], FpOk X pl G1 b := fun b hb => by
    cases List.mem_singleton.mp hb
    exact J1.fpOk (Nat.le_refl _) J1.fresh
  rcases z with ⟨⟨ys, hy⟩, z⟩ | ⟨⟨ys, hy⟩, z⟩
  · obtain ⟨_, _, pl', _⟩ := J1.list hy
    exact wpAny_pyIter_list pl'.isList ⟨_, _, _, _, G1, rfl, J1.kept (t' := s2.toks) fun _ _ h => Heap.get?_push_of_some _ h, turn_list a _, ⟨_, Heap.get?_push_size _ rfl, rfl, rfl⟩, new, z⟩
  · obtain ⟨us, _, pt, _⟩ := J1.tuple hy
    exact wpAny_pyIter_tuple (show s2.heap.IsTuple a us.toArray from pt) ⟨_, _, _, _, G1, rfl, J1.kept (t' := s2.toks) fun _ _ h => Heap.get?_push_of_some _ h, turn_tuple a _, ⟨_, Heap.get?_push_size _ rfl, rfl, rfl⟩, new, z⟩
theorem i_seq {c : C} {e : Expr} (h : PE X e (CA cl call X W σ0 c)) : PI X tg e (CI cl call X W σ0 (.seq c)) := by
  refine pi_imp (pi_any (pe_frz h)) fun σ H R h => ?_
  obtain ⟨ρ, P, F, R⟩ := h
  rw [evI] at R
  refine (Res.bnd (R1 := rD X.K cl) F Step.refl R).mono fun v H1 ⟨d, ρ1, P1, F1, S1, _, r1, R1⟩ => ?_
  have r1 : Rp X.K cl P1 v d := r1
  obtain ⟨ds, e, R2⟩ := res_lift R1
  unfold itemsD at e
  split at e
  · cases e
    obtain ⟨a, vs, rfl, s, q⟩ := r1.tup_inv
    exact ⟨a, rfl, .inr ⟨⟨vs, same_sqt F1.sub s⟩, Res.ret F1 S1 R2 (jok_tup' s q)⟩⟩
  · cases e
    obtain ⟨a, vs, rfl, s, q⟩ := r1.lst_inv
    exact ⟨a, rfl, .inl ⟨⟨vs, (same_rl F1.sub s).sq⟩, Res.ret F1 S1 R2 (jok_lst s q)⟩⟩
  · cases e
theorem small_of {i : Int} (h : smallI i = true) : -(2 ^ 62) ≤ i ∧ i < 2 ^ 62 := by
  have := Nat.le_of_ble_eq_true h
  omega
theorem i_rng1 {c : C} {e : Expr} {p pos : Pos} (G : Gd tb cl call X N sc fnB W) (hg : glB sc "range" = true) (h : PE X e (CA cl call X W σ0 c)) (hs : star e = false) : PI X tg (.Call (.Name "range" p) [e] [] pos) (CI cl call X W σ0 (.rng1 c)) := by
  refine pi_imp (pi_range1 (show X.env.scope.names.lookup ("range" : Str) = _ by rw [G.sc]; exact gl_of hg) (G.blt _ (by decide +kernel)) (pa_cons h pa_nil (star_each hs _ _)) (star_each hs _ _)) fun σ H RR h => ?_
  obtain ⟨ρ, P, F, R⟩ := h
  rw [evI] at R
  refine (Res.bnd (R1 := rA X.K cl) F Step.refl R).mono fun v H1 ⟨a, ρ1, P1, F1, S1, _, ⟨r1, f1⟩, R1⟩ => ?_
  unfold rngD at R1
  cases e2 : view a ρ1 with
  | none => rw [e2] at R1; exact (R1 : False).elim
  | some d =>
    rw [e2] at R1
    cases d with
    | int j =>
      have R2 : Res X.K cl (rI X.K cl) W σ0 σ ρ H P (if (smallI 0 && smallI j) = true then ok (intsL 0 (j - 0).toNat) ρ1 else none) RR := R1
      split at R2
      · rename_i z
        rw [Bool.and_eq_true] at z
        obtain ⟨s1, s2⟩ := small_of z.2
        refine ⟨j, by rw [(r1.view F1 e2).int], s1, s2, ?_⟩
        rw [Int.sub_zero] at R2
        exact Res.ret F1 S1 R2 (jok_rng 0 _)
      · exact (R2 : False).elim
    | _ => exact (R1 : False).elim
theorem i_rng2 {c c2 : C} {e e2 : Expr} {p pos : Pos} (G : Gd tb cl call X N sc fnB W) (hg : glB sc "range" = true) (h : PE X e (CA cl call X W σ0 c)) (hs : star e = false) (h2 : PE X e2 (CA cl call X W σ0 c2)) (hs2 : star e2 = false) :
    PI X tg (.Call (.Name "range" p) [e, e2] [] pos) (CI cl call X W σ0 (.rng2 c c2)) := by
  refine pi_imp (pi_range2 (show X.env.scope.names.lookup ("range" : Str) = _ by rw [G.sc]; exact gl_of hg) (G.blt _ (by decide +kernel)) (pa_cons h (pa_cons h2 pa_nil (star_each hs2 _ _)) (star_each hs _ _)) (by rw [star_each hs, star_each hs2]; rfl) (star_each hs2 _ _)) fun σ H RR h => ?_
  obtain ⟨ρ, P, F, R⟩ := h
  rw [evI] at R
  refine (Res.bnd (R1 := rA X.K cl) F Step.refl R).mono fun v H1 ⟨a, ρ1, P1, F1, S1, _, ⟨r1, f1⟩, R1⟩ => ?_
  refine (Res.bnd (R1 := rA X.K cl) F1 S1 R1).mono fun u H2 ⟨b, ρ2, P2, F2, S2, S, ⟨r2, f2⟩, R2⟩ => ?_
  unfold rngD at R2
  cases e1 : view a ρ2 with
  | none => rw [e1] at R2; exact (R2 : False).elim
  | some d =>
    cases e2 : view b ρ2 with
    | none => rw [e1, e2] at R2; cases d <;> exact (R2 : False).elim
    | some d' =>
      rw [e1, e2] at R2
      cases d with
      | int i =>
        cases d' with
        | int j =>
          have R3 : Res X.K cl (rI X.K cl) W σ0 σ ρ H P (if (smallI i && smallI j) = true then ok (intsL i (j - i).toNat) ρ2 else none) RR := R2
          split at R3
          · rename_i z
            rw [Bool.and_eq_true] at z
            obtain ⟨s1, s2⟩ := small_of z.1
            obtain ⟨s3, s4⟩ := small_of z.2
            refine ⟨i, j, by rw [((r1.step S2).view F2 e1).int, (r2.view F2 e2).int], ⟨s1, s2, s3, s4⟩, ?_⟩
            exact Res.ret F2 S R3 (jok_rng i _)
          · exact (R3 : False).elim
        | _ => exact (R2 : False).elim
      | _ => exact (R2 : False).elim
end
end MP
set_option Elab.async false
set_option linter.all false
set_option maxRecDepth 100000
set_option maxHeartbeats 2000000
/-! MP: enumerate(tuple), zip(*x), range downwards, reversed -/
namespace MP
open PySem PySem.Spec PyProof.Rows L2 PySem.W

/-! ### enumerate over anything that begins -/
theorem enum_new1 {v : Value} {o : Obj} {B : Heap → Prop} (b : Begins v o B) :
    Meets (Builtin.«enumerate.__new__» ⟨[.type "enumerate", v], []⟩) (fun _ R s => B s.heap ∧
      R (.ok (.ret (.ref (s.heap.push o).objs.size))) { s with heap := (s.heap.push o).push { cls := .type "enumerate", data := .fields #[.none, .bool false, .ref s.heap.objs.size, rawInt 0, .none, .none] } }) :=
  .of_wp fun prog w A R s h => by
    obtain ⟨hp, g, d, tk, os⟩ := s
    obtain ⟨h1, h⟩ := h
    have hsub := sub_enumerate
    have go : ∀ {A' : Around} {E : Value → Shared → Prop} {Q : Value → Shared → Prop}, Q (.ref hp.objs.size) ⟨hp.push o, g, d, tk, os⟩ → wpAny (model prog w) A' (pyIter v) Q E ⟨hp, g, d, tk, os⟩ :=
      fun q => b.iter prog w _ _ ⟨hp, g, d, tk, os⟩ _ h1 q
    wp_walk using go
    refine wpAny_stack_any fun st => wpAny_pure ?_
    split
    · rename_i c _ _ _ _ _
      cases (c == Value.type "enumerate") <;> (wp_walk using go; exact ⟨_, rfl, h⟩)
    · wp_walk using go
      exact ⟨_, rfl, h⟩
theorem call_enum1 {prog : Program} {w : World} {A : Around} {E : Value → Shared → Prop} {s : Shared} {v : Value} {o : Obj} {B : Heap → Prop} {Q : Value → Shared → Prop} (b : Begins v o B) (h1 : B s.heap)
    (h : ∀ h', IsEnum h' (s.heap.objs.size + 1) s.heap.objs.size 0 .none → h'.get? s.heap.objs.size = some o → (∀ c p, s.heap.get? c = some p → h'.get? c = some p) → Q (.ref (s.heap.objs.size + 1)) { s with heap := h' }) :
    wpAny (model prog w) A (call (.type "enumerate") [v]) Q E s := by
  refine callType_new F.called_enumerate (by decide) (F.typeCall_enumerate_1 _) (F.newCall_enumerate_1 _) (fun obj => F.args_object_init_2 obj _) F.entry_enumerate_new (enum_new1 b) ⟨h1, ?_⟩
  have hz : (s.heap.push o).objs.size = s.heap.objs.size + 1 := Heap.size_push ..
  show _ ∧ _
  rw [hz]
  have he : IsEnum ((s.heap.push o).push { cls := .type "enumerate", data := .fields #[.none, .bool false, .ref s.heap.objs.size, rawInt 0, .none, .none] }) (s.heap.objs.size + 1) s.heap.objs.size 0 .none := by
    have q := Heap.get?_push_size (s.heap.push o) (o := { cls := .type "enumerate", data := .fields #[.none, .bool false, .ref s.heap.objs.size, rawInt 0, .none, .none] }) rfl
    rw [hz] at q
    exact q
  exact ⟨⟨_, he, rfl⟩, h _ he (Heap.get?_push_of_some _ (Heap.get?_push_size _ b.free)) fun c p x => Heap.get?_push_of_some _ (Heap.get?_push_of_some _ x)⟩

/-! ### enumerate(tuple) -/
def IteT (K : Frag) (a : Addr) (n : Nat) : It :=
  ⟨fun i H => ∃ (xs : List V) (x : V), SqT K H a xs ∧ xs.length = n ∧ xs[i]? = some x, fun i H v H' => ∃ T x, v = .ref T ∧ H T = none ∧ H' = upd H T (.tup [.int (i : Nat), x]) ∧ ∀ xs, SqT K H a xs → xs[i]? = some x, fun i H => n ≤ i ∧ ∃ xs : List V, SqT K H a xs ∧ xs.length = n⟩
theorem turn_enumT {P : Program} {w : World} {K : Frag} {elts : List Expr} {kk : Nat} {tpos : Pos} (a e it : Addr) (n : Nat) (hai : a ≠ it) (hae : e ≠ a) (hei : e ≠ it) :
    Turn P w K (.Tuple elts kk tpos) (IteT K a n) [e, it] e (fun i h => (∃ old, IsEnum h e it ((i : Nat) : Int) old) ∧ h.IsTupleIter it a i ∧ i ≤ n) where
  mem := by simp
  obj := fun i h st b hb => by
    obtain ⟨⟨old, he⟩, ⟨o, ho, hc, hd⟩, _⟩ := st
    have e' : b = e ∨ b = it := by simpa using hb
    rcases e' with z | z
    · rw [z]; exact ⟨_, he, fun v q => nomatch q⟩
    · rw [z]; exact ⟨o, ho, fun v q => by rw [hd] at q; cases q⟩
  keep := fun i h h' st k => let ⟨⟨old, he⟩, hi, hn⟩ := st; ⟨⟨old, k e (by simp) _ he⟩, hi.at fun o q => k it (by simp) o q, hn⟩
  item := by
    intro X hP hw hK hc i pins s σ H E I hf st hg
    subst hP hw hK
    obtain ⟨⟨old, he⟩, hit, hin⟩ := st
    obtain ⟨xs, x, hq, hxn, hx⟩ := hg
    obtain ⟨its, rv, p, hz⟩ := I.tuple hq
    obtain ⟨u, hu, ru⟩ := rv.get hx
    have hel : e < s.heap.objs.size := Heap.lt_size he
    have hil : it < s.heap.objs.size := by obtain ⟨_, q, _⟩ := hit; exact Heap.lt_size q
    have hlt : i < its.toArray.size := by
      rw [List.size_toArray, ← rv.length]
      exact (List.getElem?_eq_some_iff.mp hx).1
    refine wpAny_pyNext_enum_itemD (Draws.tuple (A := X.A.in1) (I.ok.hd hc) it a hai its.toArray) he ⟨hit, show s.heap.IsTuple a its.toArray from p⟩ hlt hei (by simp [hei, hae]) fun y h' tk hy ho hst' hT hsz hk => ?_
    obtain rfl : y = u := by
      have hu' : its.toArray[i]? = some u := by simpa using hu
      rw [hu'] at hy
      exact (Option.some.inj hy).symm
    refine ⟨_, rfl, wpAny_letOwnedTupleGo_enum (s := { s with heap := h', toks := tk + 1 }) ho fun h'' he' sb => ?_⟩
    have hT2 : h''.get? s.heap.objs.size = some { cls := .type "tuple", data := .seq #[.int i tk, y] } := (sb.2 _ (Nat.ne_of_gt hel)).trans hT
    have new : ObjOk X.prog X.w (upd H s.heap.objs.size (.tup [.int (i : Nat), x])) h'' s.heap.objs.size (.tup [.int (i : Nat), x]) :=
      ⟨by show 2 ≤ sizeLine; decide, [.int i tk, y], .cons ⟨_, rfl⟩ (.cons ru .nil), ⟨_, hT2, rfl, _, rfl⟩⟩
    have I1 : Inv X pins σ (upd H s.heap.objs.size (.tup [.int (i : Nat), x])) { s with heap := h'', toks := tk + 1 } :=
      I.turnedNew (ch := [e, it]) (fun b ob hb q => (sb.2 b (fun z => hb (by simp [z]))).trans (hk b ob (fun z => hb (by simp [z])) (fun z => hb (by simp [z])) q)) hf (Nat.le_refl _) new
    refine ⟨.ref s.heap.objs.size, _, I1, rfl, ⟨_, x, rfl, I.hok.fresh (Nat.le_refl _), rfl, fun ys hy => by rw [I.tuple_inj hy hq]; exact hx⟩, ⟨⟨y, ?_⟩, hst'.1.at fun o q => (sb.2 it (Ne.symm hei)).trans q, ?_⟩, fun b hb => ?_⟩
    · have e1 : ((i + 1 : Nat) : Int) = (i : Int) + 1 := by omega
      rw [e1]; exact he'
    · rw [List.size_toArray, ← rv.length, hxn] at hlt
      exact hlt
    · have hb' : b < s.heap.objs.size := by
        have e' : b = e ∨ b = it := by simpa using hb
        rcases e' with z | z
        · rw [z]; exact hel
        · rw [z]; exact hil
      rw [upd_ne (Nat.ne_of_lt hb')]
      exact (hf b hb).1
  done := by
    intro X hP hw hK hc i pins s σ H E I hf st hg
    subst hP hw hK
    obtain ⟨⟨old, he⟩, hit, hin⟩ := st
    obtain ⟨hni, xs, hq, hxn⟩ := hg
    obtain ⟨its, rv, p, hz⟩ := I.tuple hq
    obtain ⟨f0, f1, f2, f3, f4, f5⟩ := hf it (by simp)
    have hl : its.toArray.size = i := by rw [List.size_toArray, ← rv.length, hxn]; omega
    refine wpAny_pyNext_enum_endD (Draws.tuple (A := X.A.in1) (I.ok.hd hc) it a hai its.toArray) he ⟨by rw [hl]; exact hit, show s.heap.IsTuple a its.toArray from p⟩ fun h' eb => ⟨rfl, I.turned (t' := s.toks) (fun b o hb q => eb b o hb q) f0 f1 f3 f4 f5⟩
  self := fun A i s Q E st h => let ⟨⟨_, he⟩, _⟩ := st; wpAny_pyIter_enum he h
/-- enumerate(x), x a list or a tuple -/
def iEnumA (K : Frag) (ta : TA) : TI := fun σ H R => ta σ H fun vs H1 => ∃ a xs, vs = [.ref a] ∧ ((SqL K H1 a xs ∧ R (Ite K a) H1) ∨ (SqT K H1 a xs ∧ R (IteT K a xs.length) H1))
theorem pi_enumA {X : Cx} {e : Expr} {ta : TA} {p pos tpos : Pos} {elts : List Expr} {kk : Nat} (hg : Gl X "enumerate") (hm : X.mg "enumerate" = none) (ha : PA X [e] ta) (hs : starEach [e] X.env = [(false, eval e X.env)] := by rfl) :
    PI X (.Tuple elts kk tpos) (.Call (.Name "enumerate" p) [e] [] pos) (iEnumA X.K ta) := by
  refine ⟨fun pins s σ H R I h => ?_⟩
  refine Call_ (ld_blt I hg hm boot_enumerate (PyProof.Rows.callWith_type1 (thn (ha.run pos pins s σ H _ I h) fun us s1 ⟨vs, H1, I1, r1, q1⟩ => ?_) hs rfl))
  obtain ⟨a, xs, ex, q⟩ := q1
  subst ex
  cases r1 with
  | cons r rr =>
    cases rr
    cases r
    have two : ∀ b ∈ [s1.heap.objs.size + 1, s1.heap.objs.size], FpOk X pins H1 b := fun b hb => by
      have e' : b = s1.heap.objs.size + 1 ∨ b = s1.heap.objs.size := by simpa using hb
      have hle : s1.heap.objs.size ≤ b := by
        rcases e' with z | z
        · rw [z]; exact Nat.le_add_right _ _
        · rw [z]; exact Nat.le_refl _
      exact I1.fpOk hle (I1.hok.fresh hle)
    rcases q with ⟨hq, q⟩ | ⟨hq, q⟩
    · obtain ⟨its, rv, p', hz⟩ := I1.list hq
      refine call_enumerate_list p'.isList fun h' he hit hsz hk => wpAny_pyIter_enum he ?_
      have I2 : Inv X pins σ H1 { s1 with heap := h' } := I1.kept (t' := s1.toks) hk
      exact ⟨s1.heap.objs.size + 1, [s1.heap.objs.size + 1, s1.heap.objs.size], _, _, H1, rfl, I2, turn_enum a (s1.heap.objs.size + 1) s1.heap.objs.size, ⟨⟨.none, he⟩, hit, Nat.succ_ne_self _⟩, two, q⟩
    · obtain ⟨its, rv, p', hz⟩ := I1.tuple hq
      have hlt : a < s1.heap.objs.size := by obtain ⟨_, z, _⟩ := id p'; exact Heap.lt_size z
      refine call_enum1 (begins_tuple a its.toArray) (show s1.heap.IsTuple a its.toArray from p') fun h' he hit hk => wpAny_pyIter_enum he ?_
      have I2 : Inv X pins σ H1 { s1 with heap := h' } := I1.kept (t' := s1.toks) hk
      exact ⟨s1.heap.objs.size + 1, [s1.heap.objs.size + 1, s1.heap.objs.size], _, _, H1, rfl, I2, turn_enumT a (s1.heap.objs.size + 1) s1.heap.objs.size xs.length (Nat.ne_of_lt hlt) (Nat.ne_of_gt (Nat.lt_succ_of_lt hlt)) (Nat.succ_ne_self _), ⟨⟨.none, he⟩, ⟨_, hit, rfl, rfl⟩, Nat.zero_le _⟩, two, q⟩
theorem jok_enumT {cl : Wd} {K : PySem.W.Frag} {P : Hp} {a : Addr} {vs : List V} {ds : List D} (s : SqT K P a vs) (q : Rps K cl P vs ds) : JOk K cl (IteT K a vs.length) P (enumD 0 ds) := fun H2 P2 h1 h2 i => by
  have s2 : SqT K H2 a vs := same_sqt (h1.trans h2) s
  refine ⟨fun d hd => ?_, fun hl => ⟨by rw [enumD_len] at hl; rw [q.length]; exact hl, vs, s2, rfl⟩⟩
  rw [enumD_get] at hd
  cases e : ds[i]? with
  | none => rw [e] at hd; cases hd
  | some d' =>
    rw [e] at hd
    cases hd
    obtain ⟨v, g1, g2⟩ := q.get e
    refine ⟨⟨vs, v, s2, rfl, g1⟩, fun x H3 y => ?_⟩
    obtain ⟨T, x', rfl, hT, rfl, y⟩ := y
    have := y vs s2
    rw [g1] at this
    cases this
    rw [Nat.zero_add]
    exact yld_tup h2 hT (.cons (.int _) (.cons (g2.mono h1) .nil))

/-! ### zip(*x), x two lists or two tuples -/
theorem star_args {M : Model} {A : Around} {E : Value → Shared → Prop} {env : PySem.Env} {e : Expr} {p pos : Pos} {T : String} {Q : Value → Shared → Prop} {s : Shared} (h : wpAny M A (eval e env) (fun v s₁ => StarOf M A E v (fun vs s₂ => wpAny M A (call (.type T) vs) Q E s₂) s₁) E s) (he : starEach [.Starred e p] env = [(true, eval e env)] := by rfl) :
    wpAny M A (callWith pos (.type T) [] (backTo pos (starEach [.Starred e p] env)) []) Q E s := by
  rw [he]
  refine ks_call (P := fun _ => True) rfl (fun _ _ => ⟨.machine, .inr (.inl rfl), Looks.of_pure rfl⟩) (ks_lone ?_)
  refine wpAny_mono h (fun v s1 h1 => ?_) fun _ _ x => x
  unfold StarOf at h1 ⊢
  refine wpAny_mono h1 (fun b s2 h2 => ⟨h2.1, ?_⟩) fun _ _ x => x
  exact wpAny_mono h2.2 (fun vs s3 h3 => ⟨trivial, h3⟩) fun _ _ x => x
def iZipS (K : Frag) (te : TE) : TI := fun σ H R => te σ H fun v H1 => ∃ o a b xs ys, v = .ref o ∧ (SqT K H1 o [.ref a, .ref b] ∨ SqL K H1 o [.ref a, .ref b]) ∧ ((SqL K H1 a xs ∧ SqL K H1 b ys ∧ R (Itz K a b) H1) ∨ (SqT K H1 a xs ∧ SqT K H1 b ys ∧ R (RZ.ItzT K a b) H1))
theorem pi_zipS {X : Cx} {e : Expr} {te : TE} {p pos tpos sp : Pos} {elts : List Expr} {kk : Nat} (hg : Gl X "zip") (hm : X.mg "zip" = none) (he : PE X e te) :
    PI X (.Tuple elts kk tpos) (.Call (.Name "zip" p) [.Starred e sp] [] pos) (iZipS X.K te) := by
  refine ⟨fun pins s σ H R I h => ?_⟩
  refine Call_ (ld_blt I hg hm PyProof.Rows.boot_zip (star_args (thn (he.run pins s σ H _ I h) fun u s1 ⟨v, H1, I1, r1, q1⟩ => ?_) rfl))
  obtain ⟨o, a, b, xs, ys, ev, ho, q1⟩ := q1
  subst ev
  obtain rfl : u = Value.ref o := r1
  refine StX.star_any I1 ho fun us s2 I2 rv => ?_
  cases rv with
  | cons r rr =>
    cases rr with
    | cons r' rr =>
      cases rr
      cases r
      cases r'
      have fresh5 : ∀ c, c ∈ [s2.heap.objs.size + 4, s2.heap.objs.size + 2, s2.heap.objs.size + 3, s2.heap.objs.size, s2.heap.objs.size + 1] → FpOk X pins H1 c := fun c hcm => by
        have hle : s2.heap.objs.size ≤ c := by
          have e' : c = s2.heap.objs.size + 4 ∨ c = s2.heap.objs.size + 2 ∨ c = s2.heap.objs.size + 3 ∨ c = s2.heap.objs.size ∨ c = s2.heap.objs.size + 1 := by simpa using hcm
          rcases e' with z | z | z | z | z <;> rw [z] <;> first | exact Nat.le_refl _ | exact Nat.le_add_right _ _
        exact I2.fpOk hle (I2.hok.fresh hle)
      rcases q1 with ⟨hqx, hqy, q⟩ | ⟨hqx, hqy, q⟩
      · obtain ⟨its, rv, p1, _⟩ := I2.list hqx
        obtain ⟨its2, rv2, p2, _⟩ := I2.list hqy
        refine call_zip_2 p1.isList p2.isList fun h' hz hTI hTO h1 h2 hsz hk => wpAny_pyIter_zip hz ?_
        have I3 : Inv X pins σ H1 { s2 with heap := h' } := I2.kept (t' := s2.toks) hk
        exact ⟨s2.heap.objs.size + 4, [s2.heap.objs.size + 4, s2.heap.objs.size + 2, s2.heap.objs.size + 3, s2.heap.objs.size, s2.heap.objs.size + 1], _, _, H1, rfl, I3, turn_zip (PySem.W.ktu_apart s2.heap.objs.size a b p1.lt p2.lt), ⟨hz, hTI, ⟨_, _, hTO⟩, h1, h2⟩, fresh5, q⟩
      · obtain ⟨its, rv, p1, _⟩ := I2.tuple hqx
        obtain ⟨its2, rv2, p2, _⟩ := I2.tuple hqy
        obtain ⟨o1, ho1, _⟩ := id p1
        obtain ⟨o2, ho2, _⟩ := id p2
        refine RZ.call_zipT (show s2.heap.IsTuple a its.toArray from p1) (show s2.heap.IsTuple b its2.toArray from p2) fun h' hz hTI hTO h1 h2 hsz hk => wpAny_pyIter_zip hz ?_
        have I3 : Inv X pins σ H1 { s2 with heap := h' } := I2.kept (t' := s2.toks) hk
        exact ⟨s2.heap.objs.size + 4, [s2.heap.objs.size + 4, s2.heap.objs.size + 2, s2.heap.objs.size + 3, s2.heap.objs.size, s2.heap.objs.size + 1], _, _, H1, rfl, I3, RZ.turn_zipT (PySem.W.ktu_apart s2.heap.objs.size a b (Heap.lt_size ho1) (Heap.lt_size ho2)), ⟨hz, hTI, ⟨_, _, hTO⟩, h1, h2⟩, fresh5, q⟩

/-! ### zip(x, y), x a tuple, y a list -/
def ItzM (K : Frag) (a b : Addr) (na nb : Nat) : It :=
  ⟨fun i H => ∃ (xs ys : List V) (x y : V), SqT K H a xs ∧ SqL K H b ys ∧ xs.length = na ∧ ys.length = nb ∧ xs[i]? = some x ∧ ys[i]? = some y,
    fun i H v H' => ∃ T x y, v = .ref T ∧ H T = none ∧ H' = upd H T (.tup [x, y]) ∧ (∀ xs, SqT K H a xs → xs[i]? = some x) ∧ ∀ ys, SqL K H b ys → ys[i]? = some y,
    fun i H => (na ≤ i ∨ nb ≤ i) ∧ ∃ xs ys : List V, SqT K H a xs ∧ SqL K H b ys ∧ xs.length = na ∧ ys.length = nb⟩
theorem turn_zipM {P : Program} {w : World} {K : Frag} {elts : List Expr} {kk : Nat} {tpos : Pos} {a b z TI TO i1 i2 : Addr} {na nb : Nat} (S : ZipSep2 z TI TO i1 i2 [i1, a] [i2, b]) (ha : a ≠ i1) (hb : b ≠ i2) :
    Turn P w K (.Tuple elts kk tpos) (ItzM K a b na nb) [z, TI, TO, i1, i2] z (fun i h => IsZip h z TI TO .none ∧ IsTupOf2 h TI (.ref i1) (.ref i2) ∧ (∃ x y, IsTupOf2 h TO x y) ∧ h.IsTupleIter i1 a i ∧ h.IsListIter i2 b i ∧ i ≤ na ∧ i ≤ nb) where
  mem := by simp
  obj := fun i h st c hc => by
    obtain ⟨hz, hTI, ⟨x, y, hTO⟩, ⟨o1, e1, _, d1⟩, ⟨o2, e2, _, d2⟩, _⟩ := st
    have e' : c = z ∨ c = TI ∨ c = TO ∨ c = i1 ∨ c = i2 := by simpa using hc
    rcases e' with q | q | q | q | q
    · rw [q]; exact ⟨_, hz, fun v q => nomatch q⟩
    · rw [q]; exact ⟨_, hTI, fun v q => nomatch q⟩
    · rw [q]; exact ⟨_, hTO, fun v q => nomatch q⟩
    · rw [q]; exact ⟨o1, e1, fun v q => by rw [d1] at q; cases q⟩
    · rw [q]; exact ⟨o2, e2, fun v q => by rw [d2] at q; cases q⟩
  keep := fun i h h' st k => by
    obtain ⟨hz, hTI, ⟨x, y, hTO⟩, h1, h2, hn⟩ := st
    exact ⟨k z (by simp) _ hz, k TI (by simp) _ hTI, ⟨x, y, k TO (by simp) _ hTO⟩, h1.at fun o q => k i1 (by simp) o q, h2.at fun o q => k i2 (by simp) o q, hn⟩
  item := by
    intro X hP hw hK hc i pins s σ H E I hf st hg
    subst hP hw hK
    obtain ⟨hz, hTI, ⟨x0, y0, hTO⟩, h1, h2, _⟩ := st
    obtain ⟨xs, ys, x, y, hqx, hqy, hlx, hly, hx, hy⟩ := hg
    obtain ⟨its, rv, p, _⟩ := I.tuple hqx
    obtain ⟨its2, rv2, p2, _⟩ := I.list hqy
    obtain ⟨u, hu, ru⟩ := rv.get hx
    obtain ⟨u2, hu2, ru2⟩ := rv2.get hy
    have hzl : z < s.heap.objs.size := Heap.lt_size hz
    have b1 : i < xs.length := (List.getElem?_eq_some_iff.mp hx).1
    have b2 : i < ys.length := (List.getElem?_eq_some_iff.mp hy).1
    have lt1 : i < its.toArray.size := by rw [List.size_toArray, ← rv.length]; exact b1
    have lt2 : i < its2.toArray.size := by rw [List.size_toArray, ← rv2.length]; exact b2
    refine wpAny_pyNext_zipD2_item S (Draws.tuple (A := X.A.in1) (I.ok.hd hc) i1 a ha its.toArray) (Draws.list (A := X.A.in1) (I.ok.hd hc) i2 b hb its2.toArray) hz hTI hTO ⟨h1, show s.heap.IsTuple a its.toArray from p⟩ ⟨h2, p2.isList⟩ lt1 lt2 fun v1 v2 h' tk y1 y2 z' TO' st1 st2 hT hsz hk => ?_
    obtain rfl : v1 = u := by
      have hu' : its.toArray[i]? = some u := by simpa using hu
      rw [hu'] at y1
      exact (Option.some.inj y1).symm
    obtain rfl : v2 = u2 := by
      have hu' : its2.toArray[i]? = some u2 := by simpa using hu2
      rw [hu'] at y2
      exact (Option.some.inj y2).symm
    refine ⟨_, rfl, wpAny_letOwnedTupleGo_zip (s := { s with heap := h', toks := tk }) z' fun h'' z'' sb => ?_⟩
    have hT2 : h''.get? s.heap.objs.size = some { cls := .type "tuple", data := .seq #[v1, v2] } := (sb.2 _ (Nat.ne_of_gt hzl)).trans hT
    have new : ObjOk X.prog X.w (upd H s.heap.objs.size (.tup [x, y])) h'' s.heap.objs.size (.tup [x, y]) :=
      ⟨by show 2 ≤ sizeLine; decide, [v1, v2], .cons ru (.cons ru2 .nil), ⟨_, hT2, rfl, _, rfl⟩⟩
    have I1 : Inv X pins σ (upd H s.heap.objs.size (.tup [x, y])) { s with heap := h'', toks := tk } :=
      I.turnedNew (t' := tk) (ch := [z, TI, TO, i1, i2]) (fun c o hb q => (sb.2 c (fun q' => hb (by simp [q']))).trans (hk c o (fun q' => hb (by simp [q'])) (fun q' => hb (by simp [q'])) (fun q' => hb (by simp [q'])) (fun q' => hb (by simp [q'])) q)) hf (Nat.le_refl _) new
    refine ⟨.ref s.heap.objs.size, _, I1, rfl, ⟨_, x, y, rfl, I.hok.fresh (Nat.le_refl _), rfl, fun l hl => by rw [I.tuple_inj hl hqx]; exact hx, fun l hl => by rw [I.list_inj hl hqy]; exact hy⟩, ⟨z'', ?_, ⟨v1, v2, ?_⟩, ?_, ?_, by omega, by omega⟩, fun c hcm => ?_⟩
    · exact (sb.2 _ S.TIz).trans (hk _ _ S.TIz S.TITO S.TIi1 S.TIi2 hTI)
    · exact (sb.2 _ S.TOz).trans TO'
    · exact st1.1.at fun o q => (sb.2 _ (Ne.symm S.zi1)).trans q
    · exact st2.1.at fun o q => (sb.2 _ (Ne.symm S.zi2)).trans q
    · have hlt : c < s.heap.objs.size := by
        have e' : c = z ∨ c = TI ∨ c = TO ∨ c = i1 ∨ c = i2 := by simpa using hcm
        rcases e' with q | q | q | q | q
        · rw [q]; exact hzl
        · rw [q]; exact Heap.lt_size hTI
        · rw [q]; exact Heap.lt_size hTO
        · rw [q]; obtain ⟨_, e1, _⟩ := h1; exact Heap.lt_size e1
        · rw [q]; obtain ⟨_, e2, _⟩ := h2; exact Heap.lt_size e2
      rw [upd_ne (Nat.ne_of_lt hlt)]
      exact (hf c hcm).1
  done := by
    intro X hP hw hK hc i pins s σ H E I hf st hg
    subst hP hw hK
    obtain ⟨hz, hTI, ⟨x0, y0, hTO⟩, h1, h2, n1, n2⟩ := st
    obtain ⟨hend, xs, ys, hqx, hqy, hlx, hly⟩ := hg
    obtain ⟨its, rv, p, _⟩ := I.tuple hqx
    obtain ⟨its2, rv2, p2, _⟩ := I.list hqy
    have l1 : its.toArray.size = na := by rw [List.size_toArray, ← rv.length]; exact hlx
    have l2 : its2.toArray.size = nb := by rw [List.size_toArray, ← rv2.length]; exact hly
    exact wpAny_pyNext_zipD2_end S (Draws.tuple (A := X.A.in1) (I.ok.hd hc) i1 a ha its.toArray) (Draws.list (A := X.A.in1) (I.ok.hd hc) i2 b hb its2.toArray) hz hTI hTO ⟨h1, show s.heap.IsTuple a its.toArray from p⟩ ⟨h2, p2.isList⟩ (by omega) (by omega) (by omega) fun h' tk hk => ⟨rfl, I.turnedL (t' := tk) (ch := [z, TI, TO, i1, i2]) (fun c o hb q =>
      hk c o (fun q' => hb (by simp [q'])) (fun q' => hb (by simp [q'])) (fun q' => hb (by simp [q'])) (fun q' => hb (by simp [q'])) q) hf⟩
  self := fun A i s Q E st h => wpAny_pyIter_zip st.1 h
def iZipM (K : Frag) (ta : TA) : TI := fun σ H R => ta σ H fun vs H1 => ∃ a b xs ys, vs = [.ref a, .ref b] ∧ ((SqL K H1 a xs ∧ SqL K H1 b ys ∧ R (Itz K a b) H1) ∨ (SqT K H1 a xs ∧ SqT K H1 b ys ∧ R (RZ.ItzT K a b) H1) ∨ (SqT K H1 a xs ∧ SqL K H1 b ys ∧ R (ItzM K a b xs.length ys.length) H1))
theorem pi_zipM {X : Cx} {e e2 : Expr} {ta : TA} {p pos tpos : Pos} {elts : List Expr} {kk : Nat} (hg : Gl X "zip") (hm : X.mg "zip" = none) (ha : PA X [e, e2] ta)
    (hs : starEach [e, e2] X.env = (false, eval e X.env) :: starEach [e2] X.env := by rfl) (hpl : (backTo pos (starEach [e2] X.env)).any (·.1) = false := by rfl) :
    PI X (.Tuple elts kk tpos) (.Call (.Name "zip" p) [e, e2] [] pos) (iZipM X.K ta) := by
  refine ⟨fun pins s σ H R I h => ?_⟩
  refine Call_ (ld_blt I hg hm PyProof.Rows.boot_zip (PyProof.Rows.callWith_type1 (thn (ha.run pos pins s σ H _ I h) fun us s1 ⟨vs, H1, I1, r1, q1⟩ => ?_) hs hpl))
  obtain ⟨a, b, xs, ys, ex, q1⟩ := q1
  subst ex
  cases r1 with
  | cons r rr =>
    cases rr with
    | cons r' rr =>
      cases rr
      cases r
      cases r'
      have fresh5 : ∀ c, c ∈ [s1.heap.objs.size + 4, s1.heap.objs.size + 2, s1.heap.objs.size + 3, s1.heap.objs.size, s1.heap.objs.size + 1] → FpOk X pins H1 c := fun c hcm => by
        have hle : s1.heap.objs.size ≤ c := by
          have e' : c = s1.heap.objs.size + 4 ∨ c = s1.heap.objs.size + 2 ∨ c = s1.heap.objs.size + 3 ∨ c = s1.heap.objs.size ∨ c = s1.heap.objs.size + 1 := by simpa using hcm
          rcases e' with z | z | z | z | z <;> rw [z] <;> first | exact Nat.le_refl _ | exact Nat.le_add_right _ _
        exact I1.fpOk hle (I1.hok.fresh hle)
      rcases q1 with ⟨hqx, hqy, q⟩ | ⟨hqx, hqy, q⟩ | ⟨hqx, hqy, q⟩
      · obtain ⟨its, rv, p1, _⟩ := I1.list hqx
        obtain ⟨its2, rv2, p2, _⟩ := I1.list hqy
        refine call_zip_2 p1.isList p2.isList fun h' hz hTI hTO h1 h2 hsz hk => wpAny_pyIter_zip hz ?_
        have I3 : Inv X pins σ H1 { s1 with heap := h' } := I1.kept (t' := s1.toks) hk
        exact ⟨s1.heap.objs.size + 4, [s1.heap.objs.size + 4, s1.heap.objs.size + 2, s1.heap.objs.size + 3, s1.heap.objs.size, s1.heap.objs.size + 1], _, _, H1, rfl, I3, turn_zip (PySem.W.ktu_apart s1.heap.objs.size a b p1.lt p2.lt), ⟨hz, hTI, ⟨_, _, hTO⟩, h1, h2⟩, fresh5, q⟩
      · obtain ⟨its, rv, p1, _⟩ := I1.tuple hqx
        obtain ⟨its2, rv2, p2, _⟩ := I1.tuple hqy
        obtain ⟨o1, ho1, _⟩ := id p1
        obtain ⟨o2, ho2, _⟩ := id p2
        refine RZ.call_zipT (show s1.heap.IsTuple a its.toArray from p1) (show s1.heap.IsTuple b its2.toArray from p2) fun h' hz hTI hTO h1 h2 hsz hk => wpAny_pyIter_zip hz ?_
        have I3 : Inv X pins σ H1 { s1 with heap := h' } := I1.kept (t' := s1.toks) hk
        exact ⟨s1.heap.objs.size + 4, [s1.heap.objs.size + 4, s1.heap.objs.size + 2, s1.heap.objs.size + 3, s1.heap.objs.size, s1.heap.objs.size + 1], _, _, H1, rfl, I3, RZ.turn_zipT (PySem.W.ktu_apart s1.heap.objs.size a b (Heap.lt_size ho1) (Heap.lt_size ho2)), ⟨hz, hTI, ⟨_, _, hTO⟩, h1, h2⟩, fresh5, q⟩
      · obtain ⟨its, rv, p1, _⟩ := I1.tuple hqx
        obtain ⟨its2, rv2, p2, _⟩ := I1.list hqy
        obtain ⟨o1, ho1, _⟩ := id p1
        have la : a < s1.heap.objs.size := Heap.lt_size ho1
        have lb : b < s1.heap.objs.size := p2.lt
        refine zip_begins2 (begins_tuple a its.toArray) (begins_list b its2.toArray) (show s1.heap.IsTuple a its.toArray from p1) p2.isList fun h' hz hTI hTO h1 h2 hsz hk => wpAny_pyIter_zip hz ?_
        have I3 : Inv X pins σ H1 { s1 with heap := h' } := I1.kept (t' := s1.toks) hk
        exact ⟨s1.heap.objs.size + 4, [s1.heap.objs.size + 4, s1.heap.objs.size + 2, s1.heap.objs.size + 3, s1.heap.objs.size, s1.heap.objs.size + 1], _, _, H1, rfl, I3,
          turn_zipM (zip_sep2 (fp1 := [a]) (fp2 := [b]) (fun c hc => by rw [List.mem_singleton.mp hc]; exact la) (fun c hc => by rw [List.mem_singleton.mp hc]; exact lb)) (Nat.ne_of_lt la) (Nat.ne_of_lt (Nat.lt_succ_of_lt lb)), ⟨hz, hTI, ⟨_, _, hTO⟩, ⟨_, h1, rfl, rfl⟩, ⟨_, h2, rfl, rfl⟩, Nat.zero_le _, Nat.zero_le _⟩, fresh5, q⟩
theorem zipD_len2 : ∀ (xs ys : List D), (zipD xs ys).length = min xs.length ys.length := zipD_len
theorem jok_zipM {cl : Wd} {K : PySem.W.Frag} {P : Hp} {a b : Addr} {vs ws : List V} {ds es : List D} (s : SqT K P a vs) (q : Rps K cl P vs ds) (s' : RL K P b ws) (q' : Rps K cl P ws es) : JOk K cl (ItzM K a b vs.length ws.length) P (zipD ds es) := fun H2 P2 h1 h2 i => by
  have s2 : SqT K H2 a vs := same_sqt (h1.trans h2) s
  have s3 : SqL K H2 b ws := (same_rl (h1.trans h2) s').sq
  refine ⟨fun d hd => ?_, fun hl => ⟨by rw [zipD_len] at hl; rw [q.length, q'.length]; omega, vs, ws, s2, s3, rfl, rfl⟩⟩
  obtain ⟨x, y, e1, e2, rfl⟩ := zipD_get _ _ _ _ hd
  obtain ⟨v, g1, g2⟩ := q.get e1
  obtain ⟨u, g3, g4⟩ := q'.get e2
  refine ⟨⟨vs, ws, v, u, s2, s3, rfl, rfl, g1, g3⟩, fun z H3 y => ?_⟩
  obtain ⟨T, x', y', rfl, hT, rfl, k1, k2⟩ := y
  have t1 := k1 vs s2
  rw [g1] at t1; cases t1
  have t2 := k2 ws s3
  rw [g3] at t2; cases t2
  exact yld_tup h2 hT (.cons (g2.mono h1) (.cons (g4.mono h1) .nil))

/-! ### range downwards -/
theorem downL_get : ∀ (hi : Int) (n i : Nat), (downL hi n)[i]? = if i < n then some (.int (hi - i)) else none
  | hi, 0, i => by simp [downL]
  | hi, n + 1, 0 => by simp [downL]
  | hi, n + 1, i + 1 => by
    simp only [downL, List.getElem?_cons_succ, downL_get (hi - 1) n i]
    by_cases h : i < n
    · rw [if_pos h, if_pos (by omega)]
      congr 2
      omega
    · rw [if_neg h, if_neg (by omega)]
theorem downL_len : ∀ (hi : Int) (n : Nat), (downL hi n).length = n
  | _, 0 => rfl
  | hi, n + 1 => by rw [downL, List.length_cons, downL_len]
theorem jok_down {cl : Wd} {K : PySem.W.Frag} {P : Hp} (hi : Int) (n : Nat) : JOk K cl (Itc hi (-1) n) P (downL hi n) := fun H2 P2 h1 h2 i => by
  refine ⟨fun d hd => ?_, fun hl => by rw [downL_len] at hl; exact hl⟩
  rw [downL_get] at hd
  split at hd
  · rename_i hlt
    cases hd
    refine ⟨hlt, fun x H3 y => ?_⟩
    obtain ⟨rfl, rfl⟩ := y
    have e : hi + (i : Nat) * (-1 : Int) = hi - (i : Nat) := by omega
    rw [e]
    exact ⟨P2, Same.refl _, h2, Same.refl _, fun _ _ h => .inl h, .int _⟩
  · cases hd
/-! ### reversed -/
theorem rev_get {α : Type} {xs : List α} {i : Nat} {x : α} (h : xs.reverse[i]? = some x) : i < xs.length ∧ xs[xs.length - 1 - i]? = some x := by
  have hl : i < xs.length := by
    have := (List.getElem?_eq_some_iff.mp h).1
    rwa [List.length_reverse] at this
  refine ⟨hl, ?_⟩
  rw [List.getElem?_reverse hl] at h
  exact h
theorem jok_revT {cl : Wd} {K : PySem.W.Frag} {P : Hp} {a : Addr} {vs : List V} {ds : List D} (s : SqT K P a vs) (q : Rps K cl P vs ds) : JOk K cl (RT.ItvT K a vs.length) P ds.reverse := fun H2 P2 h1 h2 i => by
  have s2 : SqT K H2 a vs := same_sqt (h1.trans h2) s
  refine ⟨fun d hd => ?_, fun hl => by rw [List.length_reverse, ← q.length] at hl; exact hl⟩
  obtain ⟨hi, hd⟩ := rev_get hd
  rw [← q.length] at hi hd
  obtain ⟨v, g1, g2⟩ := q.get hd
  refine ⟨⟨hi, vs, v, s2, g1⟩, fun x H3 y => ?_⟩
  obtain ⟨rfl, y⟩ := y
  have := y vs s2
  rw [g1] at this
  cases this
  exact ⟨P2, Same.refl _, h2, Same.refl _, fun _ _ h => .inl h, g2.mono h1⟩
theorem jok_revL {cl : Wd} {K : PySem.W.Frag} {P : Hp} {a : Addr} {vs : List V} {ds : List D} (s : RL K P a vs) (q : Rps K cl P vs ds) : JOk K cl (Itv K a vs.length) P ds.reverse := fun H2 P2 h1 h2 i => by
  have s2 : SqL K H2 a vs := (same_rl (h1.trans h2) s).sq
  refine ⟨fun d hd => ?_, fun hl => by rw [List.length_reverse, ← q.length] at hl; exact hl⟩
  obtain ⟨hi, hd⟩ := rev_get hd
  rw [← q.length] at hi hd
  obtain ⟨v, g1, g2⟩ := q.get hd
  refine ⟨⟨hi, vs, v, s2, g1⟩, fun x H3 y => ?_⟩
  obtain ⟨rfl, y⟩ := y
  have := y vs s2
  rw [g1] at this
  cases this
  exact ⟨P2, Same.refl _, h2, Same.refl _, fun _ _ h => .inl h, g2.mono h1⟩
section
variable {tb : Tb} {cl : Wd} {call : Nat → List Slot → Out} {X : Cx} {N : List Str} {sc : Scope} {fnB : Str → Bool} {W : WX} {σ0 : L2.St} {tg : Expr}
theorem i_enum {c : C} {e : Expr} {p pos tpos : Pos} {elts : List Expr} {kk : Nat} (G : Gd tb cl call X N sc fnB W) (hg : glB sc "enumerate" = true) (h : PE X e (CA cl call X W σ0 c)) (hs : star e = false) :
    PI X (.Tuple elts kk tpos) (.Call (.Name "enumerate" p) [e] [] pos) (CI cl call X W σ0 (.enum c)) := by
  refine pi_imp (pi_enumA (show X.env.scope.names.lookup ("enumerate" : Str) = _ by rw [G.sc]; exact gl_of hg) (G.blt _ (by decide +kernel)) (pa_cons (pe_frz h) pa_nil (star_each hs _ _)) (star_each hs _ _)) fun σ H R h => ?_
  obtain ⟨ρ, P, F, R⟩ := h
  rw [evI] at R
  refine (Res.bnd (R1 := rD X.K cl) F Step.refl R).mono fun v H1 ⟨d, ρ1, P1, F1, S1, _, r1, R1⟩ => ?_
  have r1 : Rp X.K cl P1 v d := r1
  obtain ⟨ds, e, R2⟩ := res_lift R1
  unfold enumO at e
  split at e
  · cases e
    obtain ⟨a, vs, rfl, s, q⟩ := r1.lst_inv
    exact ⟨a, vs, rfl, .inl ⟨(same_rl F1.sub s).sq, Res.ret F1 S1 R2 (jok_enum s q)⟩⟩
  · cases e
    obtain ⟨a, vs, rfl, s, q⟩ := r1.tup_inv
    exact ⟨a, vs, rfl, .inr ⟨same_sqt F1.sub s, Res.ret F1 S1 R2 (jok_enumT s q)⟩⟩
  · cases e
theorem two_inv {K : PySem.W.Frag} {P : Hp} {vs : List V} {x y : D} (r : Rps K cl P vs [x, y]) : ∃ v w, vs = [v, w] ∧ Rp K cl P v x ∧ Rp K cl P w y := by
  cases r with
  | cons r1 r =>
    cases r with
    | cons r2 r =>
      cases r
      exact ⟨_, _, rfl, r1, r2⟩
theorem i_zips {c : C} {e : Expr} {p pos tpos sp : Pos} {elts : List Expr} {kk : Nat} (G : Gd tb cl call X N sc fnB W) (hg : glB sc "zip" = true) (h : PE X e (CA cl call X W σ0 c)) :
    PI X (.Tuple elts kk tpos) (.Call (.Name "zip" p) [.Starred e sp] [] pos) (CI cl call X W σ0 (.zips c)) := by
  refine pi_imp (pi_zipS (show X.env.scope.names.lookup ("zip" : Str) = _ by rw [G.sc]; exact gl_of hg) (G.blt _ (by decide +kernel)) (pe_frz h)) fun σ H R h => ?_
  obtain ⟨ρ, P, F, R⟩ := h
  rw [evI] at R
  refine (Res.bnd (R1 := rD X.K cl) F Step.refl R).mono fun v H1 ⟨d, ρ1, P1, F1, S1, _, r1, R1⟩ => ?_
  have r1 : Rp X.K cl P1 v d := r1
  obtain ⟨ds, e, R2⟩ := res_lift R1
  unfold zipsO at e
  split at e
  · rename_i x y hit
    have ho : ∃ o vs, v = V.ref o ∧ (SqT X.K P1 o vs ∨ SqL X.K P1 o vs) ∧ Rps X.K cl P1 vs [x, y] := by
      unfold itemsD at hit
      split at hit
      · cases hit
        obtain ⟨o, vs, rfl, s, q⟩ := r1.tup_inv
        exact ⟨o, vs, rfl, .inl s, q⟩
      · cases hit
        obtain ⟨o, vs, rfl, s, q⟩ := r1.lst_inv
        exact ⟨o, vs, rfl, .inr s.sq, q⟩
      · cases hit
    obtain ⟨o, vs, rfl, so, q⟩ := ho
    obtain ⟨w1, w2, rfl, q1, q2⟩ := two_inv q
    have so2 : ∀ a b : Addr, w1 = .ref a → w2 = .ref b → SqT X.K H1 o [.ref a, .ref b] ∨ SqL X.K H1 o [.ref a, .ref b] := fun a b e1 e2 => by
      subst e1 e2
      rcases so with z | z
      · exact .inl (same_sqt F1.sub z)
      · refine .inr ?_
        rcases z with z | z
        · exact .inl (same_rd F1.sub z)
        · exact .inr z
    unfold zipO2 at e
    split at e
    · cases e
      obtain ⟨a, us, rfl, s, q1⟩ := q1.tup_inv
      obtain ⟨b, ws, rfl, s', q2⟩ := q2.tup_inv
      exact ⟨o, a, b, us, ws, rfl, so2 a b rfl rfl, .inr ⟨same_sqt F1.sub s, same_sqt F1.sub s', Res.ret F1 S1 R2 (jok_zipT s q1 s' q2)⟩⟩
    · cases e
      obtain ⟨a, us, rfl, s, q1⟩ := q1.lst_inv
      obtain ⟨b, ws, rfl, s', q2⟩ := q2.lst_inv
      exact ⟨o, a, b, us, ws, rfl, so2 a b rfl rfl, .inl ⟨(same_rl F1.sub s).sq, (same_rl F1.sub s').sq, Res.ret F1 S1 R2 (jok_zipL s q1 s' q2)⟩⟩
    · cases e
  · cases e
theorem i_rev {c : C} {e : Expr} {p pos : Pos} (G : Gd tb cl call X N sc fnB W) (hg : glB sc "reversed" = true) (h : PE X e (CA cl call X W σ0 c)) (hs : star e = false) :
    PI X tg (.Call (.Name "reversed" p) [e] [] pos) (CI cl call X W σ0 (.rev c)) := by
  refine pi_imp (RT.pi_revA (show X.env.scope.names.lookup ("reversed" : Str) = _ by rw [G.sc]; exact gl_of hg) (G.blt _ (by decide +kernel)) (pe_frz h) (star_each hs _ _)) fun σ H R h => ?_
  obtain ⟨ρ, P, F, R⟩ := h
  rw [evI] at R
  refine (Res.bnd (R1 := rD X.K cl) F Step.refl R).mono fun v H1 ⟨d, ρ1, P1, F1, S1, _, r1, R1⟩ => ?_
  have r1 : Rp X.K cl P1 v d := r1
  obtain ⟨ds, e, R2⟩ := res_lift R1
  unfold itemsD at e
  split at e
  · cases e
    obtain ⟨a, vs, rfl, s, q⟩ := r1.tup_inv
    exact ⟨a, vs, rfl, .inr ⟨same_sqt F1.sub s, Res.ret F1 S1 R2 (jok_revT s q)⟩⟩
  · cases e
    obtain ⟨a, vs, rfl, s, q⟩ := r1.lst_inv
    exact ⟨a, vs, rfl, .inl ⟨(same_rl F1.sub s).sq, Res.ret F1 S1 R2 (jok_revL s q)⟩⟩
  · cases e
theorem i_rng3 {c c2 c3 : C} {e e2 e3 : Expr} {p pos : Pos} (G : Gd tb cl call X N sc fnB W) (hg : glB sc "range" = true) (h : PE X e (CA cl call X W σ0 c)) (hs : star e = false) (h2 : PE X e2 (CA cl call X W σ0 c2)) (hs2 : star e2 = false) (h3 : PE X e3 (CA cl call X W σ0 c3)) (hs3 : star e3 = false) :
    PI X tg (.Call (.Name "range" p) [e, e2, e3] [] pos) (CI cl call X W σ0 (.rng3 c c2 c3)) := by
  refine pi_imp (pi_range3 (show X.env.scope.names.lookup ("range" : Str) = _ by rw [G.sc]; exact gl_of hg) (G.blt _ (by decide +kernel)) (pa_cons h (pa_cons h2 (pa_cons h3 pa_nil (star_each hs3 _ _)) (star_each hs2 _ _)) (star_each hs _ _)) (star_each hs _ _)
    (back_any (es := [e2, e3]) (by rw [List.any_cons, List.any_cons, hs2, hs3]; rfl) _ _)) fun σ H RR h => ?_
  obtain ⟨ρ, P, F, R⟩ := h
  rw [evI] at R
  refine (Res.bnd (R1 := rA X.K cl) F Step.refl R).mono fun v H1 ⟨a, ρ1, P1, F1, S1, _, ⟨r1, f1⟩, R1⟩ => ?_
  refine (Res.bnd (R1 := rA X.K cl) F1 S1 R1).mono fun u H2 ⟨b, ρ2, P2, F2, S2, S, ⟨r2, f2⟩, R2⟩ => ?_
  refine (Res.bnd (R1 := rA X.K cl) F2 S R2).mono fun z H3 ⟨x, ρ3, P3, F3, S3, S', ⟨r3, f3⟩, R3⟩ => ?_
  unfold rngM at R3
  split at R3
  · rename_i i j k e1 e2 e3
    split at R3
    · rename_i hk
      obtain ⟨hk, z1, z2⟩ := hk
      subst hk
      obtain ⟨s1, s2⟩ := small_of z1
      obtain ⟨s3, s4⟩ := small_of z2
      refine ⟨i, j, -1, (i - j).toNat, ?_, RgC.neg s1 s2 s3 s4, Res.ret F3 S' R3 (jok_down i _)⟩
      rw [(((r1.step S2).step S3).view F3 e1).int, ((r2.step S3).view F3 e2).int, (r3.view F3 e3).int]
    · exact (R3 : False).elim
  · exact (R3 : False).elim
theorem i_zip {c c2 : C} {e e2 : Expr} {p pos tpos : Pos} {elts : List Expr} {kk : Nat} (G : Gd tb cl call X N sc fnB W) (hg : glB sc "zip" = true) (h : PE X e (CA cl call X W σ0 c)) (hs : star e = false) (h2 : PE X e2 (CA cl call X W σ0 c2)) (hs2 : star e2 = false) :
    PI X (.Tuple elts kk tpos) (.Call (.Name "zip" p) [e, e2] [] pos) (CI cl call X W σ0 (.zip c c2)) := by
  refine pi_imp (pi_zipM (show X.env.scope.names.lookup ("zip" : Str) = _ by rw [G.sc]; exact gl_of hg) (G.blt _ (by decide +kernel)) (pa_cons (pe_frz h) (pa_cons (pe_frz h2) pa_nil (star_each hs2 _ _)) (star_each hs _ _)) (star_each hs _ _)
    (back_any (es := [e2]) (by rw [List.any_cons, hs2]; rfl) _ _)) fun σ H R h => ?_
  obtain ⟨ρ, P, F, R⟩ := h
  rw [evI] at R
  refine (Res.bnd (R1 := rD X.K cl) F Step.refl R).mono fun v H1 ⟨d, ρ1, P1, F1, S1, _, r1, R1⟩ => ?_
  refine (Res.bnd (R1 := rD X.K cl) F1 S1 R1).mono fun u H2 ⟨d', ρ2, P2, F2, S2, S, r2, R2⟩ => ?_
  have r1 : Rp X.K cl P2 v d := Rp.mono S2.mono r1
  have r2 : Rp X.K cl P2 u d' := r2
  obtain ⟨ds, e, R3⟩ := res_lift R2
  unfold zipO at e
  split at e
  · cases e
    obtain ⟨a, vs, rfl, s, q⟩ := r1.tup_inv
    obtain ⟨b, ws, rfl, s', q'⟩ := r2.tup_inv
    exact ⟨a, b, vs, ws, rfl, .inr (.inl ⟨same_sqt F2.sub s, same_sqt F2.sub s', Res.ret F2 S R3 (jok_zipT s q s' q')⟩)⟩
  · cases e
    obtain ⟨a, vs, rfl, s, q⟩ := r1.lst_inv
    obtain ⟨b, ws, rfl, s', q'⟩ := r2.lst_inv
    exact ⟨a, b, vs, ws, rfl, .inl ⟨(same_rl F2.sub s).sq, (same_rl F2.sub s').sq, Res.ret F2 S R3 (jok_zipL s q s' q')⟩⟩
  · cases e
    obtain ⟨a, vs, rfl, s, q⟩ := r1.tup_inv
    obtain ⟨b, ws, rfl, s', q'⟩ := r2.lst_inv
    exact ⟨a, b, vs, ws, rfl, .inr (.inr ⟨same_sqt F2.sub s, (same_rl F2.sub s').sq, Res.ret F2 S R3 (jok_zipM s q s' q')⟩)⟩
  · cases e
end
end MP
set_option Elab.async false
set_option linter.all false
set_option maxRecDepth 100000
set_option maxHeartbeats 2000000
/-! MP: targets, comprehensions -/
namespace MP
open PySem PySem.Spec PyProof.Rows L2

section
variable {K : PySem.W.Frag} {σ0 σ : L2.St} {ρ : Env} {H P : Hp}
/-- a slot that takes shared data -/
theorem FR.put (F : FR K cl σ0 σ H P ρ) {i : Nat} {v : V} {d : D} (hi : i < ρ.length) (r : Rp K cl P v d) : FR K cl σ0 (σ.set i (some v)) H P (ρ.set i (.val false d)) := by
  have hs : i < σ.length := by rw [← F.len]; exact hi
  refine ⟨F.sub, by rw [List.length_set, List.length_set]; exact F.len, fun j t e h => ?_, fun j t e h => ?_, fun j k t t' e e' a h1 h2 h3 h4 => ?_, fun j e h => ?_, F.tb⟩
  · rcases get_set h with ⟨rfl, z⟩ | ⟨n, h⟩
    · cases z
      exact ⟨v, List.getElem?_set_self hs, r⟩
    · rw [List.getElem?_set_ne n]
      exact F.val j t e h
  · rcases get_set h with ⟨rfl, z⟩ | ⟨n, h⟩
    · cases z
    · rw [List.getElem?_set_ne n]
      exact F.own j t e h
  · rcases get_set h1 with ⟨rfl, z⟩ | ⟨n, h1⟩
    · cases z
    · rcases get_set h2 with ⟨rfl, z⟩ | ⟨n', h2⟩
      · cases z
      · rw [List.getElem?_set_ne n] at h3
        rw [List.getElem?_set_ne n'] at h4
        exact F.inj j k t t' e e' a h1 h2 h3 h4
  · rcases h with h | h
    · rcases get_set h with ⟨rfl, z⟩ | ⟨n, h⟩
      · cases z
      · rw [List.getElem?_set_ne n]
        exact F.tag j e (.inl h)
    · rcases get_set h with ⟨rfl, z⟩ | ⟨n, h⟩
      · cases z
      · rw [List.getElem?_set_ne n]
        exact F.tag j e (.inr h)
theorem Step.put {i : Nat} {v : V} {d : D} : Step σ ρ H P (σ.set i (some v)) (ρ.set i (.val false d)) H P :=
  ⟨fun _ _ h _ _ => h, Same.refl _, fun _ h h' => absurd h h', fun a ⟨j, t, e, h1, h2⟩ => by
    rcases get_set h1 with ⟨rfl, z⟩ | ⟨n, h1⟩
    · cases z
    · rw [List.getElem?_set_ne n] at h2
      exact .inr ⟨j, t, e, h1, h2⟩⟩
end
mutual
def tgs : Tg → List Nat
  | .nm i => [i]
  | .tp ts => tgss ts
def tgss : Tgs → List Nat
  | .nil => []
  | .cons t ts => tgs t ++ tgss ts
end
def Off (l : List Nat) (σ σ' : L2.St) : Prop := ∀ i, i ∉ l → σ'[i]? = σ[i]?
def CG (K : PySem.W.Frag) (cl : Wd) (σ0 : L2.St) (tg : Tg) : TG := fun v σ H Q => ∃ ρ P d, FR K cl σ0 σ H P ρ ∧ Rp K cl P v d ∧ ∃ ρ', asgT tg d ρ = some ρ' ∧ ∀ σ', FR K cl σ0 σ' H P ρ' → Step σ ρ H P σ' ρ' H P → Off (tgs tg) σ σ' → Q σ' H
def CGs (K : PySem.W.Frag) (cl : Wd) (σ0 : L2.St) (ts : Tgs) : TGs := fun vs σ H Q => ∃ ρ P ds, FR K cl σ0 σ H P ρ ∧ Rps K cl P vs ds ∧ ∃ ρ', asgTs ts ds ρ = some ρ' ∧ ∀ σ', FR K cl σ0 σ' H P ρ' → Step σ ρ H P σ' ρ' H P → Off (tgss ts) σ σ' → Q σ' H
def locB (sc : Scope) (fnB : Str → Bool) (x : Str) : Bool := match sc.names.lookup x with
  | some .local => true
  | some .cell => fnB x
  | _ => false
theorem loc_of {sc : Scope} {fnB : Str → Bool} {x : Str} (h : locB sc fnB x = true) : L2.Loc sc x ∧ (fnB x = true ∨ sc.names.lookup x = some .local) := by
  unfold locB at h
  unfold L2.Loc
  split at h <;> simp_all
mutual
def trT (N : List Str) (sc : Scope) (fnB : Str → Bool) : Tg → Expr → Bool
  | .nm i, .Name x _ => decide (N[i]? = some x) && locB sc fnB x
  | .tp ts, .Tuple es _ _ => trTs N sc fnB ts es
  | _, _ => false
def trTs (N : List Str) (sc : Scope) (fnB : Str → Bool) : Tgs → List Expr → Bool
  | .nil, [] => true
  | .cons t ts, e :: es => trT N sc fnB t e && trTs N sc fnB ts es
  | _, _ => false
end
theorem asgTs_len : ∀ {ts : Tgs} {ds : List D} {ρ ρ' : Env} {N : List Str} {sc : Scope} {fnB : Str → Bool} {es : List Expr}, asgTs ts ds ρ = some ρ' → trTs N sc fnB ts es = true → ds.length = es.length
  | .nil, [], _, _, _, _, _, [], _, _ => rfl
  | .nil, [], _, _, _, _, _, _ :: _, _, h => by simp [trTs] at h
  | .nil, _ :: _, _, _, _, _, _, _, h, _ => by simp [asgTs] at h
  | .cons t ts, [], _, _, _, _, _, _, h, _ => by simp [asgTs] at h
  | .cons t ts, _ :: _, _, _, _, _, _, [], _, h => by simp [trTs] at h
  | .cons t ts, d :: ds, ρ, ρ', N, sc, fnB, e :: es, h, h' => by
    simp only [asgTs] at h
    simp only [trTs, Bool.and_eq_true] at h'
    split at h
    · rw [List.length_cons, List.length_cons, asgTs_len h h'.2]
    · cases h
theorem trT_star : ∀ {t : Tg} {e : Expr} {N : List Str} {sc : Scope} {fnB : Str → Bool}, trT N sc fnB t e = true → star e = false
  | t, e, _, _, _, h => by cases e <;> first | rfl | (cases t <;> simp [trT] at h)
theorem trTs_star : ∀ {ts : Tgs} {es : List Expr} {N : List Str} {sc : Scope} {fnB : Str → Bool}, trTs N sc fnB ts es = true → es.any star = false
  | .nil, [], _, _, _, _ => rfl
  | .nil, _ :: _, _, _, _, h => by simp [trTs] at h
  | .cons _ _, [], _, _, _, h => by simp [trTs] at h
  | .cons t ts, e :: es, _, _, _, h => by
    simp only [trTs, Bool.and_eq_true] at h
    rw [List.any_cons, trT_star h.1, trTs_star h.2]
    rfl
mutual
theorem asgT_len : ∀ {t : Tg} {d : D} {ρ ρ' : Env}, asgT t d ρ = some ρ' → ρ'.length = ρ.length
  | .nm i, d, ρ, ρ', h => by
    simp only [asgT, putD] at h
    split at h
    · cases h; rw [List.length_set]
    · cases h
  | .tp ts, .tup ds, ρ, ρ', h => asgTs_lenE (by simpa only [asgT] using h)
  | .tp ts, .non, _, _, h => by simp [asgT] at h
  | .tp ts, .bl _, _, _, h => by simp [asgT] at h
  | .tp ts, .int _, _, _, h => by simp [asgT] at h
  | .tp ts, .str _, _, _, h => by simp [asgT] at h
  | .tp ts, .lst _, _, _, h => by simp [asgT] at h
  | .tp ts, .dic _ _, _, _, h => by simp [asgT] at h
theorem asgTs_lenE : ∀ {ts : Tgs} {ds : List D} {ρ ρ' : Env}, asgTs ts ds ρ = some ρ' → ρ'.length = ρ.length
  | .nil, [], ρ, ρ', h => by simp only [asgTs] at h; cases h; rfl
  | .nil, _ :: _, _, _, h => by simp [asgTs] at h
  | .cons _ _, [], _, _, h => by simp [asgTs] at h
  | .cons t ts, d :: ds, ρ, ρ', h => by
    simp only [asgTs] at h
    split at h
    · rename_i ρ1 e
      rw [asgTs_lenE h, asgT_len e]
    · cases h
end
section
variable {tb : Tb} {cl : Wd} {call : Nat → List Slot → Out} {X : Cx} {N : List Str} {sc : Scope} {fnB : Str → Bool} {W : WX} {σ0 : L2.St}
mutual
theorem g_tg (G : Gd tb cl call X N sc fnB W) : ∀ {tg : Tg} {e : Expr}, trT N sc fnB tg e = true → PG X e (CG X.K cl σ0 tg)
  | .nm i, .Name x pos, h => by
    simp only [trT, Bool.and_eq_true, decide_eq_true_eq] at h
    obtain ⟨hi, hx⟩ := h
    obtain ⟨l1, l2⟩ := loc_of hx
    have p : PG X (.Name x pos) (gName i) := pg_name (by rw [G.hN]; exact G.nd) (by rw [G.hN]; exact hi) (by rw [G.sc]; exact l1) (by
      rcases l2 with z | z
      · exact .inl (G.fn x z)
      · exact .inr (by rw [G.sc]; exact z))
    refine ⟨fun pins s σ H v u Q I r h => p.run pins s σ H v u Q I r ?_⟩
    obtain ⟨ρ, P, d, F, rp, ρ', ha, q⟩ := h
    simp only [asgT, putD] at ha
    split at ha
    · rename_i hl
      cases ha
      refine q _ (F.put hl rp) Step.put fun j hj => ?_
      rw [List.getElem?_set_ne]
      intro z
      subst z
      exact hj (List.mem_singleton.mpr rfl)
    · cases ha
  | .tp ts, .Tuple es k pos, h => by
    have h : trTs N sc fnB ts es = true := by simpa only [trT] using h
    have ps := g_tgs G h
    have st := trTs_star h
    have p : PG X (.Tuple es k pos) (gTup X.K es.length (CGs X.K cl σ0 ts)) := pg_tup G.calm ps (each_len st _) (each_find st _)
    refine ⟨fun pins s σ H v u Q I r hh => p.run pins s σ H v u Q I r ?_⟩
    obtain ⟨ρ, P, d, F, rp, ρ', ha, q⟩ := hh
    cases d with
    | tup ds =>
      obtain ⟨a, vs, rfl, sq, qs⟩ := rp.tup_inv
      have ha' : asgTs ts ds ρ = some ρ' := by simpa only [asgT] using ha
      exact ⟨a, vs, rfl, same_sqt F.sub sq, by rw [qs.length]; exact asgTs_len ha' h, ρ, P, ds, F, qs, ρ', ha', fun σ' F' S' o => q σ' F' S' (by simpa only [tgs] using o)⟩
    | _ => simp [asgT] at ha
  | .nm _, .BoolOp .., h | .nm _, .NamedExpr .., h | .nm _, .BinOp .., h | .nm _, .UnaryOp .., h | .nm _, .Lambda .., h | .nm _, .IfExp .., h | .nm _, .Dict .., h | .nm _, .Set .., h | .nm _, .ListComp .., h | .nm _, .SetComp .., h | .nm _, .DictComp .., h
  | .nm _, .GeneratorExp .., h | .nm _, .Await .., h | .nm _, .Yield .., h | .nm _, .YieldFrom .., h | .nm _, .Compare .., h | .nm _, .Call .., h | .nm _, .FormattedValue .., h | .nm _, .JoinedStr .., h | .nm _, .Constant .., h | .nm _, .Attribute .., h
  | .nm _, .Subscript .., h | .nm _, .Starred .., h | .nm _, .List .., h | .nm _, .Tuple .., h | .nm _, .Slice .., h => by simp [trT] at h
  | .tp _, .BoolOp .., h | .tp _, .NamedExpr .., h | .tp _, .BinOp .., h | .tp _, .UnaryOp .., h | .tp _, .Lambda .., h | .tp _, .IfExp .., h | .tp _, .Dict .., h | .tp _, .Set .., h | .tp _, .ListComp .., h | .tp _, .SetComp .., h | .tp _, .DictComp .., h
  | .tp _, .GeneratorExp .., h | .tp _, .Await .., h | .tp _, .Yield .., h | .tp _, .YieldFrom .., h | .tp _, .Compare .., h | .tp _, .Call .., h | .tp _, .FormattedValue .., h | .tp _, .JoinedStr .., h | .tp _, .Constant .., h | .tp _, .Attribute .., h
  | .tp _, .Subscript .., h | .tp _, .Starred .., h | .tp _, .List .., h | .tp _, .Name .., h | .tp _, .Slice .., h => by simp [trT] at h
theorem g_tgs (G : Gd tb cl call X N sc fnB W) : ∀ {ts : Tgs} {es : List Expr}, trTs N sc fnB ts es = true → PGs X es (CGs X.K cl σ0 ts)
  | .nil, [], _ => by
    refine ⟨fun pins s σ H vs us Q I r h => pgs_nil.run pins s σ H vs us Q I r ?_⟩
    obtain ⟨ρ, P, ds, F, rp, ρ', ha, q⟩ := h
    cases ds with
    | nil =>
      cases rp
      simp only [asgTs] at ha
      cases ha
      exact ⟨rfl, q σ F Step.refl fun _ _ => rfl⟩
    | cons _ _ => simp [asgTs] at ha
  | .nil, _ :: _, h => by simp [trTs] at h
  | .cons _ _, [], h => by simp [trTs] at h
  | .cons t ts, e :: es, h => by
    simp only [trTs, Bool.and_eq_true] at h
    have p1 := g_tg G h.1
    have p2 := g_tgs G h.2
    have st := trT_star h.1
    have p := pgs_cons p1 p2 (by rw [each_assign st]; rfl)
    refine ⟨fun pins s σ H vs us Q I r hh => p.run pins s σ H vs us Q I r ?_⟩
    obtain ⟨ρ, P, ds, F, rp, ρ', ha, q⟩ := hh
    cases ds with
    | nil => simp [asgTs] at ha
    | cons d ds =>
      cases rp with
      | cons r1 r2 =>
        simp only [asgTs] at ha
        split at ha
        · rename_i ρ1 e1
          refine ⟨_, _, rfl, ρ, P, d, F, r1, ρ1, e1, fun σ1 F1 S1 o1 => ⟨ρ1, P, ds, F1, r2, ρ', ha, fun σ2 F2 S2 o2 => q σ2 F2 (S1.trans S2) fun i hi => ?_⟩⟩
          simp only [tgss, List.mem_append, not_or] at hi
          rw [o2 i hi.2, o1 i hi.1]
        · cases ha
end
end

/-! ### hidden slots -/
theorem wipeR_len (ρ : Env) : ∀ vs : List Nat, (wipeR ρ vs).length = ρ.length
  | [] => rfl
  | v :: vs => by rw [wipeR, List.length_set, wipeR_len ρ vs]
theorem wipeR_out {ρ : Env} {i : Nat} : ∀ {vs : List Nat}, i ∉ vs → (wipeR ρ vs)[i]? = ρ[i]?
  | [], _ => rfl
  | v :: vs, h => by
    have h1 : v ≠ i := fun e => h (by rw [e]; exact List.mem_cons_self)
    rw [wipeR, List.getElem?_set_ne h1]
    exact wipeR_out fun e => h (List.mem_cons_of_mem _ e)
theorem wipeR_some {ρ : Env} {i : Nat} {s : Slot} : ∀ {vs : List Nat}, (wipeR ρ vs)[i]? = some s → s = .non ∨ (i ∉ vs ∧ ρ[i]? = some s)
  | [], h => .inr ⟨List.not_mem_nil, h⟩
  | v :: vs, h => by
    rw [wipeR] at h
    rcases get_set h with ⟨rfl, z⟩ | ⟨n, h⟩
    · exact .inl z
    · rcases wipeR_some h with z | ⟨z, z2⟩
      · exact .inl z
      · refine .inr ⟨fun e => ?_, z2⟩
        rcases List.mem_cons.mp e with e | e
        · exact n e.symm
        · exact z e
theorem unwipe_len (ρ ρ' : Env) : ∀ vs : List Nat, (unwipe ρ ρ' vs).length = ρ'.length
  | [] => rfl
  | v :: vs => by rw [unwipe, List.length_set, unwipe_len ρ ρ' vs]
theorem unwipe_some {ρ ρ' : Env} (hl : ρ.length = ρ'.length) {i : Nat} {s : Slot} : ∀ {vs : List Nat}, (unwipe ρ ρ' vs)[i]? = some s → (i ∈ vs ∧ ρ[i]? = some s) ∨ (i ∉ vs ∧ ρ'[i]? = some s)
  | [], h => .inr ⟨List.not_mem_nil, h⟩
  | v :: vs, h => by
    rw [unwipe] at h
    by_cases n : v = i
    · subst n
      have hv : v < ρ'.length := by
        have := (List.getElem?_eq_some_iff.mp h).1
        rw [List.length_set, unwipe_len] at this
        exact this
      rw [List.getElem?_set_self (by rw [unwipe_len]; exact hv)] at h
      rw [List.getElem?_eq_getElem (by rw [hl]; exact hv)] at h ⊢
      exact .inl ⟨List.mem_cons_self, h⟩
    · rw [List.getElem?_set_ne n] at h
      rcases unwipe_some hl h with ⟨z, z2⟩ | ⟨z, z2⟩
      · exact .inl ⟨List.mem_cons_of_mem _ z, z2⟩
      · refine .inr ⟨fun e => ?_, z2⟩
        rcases List.mem_cons.mp e with e | e
        · exact n e.symm
        · exact z e
theorem wipe_eq {σ σ' : L2.St} {vs : List Nat} (hl : σ'.length = σ.length) (h : ∀ i, i ∉ vs → σ'[i]? = (wipe σ vs)[i]?) : wipe σ' vs = wipe σ vs := by
  have gen : ∀ (us : List Nat), (∀ i, i ∈ us → i ∈ vs) → ∀ i, (i ∈ us ∨ i ∉ vs) → (wipe σ' us)[i]? = (wipe σ us)[i]? := by
    intro us
    induction us with
    | nil => intro _ i hi; rcases hi with z | z; · cases z
             · show σ'[i]? = σ[i]?
               rw [h i z, wipe_out z]
    | cons u us ih =>
      intro hs i hi
      unfold wipe
      by_cases e : u = i
      · subst e
        by_cases hu : u < σ.length
        · rw [List.getElem?_set_self (by rw [wipe_length, hl]; exact hu), List.getElem?_set_self (by rw [wipe_length]; exact hu)]
        · rw [List.getElem?_eq_none (by rw [List.length_set, wipe_length, hl]; omega), List.getElem?_eq_none (by rw [List.length_set, wipe_length]; omega)]
      · rw [List.getElem?_set_ne e, List.getElem?_set_ne e]
        refine ih (fun i hi => hs i (List.mem_cons_of_mem _ hi)) i ?_
        rcases hi with z | z
        · rcases List.mem_cons.mp z with z | z
          · exact absurd z.symm e
          · exact .inl z
        · exact .inr z
  refine List.ext_getElem? fun i => gen vs (fun _ h => h) i ?_
  by_cases hi : i ∈ vs
  · exact .inl hi
  · exact .inr hi
section
variable {K : PySem.W.Frag} {σ0 σ σ2 : L2.St} {ρ ρ1 ρ2 : Env} {H P H1 P1 H2 P2 : Hp} {vs : List Nat}
theorem own_wipe {a : Addr} (o : Own (wipe σ vs) (wipeR ρ vs) a) : Own σ ρ a := by
  obtain ⟨i, t, d, h1, h2⟩ := o
  rcases wipeR_some h1 with z | ⟨z, z2⟩
  · cases z
  · rw [wipe_out z] at h2
    exact ⟨i, t, d, z2, h2⟩
theorem FR.wipe (F : FR K cl σ0 σ H P ρ) : FR K cl σ0 (L2.wipe σ vs) H P (wipeR ρ vs) where
  sub := F.sub
  tb := F.tb
  len := by rw [wipeR_len, wipe_length, F.len]
  val := fun i t d h => by
    rcases wipeR_some h with z | ⟨z, z2⟩
    · cases z
    · rw [wipe_out z]; exact F.val i t d z2
  own := fun i t d h => by
    rcases wipeR_some h with z | ⟨z, z2⟩
    · cases z
    · rw [wipe_out z]; exact F.own i t d z2
  inj := fun i j t t' d d' a h1 h2 h3 h4 => by
    rcases wipeR_some h1 with z | ⟨z, z2⟩
    · cases z
    · rcases wipeR_some h2 with y | ⟨y, y2⟩
      · cases y
      · rw [wipe_out z] at h3
        rw [wipe_out y] at h4
        exact F.inj i j t t' d d' a z2 y2 h3 h4
  tag := fun i d h => by
    rcases h with h | h
    · rcases wipeR_some h with z | ⟨z, z2⟩
      · cases z
      · rw [wipe_out z]; exact F.tag i d (.inl z2)
    · rcases wipeR_some h with z | ⟨z, z2⟩
      · cases z
      · rw [wipe_out z]; exact F.tag i d (.inr z2)
theorem Step.wipeEnd (S : Step σ ρ H P σ2 ρ2 H2 P2) : Step σ ρ H P (L2.wipe σ2 vs) (wipeR ρ2 vs) H2 P2 := ⟨S.keep, S.mono, S.newP, fun a o => S.newO a (own_wipe o)⟩
/-- back from the block -/
theorem FR.unwipe (F1 : FR K cl σ0 σ H1 P1 ρ1) (F2 : FR K cl σ0 (L2.wipe σ vs) H2 P2 (wipeR ρ2 vs)) (S : Step (L2.wipe σ vs) (wipeR ρ1 vs) H1 P1 (L2.wipe σ vs) (wipeR ρ2 vs) H2 P2) :
    FR K cl σ0 σ H2 P2 (unwipe ρ1 ρ2 vs) ∧ Step σ ρ1 H1 P1 σ (unwipe ρ1 ρ2 vs) H2 P2 := by
  have hl : ρ1.length = ρ2.length := by
    have := F2.len
    rw [wipeR_len, wipe_length] at this
    rw [F1.len, this]
  have out : ∀ {i s}, i ∉ vs → ρ2[i]? = some s → (wipeR ρ2 vs)[i]? = some s := fun h e => by rw [wipeR_out h]; exact e
  have hid : ∀ i t d a, i ∈ vs → ρ1[i]? = some (.own t d) → σ[i]? = some (some (V.ref a)) → ¬ Own (L2.wipe σ vs) (wipeR ρ1 vs) a := fun i t d a hi h1 h2 o => by
    obtain ⟨j, t', d', h3, h4⟩ := o
    rcases wipeR_some h3 with z | ⟨z, z2⟩
    · cases z
    · rw [wipe_out z] at h4
      have := F1.inj i j t t' d d' a h1 z2 h2 h4
      subst this
      exact z hi
  have ho : ∀ a, Own σ (MP.unwipe ρ1 ρ2 vs) a → Nw H1 a ∨ Own σ ρ1 a := fun a ⟨i, t, d, h1, h2⟩ => by
    rcases unwipe_some hl h1 with ⟨z, z2⟩ | ⟨z, z2⟩
    · exact .inr ⟨i, t, d, z2, h2⟩
    · rcases S.newO a ⟨i, t, d, out z z2, by rw [wipe_out z]; exact h2⟩ with y | y
      · exact .inl y
      · exact .inr (own_wipe y)
  refine ⟨⟨F2.sub, by rw [unwipe_len, ← hl, F1.len], fun i t d h => ?_, fun i t d h => ?_, fun i j t t' d d' a h1 h2 h3 h4 => ?_, fun i d h => ?_, F2.tb⟩, ⟨fun a o h nt n => S.keep a o h nt fun o' => n (own_wipe o'), S.mono, fun a h h' => ?_, ho⟩⟩
  · rcases unwipe_some hl h with ⟨z, z2⟩ | ⟨z, z2⟩
    · obtain ⟨v, g1, g2⟩ := F1.val i t d z2
      exact ⟨v, g1, g2.mono S.mono⟩
    · have := F2.val i t d (out z z2)
      rw [wipe_out z] at this
      exact this
  · rcases unwipe_some hl h with ⟨z, z2⟩ | ⟨z, z2⟩
    · obtain ⟨v, g1, g2⟩ := F1.own i t d z2
      exact ⟨v, g1, (g2.step (fun a e => by subst e; exact hid i t d a z z2 g1) S).1⟩
    · have := F2.own i t d (out z z2)
      rw [wipe_out z] at this
      exact this
  · have mix : ∀ {i j t t' d d'}, i ∈ vs → ρ1[i]? = some (.own t d) → σ[i]? = some (some (V.ref a)) → j ∉ vs → ρ2[j]? = some (.own t' d') → σ[j]? = some (some (V.ref a)) → False := fun {i j t t' d d'} hi e1 e2 hj e3 e4 => by
      rcases S.newO a ⟨j, t', d', out hj e3, by rw [wipe_out hj]; exact e4⟩ with y | y
      · obtain ⟨vs', h5, _, h6, _⟩ := F1.own_at ⟨i, t, d, e1, e2⟩
        exact (y.noO h5 h6).elim
      · exact hid i t d a hi e1 e2 y
    rcases unwipe_some hl h1 with ⟨z, z2⟩ | ⟨z, z2⟩
    · rcases unwipe_some hl h2 with ⟨y, y2⟩ | ⟨y, y2⟩
      · exact F1.inj i j t t' d d' a z2 y2 h3 h4
      · exact (mix z z2 h3 y y2 h4).elim
    · rcases unwipe_some hl h2 with ⟨y, y2⟩ | ⟨y, y2⟩
      · exact (mix y y2 h4 z z2 h3).elim
      · exact F2.inj i j t t' d d' a (out z z2) (out y y2) (by rw [wipe_out z]; exact h3) (by rw [wipe_out y]; exact h4)
  · rcases h with h | h
    · rcases unwipe_some hl h with ⟨z, z2⟩ | ⟨z, z2⟩
      · exact F1.tag i d (.inl z2)
      · have := F2.tag i d (.inl (out z z2))
        rw [wipe_out z] at this
        exact this
    · rcases unwipe_some hl h with ⟨z, z2⟩ | ⟨z, z2⟩
      · exact F1.tag i d (.inr z2)
      · have := F2.tag i d (.inr (out z z2))
        rw [wipe_out z] at this
        exact this
  · rcases S.newP a h h' with y | y
    · exact .inl y
    · exact .inr (own_wipe y)
/-- the heap grows, and so does what never changes -/
theorem FR.grow2 (F : FR K cl σ0 σ H P ρ) (h1 : Same H H1) (h2 : Same P P1) (h3 : Same P1 H1) (h6 : ∀ a o, P1 a = some o → P a = some o ∨ (H a = Option.none ∧ ∀ ps, o ≠ .tbl ps)) : FR K cl σ0 σ H1 P1 ρ ∧ Step σ ρ H P σ ρ H1 P1 := by
  have h5 : ∀ a ps, P1 a ≠ some (.tbl ps) := fun a ps e => by
    rcases h6 a _ e with z | ⟨_, z⟩
    · exact F.tb.nt a ps z
    · exact z ps rfl
  have h4 : ∀ a, P a = Option.none → P1 a ≠ Option.none → H a = Option.none := fun a e e1 => by
    cases z : P1 a with
    | none => exact absurd z e1
    | some o =>
      rcases h6 a o z with y | ⟨y, _⟩
      · rw [e] at y; cases y
      · exact y
  refine ⟨⟨h3, F.len, fun i t d h => ?_, fun i t d h => ?_, F.inj, F.tag, ⟨F.tb.tabs.ext h1, h5⟩⟩, ⟨fun a o h _ _ => h1 a o h, h2, fun a e1 e2 => .inl (.of (h4 a e1 e2)), fun a o => .inr o⟩⟩
  · obtain ⟨v, g1, g2⟩ := F.val i t d h
    exact ⟨v, g1, g2.mono h2⟩
  · obtain ⟨v, g1, a, us, rfl, g2, g3, g4⟩ := F.own i t d h
    refine ⟨_, g1, a, us, rfl, h1 _ _ g2, ?_, g4.mono h2⟩
    cases e : P1 a with
    | none => rfl
    | some u =>
      have := h4 a g3 (by rw [e]; exact fun z => nomatch z)
      rw [g2] at this
      cases this
end
section
variable {tb : Tb} {cl : Wd} {call : Nat → List Slot → Out} {X : Cx} {N : List Str} {sc : Scope} {fnB : Str → Bool} {W : WX} {σ0 : L2.St}
abbrev W0 : WX := fun _ _ _ _ => False
theorem comp_imp {elt : C} {tg : Tg} {it : I} {ifs : CO} {own : List Nat} {σ : L2.St} {H : Hp} {Q : VK} (ht : ∀ i, i ∈ tgs tg → i ∈ own) (h : CA cl call X W σ0 (.cmpr elt tg it ifs own) σ H Q) :
    tLc (CI cl call X W σ0 it) (CG X.K cl σ0 tg) (Can X.K cl rB W0 σ0 (evIf call ifs)) (Can X.K cl (rD X.K cl) W0 σ0 (fun ρ => bnd (ev call elt ρ) frzM)) own σ H Q := by
  obtain ⟨ρ, P, F, R⟩ := h
  rw [ev] at R
  refine (Res.bnd (R1 := rI X.K cl) F Step.refl R).mono fun J H1 ⟨ds, ρ1, P1, F1, S1, _, jok, R1⟩ => ?_
  have jok : JOk X.K cl J P1 ds := jok
  split at R1
  · rename_i hz
    intro D hD
    -- what the turns make
    cases ec : compL own tg (fun ρ => evIf call ifs ρ) (fun ρ => bnd (ev call elt ρ) frzM) ds ρ1 with
    | none => rw [ec] at R1; exact (R1 : False).elim
    | some q =>
      obtain ⟨x, ρ2⟩ := q
      rw [ec] at R1
      cases x with
      | error x => exact (R1 : False).elim
      | ok xs =>
        have R2 : Res X.K cl (rA X.K cl) W σ0 σ ρ H P (ok (.frs (.lst xs)) (unwipe ρ1 ρ2 own)) Q := R1
        refine ⟨fun i m H' => m = ds.length - i ∧ i ≤ ds.length ∧ ∃ ρi Pi acc don xsr, FR X.K cl σ0 (wipe σ own) H' Pi (wipeR ρi own) ∧ Step (wipe σ own) (wipeR ρ1 own) H1 P1 (wipe σ own) (wipeR ρi own) H' Pi ∧
          compL own tg (fun ρ => evIf call ifs ρ) (fun ρ => bnd (ev call elt ρ) frzM) (ds.drop i) ρi = some (.ok xsr, ρ2) ∧ don ++ xsr = xs ∧ don.length ≤ i ∧ H' D = some (.lst acc) ∧ Pi D = none ∧ Rps X.K cl Pi acc don ∧ ¬ Own (wipe σ own) (wipeR ρi own) D,
          ⟨ds.length, rfl, Nat.zero_le _, ρ1, P1, [], [], xs, F1.wipe.grow hD, Step.grow hD, ec, rfl, Nat.le_refl _, upd_same, F1.none hD, .nil, (F1.wipe (vs := own)).notOwn hD⟩, ?_⟩
        rintro i m H' ⟨rfl, hi, ρi, Pi, acc, don, xsr, Fi, Si, ei, ex, hd, hD', pD, racc, nD⟩
        by_cases hlt : i < ds.length
        · have hdr : ds.drop i = ds[i] :: ds.drop (i + 1) := List.drop_eq_getElem_cons hlt
          rw [hdr] at ei
          obtain ⟨go, yld⟩ := (jok H' Pi Si.mono Fi.sub i).1 ds[i] (List.getElem?_eq_getElem hlt)
          refine .inr ⟨go, fun H' => ∃ m', m' = ds.length - (i + 1) ∧ i + 1 ≤ ds.length ∧ ∃ ρi Pi acc don xsr, FR X.K cl σ0 (wipe σ own) H' Pi (wipeR ρi own) ∧ Step (wipe σ own) (wipeR ρ1 own) H1 P1 (wipe σ own) (wipeR ρi own) H' Pi ∧
            compL own tg (fun ρ => evIf call ifs ρ) (fun ρ => bnd (ev call elt ρ) frzM) (ds.drop (i + 1)) ρi = some (.ok xsr, ρ2) ∧ don ++ xsr = xs ∧ don.length ≤ i + 1 ∧ H' D = some (.lst acc) ∧ Pi D = none ∧ Rps X.K cl Pi acc don ∧ ¬ Own (wipe σ own) (wipeR ρi own) D,
            fun H' ⟨m', em, hh⟩ => ⟨m', by omega, em, hh⟩, fun x H3 y => ?_⟩
          obtain ⟨P3, p1, p2, p3, p4, rx⟩ := yld x H3 y
          obtain ⟨F3, S3⟩ := Fi.grow2 p3 p1 p2 p4
          rw [compL] at ei
          cases ea : asgT tg ds[i] (wipeR ρi own) with
          | none => rw [ea] at ei; cases ei
          | some ρa =>
            rw [ea] at ei
            dsimp only at ei
            refine ⟨wipeR ρi own, P3, ds[i], F3, rx, ρa, ea, fun σ2 F4 S4 off => ?_⟩
            have hw : wipe σ2 own = wipe σ own := by
              refine wipe_eq ?_ fun i hi => off i fun z => hi (ht i z)
              rw [← F4.len]
              have h1 := F3.len
              have h2 := asgT_len ea
              rw [wipe_length] at h1
              rw [h2, h1]
            refine ⟨hw, ?_⟩
            have C0 : Cont X.K cl H' Pi (.ref D) (.lst don) := .ofL hD' pD racc
            have N0 : ∀ a, V.ref D = V.ref a → ¬ Own (wipe σ own) (wipeR ρi own) a := fun a e => by injection e with e; subst e; exact nD
            obtain ⟨C4, N4⟩ := C0.step N0 (S3.trans S4)
            obtain ⟨k, ρb, eb, ei⟩ := bnd_some ei
            refine ⟨ρa, P3, F4, ?_⟩
            rw [show evIf call ifs ρa = some (.ok k, ρb) from eb]
            intro b H5 P5 F5 S5 rb
            cases (show b = k from rb)
            obtain ⟨C5, N5⟩ := C4.step N4 S5
            cases k with
            | false =>
              rw [if_neg Bool.false_ne_true] at ei ⊢
              obtain ⟨a, acc', e1, g1, g2, g3⟩ := C5.l
              cases e1
              refine ⟨_, rfl, hlt, ρb, P5, acc', don, xsr, by rw [← hw]; exact F5.wipe, ?_, ei, ex, by omega, g1, g2, g3, fun o => ?_⟩
              · have := ((Si.trans (S3.trans S4)).trans S5).wipeEnd (vs := own)
                rw [hw] at this
                exact this
              · rw [← hw] at o
                exact N5 D rfl (own_wipe o)
            | true =>
              rw [if_pos rfl] at ei ⊢
              obtain ⟨z, ρc, ee, ei⟩ := bnd_some ei
              obtain ⟨zs, ρd, ef, ei⟩ := bnd_some ei
              cases ei
              refine ⟨ρb, P5, F5, ?_⟩
              dsimp only
              rw [show bnd (ev call elt ρb) frzM = some (.ok z, ρc) from ee]
              intro y H6 P6 F6 S6 ry
              obtain ⟨C6, N6⟩ := C5.step N5 S6
              obtain ⟨a, acc', e1, g1, g2, g3⟩ := C6.l
              cases e1
              have ry : Rp X.K cl P6 y z := ry
              have nD6 := N6 D rfl
              refine ⟨acc', g1, by rw [g3.length]; have : (sizeLine : Nat) = 16777216 := by decide
                                   omega, _, rfl, hlt, ρc, P6, acc' ++ [y], don ++ [z], zs, ?_, ?_, ef, by rw [List.append_assoc]; exact ex, by rw [List.length_append]; simp only [List.length_singleton]; omega, upd_same, g2, g3.append (.cons ry .nil), fun o => ?_⟩
              · rw [← hw]
                exact (F6.updH g2 nD6 (Tabs.upd F6.tb.tabs g1)).wipe
              · have := (((Si.trans (S3.trans S4)).trans S5).trans S6).wipeEnd (vs := own)
                rw [hw] at this
                exact this.updH hD
              · rw [← hw] at o
                exact nD6 (own_wipe o)
        · have ei2 : ds.drop i = [] := List.drop_eq_nil_of_le (by omega)
          rw [ei2, compL] at ei
          cases ei
          rw [List.append_nil] at ex
          subst ex
          refine .inl ⟨(jok H' Pi Si.mono Fi.sub i).2 (by omega), ?_⟩
          obtain ⟨G1, G2⟩ := F1.unwipe Fi Si
          refine R2 _ _ _ G1 (S1.trans G2) ⟨⟨.ofL hD' pD racc, fun b e o => ?_⟩, fun _ _ b e => ?_⟩
          · injection e with e
            subst e
            rcases G2.newO _ o with z | z
            · obtain ⟨i', t, d, h1, h2⟩ := o
              have hl : ρ1.length = ρ2.length := by
                have h1 := Fi.len
                have h2 := F1.len
                rw [wipeR_len, wipe_length] at h1
                omega
              rcases unwipe_some hl h1 with ⟨y, y2⟩ | ⟨y, y2⟩
              · obtain ⟨us, q1, _⟩ := F1.own_at ⟨i', t, d, y2, h2⟩
                rw [hD] at q1
                cases q1
              · exact nD ⟨i', t, d, by rw [wipeR_out y]; exact y2, by rw [wipe_out y]; exact h2⟩
            · exact F1.notOwn hD z
          · injection e with e
            subst e
            exact S1.none (.of hD)
  · exact (R1 : False).elim
end
end MP
set_option Elab.async false
set_option linter.all false
set_option maxRecDepth 100000
set_option maxHeartbeats 2000000
/-! MP: try with several clauses, each with a name or without -/
namespace MP
open PySem PySem.Spec PyProof.Rows L2
section
variable {X : Cx}
theorem ps_imp {st : Stmt} {t t' : TS} (h : PS X st t) (f : ∀ D σ H, t' D σ H → t D σ H) : PS X st t' := ⟨fun pins s σ H D I q => h.run pins s σ H D I (f D σ H q)⟩
theorem pss_imp {st : List Stmt} {t t' : TS} (h : PSs X st t) (f : ∀ D σ H, t' D σ H → t D σ H) : PSs X st t' := ⟨fun pins s σ H D I q => h.run pins s σ H D I (f D σ H q)⟩
end
/-- behind a clause with a name the name is gone -/
def unE (i : Nat) (D : Ends) : Ends := { nx := fun σ' H' => D.nx (σ'.set i none) H', rt := D.rt, bk := fun σ' H' => D.bk (σ'.set i none) H', ct := fun σ' H' => D.ct (σ'.set i none) H' }
abbrev Cls := Value × Option Nat × (Addr → Value → Option Addr → TS)
/-- what one clause does with an exception at a -/
def oneN (D : Ends) (a : Addr) (cls : Value) (d : Option Addr) (σ : L2.St) (H : Hp) (q : Cls) : Prop := match q.2.1 with
  | none => q.2.2 a cls d D σ H
  | some i => q.2.2 a cls d (unE i D) (σ.set i (some (.ref a))) H
def wN (K : PySem.W.Frag) (n : Nat) (Wout : WX) (D : Ends) : List Cls → WX
  | [] => Wout
  | q :: r => fun cls d σ H => ∃ b, PySem.W.exmOne K cls q.1 = some b ∧ (b = true → σ.length = n → ∀ a, H a = none → oneN D a cls d σ H q) ∧ (b = false → wN K n Wout D r cls d σ H)
abbrev SuiteOk (X : Cx) (suite : List Stmt) (ts : Addr → Value → Option Addr → TS) : Prop :=
  ∀ (a : Addr) (oe : Obj) (cls : Value) (d : Option Addr) (pn : List (Addr × Obj)), Zc cls d oe → (∃ vs, oe.data = .fields vs) → PSs (X.suite a ((a, oe) :: pn)) suite (ts a cls d)
inductive HdN (X : Cx) : List ExceptHandler → List Cls → Prop
  | nil : HdN X [] []
  | plain {x : Str} {c : Value} {ts : Addr → Value → Option Addr → TS} {b₀ : Stmt} {suite : List Stmt} {np pos' : Pos} {hds : List ExceptHandler} {l : List Cls} : Names X x c → SuiteOk X (b₀ :: suite) ts → HdN X hds l →
      HdN X (.ExceptHandler (some (.Name x np)) none (b₀ :: suite) pos' :: hds) ((c, none, ts) :: l)
  | named {x n : Str} {i : Nat} {c : Value} {ts : Addr → Value → Option Addr → TS} {b₀ : Stmt} {suite : List Stmt} {np pos' : Pos} {hds : List ExceptHandler} {l : List Cls} : Names X x c → X.N[i]? = some n → X.env.kindOf n = some .local → SuiteOk X (b₀ :: suite) ts → HdN X hds l →
      HdN X (.ExceptHandler (some (.Name x np)) (some n) (b₀ :: suite) pos' :: hds) ((c, some i, ts) :: l)
section
variable {X : Cx} {body : List Stmt} {h₀ : ExceptHandler} {hds : List ExceptHandler} {l : List Cls} {pos : Pos} {tb : WX → TS} {Wout : WX}
theorem ps_try_n (hs : X.stack = X.env :: X.outer) (hf : X.env.frame = some X.env.locals) (hN : X.N.Nodup) (tk : Takes X Wout)
    (hb : ∀ (W : WX) (pn : List (Addr × Obj)) (xe : Value → Shared → Prop), Takes (X.tr pn xe) W → PassesOwn (model X.prog X.w) X.A X.env xe → PSs (X.tr pn xe) body (tb W))
    (hh : HdN X (h₀ :: hds) l) : PS X (.Try body (h₀ :: hds) [] [] pos) (fun D σ H => tb (wN X.K X.N.length Wout D l) D σ H) := by
  refine ⟨fun pins s σ H D I h => ?_⟩
  have ok := I.ok
  have hfr : X.A.frames = some (X.env :: X.outer) := by rw [ok.frames, hs]
  refine wpAny_Try_except ?_
  refine wpAny_mono ((hb (wN X.K X.N.length Wout D l) (X.pn ++ pins) (fun e s₁ => wpAny (model X.prog X.w) X.A (noteFrame e X.env) (fun _ s₂ => wpAny (model X.prog X.w) X.A (setFlight e none) (fun _ s₃ =>
    wpAny (model X.prog X.w) X.A (handleBy e X.env (h₀ :: hds)) (SP X pins D) X.xe s₃) X.xe s₂) X.xe s₁) (fun u s' xx => ?_) PassesOwn.looking).run [] s σ H D (I.toTry _) h) (fun f s1 hsp => ?_) (fun e s1 he => he)
  · obtain ⟨a, B, sI, pins', σ', H', cls, d, rfl, J', nb, up, sky, na, os, ag, w⟩ := xx
    have J : Inv X pins σ' H' sI := J'.ofTry ok
    have sky' : Sky B (X.env :: X.outer) a (Zc cls d) X.env.locals s'.heap := by rw [← hs]; exact sky
    show wpAny (model X.prog X.w) X.A (noteFrame (.ref a) X.env) _ _ _
    refine Sky.land Zc.steady hfr hf sky' fun h3 fl3 up3 => ?_
    have J3 : Inv X pins σ' H' { s' with heap := h3 } := J.landed nb fl3.1 (up.trans up3) os ag
    obtain ⟨oe3, vs3, he3, hz3, hd3⟩ := fl3.there
    -- the exception's object is no frame
    have nfr : a ∉ frs (X.env :: X.outer) := fun hm => by
      obtain ⟨_, o', e', hnf⟩ := fl3.2.2.1.mem hm
      rw [he3] at e'; cases e'
      exact hnf _ hd3
    have nL : a ≠ X.env.locals := fun z => nfr (List.mem_filterMap.mpr ⟨X.env, List.mem_cons_self, by rw [hf, z]⟩)
    have nF : a ∉ X.fs := fun hm => by
      obtain ⟨e, he, q⟩ := List.mem_filterMap.mp hm
      exact nfr (List.mem_filterMap.mpr ⟨e, List.mem_cons_of_mem _ he, q⟩)
    have S3 := J3.suite he3 hd3 na nL nF
    have LT : PySem.W.Looks (model X.prog X.w) h3 (typeOf (.ref a)) cls := fun A Q E s k q => wpAny_typeOf_ref (k _ _ he3) (by rw [hz3.1]; exact q)
    -- a clause's class is looked up
    have test : ∀ {x : Str} {c : Value} {np : Pos} {Q : Value → Shared → Prop} {E : Value → Shared → Prop}, Names X x c → Q c { s' with heap := h3 } → wpAny (model X.prog X.w) (X.A.mark (some (.ref a))) (eval (.Name x np) X.env) Q E { s' with heap := h3 } := fun {x c np Q E} hc q => by
      obtain ⟨hg, hdbg, hm | ⟨hm, hv, hnn⟩⟩ := hc
      · exact ld_glob (X := X.suite a ((a, oe3) :: (X.pn ++ pins))) S3 hg hm q hdbg
      · exact ld_blt (X := X.suite a ((a, oe3) :: (X.pn ++ pins))) S3 hg hm hv q hnn hdbg
    -- a suite runs: without a name
    have runP : ∀ {b₀ : Stmt} {suite : List Stmt} {ts : Addr → Value → Option Addr → TS} {s4 : Shared} {oe : Obj}, SuiteOk X (b₀ :: suite) ts → Zc cls d oe → (∃ vs, oe.data = .fields vs) → Inv (X.suite a ((a, oe) :: (X.pn ++ pins))) [] σ' H' s4 → ts a cls d D σ' H' →
        wpAny (model X.prog X.w) (X.A.mark (some (.ref a))) (PySem.execs (b₀ :: suite) X.env) (SP X pins D) (fun _ _ => False) s4 := fun {b₀ suite ts s4 oe} hsu hz hdd S4 q => by
      refine wpAny_mono ((hsu a oe cls d (X.pn ++ pins) hz hdd).run [] _ _ H' _ S4 q) (fun f s6 hsp => ?_) (fun _ _ z => False.elim z)
      match f, hsp with
      | .next, ⟨_, _, S6, q6⟩ => exact ⟨_, _, S6.unsuite ok, q6⟩
      | .brk, ⟨_, _, S6, q6⟩ => exact ⟨_, _, S6.unsuite ok, q6⟩
      | .cont, ⟨_, _, S6, q6⟩ => exact ⟨_, _, S6.unsuite ok, q6⟩
      | .ret u, ⟨_, _, _, S6, r6, q6⟩ => exact ⟨_, _, _, S6.unsuite ok, r6, q6⟩
    have go : ∀ {hds' : List ExceptHandler} {l' : List Cls}, HdN X hds' l' → wN X.K X.N.length Wout D l' cls d σ' H' →
        wpAny (model X.prog X.w) X.A (handleBy (.ref a) X.env hds') (SP X pins D) X.xe { s' with heap := h3 } := by
      intro hds' l' hk
      induction hk with
      | nil =>
        intro w
        refine wpAny_handleBy_nil ?_
        obtain ⟨k1, k2, k3, oe, vs, T, oT, ts', he, hz, hd, h1, hr⟩ := id fl3
        unfold PySem.passOn
        refine wpAny_bind (wpAny_field he hd h1 ?_)
        rw [if_neg (show ¬ ((Value.ref T == Value.none) = true) from by simp)]
        have fin : wpAny (model X.prog X.w) X.A (setFlight (.ref a) X.env.frame) (fun _ s4 => wpAny (model X.prog X.w) X.A (throw (.ref a) : Sem PySem.Flow) (SP X pins D) X.xe s4) X.xe { s' with heap := h3 } := by
          rw [hf]
          refine HandSPX.setFlight_upZ fl3 fun h4 hh4 up4 => wpAny_throw (tk _ _ ?_)
          exact ⟨a, B, sI, pins, σ', H', cls, d, rfl, J, nb, (up.trans up3).trans up4, .inr (.inr (by rw [hs]; exact hh4)), na, os, ag, w⟩
        first
          | exact wpAny_bind (wpAny_pure (wpAny_bind fin))
          | exact wpAny_bind fin
      | @plain x c ts b₀ suite np pos' hds2 l2 hc hsu r ih =>
        intro w
        obtain ⟨b, hb1, hyes, hno⟩ := w
        refine wpAny_handleBy_cons (codeAny_handlers_test ?_) (by intro q; cases q)
        refine test hc ((PySem.W.exm_one (M := model X.prog X.w) J3.kIn LT hb1).here ?_)
        cases b with
        | false => exact ih (hno rfl)
        | true =>
          refine codeAny_handlers_suite ?_
          refine HandSPX.lands_againZ fl3 fun h4 fl4 up4 => ?_
          obtain ⟨oe4, vs4, he4, hz4, hd4⟩ := fl4.there
          have J4 : Inv X pins σ' H' { s' with heap := h4 } := J.landed nb fl4.1 ((up.trans up3).trans up4) os ag
          exact wpAny_mono (runP hsu hz4 ⟨_, hd4⟩ (J4.suite he4 hd4 na nL nF) (hyes rfl J.len a na)) (fun _ _ z => z) (fun _ _ z => False.elim z)
      | @named x n i c ts b₀ suite np pos' hds2 l2 hc hi hln hsu r ih =>
        intro w
        obtain ⟨b, hb1, hyes, hno⟩ := w
        refine wpAny_handleBy_cons (codeAny_handlers_test ?_) (by intro q; cases q)
        refine test hc ((PySem.W.exm_one (M := model X.prog X.w) J3.kIn LT hb1).here ?_)
        cases b with
        | false => exact ih (hno rfl)
        | true =>
          refine codeAny_handlers_suite_as ?_
          refine HandSPX.lands_againZ fl3 fun h4 fl4 up4 => ?_
          obtain ⟨oe4, vs4, he4, hz4, hd4⟩ := fl4.there
          have J4 : Inv X pins σ' H' { s' with heap := h4 } := J.landed nb fl4.1 ((up.trans up3).trans up4) os ag
          have S4 := J4.suite he4 hd4 na nL nF
          refine store_ok (X := X.suite a ((a, oe4) :: (X.pn ++ pins))) (v := .ref a) S4 hN hi (.inl hln) rfl (fun s5 S5 => ?_) (.inr hln)
          refine wpAny_mono ((hsu a oe4 cls d (X.pn ++ pins) hz4 ⟨_, hd4⟩).run [] s5 _ H' _ S5 (hyes rfl J.len a na)) (fun f s6 hsp => ?_) (fun _ _ z => False.elim z)
          match f, hsp with
          | .next, ⟨_, _, S6, q6⟩ => exact gone_ok (S6.unsuite ok) hN hi hln fun s7 J7 => ⟨_, _, J7, q6⟩
          | .brk, ⟨_, _, S6, q6⟩ => exact gone_ok (S6.unsuite ok) hN hi hln fun s7 J7 => ⟨_, _, J7, q6⟩
          | .cont, ⟨_, _, S6, q6⟩ => exact gone_ok (S6.unsuite ok) hN hi hln fun s7 J7 => ⟨_, _, J7, q6⟩
          | .ret u, ⟨_, _, _, S6, r6, q6⟩ => exact gone_ok (S6.unsuite ok) hN hi hln fun s7 J7 => ⟨_, _, _, J7, r6, q6⟩
    exact go hh w
  · match f, hsp with
    | .next, ⟨_, _, J', q⟩ => exact wpAny_execs_nil ⟨_, _, J'.ofTry ok, q⟩
    | .brk, ⟨_, _, J', q⟩ => exact ⟨_, _, J'.ofTry ok, q⟩
    | .cont, ⟨_, _, J', q⟩ => exact ⟨_, _, J'.ofTry ok, q⟩
    | .ret u, ⟨_, _, _, J', r, q⟩ => exact ⟨_, _, _, J'.ofTry ok, r, q⟩
end
end MP
set_option Elab.async false
set_option linter.all false
set_option maxRecDepth 100000
set_option maxHeartbeats 2000000
/-! MP: a def that calls the lambda it is handed, and tells what is raised -/
namespace MP
open PySem PySem.Spec PyProof.Rows L2
/-! ### what a clause tells -/
/-- one part's text, of the error at a (its class cls, its dict d), which slot i names -/
def ptOk (K : PySem.W.Frag) (cl : Wd) (C : Addr) (f : Str) (i : Option Nat) (a : Addr) (cls : Value) (d : Option Addr) (σ : L2.St) (H : Hp) (p : Pt) (y : Str) : Prop := match p with
  | .s x => y = x
  | p => ∃ n dd v e, i = some n ∧ σ[n]? = some (some (.ref a)) ∧ cls = .ref C ∧ d = some dd ∧ H dd = some (.xd [(f, v)]) ∧ Rp K cl H v e ∧ Pt.tell (some e) p = some y
inductive PtsOk (R : Pt → Str → Prop) : List Pt → List Str → Prop
  | nil : PtsOk R [] []
  | cons {p y ps ys} : R p y → PtsOk R ps ys → PtsOk R (p :: ps) (y :: ys)
section
variable {cl : Wd} {X : Cx} {a C : Addr} {oe : Obj} {cls : Value} {d : Option Addr} {pn : List (Addr × Obj)} {n f : Str} {i : Nat}
/-- what is needed of a clause's class for its field to be read, and of the def around -/
structure FldOk (X : Cx) (C : Addr) (f n : Str) (i : Nat) : Prop where
  xf : XfC X.K C
  noN : PySem.W.findIn X.K (.ref C) f = some none
  hN : X.N[i]? = some n
  vis : Vis X.env.scope n
  odd : oddB n = false
  rep : X.mg "repr" = none
  gds : X.A.guards = some []
  units : X.A.units + 65 < cLine
theorem pe_repr (F : FldOk X C f n i) (hz : Zc cls d oe) (hf : ∃ vs, oe.data = .fields vs) {e : Expr} (h : isRepr X.env.scope n f e = true) :
    PE (X.suite a ((a, oe) :: pn)) e (fun σ H Q => ∃ y, ptOk X.K cl C f (some i) a cls d σ H .r y ∧ Q (.str y) H) := by
  unfold isRepr at h
  split at h
  · simp only [Bool.and_eq_true, decide_eq_true_eq] at h
    obtain ⟨⟨⟨rfl, h2⟩, rfl⟩, rfl⟩ := h
    obtain ⟨o1, o2, o3⟩ := odd_of F.odd
    refine pe_imp (pe_callB (X := X.suite a ((a, oe) :: pn)) (cr_reprv (cl := cl) (X := X.suite a ((a, oe) :: pn)) F.gds F.units) (gl_of h2) F.rep (by decide +kernel) (pa_cons (pe_xf F.xf F.noN hz hf (pe_var (X := X.suite a ((a, oe) :: pn)) (i := i) F.hN F.vis o1 o2)) pa_nil rfl)) fun σ H Q ⟨y, hy, q⟩ => ?_
    obtain ⟨m, dd, v, ev, e1, e2, e3, e4, e5, e6, e7⟩ := hy
    cases e1
    exact ⟨.ref a, e2, rfl, e3, dd, _, v, e4, e5, by simp [List.lookup], v, ev, y, rfl, e6, e7, q⟩
  · cases h
theorem pe_pt {p : Pt} (F : (∀ x, p ≠ .s x) → FldOk X C f n i) (hz : Zc cls d oe) (hf : ∃ vs, oe.data = .fields vs) {e : Expr} (h : ptB X.env.scope n f p e = true) :
    PE (X.suite a ((a, oe) :: pn)) e (fun σ H Q => ∃ y, ptOk X.K cl C f (some i) a cls d σ H p y ∧ Q (.str y) H) := by
  cases p with
  | s x =>
    simp only [ptB] at h
    split at h
    · rw [decide_eq_true_eq] at h
      subst h
      exact pe_imp pe_str fun σ H Q ⟨y, e, q⟩ => by
        have e : y = _ := e
        subst e
        exact q
    · cases h
  | r => exact pe_repr (F fun _ z => nomatch z) hz hf h
  | sr x =>
    simp only [ptB] at h
    split at h
    · simp only [Bool.and_eq_true, decide_eq_true_eq] at h
      obtain ⟨rfl, h2⟩ := h
      refine pe_imp (pe_op op_add_str pe_str (pe_repr (cl := cl) (F fun _ z => nomatch z) hz hf h2)) fun σ H Q ⟨y, hy, q⟩ => ?_
      obtain ⟨m, dd, v, ev, e1, e2, e3, e4, e5, e6, e7⟩ := hy
      simp only [Pt.tell] at e7
      cases e8 : reprS ev with
      | none => rw [e8] at e7; cases e7
      | some y' =>
        rw [e8] at e7
        dsimp only at e7
        split at e7
        · rename_i hl
          cases e7
          exact ⟨y', ⟨m, dd, v, ev, e1, e2, e3, e4, e5, e6, e8⟩, _, _, rfl, rfl, hl, q⟩
        · cases e7
    · cases h
theorem pa_pts : ∀ {ps : List Pt} {es : List Expr}, (∀ p ∈ ps, (∀ x, p ≠ .s x) → FldOk X C f n i) → Zc cls d oe → (∃ vs, oe.data = .fields vs) → ptsB X.env.scope n f ps es = true →
    PA (X.suite a ((a, oe) :: pn)) es (fun σ H Q => ∃ ys, PtsOk (ptOk X.K cl C f (some i) a cls d σ H) ps ys ∧ Q (ys.map V.str) H)
  | [], [], _, _, _, _ => pa_imp pa_nil fun σ H Q ⟨ys, h, q⟩ => by cases h; exact q
  | p :: ps, e :: es, F, hz, hf, h => by
    simp only [ptsB, Bool.and_eq_true, Bool.not_eq_true'] at h
    refine pa_imp (pa_cons (pe_pt (cl := cl) (F p (List.mem_cons_self ..)) hz hf h.1.1) (pa_pts (fun q hq => F q (List.mem_cons_of_mem _ hq)) hz hf h.2) (star_each h.1.2 _ _)) fun σ H Q ⟨ys, hy, q⟩ => ?_
    cases hy with
    | cons h1 h2 => exact ⟨_, h1, _, h2, q⟩
  | [], _ :: _, _, _, _, h => by simp [ptsB] at h
  | _ :: _, [], _, _, _, h => by simp [ptsB] at h
end
theorem pts_len {R : Pt → Str → Prop} : ∀ {ps : List Pt} {ys : List Str}, PtsOk R ps ys → ys.length = ps.length
  | _, _, .nil => rfl
  | _, _, .cons _ t => by rw [List.length_cons, List.length_cons, pts_len t]
/-- what a clause's suite reads -/
def tTell (K : PySem.W.Frag) (cl : Wd) (C : Addr) (f : Str) (i : Nat) (ps : List Pt) (a : Addr) (cls : Value) (d : Option Addr) : TS := fun D σ H =>
  ∃ ys, PtsOk (ptOk K cl C f (some i) a cls d σ H) ps ys ∧ ∀ p, H p = none → D.rt (.ref p) (upd H p (.tup (ys.map V.str)))
/-! ### the clauses -/
theorem pa_strs {X : Cx} : ∀ {ss : List Str} {es : List Expr}, strsB ss es = true → PA X es (fun _ H Q => Q (ss.map V.str) H)
  | [], [], _ => pa_imp pa_nil fun σ H Q q => q
  | x :: xs, .Constant (.str y) _ _ :: es, h => by
    simp only [strsB, Bool.and_eq_true, decide_eq_true_eq] at h
    obtain ⟨rfl, h2⟩ := h
    exact pa_imp (pa_cons pe_str (pa_strs h2) rfl) fun σ H Q q => q
  | [], _ :: _, h => by simp [strsB] at h
  | _ :: _, [], h => by simp [strsB] at h
/-! ### the def's promise -/
def okW (md : Md) (Q : VK) (H : Hp) : Prop := ∀ p, H p = none → Q (.ref p) (upd H p (.tup (md.dflt.map V.str)))
def EM (K : PySem.W.Frag) (cl : Wd) (md : Md) (Q : VK) : XK := fun cls d H => ∃ (x : Ex) (P : Hp) (ss : List Str), pickH x md.hds = some ss ∧ ExR K cl P x cls d ∧ Same P H ∧ ∀ p, H p = none → Q (.ref p) (upd H p (.tup (ss.map V.str)))
def TTm (K : PySem.W.Frag) (cl : Wd) (md : Md) : (XK → Hp → VK → Prop) → Hp → VK → Prop := fun tl H Q =>
  ∀ (E : XK) (Qn : VK), (∀ cls d H', EM K cl md Q cls d H' → E cls d H') → (∀ v H', okW md Q H' → Qn v H') → tl E H Qn
def clsL (K : PySem.W.Frag) (cl : Wd) (tcls : Nat → Option Cd) : List Hd → List (Option Nat) → List Cls
  | h :: hs, o :: os => (.ref (cl.cl h.cls), o, tTell K cl (cl.cl h.cls) (((tcls h.cls).map fldOf).getD Str.empty) (o.getD 0) h.parts) :: clsL K cl tcls hs os
  | _, _ => []
theorem told_s {R : Pt → Str → Prop} {a : Option D} (hR : ∀ x, R (.s x) x) : ∀ {ps : List Pt} {ss : List Str}, noR ps = true → tells a ps = some ss → PtsOk R ps ss
  | [], ss, _, h => by cases h; exact .nil
  | p :: ps, ss, hn, h => by
    simp only [noR, List.all_cons, Bool.and_eq_true] at hn
    cases p with
    | s x =>
      simp only [tells, Pt.tell] at h
      cases e : tells a ps with
      | none => rw [e] at h; cases h
      | some ds =>
        rw [e] at h
        cases h
        exact .cons (hR x) (told_s hR hn.2 e)
    | r => cases hn.1
    | sr x => cases hn.1
theorem told_r {R : Pt → Str → Prop} {a : Option D} (hR : ∀ p y, p.tell a = some y → R p y) : ∀ {ps : List Pt} {ss : List Str}, tells a ps = some ss → PtsOk R ps ss
  | [], ss, h => by cases h; exact .nil
  | p :: ps, ss, h => by
    simp only [tells] at h
    cases e1 : p.tell a with
    | none => rw [e1] at h; cases h
    | some y =>
      cases e : tells a ps with
      | none => rw [e1, e] at h; cases h
      | some ds =>
        rw [e1, e] at h
        cases h
        exact .cons (hR p y e1) (told_r hR e)
section
variable {cl : Wd} {K : PySem.W.Frag} {tcls : Nat → Option Cd} {N : List Str} {sc : Scope} {D : Ends} {cls : Value} {d : Option Addr} {σ : L2.St} {H P : Hp} {x : Ex} {ss : List Str}
theorem clauses (hfl : ∀ k cd f, tcls k = some cd → cd.fld = some f → cl.fl k = f) (r : ExR K cl P x cls d) (hs : Same P H) : ∀ {hds : List Hd} {es : List ExceptHandler} {ois : List (Option Nat)}, hdsB tcls N sc hds es ois = true → pickH x hds = some ss →
    (∀ h ∈ hds, PySem.W.exmOne K (.ref (cl.cl x.cls)) (.ref (cl.cl h.cls)) = some (h.subs.contains x.cls)) → (∀ p, H p = none → D.rt (.ref p) (upd H p (.tup (ss.map V.str)))) → wN K N.length (fun _ _ _ _ => False) D (clsL K cl tcls hds ois) cls d σ H
  | [], _, _, _, hp, _, _ => by cases hp
  | _ :: _, [], _, hb, _, _, _ => by simp [hdsB] at hb
  | _ :: _, _ :: _, [], hb, _, _, _ => by simp [hdsB] at hb
  | h :: hds, e :: es, o :: ois, hb, hp, he, q => by
    simp only [hdsB, Bool.and_eq_true] at hb
    obtain ⟨r1, r2, r3⟩ := r
    refine ⟨h.subs.contains x.cls, by rw [r1]; exact he h (List.mem_cons_self ..), fun hb1 hl a ha => ?_, fun hb1 => ?_⟩
    · simp only [pickH, hb1, if_true] at hp
      have hd := hb.1
      unfold hdB at hd
      split at hd
      · rename_i cn np on es' k1 p1 p2 p3
        cases ec : tcls h.cls with
        | none => rw [ec] at hd; cases hd
        | some cd =>
          rw [ec] at hd
          simp only [Bool.and_eq_true, decide_eq_true_eq] at hd
          obtain ⟨_, hd⟩ := hd
          split at hd
          · simp only [Bool.and_eq_true] at hd
            exact ⟨ss, told_s (fun x => rfl) hd.1 hp, q⟩
          · rename_i n i
            simp only [Bool.and_eq_true, Bool.or_eq_true, decide_eq_true_eq] at hd
            obtain ⟨⟨⟨⟨h1, h2⟩, h3⟩, h4⟩, h5⟩ := hd
            have hi : i < σ.length := by rw [hl]; exact (List.getElem?_eq_some_iff.mp h2).1
            rcases h1 with h1 | ⟨h1, h6⟩
            · exact ⟨ss, told_s (fun x => rfl) h1 hp, q⟩
            · have hx : x.cls = h.cls := by
                rw [h6] at hb1
                simpa using hb1
              refine ⟨ss, told_r (fun p y hy => ?_) hp, q⟩
              cases ea : x.arg with
              | none =>
                rw [ea] at hy
                cases p with
                | s z => cases hy; exact rfl
                | r => cases hy
                | sr z => cases hy
              | some ev =>
                rw [ea] at hy r3
                obtain ⟨dx, v, g1, g2, g3⟩ := r3
                have gg : ((some cd).map fldOf).getD Str.empty = cl.fl x.cls := by
                  obtain ⟨f, hf⟩ := Option.isSome_iff_exists.mp h1
                  rw [hx, hfl _ _ _ ec hf]
                  simp [fldOf, hf]
                have big : ∀ p : Pt, Pt.tell (some ev) p = some y → ∃ n dd v e, some i = some n ∧ (σ.set i (some (V.ref a)))[n]? = some (some (.ref a)) ∧ cls = .ref (cl.cl h.cls) ∧ d = some dd ∧ H dd = some (.xd [(((some cd).map fldOf).getD Str.empty, v)]) ∧ Rp K cl H v e ∧ Pt.tell (some e) p = some y := fun p hy =>
                  ⟨i, dx, v, ev, rfl, List.getElem?_set_self hi, by rw [r1, hx], g1, by rw [gg]; exact hs _ _ g2, g3.mono hs, hy⟩
                cases p with
                | s z => cases hy; exact rfl
                | r => exact big .r hy
                | sr z => exact big (.sr z) hy
          · cases hd
      · cases hd
    · simp only [pickH, hb1, Bool.false_eq_true, if_false] at hp
      exact clauses hfl ⟨r1, r2, r3⟩ hs hb.2 hp (fun h' hm => he h' (List.mem_cons_of_mem _ hm)) q
end
section
variable {cl : Wd} {X : Cx} {tcls : Nat → Option Cd} {N : List Str}
theorem hdn_of (hcl : ∀ k cd, tcls k = some cd → ClsOk X.prog X.K X.mg cl k cd) (hN : X.N = N) (rep : X.mg "repr" = none) (gds : X.A.guards = some []) (units : X.A.units + 65 < cLine) : ∀ {hds : List Hd} {es : List ExceptHandler} {ois : List (Option Nat)}, hdsB tcls N X.env.scope hds es ois = true → HdN X es (clsL X.K cl tcls hds ois)
  | [], [], [], _ => .nil
  | [], _ :: _, _, h => by simp [hdsB] at h
  | [], [], _ :: _, h => by simp [hdsB] at h
  | _ :: _, [], _, h => by simp [hdsB] at h
  | _ :: _, _ :: _, [], h => by simp [hdsB] at h
  | h :: hds, e :: es, o :: ois, hb => by
    simp only [hdsB, Bool.and_eq_true] at hb
    have ih := hdn_of hcl hN rep gds units hb.2
    have hd := hb.1
    unfold hdB at hd
    split at hd
    · rename_i cn np on es' k1 p1 p2 p3
      cases ec : tcls h.cls with
      | none => rw [ec] at hd; cases hd
      | some cd =>
        rw [ec] at hd
        simp only [Bool.and_eq_true, decide_eq_true_eq, Bool.not_eq_true'] at hd
        obtain ⟨⟨⟨⟨z1, z2⟩, z3⟩, z4⟩, hd⟩ := hd
        obtain ⟨o1, o2, o3⟩ := odd_of z3
        have ck := hcl _ _ ec
        have nm : Names X cn (.ref (cl.cl h.cls)) := ⟨gl_of z2, o1, .inl (by rw [← z1]; exact ck.ok.gC)⟩
        have size : h.parts.length ≤ sizeLine := by rw [sizeLine_eq]; omega
        split at hd
        · rename_i oi
          simp only [Bool.and_eq_true] at hd
          show HdN X _ ((.ref (cl.cl h.cls), none, _) :: _)
          refine .plain nm (fun a oe cls d pn hz hf => ?_) ih
          refine pss_imp (pss_one (ps_ret (pe_tup (pa_pts (X := X) (cl := cl) (C := cl.cl h.cls) (f := Str.empty) (i := 0) (n := Str.empty) (fun p hp hn => ?_) hz hf hd.2)))) fun D σ H ⟨ys, hy, q⟩ => ?_
          · have := List.all_eq_true.mp hd.1 p hp
            cases p with
            | s x => exact absurd rfl (hn x)
            | r => cases this
            | sr x => cases this
          · refine ⟨ys, ?_, by rw [List.length_map, pts_len hy]; exact size, q⟩
            have gen : ∀ {ps : List Pt} {ys : List Str}, noR ps = true → PtsOk (ptOk X.K cl (cl.cl h.cls) (((tcls h.cls).map fldOf).getD Str.empty) (some 0) a cls d σ H) ps ys → PtsOk (ptOk X.K cl (cl.cl h.cls) Str.empty (some 0) a cls d σ H) ps ys := by
              intro ps ys hn hp
              induction hp with
              | nil => exact .nil
              | @cons p y ps ys h1 _ ih =>
                simp only [noR, List.all_cons, Bool.and_eq_true] at hn
                refine .cons ?_ (ih hn.2)
                cases p with
                | s x => exact h1
                | r => cases hn.1
                | sr x => cases hn.1
            exact gen hd.1 (by rw [ec] at hy ⊢; exact hy)
        · rename_i n i
          simp only [Bool.and_eq_true, Bool.or_eq_true, decide_eq_true_eq, Bool.not_eq_true'] at hd
          obtain ⟨⟨⟨⟨h1, h2⟩, h3⟩, h4⟩, h5⟩ := hd
          show HdN X _ ((.ref (cl.cl h.cls), some i, _) :: _)
          refine .named nm (by rw [hN]; exact h2) h3 (fun a oe cls d pn hz hf => ?_) ih
          refine pss_imp (pss_one (ps_ret (pe_tup (pa_pts (X := X) (cl := cl) (C := cl.cl h.cls) (f := fldOf cd) (i := i) (n := n) (fun p hp hn => ?_) hz hf h5)))) fun D σ H ⟨ys, hy, q⟩ => ?_
          · rcases h1 with h1 | ⟨h1, _⟩
            · have := List.all_eq_true.mp h1 p hp
              cases p with
              | s x => exact absurd rfl (hn x)
              | r => cases this
              | sr x => cases this
            · obtain ⟨f, hfd⟩ := Option.isSome_iff_exists.mp h1
              have hw := ck.ok.how
              rw [hfd] at hw
              obtain ⟨nw, ini, T⟩ := hw
              have ef : fldOf cd = f := by simp [fldOf, hfd]
              exact ⟨T.xf, by rw [ef]; exact T.noN, by rw [hN]; exact h2, .inl h3, h4, rep, gds, units⟩
          · exact ⟨ys, by rw [ec] at hy; exact hy, by rw [List.length_map, pts_len hy]; exact size, q⟩
        · cases hd
    · cases hd
end
theorem met_gives {X : Cx} {cl : Wd} {tcls : Nat → Option Cd} {N : List Str} {a x q : Str} {md : Md} {ois : List (Option Nat)} {st : Stmt} {g : Addr} {cdg : Value} (hcl : ∀ k cd, tcls k = some cd → ClsOk X.prog X.K X.mg cl k cd) (rep : X.mg "repr" = none) (gds : X.A.guards = some []) (units : X.A.units + 100 < cLine)
    (hb : metB tcls a N md ois st = true) (hexm : ∀ k, cl.ok k = true → ∀ h ∈ md.hds, PySem.W.exmOne X.K (.ref (cl.cl k)) (.ref (cl.cl h.cls)) = some (h.subs.contains k)) : LamX.GivesTo X N x (defScope st) g cdg (defBody st) a q (TTm X.K cl md) := by
  intro f c' s H Q tl act hc h
  unfold metB at hb
  simp only [Bool.and_eq_true, decide_eq_true_eq, Bool.not_eq_true'] at hb
  obtain ⟨⟨⟨⟨⟨h0, hsc⟩, hv⟩, ho⟩, hl⟩, hb⟩ := hb
  have S := C8.fnScope_by hsc
  split at hb
  · rename_i x' p1 p2 p3 hd hds p4 es k p5 p6 hbody
    simp only [Bool.and_eq_true, decide_eq_true_eq] at hb
    obtain ⟨⟨rfl, hh⟩, hes⟩ := hb
    rw [hbody]
    have hdn := hdn_of (cl := cl) (X := (cxOf C8.CX0 X.prog X.w X.K X.mg X.base N x (defScope st) g cdg X.A X.stack s H C8.E0).nox) (N := N) hcl rfl rep gds (by show X.A.units + 3 + 65 < cLine; omega) hh
    refine ⟨_, pss_cons (ps_try_n (X := (cxOf C8.CX0 X.prog X.w X.K X.mg X.base N x (defScope st) g cdg X.A X.stack s H C8.E0).nox)
      (tb := fun W D σ H => ∃ Ech : XK, (∀ cls d σ' H', Ech cls d H' → W cls d σ' H') ∧ σ[0]? = some (some (.ref f)) ∧ H c' = some (LamX.CodeO c' q) ∧ tl Ech H fun _ H' => D.nx σ H')
      rfl rfl S.nd L2.takes0 (fun W pn xe tk _ => ?_) hdn) (pss_one (ps_ret (pe_tup (pa_strs hes)))), ?_⟩
    · refine ⟨fun pins s' σ H' D I h' => ?_⟩
      obtain ⟨Ech, hW, h1, h2, h3⟩ := h'
      exact (pss_one (ps_expr (pos := p3) (act W pn xe Ech p1 p2 tk hW))).run pins s' σ H' D I ⟨h1, h2, h3⟩
    · have st0 : (L2.start N [V.ref f])[0]? = some (some (.ref f)) := by
        unfold L2.start
        simp
      refine ⟨fun cls d H' => ∀ σ', wN X.K N.length (fun _ _ _ _ => False) _ (clsL X.K cl tcls md.hds ois) cls d σ' H', fun cls d σ' H' e => e σ', st0, hc, h _ _ (fun cls d H' ⟨y, P', ss, e1, e2, e3, e4⟩ σ' => ?_) fun v H' hq => ?_⟩
      · exact clauses (fun k cd f e1 e2 => (hcl k cd e1).fl f e2) e2 e3 hh e1 (fun h' hm => hexm _ e2.2.1 h' hm) e4
      · exact ⟨by rw [List.length_map, sizeLine_eq]; omega, hq⟩
  · cases hb
def noPar (a : Arguments) : Bool := a.posonlyargs.isEmpty && a.args.isEmpty && a.vararg.isNone && a.kwonlyargs.isEmpty && a.kw_defaults.isEmpty && a.kwarg.isNone && a.defaults.isEmpty
theorem noPar_eq {a : Arguments} (h : noPar a = true) : a = { posonlyargs := [], args := [], vararg := none, kwonlyargs := [], kw_defaults := [], kwarg := none, defaults := [] } := by
  obtain ⟨a1, a2, a3, a4, a5, a6, a7⟩ := a
  simp only [noPar, Bool.and_eq_true, List.isEmpty_iff, Option.isNone_iff_eq_none] at h
  obtain ⟨⟨⟨⟨⟨⟨rfl, rfl⟩, rfl⟩, rfl⟩, rfl⟩, rfl⟩, rfl⟩ := h
  rfl
section
variable {tb : Tb} {cl : Wd} {call : Nat → List Slot → Out} {X : Cx} {N : List Str} {sc : Scope} {fnB : Str → Bool} {W : WX} {σ0 : L2.St}
/-- the name of a def, as a value -/
theorem c_fnv {k : Nat} {fd : Fd} {x : Str} {pos : Pos} (G : Gd tb cl call X N sc fnB W) (hf : tb.fns k = some fd) (hx : fd.name = x) (hg : glB sc x = true) (ho : oddB x = false) : PE X (.Name x pos) (CA cl call X W σ0 (.fnv k)) := by
  obtain ⟨o1, o2, o3⟩ := odd_of ho
  obtain ⟨n, hr, _, hc⟩ := G.calls
  obtain ⟨ad, fdt, FO, hm, hfa, hk, hb⟩ := hc k fd hf
  rw [hx] at hm
  refine pe_imp (pe_glob (v := .ref ad) (show X.env.scope.names.lookup x = _ by rw [G.sc]; exact gl_of hg) hm rfl o1) fun σ H Q h => ?_
  obtain ⟨ρ, P, F, R⟩ := h
  exact Res.datum F Step.refl R (.fn hfa)
/-- a call of a local name that holds a def -/
theorem c_callL {i m : Nat} {x : Str} {fl : List Bool} {c : C} {cs : Cs} {e : Expr} {es : List Expr} {p pos : Pos} (G : Gd tb cl call X N sc fnB W) (hi : N[i]? = some x) (hv : visB sc x = true) (ho : oddB x = false) (hq : ∀ f, f < m → tb.gs f = true → tb.grd = true)
    (ha : PA X (e :: es) (Can X.K cl (rAs X.K cl) W σ0 (evAs call fl (.cons c cs)))) (hs : (e :: es).any star = false) : PE X (.Call (.Name x p) (e :: es) [] pos) (CA cl call X W σ0 (.callL i m fl (.cons c cs))) := by
  obtain ⟨k, hr, _, hc⟩ := G.calls
  obtain ⟨o1, o2, o3⟩ := odd_of ho
  rw [List.any_cons, Bool.or_eq_false_iff] at hs
  refine pe_imp (pe_callV (i := i) (E := WE W) (S := fun a sp => ∃ f fd, f < m ∧ tb.fns f = some fd ∧ cl.fa f = some a ∧ sp = spOf X.K cl fd.np (call f)) (fun a sp ⟨f, fd, e0, e1, e2, e3⟩ => ?_) hr (by rw [G.hN]; exact hi) (by rw [G.sc]; exact vis_of hv) (fun σ => passAt G.takes σ) ha o1 o2 (star_each hs.1 _ _) (back_any hs.2 _ _)) fun σ H Q h => ?_
  · obtain ⟨ad, fdt, FO, hm, hfa, hk, hb⟩ := hc f fd e1
    rw [e2] at hfa
    cases hfa
    subst e3
    exact ⟨_, fdt, _, FO, fun z => G.guards (hq f e0 z), hk, hb⟩
  · obtain ⟨ρ, P, F, R⟩ := h
    simp only [ev] at R
    split at R
    · rename_i t f ei
      obtain ⟨v, e2, r2⟩ := F.val i t _ ei
      cases r2 with
      | fn ea =>
        obtain ⟨fd, ef⟩ := G.fa f _ ea
        split at R
        case isFalse => exact R.elim
        rename_i hfm
        refine ⟨_, _, e2, ⟨f, fd, hfm, ef, ea, rfl⟩, (Res.bndE (R1 := rAs X.K cl) F Step.refl R).mono fun vs H1 ⟨as, ρ1, P1, F1, S1, _, ⟨r1, f1⟩, R1, eq⟩ => ?_⟩
        refine call_res ?_ F1 S1 r1 f1 R1
        unfold doCall at R1
        split at R1
        · cases ec : call f (lends ρ1 as) with
          | none => rw [ec] at R1; exact R1.elim
          | some r =>
            have := G.np f fd _ _ ef ec
            unfold lends at this
            rw [List.length_map] at this
            rw [r1.length, this]
        · exact R1.elim
    · exact R.elim
theorem FR.lam {σ : L2.St} {ρ : Env} {H H1 P : Hp} {K : PySem.W.Frag} (F : FR K cl σ0 σ H P ρ) (e : LamX.ExtN H H1) (t : LamX.Tabs cl.T H1) : FR K cl σ0 σ H1 P ρ ∧ Step σ ρ H P σ ρ H1 P := by
  refine ⟨⟨fun b o h => e b o (F.sub b o h) fun ps z => F.tb.nt b ps (by rw [← z]; exact h), F.len, F.val, fun i t' d h => ?_, F.inj, F.tag, ⟨t, F.tb.nt⟩⟩, ⟨fun a o h n _ => e a o h n, Same.refl _, fun a h1 h2 => absurd h1 h2, fun a o => .inr o⟩⟩
  obtain ⟨v, g1, a, us, rfl, g2, g3, g4⟩ := F.own i t' d h
  exact ⟨_, g1, a, us, rfl, e _ _ g2 g4.nt, g3, g4⟩
theorem rps_strs {K : PySem.W.Frag} {P : Hp} : ∀ ss : List Str, Rps K cl P (ss.map V.str) (ss.map MP.D.str)
  | [] => .nil
  | s :: ss => .cons (.str s) (rps_strs ss)
abbrev Tb.bare (tb : Tb) : Tb := { tb with lam := false, grd := false }
theorem Gd.lamb {A : Around} {outer : List PySem.Env} {s : Shared} {H : Hp} {E : XK} {scope : Scope} {f c' : Addr} {k : Nat} (G : Gd tb cl call X N sc fnB W) (hr : Room k (A.deeper (LamX.lamEnv X scope s.heap.objs.size f c')))
    (hc : ∀ g fd, tb.fns g = some fd → ∃ (ad : Addr) (fdt : FuncData), FnG (tb.gs g) X.prog X.w X.K X.mg X.base k ad fdt (fd.N.take fd.np) (spOf X.K cl fd.np (call g)) ∧ X.mg fd.name = some (.ref ad) ∧ cl.fa g = some ad ∧ PySem.W.keepIn X.K (.ref ad) = true ∧ Binds X.K fdt (fd.N.take fd.np) []) :
    Gd tb.bare cl call (LamX.lamCx X A outer s H E scope f c') N scope (fun _ => false) (fun c d _ H => E c d H) where
  calm := rfl
  hN := G.hN
  nd := G.nd
  sc := rfl
  fn := fun _ h => h
  takes := L2.takes_of rfl rfl rfl rfl
  passes := L2.passes_of rfl
  units := by have := hr.un; show (A.deeper _).units + 65 < cLine; omega
  calls := ⟨k, hr, (fun z => nomatch z), hc⟩
  consts := G.consts
  blt := G.blt
  gcd := G.gcd
  cls := G.cls
  mets := G.mets
  guards := fun z => nomatch z
  fa := G.fa
  np := G.np
  lam := fun z => nomatch z
theorem bind_lam (q : Str) (body : Expr) (scope : Scope) (cl : List (Str × Addr)) (pm cv ctv : Value) : bindArgs (PySem.W.kla_fn "<lambda>" q { posonlyargs := [], args := [], vararg := none, kwonlyargs := [], kw_defaults := [], kwarg := none, defaults := [] } body scope cl pm cv ctv) ⟨[], []⟩ = pure [] := rfl
/-- g(lambda: ..) -/
theorem c_met {g : Nat} {nm : Str} {md : Md} {c : C} {params : Arguments} {body : Expr} {scope : Scope} {p lpos pos : Pos} (G : Gd tb cl call X N sc fnB W) (hm : tb.mets g = some (nm, md)) (hlam : tb.lam = true) (hgrd : tb.grd = true) (hg : glB sc nm = true) (ho : oddB nm = false) (hp : noPar params = true) (hL : LamX.lamSB sc scope = true)
    (hbody : ∀ {X' : Cx} {W' : WX}, Gd tb.bare cl call X' N scope (fun _ => false) W' → PE X' body (CA cl call X' W' σ0 c)) : PE X (.Call (.Name nm p) [.Lambda params body scope lpos] [] pos) (CA cl call X W σ0 (.met g md c)) := by
  obtain ⟨⟨ga, st, fdt, Ng, a, ois, hfun, hmg, hbind, hmb⟩, hexm⟩ := G.mets g nm md hm
  obtain ⟨oc, od, kV, doc, pm, an, cdv, ct, osl, rfl, lk, hcd⟩ := hfun.ex
  obtain ⟨k, hr, hr2, hcs⟩ := G.calls
  obtain ⟨lc, LP, hcode, TBB, hmT, hu⟩ := G.lam hlam
  have hmb' := hmb
  unfold metB at hmb'
  simp only [Bool.and_eq_true, decide_eq_true_eq, Bool.not_eq_true'] at hmb'
  obtain ⟨⟨⟨⟨⟨h0, hsc⟩, hv⟩, hoa⟩, hl⟩, _⟩ := hmb'
  obtain ⟨o1, o2, o3⟩ := odd_of hoa
  obtain ⟨q1, q2, q3⟩ := odd_of ho
  have er := noPar_eq hp
  subst er
  have hun := (hr2 hlam).un
  refine pe_imp (LamX.pe_lamcall (k := k) (T := cl.T) (TT := TTm X.K cl md) (t := fun E => CA cl call (X := X) (fun c d _ H => E c d H) σ0 c) (show X.env.scope.names.lookup nm = _ by rw [G.sc]; exact gl_of hg) hmg hfun.kp lk hcd (.all hbind) (C8.fnScope_by hsc) h0 (vis_of hv)
    (met_gives G.cls (G.blt _ (by decide +kernel)) (G.guards hgrd) (by omega) hmb hexm) TBB hcode hmT hu (hr2 hlam) (by rw [G.sc]; exact LamX.lamS_by hL) rfl (fun _ _ _ _ _ => bind_lam _ _ _ _ _ _ _)
    (fun A outer s H E f c' hr' => hbody (G.lamb hr' hcs)) q1 o1 o2) fun σ H Q h => ?_
  obtain ⟨ρ, P, F, R⟩ := h
  simp only [ev] at R
  refine ⟨F.tb.tabs, fun H1 eN t1 => ?_⟩
  obtain ⟨F1, S1⟩ := F.lam eN t1
  intro E Qn hE hQ
  refine ⟨ρ, P, F1, ?_⟩
  unfold Res
  unfold metR at R
  cases em : ev call c ρ with
  | none => rw [em] at R; exact R.elim
  | some z =>
    obtain ⟨y, ρ'⟩ := z
    rw [em] at R
    cases y with
    | ok r =>
      intro b H' P' F' S' r'
      refine hQ b H' fun p hp => ?_
      exact Res.newTup F' (S1.trans S') R (rps_strs md.dflt) hp
    | error x =>
      intro cc dd H' P' F' S' r'
      dsimp only at R
      cases ep : pickH x md.hds with
      | none => rw [ep] at R; exact R.elim
      | some ss =>
        rw [ep] at R
        exact hE cc dd H' ⟨x, P', ss, ep, r', F'.sub, fun p hp => Res.newTup F' (S1.trans S') R (rps_strs ss) hp⟩
end
end MP
set_option Elab.async false
set_option linter.all false
set_option maxRecDepth 100000
set_option maxHeartbeats 4000000
/-! MP: lists of one's own, rewritten -/
namespace MP
open PySem PySem.Spec PyProof.Rows L2
section
variable {K : PySem.W.Frag} {cl : Wd} {σ0 σ : L2.St} {ρ : Env} {H P : Hp}
/-- a list of one's own is rewritten -/
theorem FR.setOwnO (F : FR K cl σ0 σ H P ρ) {i : Nat} {t : Bool} {d : MP.D} {p : Addr} {ob : HO} {dt : MP.D} (h : ρ[i]? = some (.own t d)) (hp : σ[i]? = some (some (V.ref p))) (q : Sto K cl P ob dt) :
    FR K cl σ0 σ (L2.upd H p ob) P (ρ.set i (.own t dt)) := by
  have hi : i < ρ.length := (List.getElem?_eq_some_iff.mp h).1
  obtain ⟨us, hus, pp, nt, ne⟩ := F.own_at ⟨i, t, d, h, hp⟩
  refine ⟨fun b x e => ?_, by rw [List.length_set]; exact F.len, fun j t e h => ?_, fun j t' e h' => ?_, fun j k t' t'' e e' a h1 h2 h3 h4 => ?_, fun j e h' => ?_, ⟨Tabs.set hus nt ne F.tb.tabs, F.tb.nt⟩⟩
  · rw [upd_ne (ne_of_none e pp)]
    exact F.sub _ _ e
  · rcases get_set h with ⟨rfl, z⟩ | ⟨n', h⟩
    · cases z
    · exact F.val j t e h
  · rcases get_set h' with ⟨rfl, z⟩ | ⟨n', h'⟩
    · cases z
      exact ⟨_, hp, p, ob, rfl, upd_same, pp, q⟩
    · obtain ⟨v, g1, b, ws, rfl, g2, g3, g4⟩ := F.own j t' e h'
      have n : b ≠ p := fun z => by subst z; exact n' (F.inj i j t t' d _ b h h' hp g1)
      exact ⟨_, g1, b, ws, rfl, by rw [upd_ne n]; exact g2, g3, g4⟩
  · have e1 : ∃ t d, ρ[j]? = some (.own t d) := by
      rcases get_set h1 with ⟨rfl, z⟩ | ⟨n, h1⟩
      · exact ⟨_, _, h⟩
      · exact ⟨_, _, h1⟩
    have e2 : ∃ t d, ρ[k]? = some (.own t d) := by
      rcases get_set h2 with ⟨rfl, z⟩ | ⟨n, h2⟩
      · exact ⟨_, _, h⟩
      · exact ⟨_, _, h2⟩
    obtain ⟨_, _, e1⟩ := e1
    obtain ⟨_, _, e2⟩ := e2
    exact F.inj j k _ _ _ _ a e1 e2 h3 h4
  · rcases h' with h' | h'
    · rcases get_set h' with ⟨rfl, z⟩ | ⟨n', h'⟩
      · cases z
      · exact F.tag j e (.inl h')
    · rcases get_set h' with ⟨rfl, z⟩ | ⟨n', h'⟩
      · cases z
        exact F.tag i d (.inr h)
      · exact F.tag j e (.inr h')
theorem FR.setOwn (F : FR K cl σ0 σ H P ρ) {i : Nat} {t : Bool} {d : MP.D} {p : Addr} {vs : List V} {ds : List MP.D} (h : ρ[i]? = some (.own t d)) (hp : σ[i]? = some (some (V.ref p))) (q : Rps K cl P vs ds) :
    FR K cl σ0 σ (L2.upd H p (.lst vs)) P (ρ.set i (.own t (.lst ds))) := F.setOwnO h hp (.inl ⟨vs, ds, rfl, rfl, q⟩)
theorem Step.setOwn {σs : L2.St} {ρs : Env} {Hs Ps : Hp} (S : Step σs ρs Hs Ps σ ρ H P) {i : Nat} {t : Bool} {d d' : MP.D} {p : Addr} {o : HO} (h : ρ[i]? = some (.own t d)) (hp : σ[i]? = some (some (V.ref p))) :
    Step σs ρs Hs Ps σ (ρ.set i (.own t d')) (L2.upd H p o) P := by
  have op : Own σ ρ p := ⟨i, t, d, h, hp⟩
  refine ⟨fun a u e nt n => ?_, S.mono, S.newP, fun a o' => ?_⟩
  · have na : a ≠ p := fun z => by
      subst z
      rcases S.newO _ op with y | y
      · obtain ⟨ps, y⟩ := y _ e
        exact nt ps y
      · exact n y
    rw [upd_ne na]
    exact S.keep a u e nt n
  · obtain ⟨j, t', e', h1, h2⟩ := o'
    rcases get_set h1 with ⟨rfl, z⟩ | ⟨n, h1⟩
    · rw [hp] at h2
      cases h2
      exact S.newO _ op
    · exact S.newO a ⟨j, t', e', h1, h2⟩
end
section
variable {tb : Tb} {cl : Wd} {call : Nat → List Slot → Out} {N : List Str} {σ0 : L2.St} {X : Cx} {sc : Scope} {fnB : Str → Bool} {W : WX}
theorem own_ref {K : PySem.W.Frag} {σ : L2.St} {ρ : Env} {H P : Hp} {i : Nat} {t : Bool} {xs : List D} (F : FR K cl σ0 σ H P ρ) (h : ρ[i]? = some (.own t (.lst xs))) :
    ∃ p vs ds, D.lst xs = .lst ds ∧ σ[i]? = some (some (V.ref p)) ∧ H p = some (.lst vs) ∧ P p = none ∧ Rps K cl P vs ds := by
  obtain ⟨v, e, c⟩ := F.own i t _ h
  obtain ⟨p, vs, rfl, h1, h2, h3⟩ := c.l
  exact ⟨p, vs, xs, rfl, e, h1, h2, h3⟩
theorem c_pop {i : Nat} {x : Str} {p apos cpos : Pos} (G : Gd tb cl call X N sc fnB W) (hi : N[i]? = some x) (hx : visB sc x = true) (ho : oddB x = false) (hl : (apos.endLine == cpos.line) = true) :
    PE X (.Call (.Attribute (.Name x p) "pop" apos) [] [] cpos) (CA cl call X W σ0 (.pop i)) := by
  obtain ⟨o1, o2, o3⟩ := odd_of ho
  refine pe_imp (pe_bm0 PySem.F.plainAttrs_list PySem.F.slot_list_pop PySem.F.type_list_pop mt_pop (pe_var (i := i) (by rw [G.hN]; exact hi) (by rw [G.sc]; exact vis_of hx) o1 o2) rfl hl) fun σ H Q h => ?_
  obtain ⟨ρ, P, F, R⟩ := h
  simp only [ev] at R
  unfold popD at R
  split at R
  · rename_i t xs e1
    obtain ⟨q, vs, ds, e0, e2, hH, hP, rr⟩ := own_ref F e1
    cases e0
    split at R
    · rename_i d hd
      rw [List.getLast?_eq_getElem?] at hd
      obtain ⟨v, g1, g2⟩ := rr.get hd
      refine ⟨_, e2, .inl ⟨rfl, vs, .inl (.inl hH)⟩, q, vs, v, rfl, rfl, hH, by rw [rr.length]; exact g1, ?_⟩
      refine Res.datum (F.setOwn e1 e2 ?_) (Step.refl.setOwn e1 e2) R g2
      rw [List.dropLast_eq_take, List.dropLast_eq_take, rr.length]
      exact rr.take _
    · exact (R : False).elim
  · exact (R : False).elim
theorem c_ext {c : C} {i : Nat} {x : Str} {e : Expr} {p apos cpos : Pos} (G : Gd tb cl call X N sc fnB W) (hi : N[i]? = some x) (hx : visB sc x = true) (ho : oddB x = false) (h : PE X e (CA cl call X W σ0 c)) (hs : star e = false) (hl : (apos.endLine == cpos.line) = true) :
    PE X (.Call (.Attribute (.Name x p) "extend" apos) [e] [] cpos) (CA cl call X W σ0 (.ext i c)) := by
  obtain ⟨o1, o2, o3⟩ := odd_of ho
  refine pe_imp (pe_bm PySem.F.plainAttrs_list PySem.F.slot_list_extend PySem.F.type_list_extend mt_extend (pe_var (i := i) (by rw [G.hN]; exact hi) (by rw [G.sc]; exact vis_of hx) o1 o2) (pa_cons h pa_nil (star_each hs _ _)) rfl (by
      rw [star_each hs]; rfl) hl (star_each hs _ _) (back_any (es := []) rfl _ _)) fun σ H Q h => ?_
  obtain ⟨ρ, P, F, R⟩ := h
  simp only [ev] at R
  split at R
  · rename_i t0 xs0 e1
    obtain ⟨q, vs, ds, e0, e2, hH, hP, rr⟩ := own_ref F e1
    refine ⟨_, e2, .inl ⟨rfl, vs, .inl (.inl hH)⟩, ?_⟩
    refine (Res.bnd (R1 := rA X.K cl) F Step.refl R).mono fun v H1 ⟨a, ρ1, P1, F1, S1, _, ⟨r1, f1⟩, R1⟩ => ?_
    unfold extD at R1
    split at R1
    · rename_i ys t xs e3
      obtain ⟨q1, vs1, ds1, e4, e5, hH1, hP1, rr1⟩ := own_ref F1 e3
      cases e4
      rw [e2] at e5
      cases e5
      obtain ⟨cb, nb⟩ := r1
      obtain ⟨b, ws, rfl, hb, pb, rb⟩ := cb.l
      split at R1
      · rename_i hz
        refine ⟨q, b, vs1, ws, rfl, rfl, hH1, hb, by rw [rr1.length, rb.length]; exact hz, ?_⟩
        exact Res.datum (F1.setOwn e3 e2 (rr1.append rb)) (S1.setOwn e3 e2) R1 .non
      · exact (R1 : False).elim
    · exact (R1 : False).elim
  · exact (R : False).elim
end
end MP
set_option Elab.async false
set_option linter.all false
set_option maxRecDepth 100000
set_option maxHeartbeats 2000000
/-! MP: dicts whose keys are ints, texts -/
namespace MP
open PySem PySem.Spec PyProof.Rows L2
theorem same_key (a b : Key) : (keyD a).same (keyD b) = decide (a = b) := by
  rcases a with a | a <;> rcases b with b | b
  · show (a == b) = _
    rw [Bool.eq_iff_iff]; simp
  · show false = _
    simp
  · show false = _
    simp
  · show (a == b) = _
    rw [Bool.eq_iff_iff]; simp
section
variable {K : PySem.W.Frag} {cl : Wd} {P : Hp}
theorem look_val : ∀ {kvs : List (Key × V)} {ds : List D} (k : Key), Rps K cl P (kvs.map (·.2)) ds → (lookK (kvs.map fun kv => keyD kv.1) ds (keyD k) = none → valV kvs k = none) ∧ (∀ d, lookK (kvs.map fun kv => keyD kv.1) ds (keyD k) = some d → ∃ v, valV kvs k = some v ∧ Rp K cl P v d)
  | [], ds, k, r => ⟨fun _ => rfl, fun d h => by cases r; cases h⟩
  | kv :: kvs, ds, k, r => by
    cases r with
    | cons r1 r2 =>
      obtain ⟨i1, i2⟩ := look_val (kvs := kvs) k r2
      simp only [List.map_cons, lookK, same_key, decide_eq_true_eq]
      by_cases e : kv.1 = k
      · rw [if_pos e, valV_pos e]
        refine ⟨fun z => (by cases z), fun d h => ?_⟩
        cases h
        exact ⟨_, rfl, r1⟩
      · rw [if_neg e, valV_neg e]
        exact ⟨i1, i2⟩
theorem any_key (k : Key) : ∀ kvs : List (Key × V), ((kvs.map fun kv => keyD kv.1).any fun x => x.same (keyD k)) = kvs.any fun kv => decide (kv.1 = k)
  | [] => rfl
  | kv :: kvs => by simp only [List.map_cons, List.any_cons, same_key, any_key k kvs]
theorem put_vs {v : V} {d : D} (k : Key) (rv : Rp K cl P v d) : ∀ {kvs : List (Key × V)} {ds : List D}, Rps K cl P (kvs.map (·.2)) ds → Rps K cl P ((kvs.map fun kv => if kv.1 = k then (kv.1, v) else kv).map (·.2)) (putVs (kvs.map fun kv => keyD kv.1) ds (keyD k) d)
  | [], ds, r => by cases r; exact .nil
  | kv :: kvs, ds, r => by
    cases r with
    | cons r1 r2 =>
      have ih := put_vs (kvs := kvs) k rv r2
      simp only [List.map_cons, putVs, same_key, decide_eq_true_eq]
      by_cases e : kv.1 = k
      · rw [if_pos e, if_pos e]; exact .cons rv ih
      · rw [if_neg e, if_neg e]; exact .cons r1 ih
theorem put_sto {kvs : List (Key × V)} {ds : List D} {v : V} {d : D} (k : Key) (r : Rps K cl P (kvs.map (·.2)) ds) (rv : Rp K cl P v d) : Sto K cl P (.dK (putK kvs k v)) (putDic (kvs.map fun kv => keyD kv.1) ds (keyD k) d) := by
  unfold putK putDic
  rw [any_key]
  by_cases e : (kvs.any fun kv => decide (kv.1 = k)) = true
  · rw [if_pos e, if_pos e]
    refine .inr ⟨_, _, rfl, ?_, put_vs k rv r⟩
    congr 1
    rw [List.map_map]
    refine List.map_congr_left fun kv _ => ?_
    show keyD kv.1 = keyD (if kv.1 = k then (kv.1, v) else kv).1
    split <;> rfl
  · rw [if_neg e, if_neg e]
    refine .inr ⟨kvs ++ [(k, v)], ds ++ [d], rfl, by simp, ?_⟩
    rw [List.map_append]
    exact r.append (.cons rv .nil)
end
section
variable {tb : Tb} {cl : Wd} {call : Nat → List Slot → Out} {N : List Str} {σ0 : L2.St} {X : Cx} {sc : Scope} {fnB : Str → Bool} {W : WX}
theorem c_disO {pos : Pos} : PE X (.Dict [] [] pos) (CA cl call X W σ0 .disO) := pe_imp pe_dnewK fun σ H Q h => by
  obtain ⟨ρ, P, F, R⟩ := h
  rw [ev] at R
  intro p hp
  refine R _ _ _ (F.grow hp) (Step.grow hp) ⟨⟨.ofD (kvs := []) upd_same (F.none hp) .nil, fun b e o => ?_⟩, fun _ _ b e => ?_⟩
  · injection e with e
    subst e
    exact F.notOwn hp o
  · injection e with e
    subst e
    exact .inl (.of hp)
theorem c_dget {a i : C} {e1 e2 : Expr} {pos : Pos} (G : Gd tb cl call X N sc fnB W) (h1 : PE X e1 (CA cl call X W σ0 a)) (h2 : PE X e2 (CA cl call X W σ0 i)) (hs : isSlice e2 = false) : PE X (.Subscript e1 e2 pos) (CA cl call X W σ0 (.dget a i)) := by
  refine pe_imp (pe_dget (by have := G.units; omega) h1 h2 (plain_of hs)) fun σ H Q h => two (r := fun x y H Q => ∃ a v, x = .ref a ∧ DGet H a y (some v) ∧ Q v H) (fun ρ ρ1 H P H1 P1 dx dy z x y F S hx hy e R => ?_) h
  unfold dgetD at e
  split at e
  · rename_i ks ds
    split at e
    · rename_i hk
      cases e2 : lookK ks ds dy with
      | none => rw [e2] at e; cases e
      | some d =>
        rw [e2] at e
        cases e
        obtain ⟨p, kvs, rfl, rd, rfl, q⟩ := hx.dic F.sub
        obtain ⟨k, rfl, rfl⟩ := key_of (hy.dat (fun _ z => by subst z; cases hk) (fun _ _ z => by subst z; cases hk)) hk
        obtain ⟨v, g1, g2⟩ := (look_val k q).2 d e2
        exact ⟨p, v, rfl, .inl ⟨kvs, k, rd, rfl, g1.symm⟩, Res.datum F S R g2⟩
    · cases e
  · cases e
theorem c_din {k : Bool} {i a : C} {e1 e2 : Expr} {pos : Pos} (G : Gd tb cl call X N sc fnB W) (h1 : PE X e1 (CA cl call X W σ0 i)) (h2 : PE X e2 (CA cl call X W σ0 a)) (hs : isSet e2 = false) : PE X (.Compare e1 [if k then .In else .NotIn] [e2] pos) (CA cl call X W σ0 (.din k i a)) := by
  have hu : X.A.units + 1 < cLine := by have := G.units; omega
  have go : ∀ (ρ ρ1 : Env) (H P H1 P1 : Hp) (dx dy : D) (z : A) (x y : V) (σ : L2.St) (Q : VK), FR X.K cl σ0 σ H1 P1 ρ1 → Step σ ρ H P σ ρ1 H1 P1 → Vw X.K cl H1 P1 x dx → Vw X.K cl H1 P1 y dy → dinD k dx dy = some z → Res X.K cl (rA X.K cl) W σ0 σ ρ H P (ok z ρ1) Q → ∃ a o, y = .ref a ∧ DGet H1 a x o ∧ Q (.bl (o.isSome == k)) H1 := fun ρ ρ1 H P H1 P1 dx dy z x y σ Q F S hx hy e R => by
    unfold dinD at e
    split at e
    · rename_i ks ds
      split at e
      · rename_i hk
        cases e
        obtain ⟨p, kvs, rfl, rd, rfl, q⟩ := hy.dic F.sub
        obtain ⟨k', rfl, rfl⟩ := key_of (hx.dat (fun _ z => by subst z; cases hk) (fun _ _ z => by subst z; cases hk)) hk
        obtain ⟨l1, l2⟩ := look_val k' q
        refine ⟨p, valV kvs k', rfl, .inl ⟨kvs, k', rd, rfl, rfl⟩, ?_⟩
        have e2 : (valV kvs k').isSome = (lookK (kvs.map fun kv => keyD kv.1) ds (keyD k')).isSome := by
          cases hl : lookK (kvs.map fun kv => keyD kv.1) ds (keyD k') with
          | none => rw [l1 hl]; rfl
          | some d =>
            obtain ⟨v, g1, _⟩ := l2 d hl
            rw [g1]; rfl
        rw [e2]
        exact Res.datum F S R (.bl _)
      · cases e
    · cases e
  cases k with
  | true =>
    refine pe_imp (pe_cmp (pc_din hu h1 h2) (marks_of hs _)) fun σ H Q h => two (r := fun x y H Q => ∃ a o, y = .ref a ∧ DGet H a x o ∧ Q (.bl o.isSome) H) (fun ρ ρ1 H P H1 P1 dx dy z x y F S hx hy e R => ?_) h
    obtain ⟨a, o, h1, h2, h3⟩ := go ρ ρ1 H P H1 P1 dx dy z x y σ Q F S hx hy e R
    exact ⟨a, o, h1, h2, by simpa using h3⟩
  | false =>
    refine pe_imp (pe_cmp (pc_dnotin hu h1 h2) (marks_of hs _)) fun σ H Q h => two (r := fun x y H Q => ∃ a o, y = .ref a ∧ DGet H a x o ∧ Q (.bl (!o.isSome)) H) (fun ρ ρ1 H P H1 P1 dx dy z x y F S hx hy e R => ?_) h
    obtain ⟨a, o, h1, h2, h3⟩ := go ρ ρ1 H P H1 P1 dx dy z x y σ Q F S hx hy e R
    exact ⟨a, o, h1, h2, by simpa using h3⟩
theorem t_din {k : Bool} {i a : C} {e1 e2 : Expr} {pos : Pos} (G : Gd tb cl call X N sc fnB W) (h1 : PE X e1 (CA cl call X W σ0 i)) (h2 : PE X e2 (CA cl call X W σ0 a)) (hs : isSet e2 = false) : PT X (.Compare e1 [if k then .In else .NotIn] [e2] pos) (CT cl call X W σ0 (.din k i a)) := by
  have hu : X.A.units + 1 < cLine := by have := G.units; omega
  have go : ∀ (σ : L2.St) (H : Hp) (Q : Bool → Hp → Prop), Can X.K cl rB W σ0 (fun ρ => bnd (ev call (.din k i a) ρ) tru) σ H Q → CA cl call X W σ0 i σ H fun x H1 => CA cl call X W σ0 a σ H1 fun y H2 => ∃ p o, y = .ref p ∧ DGet H2 p x o ∧ Q (o.isSome == k) H2 := fun σ H Q h => by
    obtain ⟨ρ, P, F, R⟩ := h
    simp only [ev, bnd_assoc] at R
    refine (Res.bnd (R1 := rA X.K cl) F Step.refl R).mono fun x H1 ⟨dx, ρ1, P1, F1, S1, _, ⟨r1, f1⟩, R1⟩ => ?_
    refine (Res.bnd (R1 := rA X.K cl) F1 S1 R1).mono fun y H2 ⟨dy, ρ2, P2, F2, S2, S, ⟨r2, f2⟩, R2⟩ => ?_
    unfold op2 at R2
    cases e1 : view dx ρ2 with
    | none => rw [e1] at R2; exact (R2 : False).elim
    | some d1 =>
      cases e2 : view dy ρ2 with
      | none => rw [e1, e2] at R2; exact (R2 : False).elim
      | some d2 =>
        rw [e1, e2] at R2
        dsimp only at R2
        have hx := (r1.step S2).view F2 e1
        have hy := r2.view F2 e2
        cases e3 : dinD k d1 d2 with
        | none => rw [e3] at R2; exact (R2 : False).elim
        | some z =>
          rw [e3] at R2
          unfold dinD at e3
          split at e3
          · rename_i ks ds
            split at e3
            · rename_i hk
              cases e3
              obtain ⟨p, kvs, rfl, rd, rfl, q⟩ := hy.dic F2.sub
              obtain ⟨k', rfl, rfl⟩ := key_of (hx.dat (fun _ z => by subst z; cases hk) (fun _ _ z => by subst z; cases hk)) hk
              obtain ⟨l1, l2⟩ := look_val k' q
              refine ⟨p, valV kvs k', rfl, .inl ⟨kvs, k', rd, rfl, rfl⟩, ?_⟩
              have e2 : (valV kvs k').isSome = (lookK (kvs.map fun kv => keyD kv.1) ds (keyD k')).isSome := by
                cases hl : lookK (kvs.map fun kv => keyD kv.1) ds (keyD k') with
                | none => rw [l1 hl]; rfl
                | some d =>
                  obtain ⟨v, g1, _⟩ := l2 d hl
                  rw [g1]; rfl
              rw [e2]
              exact Res.ret F2 S (show Res X.K cl rB W σ0 σ ρ H P (ok _ ρ2) Q from R2) rfl
            · cases e3
          · cases e3
  cases k with
  | true =>
    refine pt_imp (pt_cmp (pc_din hu h1 h2) (marks_of hs _)) fun σ H Q h => ?_
    refine (go σ H Q h).mono fun x H1 g => g.mono fun y H2 ⟨p, o, g1, g2, g3⟩ => ⟨p, o, g1, g2, _, rfl, by simpa using g3⟩
  | false =>
    refine pt_imp (pt_cmp (pc_dnotin hu h1 h2) (marks_of hs _)) fun σ H Q h => ?_
    refine (go σ H Q h).mono fun x H1 g => g.mono fun y H2 ⟨p, o, g1, g2, g3⟩ => ⟨p, o, g1, g2, _, rfl, by simpa using g3⟩
end
end MP
set_option Elab.async false
set_option linter.all false
set_option maxRecDepth 100000
set_option maxHeartbeats 2000000
/-! MP: which core expression a written one is -/
namespace MP
open PySem PySem.Spec PyProof.Rows L2

def ownL (N : List Str) (own : List Nat) : List (Str × Nat) := own.map fun i => (N.getD i Str.empty, i)
theorem ownL_snd (N : List Str) (own : List Nat) : (ownL N own).map (·.2) = own := by
  unfold ownL
  rw [List.map_map]
  exact List.map_id _
def isTup : Expr → Bool
  | .Tuple .. => true
  | _ => false
mutual
def trE (tb : Tb) (N : List Str) : Scope → Bool → C → Expr → Bool
  | _, _, .cst d, e => match e with
    | .Constant k _ _ => cstB d k
    | _ => false
  | sc, _, .var i, e => match e with
    | .Name x _ => decide (N[i]? = some x) && visB sc x && !oddB x
    | _ => false
  | sc, _, .glb y d, e => match e with
    | .Name x _ => decide (x = y) && glB sc x && !oddB x && tb.consts.any fun p => decide (p.1 = x) && p.2.same d
    | _ => false
  | sc, _, .tup es, e => match e with
    | .Tuple xs _ _ => trEs tb N sc es xs && decide (csLen es ≤ 1000)
    | _ => false
  | sc, _, .lst es, e => match e with
    | .List xs _ => trEs tb N sc es xs && decide (csLen es ≤ 1000)
    | _ => false
  | sc, _, .dis0, e => match e with
    | .Dict ks vs _ => ks.isEmpty && vs.isEmpty
    | _ => false
  | sc, _, .dis1 a b, e => match e with
    | .Dict ks vs _ => match ks, vs with
      | [some k], [v] => trE tb N sc false a k && trE tb N sc false b v
      | _, _ => false
    | _ => false
  | sc, _, .bin op a b, e => match e with
    | .BinOp x o y _ => decide (o = opB op) && trE tb N sc false a x && trE tb N sc false b y
    | _ => false
  | sc, _, .neg a, e => match e with
    | .UnaryOp o x _ => decide (o = .USub) && trE tb N sc false a x
    | _ => false
  | sc, t, .boo k es, e => match e with
    | .BoolOp o xs _ => decide (o = opK k) && trBs tb N sc t es xs
    | _ => false
  | sc, t, .not_ a, e => match e with
    | .UnaryOp o x _ => decide (o = .Not) && trE tb N sc t a x
    | _ => false
  | sc, _, .cmp op a b, e => match e with
    | .Compare x ops ys _ => match ops, ys with
      | [o], [y] => decide (o = opC op) && !isSet y && trE tb N sc false a x && trE tb N sc false b y
      | _, _ => false
    | _ => false
  | sc, _, .chn op op' a b c, e => match e with
    | .Compare x ops ys _ => match ops, ys with
      | [o, o'], [y, z] => decide (o = opC op) && decide (o' = opC op') && !isSet z && trE tb N sc false a x && trE tb N sc false b y && trE tb N sc false c z
      | _, _ => false
    | _ => false
  | sc, _, .chn3 op op' op'' a b c d, e => match e with
    | .Compare x ops ys _ => match ops, ys with
      | [o, o', o''], [y, z, v] => decide (o = opC op) && decide (o' = opC op') && decide (o'' = opC op'') && !isSet v && trE tb N sc false a x && trE tb N sc false b y && trE tb N sc false c z && trE tb N sc false d v
      | _, _ => false
    | _ => false
  | sc, t, .ite c a b, e => match e with
    | .IfExp x y z _ => !t && trE tb N sc true c x && trE tb N sc false a y && trE tb N sc false b z
    | _ => false
  | sc, _, .idx a i, e => match e with
    | .Subscript x y _ => !isSlice y && trE tb N sc false a x && trE tb N sc false i y
    | _ => false
  | sc, _, .slc a lo hi, e => match e with
    | .Subscript x y _ => match y with
      | .Slice l h s _ => match s with
        | none => trE tb N sc false a x && trO tb N sc lo l && trO tb N sc hi h
        | _ => false
      | _ => false
    | _ => false
  | sc, _, .call f fl es, e => match e with
    | .Call g xs ks _ => match g, ks with
      | .Name x _, [] => match tb.fns f with
        | some fd => decide (fd.name = x) && decide (csLen es = fd.np) && decide (0 < csLen es) && glB sc x && !oddB x && (!tb.gs f || tb.grd) && trEs tb N sc es xs
        | none => false
      | _, _ => false
    | _ => false
  | sc, _, .blt f es, e => match e with
    | .Call g xs ks _ => match g, ks with
      | .Name x _, [] => srvB tb f && decide (x = bltN f) && glB sc (bltN f) && decide (0 < csLen es) && trEs tb N sc es xs
      | _, _ => false
    | _ => false
  | sc, _, .isi ts c, e => match e with
    | .Call g xs ks _ => match g, ks, xs with
      | .Name x _, [], [y, T] => decide (x = ("isinstance" : Str)) && glB sc "isinstance" && !star y && trE tb N sc false c y && (match T with
        | .Tuple ns _ _ => tyNames sc ts ns && decide (ts.length ≤ 1000)
        | .Name n _ => match ts with
          | [t] => decide (n = tyS t) && glB sc (tyS t)
          | _ => false
        | _ => false)
      | _, _, _ => false
    | _ => false
  | sc, _, .lstI it, e => match e with
    | .Call g xs ks _ => match g, ks, xs with
      | .Name x _, [], [r] => decide (x = ("list" : Str)) && glB sc "list" && !star r && trR tb N sc it r
      | _, _, _ => false
    | _ => false
  | sc, _, .cmpr elt tg it ifs own, e => match e with
    | .ListComp x gens scope _ => match gens with
      | [⟨t, iter, cs, 0⟩] => !isSet iter && trI tb N sc it t iter && trT N (relS scope sc) (fun x => scope.names.lookup x == some .cell) tg t && trE tb.off N (relS scope sc) false elt x && trIf tb.off N (relS scope sc) ifs cs &&
        blkC N sc scope (ownL N own) && (tgs tg).all (fun i => own.contains i)
      | _ => false
    | _ => false
  | _, _, .bad, _ => true
  | sc, _, .pop i, e => match e with
    | .Call g xs ks cpos => match g, xs, ks with
      | .Attribute o m apos, [], [] => match o with
        | .Name x _ => decide (m = "pop") && decide (N[i]? = some x) && visB sc x && !oddB x && (apos.endLine == cpos.line)
        | _ => false
      | _, _, _ => false
    | _ => false
  | _, _, .disO, e => match e with
    | .Dict [] [] _ => true
    | _ => false
  | sc, _, .dget a i, e => match e with
    | .Subscript x ix _ => !isSlice ix && trE tb N sc false a x && trE tb N sc false i ix
    | _ => false
  | sc, _, .din k i a, e => match e with
    | .Compare x ops ys _ => match ops, ys with
      | [o], [y] => decide (o = if k then .In else .NotIn) && !isSet y && trE tb N sc false i x && trE tb N sc false a y
      | _, _ => false
    | _ => false
  | _, _, .dget2 _ _ _, _ => false
  | sc, _, .ext i c, e => match e with
    | .Call g xs ks cpos => match g, xs, ks with
      | .Attribute o m apos, [y], [] => match o with
        | .Name x _ => decide (m = "extend") && decide (N[i]? = some x) && visB sc x && !oddB x && !star y && (apos.endLine == cpos.line) && trE tb N sc false c y
        | _ => false
      | _, _, _ => false
    | _ => false
  | sc, _, .fnv k, e => match e with
    | .Name x _ => match tb.fns k with
      | some fd => decide (fd.name = x) && glB sc x && !oddB x
      | none => false
    | _ => false
  | sc, _, .callL i m fl es, e => match e with
    | .Call g xs ks _ => match g, ks with
      | .Name x _, [] => decide (N[i]? = some x) && visB sc x && !oddB x && decide (0 < csLen es) && ((List.range m).all fun f => !tb.gs f) && trEs tb N sc es xs
      | _, _ => false
    | _ => false
  | sc, _, .met g md c, e => match e with
    | .Call h xs ks _ => match h, ks, xs with
      | .Name x _, [], [.Lambda ps body scope _] => match tb.mets g with
        | some (nm, md') => decide (nm = x) && decide (md' = md) && tb.lam && tb.grd && glB sc x && !oddB x && noPar ps && LamX.lamSB sc scope && trE tb.bare N scope false c body
        | none => false
      | _, _, _ => false
    | _ => false
def trEs (tb : Tb) (N : List Str) : Scope → Cs → List Expr → Bool
  | _, .nil, xs => xs.isEmpty
  | sc, .cons c cs, xs => match xs with
    | x :: xs => !star x && trE tb N sc false c x && trEs tb N sc cs xs
    | [] => false
def trBs (tb : Tb) (N : List Str) : Scope → Bool → Cs → List Expr → Bool
  | _, _, .nil, _ => false
  | sc, t, .cons c cs, xs => match xs with
    | x :: xs => trE tb N sc t c x && (match cs, xs with
      | .nil, [] => true
      | .cons _ _, _ :: _ => trBs tb N sc t cs xs
      | _, _ => false)
    | [] => false
def trIf (tb : Tb) (N : List Str) : Scope → CO → List Expr → Bool
  | _, .none, xs => xs.isEmpty
  | sc, .some c, xs => match xs with
    | [x] => trE tb N sc true c x
    | _ => false
def trO (tb : Tb) (N : List Str) : Scope → CO → Option Expr → Bool
  | _, .none, o => o.isNone
  | sc, .some c, o => match o with
    | some x => trE tb N sc false c x
    | none => false
/-- a range -/
def trR (tb : Tb) (N : List Str) : Scope → I → Expr → Bool
  | sc, .rng1 a, e => match e with
    | .Call g xs ks _ => match g, ks, xs with
      | .Name x _, [], [y] => decide (x = ("range" : Str)) && glB sc "range" && !star y && trE tb N sc false a y
      | _, _, _ => false
    | _ => false
  | sc, .rng2 a b, e => match e with
    | .Call g xs ks _ => match g, ks, xs with
      | .Name x _, [], [y, z] => decide (x = ("range" : Str)) && glB sc "range" && !star y && !star z && trE tb N sc false a y && trE tb N sc false b z
      | _, _, _ => false
    | _ => false
  | _, _, _ => false
def trI (tb : Tb) (N : List Str) : Scope → I → Expr → Expr → Bool
  | sc, .seq a, _, e => trE tb N sc false a e
  | sc, .rng1 a, _, e => match e with
    | .Call g xs ks _ => match g, ks, xs with
      | .Name x _, [], [y] => decide (x = ("range" : Str)) && glB sc "range" && !star y && trE tb N sc false a y
      | _, _, _ => false
    | _ => false
  | sc, .rng2 a b, _, e => match e with
    | .Call g xs ks _ => match g, ks, xs with
      | .Name x _, [], [y, z] => decide (x = ("range" : Str)) && glB sc "range" && !star y && !star z && trE tb N sc false a y && trE tb N sc false b z
      | _, _, _ => false
    | _ => false
  | sc, .rng3 a b c, _, e => match e with
    | .Call g xs ks _ => match g, ks, xs with
      | .Name x _, [], [y, z, u] => decide (x = ("range" : Str)) && glB sc "range" && !star y && !star z && !star u && trE tb N sc false a y && trE tb N sc false b z && trE tb N sc false c u
      | _, _, _ => false
    | _ => false
  | sc, .zips a, t, e => match e with
    | .Call g xs ks _ => match g, ks, xs with
      | .Name x _, [], [.Starred y _] => isTup t && decide (x = ("zip" : Str)) && glB sc "zip" && trE tb N sc false a y
      | _, _, _ => false
    | _ => false
  | sc, .rev a, _, e => match e with
    | .Call g xs ks _ => match g, ks, xs with
      | .Name x _, [], [y] => decide (x = ("reversed" : Str)) && glB sc "reversed" && !star y && trE tb N sc false a y
      | _, _, _ => false
    | _ => false
  | sc, .enum a, t, e => match e with
    | .Call g xs ks _ => match g, ks, xs with
      | .Name x _, [], [y] => isTup t && decide (x = ("enumerate" : Str)) && glB sc "enumerate" && !star y && trE tb N sc false a y
      | _, _, _ => false
    | _ => false
  | sc, .zip a b, t, e => match e with
    | .Call g xs ks _ => match g, ks, xs with
      | .Name x _, [], [y, z] => isTup t && decide (x = ("zip" : Str)) && glB sc "zip" && !star y && !star z && trE tb N sc false a y && trE tb N sc false b z
      | _, _, _ => false
    | _ => false
end
section
variable {tb : Tb} {cl : Wd} {call : Nat → List Slot → Out} {N : List Str} {σ0 : L2.St}
theorem trEs_cons {c : C} {cs : Cs} {xs : List Expr} {sc : Scope} (h : trEs tb N sc (.cons c cs) xs = true) : ∃ y ys, xs = y :: ys := by
  cases xs with
  | nil => simp [trEs] at h
  | cons y ys => exact ⟨y, ys, rfl⟩
theorem trEs_star : ∀ {cs : Cs} {xs : List Expr} {sc : Scope}, trEs tb N sc cs xs = true → xs.any star = false ∧ xs.length = csLen cs
  | .nil, [], _, _ => ⟨rfl, rfl⟩
  | .nil, _ :: _, _, h => by simp [trEs] at h
  | .cons _ _, [], _, h => by simp [trEs] at h
  | .cons c cs, x :: xs, _, h => by
    simp only [trEs, Bool.and_eq_true, Bool.not_eq_true'] at h
    obtain ⟨h1, h2⟩ := trEs_star h.2
    exact ⟨by rw [List.any_cons, h.1.1, h1]; rfl, by rw [List.length_cons, h2]; rfl⟩
theorem rgV_rps {K : PySem.W.Frag} {P : Hp} (a b : Int) : Rps K cl P (rgV a b) (intsL a (b - a).toNat) := by
  have gen : ∀ (n : Nat) (lo : Int), Rps K cl P ((List.range n).map fun i => V.int (lo + (i : Nat))) (intsL lo n) := by
    intro n
    induction n with
    | zero => intro lo; exact .nil
    | succ n ih =>
      intro lo
      rw [List.range_succ_eq_map, List.map_cons, List.map_map, intsL]
      refine .cons ?_ ?_
      · have : (lo + ((0 : Nat) : Int)) = lo := by simp
        rw [this]; exact .int _
      · have e : ((fun i : Nat => V.int (lo + (i : Nat))) ∘ Nat.succ) = fun i : Nat => V.int (lo + 1 + (i : Nat)) := by
          funext i
          simp only [Function.comp]
          congr 1
          omega
        rw [e]
        exact ih (lo + 1)
  exact gen _ _
variable {X : Cx} {sc : Scope} {fnB : Str → Bool} {W : WX}
theorem c_lst1 {a : C} {y : Expr} {p q pos pos' : Pos} (G : Gd tb cl call X N sc fnB W) (hl : glB sc "list" = true) (hg : glB sc "range" = true) (h : PE X y (CA cl call X W σ0 a)) (hs : star y = false) :
    PE X (.Call (.Name "list" p) [.Call (.Name "range" q) [y] [] pos'] [] pos) (CA cl call X W σ0 (.lstI (.rng1 a))) := by
  refine pe_imp (pe_listRg G.calm (show X.env.scope.names.lookup ("list" : Str) = _ by rw [G.sc]; exact gl_of hl) (G.blt _ (by decide +kernel))
    (prg_1 (show X.env.scope.names.lookup ("range" : Str) = _ by rw [G.sc]; exact gl_of hg) (G.blt _ (by decide +kernel)) h (star_each hs _ _)) rfl) fun σ H Q h => ?_
  obtain ⟨ρ, P, F, R⟩ := h
  simp only [ev, evI, bnd_assoc] at R
  refine (Res.bnd (R1 := rA X.K cl) F Step.refl R).mono fun v H1 ⟨x, ρ1, P1, F1, S1, _, ⟨r1, f1⟩, R1⟩ => ?_
  unfold rngD at R1
  cases e2 : view x ρ1 with
  | none => rw [e2] at R1; exact (R1 : False).elim
  | some d =>
    rw [e2] at R1
    cases d with
    | int j =>
      have R2 : Res X.K cl (rA X.K cl) W σ0 σ ρ H P (bnd (if (smallI 0 && smallI j) = true then ok (intsL 0 (j - 0).toNat) ρ1 else none) fun ds ρ => if ds.length ≤ 16777216 then ok (.frs (.lst ds)) ρ else none) Q := R1
      split at R2
      · rename_i z
        rw [Bool.and_eq_true] at z
        obtain ⟨s1, s2⟩ := small_of z.2
        have R3 : Res X.K cl (rA X.K cl) W σ0 σ ρ H P (if (intsL 0 (j - 0).toNat).length ≤ 16777216 then ok (.frs (.lst (intsL 0 (j - 0).toNat))) ρ1 else none) Q := R2
        split at R3
        · rename_i hz
          rw [intsL_len] at hz
          exact ⟨j, by rw [(r1.view F1 e2).int], ⟨by decide, by decide, s1, s2, hz⟩, fun q hq => Res.newLst F1 S1 R3 (rgV_rps 0 j) hq⟩
        · exact (R3 : False).elim
      · exact (R2 : False).elim
    | _ => exact (R1 : False).elim
theorem c_lst2 {a b : C} {y z : Expr} {p q pos pos' : Pos} (G : Gd tb cl call X N sc fnB W) (hl : glB sc "list" = true) (hg : glB sc "range" = true) (h : PE X y (CA cl call X W σ0 a)) (hs : star y = false) (h2 : PE X z (CA cl call X W σ0 b)) (hs2 : star z = false) :
    PE X (.Call (.Name "list" p) [.Call (.Name "range" q) [y, z] [] pos'] [] pos) (CA cl call X W σ0 (.lstI (.rng2 a b))) := by
  refine pe_imp (pe_listRg G.calm (show X.env.scope.names.lookup ("list" : Str) = _ by rw [G.sc]; exact gl_of hl) (G.blt _ (by decide +kernel))
    (prg_2 (show X.env.scope.names.lookup ("range" : Str) = _ by rw [G.sc]; exact gl_of hg) (G.blt _ (by decide +kernel)) h h2 (star_each hs _ _) (star_each hs2 _ _) (back_any (es := [z]) (by rw [List.any_cons, hs2]; rfl) _ _)) rfl) fun σ H Q h => ?_
  obtain ⟨ρ, P, F, R⟩ := h
  simp only [ev, evI, bnd_assoc] at R
  refine (Res.bnd (R1 := rA X.K cl) F Step.refl R).mono fun v H1 ⟨x, ρ1, P1, F1, S1, _, ⟨r1, f1⟩, R1⟩ => ?_
  refine (Res.bnd (R1 := rA X.K cl) F1 S1 R1).mono fun u H2 ⟨x', ρ2, P2, F2, S2, S, ⟨r2, f2⟩, R2⟩ => ?_
  unfold rngD at R2
  cases e1 : view x ρ2 with
  | none => rw [e1] at R2; exact (R2 : False).elim
  | some d =>
    cases e2 : view x' ρ2 with
    | none => rw [e1, e2] at R2; cases d <;> exact (R2 : False).elim
    | some d' =>
      rw [e1, e2] at R2
      cases d with
      | int i =>
        cases d' with
        | int j =>
          have R3 : Res X.K cl (rA X.K cl) W σ0 σ ρ H P (bnd (if (smallI i && smallI j) = true then ok (intsL i (j - i).toNat) ρ2 else none) fun ds ρ => if ds.length ≤ 16777216 then ok (.frs (.lst ds)) ρ else none) Q := R2
          split at R3
          · rename_i z
            rw [Bool.and_eq_true] at z
            obtain ⟨s1, s2⟩ := small_of z.1
            obtain ⟨s3, s4⟩ := small_of z.2
            have R4 : Res X.K cl (rA X.K cl) W σ0 σ ρ H P (if (intsL i (j - i).toNat).length ≤ 16777216 then ok (.frs (.lst (intsL i (j - i).toNat))) ρ2 else none) Q := R3
            split at R4
            · rename_i hz
              rw [intsL_len] at hz
              exact ⟨i, j, by rw [((r1.step S2).view F2 e1).int], by rw [(r2.view F2 e2).int], ⟨s1, s2, s3, s4, hz⟩, fun q hq => Res.newLst F2 S R4 (rgV_rps i j) hq⟩
            · exact (R4 : False).elim
          · exact (R3 : False).elim
        | _ => exact (R2 : False).elim
      | _ => exact (R2 : False).elim
end
end MP
set_option Elab.async false
set_option linter.all false
set_option maxRecDepth 100000
set_option maxHeartbeats 4000000
/-! MP: every expression that is told runs as the evaluator says -/
namespace MP
open PySem PySem.Spec PyProof.Rows L2
section
variable {cl : Wd} {call : Nat → List Slot → Out} {N : List Str} {σ0 : L2.St}
/-- an expression as a value, as a test -/
def EV (cl : Wd) (call : Nat → List Slot → Out) (σ0 : L2.St) (X : Cx) (W : WX) (t : Bool) (c : C) (e : Expr) : Prop := (t = false → PE X e (CA cl call X W σ0 c)) ∧ (t = true → PT X e (CT cl call X W σ0 c))
theorem ev_plain {X : Cx} {W : WX} {t : Bool} {c : C} {e : Expr} (h : PE X e (CA cl call X W σ0 c)) (he : ∀ whole, isTrue e X.env whole = (do let v ← whole; standAt e.pos; holding [v] (truthy v)) := by intro _; rfl) : EV cl call σ0 X W t c e :=
  ⟨fun _ => h, fun _ => t_plain h he⟩
mutual
theorem m_e : ∀ (c : C) {tb : Tb} {sc : Scope} {fnB : Str → Bool} {X : Cx} {W : WX} (t : Bool) (e : Expr), Gd tb cl call X N sc fnB W → trE tb N sc t c e = true → EV cl call σ0 X W t c e
  | .cst d, tb, sc, fnB, X, W, t, e, G, h => by
    cases e <;> simp only [trE, Bool.false_eq_true] at h
    exact ev_plain (c_cst h)
  | .var i, tb, sc, fnB, X, W, t, e, G, h => by
    cases e <;> simp only [trE, Bool.false_eq_true] at h
    simp only [Bool.and_eq_true, decide_eq_true_eq, Bool.not_eq_true'] at h
    exact ev_plain (c_var G h.1.1 h.1.2 h.2)
  | .glb y d, tb, sc, fnB, X, W, t, e, G, h => by
    cases e <;> simp only [trE, Bool.false_eq_true] at h
    simp only [Bool.and_eq_true, decide_eq_true_eq, Bool.not_eq_true'] at h
    obtain ⟨⟨⟨rfl, h2⟩, h3⟩, h4⟩ := h
    rw [List.any_eq_true] at h4
    obtain ⟨⟨z, d'⟩, hm, h4⟩ := h4
    simp only [Bool.and_eq_true, decide_eq_true_eq] at h4
    obtain ⟨rfl, h5⟩ := h4
    have h5 := D.same_eq h5
    subst h5
    exact ev_plain (c_glb G h2 h3 hm)
  | .tup es, tb, sc, fnB, X, W, t, e, G, h => by
    cases e <;> simp only [trE, Bool.false_eq_true] at h
    simp only [Bool.and_eq_true, decide_eq_true_eq] at h
    exact ev_plain (c_tup (m_ds es _ G h.1) h.2)
  | .lst es, tb, sc, fnB, X, W, t, e, G, h => by
    cases e <;> simp only [trE, Bool.false_eq_true] at h
    simp only [Bool.and_eq_true, decide_eq_true_eq] at h
    exact ev_plain (c_lst (m_ds es _ G h.1) h.2)
  | .dis0, tb, sc, fnB, X, W, t, e, G, h => by
    cases e <;> simp only [trE, Bool.false_eq_true] at h
    simp only [Bool.and_eq_true, List.isEmpty_iff] at h
    obtain ⟨rfl, rfl⟩ := h
    exact ev_plain c_dis0
  | .dis1 a b, tb, sc, fnB, X, W, t, e, G, h => by
    cases e <;> simp only [trE, Bool.false_eq_true] at h
    split at h
    · simp only [Bool.and_eq_true] at h
      exact ev_plain (c_dis1 ((m_e a false _ G h.1).1 rfl) ((m_e b false _ G h.2).1 rfl))
    · cases h
  | .bin op a b, tb, sc, fnB, X, W, t, e, G, h => by
    cases e <;> simp only [trE, Bool.false_eq_true] at h
    simp only [Bool.and_eq_true, decide_eq_true_eq] at h
    obtain ⟨⟨rfl, h2⟩, h3⟩ := h
    exact ev_plain (c_bin ((m_e a false _ G h2).1 rfl) ((m_e b false _ G h3).1 rfl))
  | .neg a, tb, sc, fnB, X, W, t, e, G, h => by
    cases e <;> simp only [trE, Bool.false_eq_true] at h
    simp only [Bool.and_eq_true, decide_eq_true_eq] at h
    obtain ⟨rfl, h2⟩ := h
    exact ev_plain (c_neg ((m_e a false _ G h2).1 rfl))
  | .boo k es, tb, sc, fnB, X, W, t, e, G, h => by
    cases e <;> simp only [trE, Bool.false_eq_true] at h
    simp only [Bool.and_eq_true, decide_eq_true_eq] at h
    obtain ⟨rfl, h2⟩ := h
    exact m_b es t _ G h2
  | .not_ a, tb, sc, fnB, X, W, t, e, G, h => by
    cases e <;> simp only [trE, Bool.false_eq_true] at h
    simp only [Bool.and_eq_true, decide_eq_true_eq] at h
    obtain ⟨rfl, h2⟩ := h
    have ih := m_e a t _ G h2
    exact ⟨fun e => c_not (ih.1 e), fun e => t_not (ih.2 e)⟩
  | .cmp op a b, tb, sc, fnB, X, W, t, e, G, h => by
    cases e <;> simp only [trE, Bool.false_eq_true] at h
    split at h
    · simp only [Bool.and_eq_true, decide_eq_true_eq, Bool.not_eq_true'] at h
      obtain ⟨⟨⟨rfl, h2⟩, h3⟩, h4⟩ := h
      exact ⟨fun _ => c_cmp G ((m_e a false _ G h3).1 rfl) ((m_e b false _ G h4).1 rfl) h2, fun _ => t_cmp G ((m_e a false _ G h3).1 rfl) ((m_e b false _ G h4).1 rfl) h2⟩
    · cases h
  | .chn op op' a b c, tb, sc, fnB, X, W, t, e, G, h => by
    cases e <;> simp only [trE, Bool.false_eq_true] at h
    split at h
    · simp only [Bool.and_eq_true, decide_eq_true_eq, Bool.not_eq_true'] at h
      obtain ⟨⟨⟨⟨⟨rfl, rfl⟩, h2⟩, h3⟩, h4⟩, h5⟩ := h
      have p1 := (m_e a false _ G h3).1 rfl
      have p2 := (m_e b false _ G h4).1 rfl
      have p3 := (m_e c false _ G h5).1 rfl
      exact ⟨fun _ => c_chn G p1 p2 p3 h2, fun _ => t_chn G p1 p2 p3 h2⟩
    · cases h
  | .chn3 op op' op'' a b c d, tb, sc, fnB, X, W, t, e, G, h => by
    cases e <;> simp only [trE, Bool.false_eq_true] at h
    split at h
    · simp only [Bool.and_eq_true, decide_eq_true_eq, Bool.not_eq_true'] at h
      obtain ⟨⟨⟨⟨⟨⟨⟨rfl, rfl⟩, rfl⟩, h2⟩, h3⟩, h4⟩, h5⟩, h6⟩ := h
      have p1 := (m_e a false _ G h3).1 rfl
      have p2 := (m_e b false _ G h4).1 rfl
      have p3 := (m_e c false _ G h5).1 rfl
      have p4 := (m_e d false _ G h6).1 rfl
      exact ⟨fun _ => c_chn3 G p1 p2 p3 p4 h2, fun _ => t_chn3 G p1 p2 p3 p4 h2⟩
    · cases h
  | .ite c a b, tb, sc, fnB, X, W, t, e, G, h => by
    cases e <;> simp only [trE, Bool.false_eq_true] at h
    simp only [Bool.and_eq_true, Bool.not_eq_true'] at h
    obtain ⟨⟨⟨rfl, h2⟩, h3⟩, h4⟩ := h
    exact ⟨fun _ => c_ite ((m_e c true _ G h2).2 rfl) ((m_e a false _ G h3).1 rfl) ((m_e b false _ G h4).1 rfl), fun z => nomatch z⟩
  | .idx a i, tb, sc, fnB, X, W, t, e, G, h => by
    cases e <;> simp only [trE, Bool.false_eq_true] at h
    simp only [Bool.and_eq_true, Bool.not_eq_true'] at h
    exact ev_plain (c_idx ((m_e a false _ G h.1.2).1 rfl) ((m_e i false _ G h.2).1 rfl) h.1.1)
  | .slc a lo hi, tb, sc, fnB, X, W, t, e, G, h => by
    cases e <;> simp only [trE, Bool.false_eq_true] at h
    split at h
    · split at h
      · simp only [Bool.and_eq_true] at h
        exact ev_plain (c_slc ((m_e a false _ G h.1.1).1 rfl) (m_o lo _ G h.1.2) (m_o hi _ G h.2))
      · cases h
    · cases h
  | .call f fl es, tb, sc, fnB, X, W, t, e, G, h => by
    cases e <;> simp only [trE, Bool.false_eq_true] at h
    split at h
    · split at h
      · rename_i fd hf
        simp only [Bool.and_eq_true, decide_eq_true_eq, Bool.not_eq_true'] at h
        obtain ⟨⟨⟨⟨⟨⟨h1, h2⟩, h3⟩, h4⟩, h5⟩, hq⟩, h6⟩ := h
        cases es with
        | nil => simp [csLen] at h3
        | cons c cs =>
          obtain ⟨y, ys, rfl⟩ := trEs_cons h6
          exact ev_plain (c_call G hf h1 h2 h4 h5 (fun z => by simpa [z] using hq) (m_as fl (.cons c cs) _ G h6) (trEs_star h6).1)
      · cases h
    · cases h
  | .blt f es, tb, sc, fnB, X, W, t, e, G, h => by
    cases e <;> simp only [trE, Bool.false_eq_true] at h
    split at h
    · simp only [Bool.and_eq_true, decide_eq_true_eq] at h
      obtain ⟨⟨⟨⟨h1, rfl⟩, h3⟩, h4⟩, h5⟩ := h
      cases es with
      | nil => simp [csLen] at h4
      | cons c cs =>
        obtain ⟨y, ys, rfl⟩ := trEs_cons h5
        exact ev_plain (c_blt G h1 h3 (m_as [] (.cons c cs) _ G h5) (trEs_star h5).1)
    · cases h
  | .isi ts c, tb, sc, fnB, X, W, t, e, G, h => by
    cases e <;> simp only [trE, Bool.false_eq_true] at h
    split at h
    · simp only [Bool.and_eq_true, decide_eq_true_eq, Bool.not_eq_true'] at h
      obtain ⟨⟨⟨⟨rfl, h2⟩, h3⟩, h4⟩, h5⟩ := h
      have pe := (m_e c false _ G h4).1 rfl
      split at h5
      · simp only [Bool.and_eq_true, decide_eq_true_eq] at h5
        exact ev_plain (c_isiT G h2 h5.1 h5.2 pe h3)
      · split at h5
        · simp only [Bool.and_eq_true, decide_eq_true_eq] at h5
          obtain ⟨rfl, h6⟩ := h5
          exact ev_plain (c_isi1 G h2 h6 pe h3)
        · cases h5
      · cases h5
    · cases h
  | .lstI it, tb, sc, fnB, X, W, t, e, G, h => by
    cases e <;> simp only [trE, Bool.false_eq_true] at h
    split at h
    · simp only [Bool.and_eq_true, decide_eq_true_eq, Bool.not_eq_true'] at h
      obtain ⟨⟨⟨rfl, h2⟩, h3⟩, h4⟩ := h
      exact ev_plain (m_r it _ G h2 h4)
    · cases h
  | .cmpr elt tg it ifs own, tb, sc, fnB, X, W, t, e, G, h => by
    cases e <;> simp only [trE, Bool.false_eq_true] at h
    split at h
    · simp only [Bool.and_eq_true, Bool.not_eq_true'] at h
      obtain ⟨⟨⟨⟨⟨⟨h1, h2⟩, h3⟩, h4⟩, h5⟩, h6⟩, h7⟩ := h
      have he := fun (s : Shared) (H : Hp) (C : Addr) (c : List (Str × Addr)) (fp : List Addr) => pe_frz ((m_e elt false _ (G.blk s H _ C c fp) h4).1 rfl)
      refine ev_plain (pe_imp (pe_lc (g := CG X.K cl σ0 tg) (tt := Can X.K cl rB W0 σ0 (evIf call ifs)) (te := Can X.K cl (rD X.K cl) W0 σ0 (fun ρ => bnd (ev call elt ρ) frzM)) (own := ownL N own) G.calm (by rw [G.hN]; exact G.nd) (m_i it _ _ G h2) (by rw [G.hN, G.sc]; exact blkOk_by h6) (fun s H C c fp => g_tg (G.blk s H _ C c fp) h3)
        (fun s H C c fp => m_if ifs _ (G.blk s H _ C c fp) h5) (fun s H C c fp => he s H C c fp) (fun x => folded_of h1 _ x)) fun σ H Q hh => ?_)
      rw [ownL_snd]
      exact comp_imp (fun i hi => by
        have := List.all_eq_true.mp h7 i hi
        simpa using this) hh
    · cases h
  | .bad, tb, sc, fnB, X, W, t, e, G, h => ⟨fun _ => ⟨fun pins s σ H Q I hh => by
      obtain ⟨ρ, P, F, R⟩ := hh
      simp only [ev] at R
      exact R.elim⟩, fun _ => ⟨fun pins s σ H Q I hh => by
      obtain ⟨ρ, P, F, R⟩ := hh
      simp only [evT, ev, bnd] at R
      exact R.elim⟩⟩
  | .fnv k, tb, sc, fnB, X, W, t, e, G, h => by
    cases e <;> simp only [trE, Bool.false_eq_true] at h
    split at h
    · rename_i fd hf
      simp only [Bool.and_eq_true, decide_eq_true_eq, Bool.not_eq_true'] at h
      exact ev_plain (c_fnv G hf h.1.1 h.1.2 h.2)
    · cases h
  | .callL i m fl es, tb, sc, fnB, X, W, t, e, G, h => by
    cases e <;> simp only [trE, Bool.false_eq_true] at h
    split at h
    · simp only [Bool.and_eq_true, decide_eq_true_eq, Bool.not_eq_true'] at h
      obtain ⟨⟨⟨⟨⟨h1, h2⟩, h3⟩, h4⟩, h5⟩, h6⟩ := h
      cases es with
      | nil => simp [csLen] at h4
      | cons c cs =>
        obtain ⟨y, ys, rfl⟩ := trEs_cons h6
        refine ev_plain (c_callL G h1 h2 h3 (fun f hf hg => ?_) (m_as fl (.cons c cs) _ G h6) (trEs_star h6).1)
        have := List.all_eq_true.mp h5 f (List.mem_range.mpr hf)
        rw [hg] at this
        cases this
    · cases h
  | .met g md c, tb, sc, fnB, X, W, t, e, G, h => by
    cases e <;> simp only [trE, Bool.false_eq_true] at h
    split at h
    · split at h
      · rename_i nm md' hm
        simp only [Bool.and_eq_true, decide_eq_true_eq, Bool.not_eq_true'] at h
        obtain ⟨⟨⟨⟨⟨⟨⟨⟨h1, h2⟩, h3⟩, h4⟩, h5⟩, h6⟩, h7⟩, h8⟩, h9⟩ := h
        subst h1 h2
        exact ev_plain (c_met G hm h3 h4 h5 h6 h7 h8 fun G' => (m_e c false _ G' h9).1 rfl)
      · cases h
    · cases h
  | .pop i, tb, sc, fnB, X, W, t, e, G, h => by
    cases e <;> simp only [trE, Bool.false_eq_true] at h
    split at h
    · split at h
      · simp only [Bool.and_eq_true, decide_eq_true_eq, Bool.not_eq_true'] at h
        obtain ⟨⟨⟨⟨rfl, h2⟩, h3⟩, h4⟩, h5⟩ := h
        exact ev_plain (c_pop G h2 h3 h4 h5)
      · cases h
    · cases h
  | .disO, tb, sc, fnB, X, W, t, e, G, h => by
    cases e <;> simp only [trE, Bool.false_eq_true] at h
    split at h
    · rename_i heq
      cases heq
      exact ev_plain c_disO
    · cases h
  | .dget a i, tb, sc, fnB, X, W, t, e, G, h => by
    cases e <;> simp only [trE, Bool.false_eq_true] at h
    simp only [Bool.and_eq_true, Bool.not_eq_true'] at h
    obtain ⟨⟨h1, h2⟩, h3⟩ := h
    exact ev_plain (c_dget G ((m_e a false _ G h2).1 rfl) ((m_e i false _ G h3).1 rfl) h1)
  | .din k i a, tb, sc, fnB, X, W, t, e, G, h => by
    cases e <;> simp only [trE, Bool.false_eq_true] at h
    split at h
    · simp only [Bool.and_eq_true, decide_eq_true_eq, Bool.not_eq_true'] at h
      obtain ⟨⟨⟨rfl, h2⟩, h3⟩, h4⟩ := h
      exact ⟨fun _ => c_din G ((m_e i false _ G h3).1 rfl) ((m_e a false _ G h4).1 rfl) h2, fun _ => t_din G ((m_e i false _ G h3).1 rfl) ((m_e a false _ G h4).1 rfl) h2⟩
    · cases h
  | .dget2 a i z, tb, sc, fnB, X, W, t, e, G, h => by simp [trE] at h
  | .ext i c, tb, sc, fnB, X, W, t, e, G, h => by
    cases e <;> simp only [trE, Bool.false_eq_true] at h
    split at h
    · split at h
      · simp only [Bool.and_eq_true, decide_eq_true_eq, Bool.not_eq_true'] at h
        obtain ⟨⟨⟨⟨⟨⟨rfl, h2⟩, h3⟩, h4⟩, h5⟩, h6⟩, h7⟩ := h
        exact ev_plain (c_ext G h2 h3 h4 ((m_e c false _ G h7).1 rfl) h5 h6)
      · cases h
    · cases h
theorem m_b : ∀ (es : Cs) {k : Bool} {tb : Tb} {sc : Scope} {fnB : Str → Bool} {X : Cx} {W : WX} {pos : Pos} (t : Bool) (xs : List Expr), Gd tb cl call X N sc fnB W → trBs tb N sc t es xs = true → EV cl call σ0 X W t (.boo k es) (.BoolOp (opK k) xs pos)
  | .nil, k, tb, sc, fnB, X, W, pos, t, xs, G, h => by simp [trBs] at h
  | .cons c .nil, k, tb, sc, fnB, X, W, pos, t, xs, G, h => by
    cases xs with
    | nil => simp [trBs] at h
    | cons x xs =>
      cases xs with
      | cons _ _ => simp [trBs] at h
      | nil =>
        simp only [trBs, Bool.and_eq_true] at h
        have ih := m_e c t _ G h.1
        exact ⟨fun e => c_boo1 (ih.1 e), fun e => (w_boo1 (ih.2 e)).pt⟩
  | .cons c (.cons c2 cs), k, tb, sc, fnB, X, W, pos, t, xs, G, h => by
    cases xs with
    | nil => simp [trBs] at h
    | cons x xs =>
      cases xs with
      | nil => simp [trBs] at h
      | cons y ys =>
        rw [trBs] at h
        simp only [Bool.and_eq_true] at h
        have ih := m_e c t _ G h.1
        have ih2 := m_w (.cons c2 cs) (k := k) (pos := pos) t _ G h.2
        exact ⟨fun e => c_boo2 (ih.1 e) (ih2.1 e), fun e => (w_boo2 (ih.2 e) (ih2.2 e)).pt⟩
theorem m_w : ∀ (es : Cs) {k : Bool} {tb : Tb} {sc : Scope} {fnB : Str → Bool} {X : Cx} {W : WX} {pos : Pos} (t : Bool) (xs : List Expr), Gd tb cl call X N sc fnB W → trBs tb N sc t es xs = true →
    (t = false → PE X (.BoolOp (opK k) xs pos) (Can X.K cl (rA X.K cl) W σ0 (evB call k es))) ∧ (t = true → PW X (.BoolOp (opK k) xs pos) (Can X.K cl rB W σ0 (fun ρ => bnd (evB call k es ρ) tru)))
  | .nil, k, tb, sc, fnB, X, W, pos, t, xs, G, h => by simp [trBs] at h
  | .cons c .nil, k, tb, sc, fnB, X, W, pos, t, xs, G, h => by
    cases xs with
    | nil => simp [trBs] at h
    | cons x xs =>
      cases xs with
      | cons _ _ => simp [trBs] at h
      | nil =>
        simp only [trBs, Bool.and_eq_true] at h
        have ih := m_e c t _ G h.1
        exact ⟨fun e => c_boo1 (ih.1 e), fun e => w_boo1 (ih.2 e)⟩
  | .cons c (.cons c2 cs), k, tb, sc, fnB, X, W, pos, t, xs, G, h => by
    cases xs with
    | nil => simp [trBs] at h
    | cons x xs =>
      cases xs with
      | nil => simp [trBs] at h
      | cons y ys =>
        rw [trBs] at h
        simp only [Bool.and_eq_true] at h
        have ih := m_e c t _ G h.1
        have ih2 := m_w (.cons c2 cs) (k := k) (pos := pos) t _ G h.2
        exact ⟨fun e => c_boo2 (ih.1 e) (ih2.1 e), fun e => w_boo2 (ih.2 e) (ih2.2 e)⟩
theorem m_ds : ∀ (es : Cs) {tb : Tb} {sc : Scope} {fnB : Str → Bool} {X : Cx} {W : WX} (xs : List Expr), Gd tb cl call X N sc fnB W → trEs tb N sc es xs = true → PA X xs (Can X.K cl (rDs X.K cl) W σ0 (evDs call es))
  | .nil, tb, sc, fnB, X, W, xs, G, h => by
    cases xs with
    | nil => exact pa_ds_nil
    | cons _ _ => simp [trEs] at h
  | .cons c cs, tb, sc, fnB, X, W, xs, G, h => by
    cases xs with
    | nil => simp [trEs] at h
    | cons x xs =>
      simp only [trEs, Bool.and_eq_true, Bool.not_eq_true'] at h
      exact pa_ds_cons ((m_e c false _ G h.1.2).1 rfl) (m_ds cs _ G h.2) h.1.1
theorem m_as : ∀ (fl : List Bool) (es : Cs) {tb : Tb} {sc : Scope} {fnB : Str → Bool} {X : Cx} {W : WX} (xs : List Expr), Gd tb cl call X N sc fnB W → trEs tb N sc es xs = true → PA X xs (Can X.K cl (rAs X.K cl) W σ0 (evAs call fl es))
  | fl, .nil, tb, sc, fnB, X, W, xs, G, h => by
    cases xs with
    | nil => exact pa_as_nil
    | cons _ _ => simp [trEs] at h
  | fl, .cons c cs, tb, sc, fnB, X, W, xs, G, h => by
    cases xs with
    | nil => simp [trEs] at h
    | cons x xs =>
      simp only [trEs, Bool.and_eq_true, Bool.not_eq_true'] at h
      exact pa_as_cons ((m_e c false _ G h.1.2).1 rfl) (m_as fl.tail cs _ G h.2) h.1.1
theorem m_if : ∀ (o : CO) {tb : Tb} {sc : Scope} {fnB : Str → Bool} {X : Cx} {W : WX} (xs : List Expr), Gd tb cl call X N sc fnB W → trIf tb N sc o xs = true → PTs X xs (Can X.K cl rB W σ0 (evIf call o))
  | .none, tb, sc, fnB, X, W, xs, G, h => by
    cases xs with
    | nil =>
      refine ⟨fun pins s σ H Q I hh => pts_nil.run pins s σ H Q I ?_⟩
      obtain ⟨ρ, P, F, R⟩ := hh
      exact Res.ret F Step.refl R rfl
    | cons _ _ => simp [trIf] at h
  | .some c, tb, sc, fnB, X, W, xs, G, h => by
    cases xs with
    | nil => simp [trIf] at h
    | cons x xs =>
      cases xs with
      | cons _ _ => simp [trIf] at h
      | nil =>
        simp only [trIf] at h
        exact pts_one ((m_e c true _ G h).2 rfl)
theorem m_o : ∀ (o : CO) {tb : Tb} {sc : Scope} {fnB : Str → Bool} {X : Cx} {W : WX} (x : Option Expr), Gd tb cl call X N sc fnB W → trO tb N sc o x = true → PO X x (Can X.K cl rO W σ0 (evO call o))
  | .none, tb, sc, fnB, X, W, x, G, h => by
    cases x with
    | none => exact o_none
    | some _ => simp [trO] at h
  | .some c, tb, sc, fnB, X, W, x, G, h => by
    cases x with
    | none => simp [trO] at h
    | some x =>
      simp only [trO] at h
      exact o_some ((m_e c false _ G h).1 rfl)
theorem m_r : ∀ (it : I) {tb : Tb} {sc : Scope} {fnB : Str → Bool} {X : Cx} {W : WX} {p pos : Pos} (r : Expr), Gd tb cl call X N sc fnB W → glB sc "list" = true → trR tb N sc it r = true → PE X (.Call (.Name "list" p) [r] [] pos) (CA cl call X W σ0 (.lstI it))
  | .rng1 a, tb, sc, fnB, X, W, p, pos, r, G, hl, h => by
    cases r <;> simp only [trR, Bool.false_eq_true] at h
    split at h
    · simp only [Bool.and_eq_true, decide_eq_true_eq, Bool.not_eq_true'] at h
      obtain ⟨⟨⟨rfl, h2⟩, h3⟩, h4⟩ := h
      exact c_lst1 G hl h2 ((m_e a false _ G h4).1 rfl) h3
    · cases h
  | .rng2 a b, tb, sc, fnB, X, W, p, pos, r, G, hl, h => by
    cases r <;> simp only [trR, Bool.false_eq_true] at h
    split at h
    · simp only [Bool.and_eq_true, decide_eq_true_eq, Bool.not_eq_true'] at h
      obtain ⟨⟨⟨⟨⟨rfl, h2⟩, h3⟩, h4⟩, h5⟩, h6⟩ := h
      exact c_lst2 G hl h2 ((m_e a false _ G h5).1 rfl) h3 ((m_e b false _ G h6).1 rfl) h4
    · cases h
  | .seq a, tb, sc, fnB, X, W, p, pos, r, G, hl, h => by simp [trR] at h
  | .rng3 a b c, tb, sc, fnB, X, W, p, pos, r, G, hl, h => by simp [trR] at h
  | .enum a, tb, sc, fnB, X, W, p, pos, r, G, hl, h => by simp [trR] at h
  | .zip a b, tb, sc, fnB, X, W, p, pos, r, G, hl, h => by simp [trR] at h
  | .zips a, tb, sc, fnB, X, W, p, pos, r, G, hl, h => by simp [trR] at h
  | .rev a, tb, sc, fnB, X, W, p, pos, r, G, hl, h => by simp [trR] at h
theorem m_i : ∀ (it : I) {tb : Tb} {sc : Scope} {fnB : Str → Bool} {X : Cx} {W : WX} (tg e : Expr), Gd tb cl call X N sc fnB W → trI tb N sc it tg e = true → PI X tg e (CI cl call X W σ0 it)
  | .seq a, tb, sc, fnB, X, W, tg, e, G, h => by
    simp only [trI] at h
    exact i_seq ((m_e a false _ G h).1 rfl)
  | .rng1 a, tb, sc, fnB, X, W, tg, e, G, h => by
    cases e <;> simp only [trI, Bool.false_eq_true] at h
    split at h
    · simp only [Bool.and_eq_true, decide_eq_true_eq, Bool.not_eq_true'] at h
      obtain ⟨⟨⟨rfl, h2⟩, h3⟩, h4⟩ := h
      exact i_rng1 G h2 ((m_e a false _ G h4).1 rfl) h3
    · cases h
  | .rng2 a b, tb, sc, fnB, X, W, tg, e, G, h => by
    cases e <;> simp only [trI, Bool.false_eq_true] at h
    split at h
    · simp only [Bool.and_eq_true, decide_eq_true_eq, Bool.not_eq_true'] at h
      obtain ⟨⟨⟨⟨⟨rfl, h2⟩, h3⟩, h4⟩, h5⟩, h6⟩ := h
      exact i_rng2 G h2 ((m_e a false _ G h5).1 rfl) h3 ((m_e b false _ G h6).1 rfl) h4
    · cases h
  | .rng3 a b c, tb, sc, fnB, X, W, tg, e, G, h => by
    cases e <;> simp only [trI, Bool.false_eq_true] at h
    split at h
    · simp only [Bool.and_eq_true, decide_eq_true_eq, Bool.not_eq_true'] at h
      obtain ⟨⟨⟨⟨⟨⟨⟨rfl, h2⟩, h3⟩, h4⟩, h5⟩, h6⟩, h7⟩, h8⟩ := h
      exact i_rng3 G h2 ((m_e a false _ G h6).1 rfl) h3 ((m_e b false _ G h7).1 rfl) h4 ((m_e c false _ G h8).1 rfl) h5
    · cases h
  | .zips a, tb, sc, fnB, X, W, tg, e, G, h => by
    cases e <;> simp only [trI, Bool.false_eq_true] at h
    split at h
    · simp only [Bool.and_eq_true, decide_eq_true_eq, Bool.not_eq_true'] at h
      obtain ⟨⟨⟨h1, rfl⟩, h2⟩, h3⟩ := h
      cases tg <;> simp only [isTup, Bool.false_eq_true] at h1
      exact i_zips G h2 ((m_e a false _ G h3).1 rfl)
    · cases h
  | .rev a, tb, sc, fnB, X, W, tg, e, G, h => by
    cases e <;> simp only [trI, Bool.false_eq_true] at h
    split at h
    · simp only [Bool.and_eq_true, decide_eq_true_eq, Bool.not_eq_true'] at h
      obtain ⟨⟨⟨rfl, h2⟩, h3⟩, h4⟩ := h
      exact i_rev G h2 ((m_e a false _ G h4).1 rfl) h3
    · cases h
  | .enum a, tb, sc, fnB, X, W, tg, e, G, h => by
    cases e <;> simp only [trI, Bool.false_eq_true] at h
    split at h
    · simp only [Bool.and_eq_true, decide_eq_true_eq, Bool.not_eq_true'] at h
      obtain ⟨⟨⟨⟨h1, rfl⟩, h2⟩, h3⟩, h4⟩ := h
      cases tg <;> simp only [isTup, Bool.false_eq_true] at h1
      exact i_enum G h2 ((m_e a false _ G h4).1 rfl) h3
    · cases h
  | .zip a b, tb, sc, fnB, X, W, tg, e, G, h => by
    cases e <;> simp only [trI, Bool.false_eq_true] at h
    split at h
    · simp only [Bool.and_eq_true, decide_eq_true_eq, Bool.not_eq_true'] at h
      obtain ⟨⟨⟨⟨⟨⟨h1, rfl⟩, h2⟩, h3⟩, h4⟩, h5⟩, h6⟩ := h
      cases tg <;> simp only [isTup, Bool.false_eq_true] at h1
      exact i_zip G h2 ((m_e a false _ G h5).1 rfl) h3 ((m_e b false _ G h6).1 rfl) h4
    · cases h
end
end
end MP
set_option Elab.async false
set_option linter.all false
set_option maxRecDepth 100000
set_option maxHeartbeats 4000000
/-! MP: statements -/
namespace MP
open PySem PySem.Spec PyProof.Rows L2

section
variable (K : PySem.W.Frag) (cl : Wd)
/-- what is wanted behind a statement, from a start -/
def ResS (W : WX) (σ0 σ : L2.St) (ρ : Env) (H P : Hp) (m : Mr Flow) (D : Ends) : Prop :=
  match m with
  | none => False
  | some (.ok f, ρ') => ∀ σ' H' P', FR K cl σ0 σ' H' P' ρ' → Step σ ρ H P σ' ρ' H' P' → match f with
    | .nxt => D.nx σ' H'
    | .brk => D.bk σ' H'
    | .cnt => D.ct σ' H'
    | .ret a => ∀ v, AR K cl σ' H' P' ρ' v a → AF σ ρ H v a → D.rt v H'
  | some (.error x, ρ') => ∀ c d σ' H' P', FR K cl σ0 σ' H' P' ρ' → Step σ ρ H P σ' ρ' H' P' → ExR K cl P' x c d → W c d σ' H'
def CS (W : WX) (σ0 : L2.St) (m : Env → Mr Flow) : TS := fun D σ H => ∃ ρ P, FR K cl σ0 σ H P ρ ∧ ResS K cl W σ0 σ ρ H P (m ρ) D
end
section
variable {K : PySem.W.Frag} {cl : Wd} {W : WX} {σ0 σ σ1 : L2.St} {ρ ρ1 : Env} {H P H1 P1 : Hp} {D : Ends} {α β : Type}
theorem ResS.later {m : Mr Flow} (h : ResS K cl W σ0 σ ρ H P m D) (S : Step σ ρ H P σ1 ρ1 H1 P1) : ResS K cl W σ0 σ1 ρ1 H1 P1 m D := by
  unfold ResS at *
  split at h
  · exact h
  · intro σ' H' P' F2 S2
    have := h σ' H' P' F2 (S.trans S2)
    revert this
    split <;> intro this
    · exact this
    · exact this
    · exact this
    · exact fun v r f => this v r (f.back S)
  · exact fun c d σ' H' P' F2 S2 r => h c d σ' H' P' F2 (S.trans S2) r
/-- an expression, then more -/
theorem ResS.bnd {R1 : Rl β α} {m : Env → Mr α} {f : α → Env → Mr Flow} (F : FR K cl σ0 σ H1 P1 ρ1) (S : Step σ ρ H P σ ρ1 H1 P1) (h : ResS K cl W σ0 σ ρ H P (bnd (m ρ1) f) D) :
    Can K cl R1 W σ0 m σ H1 fun b H2 => ∃ a ρ2 P2, FR K cl σ0 σ H2 P2 ρ2 ∧ Step σ ρ1 H1 P1 σ ρ2 H2 P2 ∧ Step σ ρ H P σ ρ2 H2 P2 ∧ R1.r σ ρ1 H1 ρ2 H2 P2 b a ∧ ResS K cl W σ0 σ ρ H P (f a ρ2) D := by
  refine ⟨ρ1, P1, F, ?_⟩
  unfold Res
  unfold ResS MP.bnd at *
  cases e : m ρ1 with
  | none => rw [e] at h; exact h
  | some q =>
    obtain ⟨x, ρ'⟩ := q
    rw [e] at h
    cases x with
    | error x => exact fun c d H' P' F1 S1 r1 => h c d σ H' P' F1 (S.trans S1) r1
    | ok a => exact fun b H' P' F1 S1 r1 => ⟨a, ρ', P', F1, S1, S.trans S1, r1, h⟩
theorem ResS.next (F : FR K cl σ0 σ1 H1 P1 ρ1) (S : Step σ ρ H P σ1 ρ1 H1 P1) (h : ResS K cl W σ0 σ ρ H P (ok .nxt ρ1) D) : D.nx σ1 H1 := h σ1 H1 P1 F S
/-- a slot that takes a new list of its own -/
theorem FR.putOwn (F : FR K cl σ0 σ H P ρ) {i : Nat} {v : V} {d : MP.D} (hi : i < ρ.length) (r : Cont K cl H P v d) (n : ∀ b, v = V.ref b → ¬ Own σ ρ b) : FR K cl σ0 (σ.set i (some v)) H P (ρ.set i (.own false d)) := by
  have hs : i < σ.length := by rw [← F.len]; exact hi
  refine ⟨F.sub, by rw [List.length_set, List.length_set]; exact F.len, fun j t e h => ?_, fun j t e h => ?_, fun j k t t' e e' a h1 h2 h3 h4 => ?_, fun j e h => ?_, F.tb⟩
  · rcases get_set h with ⟨rfl, z⟩ | ⟨n', h⟩
    · cases z
    · rw [List.getElem?_set_ne n']
      exact F.val j t e h
  · rcases get_set h with ⟨rfl, z⟩ | ⟨n', h⟩
    · cases z
      exact ⟨v, List.getElem?_set_self hs, r⟩
    · rw [List.getElem?_set_ne n']
      exact F.own j t e h
  · rcases get_set h1 with ⟨e1, z1⟩ | ⟨n1, h1⟩
    · rcases get_set h2 with ⟨e2, z2⟩ | ⟨n2, h2⟩
      · omega
      · subst e1
        rw [List.getElem?_set_self hs] at h3
        rw [List.getElem?_set_ne n2] at h4
        have h3 : v = V.ref a := Option.some.inj (Option.some.inj h3)
        exact absurd ⟨k, t', e', h2, h4⟩ (n a h3)
    · rcases get_set h2 with ⟨e2, z2⟩ | ⟨n2, h2⟩
      · subst e2
        rw [List.getElem?_set_self hs] at h4
        rw [List.getElem?_set_ne n1] at h3
        have h4 : v = V.ref a := Option.some.inj (Option.some.inj h4)
        exact absurd ⟨j, t, e, h1, h3⟩ (n a h4)
      · rw [List.getElem?_set_ne n1] at h3
        rw [List.getElem?_set_ne n2] at h4
        exact F.inj j k t t' e e' a h1 h2 h3 h4
  · rcases h with h | h
    · rcases get_set h with ⟨rfl, z⟩ | ⟨n', h⟩
      · cases z
      · rw [List.getElem?_set_ne n']
        exact F.tag j e (.inl h)
    · rcases get_set h with ⟨rfl, z⟩ | ⟨n', h⟩
      · cases z
      · rw [List.getElem?_set_ne n']
        exact F.tag j e (.inr h)
def noSlot : A → Bool
  | .slot _ => false
  | _ => true
/-- a name takes a result -/
theorem put_res {σs : L2.St} {ρs : Env} {Hs Ps : Hp} {i : Nat} {v : V} {a : A} {ρ' : Env} (F : FR K cl σ0 σ H P ρ) (S : Step σs ρs Hs Ps σ ρ H P) (r : AR K cl σ H P ρ v a) (f : AF σs ρs Hs v a) (na : noSlot a = true) (h : putA i a ρ = some ρ') :
    FR K cl σ0 (σ.set i (some v)) H P ρ' ∧ Step σs ρs Hs Ps (σ.set i (some v)) ρ' H P ∧ i < ρ.length ∧ ρ' = ρ.set i (slotOf a) := by
  unfold putA at h
  split at h
  · rename_i hi
    cases h
    cases a with
    | slot j => cases na
    | dat d => exact ⟨F.put hi r, S.trans Step.put, hi, rfl⟩
    | frs d =>
      refine ⟨F.putOwn hi r.1 r.2, ⟨S.keep, S.mono, S.newP, fun b o => ?_⟩, hi, rfl⟩
      obtain ⟨j, t, e, h1, h2⟩ := o
      rcases get_set h1 with ⟨rfl, z⟩ | ⟨n, h1⟩
      · rw [List.getElem?_set_self (by rw [← F.len]; exact hi)] at h2
        have h2 : v = V.ref b := Option.some.inj (Option.some.inj h2)
        exact f d rfl b h2
      · rw [List.getElem?_set_ne n] at h2
        exact S.newO b ⟨j, t, e, h1, h2⟩
  · cases h
def setAll : List Nat → List V → L2.St → L2.St
  | i :: is, v :: vs, σ => setAll is vs (σ.set i (some v))
  | _, _, σ => σ
theorem puts_res {σs : L2.St} {ρs : Env} {Hs Ps : Hp} : ∀ {is : List Nat} {as : List A} {vs : List V} {σ : L2.St} {ρ ρ' : Env}, FR K cl σ0 σ H P ρ → Step σs ρs Hs Ps σ ρ H P → ARs K cl σ H P ρ vs as → AFs σs ρs Hs vs as → as.all noSlot = true →
    putAs is as ρ = some ρ' → FR K cl σ0 (setAll is vs σ) H P ρ' ∧ Step σs ρs Hs Ps (setAll is vs σ) ρ' H P ∧ is.length = vs.length
  | [], [], _, σ, ρ, ρ', F, S, r, f, n, h => by
    cases r
    simp only [putAs] at h
    cases h
    exact ⟨F, S, rfl⟩
  | [], _ :: _, _, _, _, _, _, _, _, _, _, h => by simp [putAs] at h
  | _ :: _, [], _, _, _, _, _, _, _, _, _, h => by simp [putAs] at h
  | i :: is, a :: as, _, σ, ρ, ρ', F, S, .cons (v := v) (vs := vs) r t ap, .cons f fs, n, h => by
    rw [List.all_cons, Bool.and_eq_true] at n
    simp only [putAs] at h
    cases e : putA i a ρ with
    | none => rw [e] at h; cases h
    | some ρ1 =>
      rw [e] at h
      obtain ⟨F1, S1, hi, rfl⟩ := put_res F S r f n.1 e
      have t1 : ARs K cl (σ.set i (some v)) H P (ρ.set i (slotOf a)) vs as := by
        have gen : ∀ {us : List V} {bs : List A}, ARs K cl σ H P ρ us bs → (∀ d, a = .frs d → ∀ (j : Nat) d', bs[j]? = some (.frs d') → us[j]? ≠ some v) → bs.all noSlot = true → ARs K cl (σ.set i (some v)) H P (ρ.set i (slotOf a)) us bs := by
          intro us bs hh
          induction hh with
          | nil => intro _ _; exact .nil
          | @cons u us b bs r' t' ap' ih =>
            intro q nn
            rw [List.all_cons, Bool.and_eq_true] at nn
            refine .cons ?_ (ih (fun d e j d' ej => by simpa using q d e (j + 1) d' (by simpa using ej)) nn.2) ap'
            cases b with
            | slot j => cases nn.1
            | dat d => exact r'
            | frs d =>
              refine ⟨r'.1, fun c ec o => ?_⟩
              obtain ⟨j, t2, e2, h1, h2⟩ := o
              rcases get_set h1 with ⟨rfl, z⟩ | ⟨n3, h1⟩
              · rw [List.getElem?_set_self (by rw [← F.len]; exact hi)] at h2
                have h2 : v = V.ref c := Option.some.inj (Option.some.inj h2)
                cases a with
                | dat _ => cases z
                | slot _ => cases z
                | frs d2 => exact q d2 rfl 0 d rfl (by rw [h2, ← ec]; rfl)
              · rw [List.getElem?_set_ne n3] at h2
                exact r'.2 c ec ⟨j, t2, e2, h1, h2⟩
        exact gen t ap n.2
      obtain ⟨G1, G2, G3⟩ := puts_res F1 S1 t1 fs n.2 h
      exact ⟨G1, G2, by rw [List.length_cons, List.length_cons, G3]⟩
/-- a slot is forgotten -/
theorem FR.drop (F : FR K cl σ0 σ H P ρ) (i : Nat) : FR K cl σ0 σ H P (ρ.set i .non) := by
  refine ⟨F.sub, by rw [List.length_set]; exact F.len, fun j t e h => ?_, fun j t e h => ?_, fun j k t t' e e' a h1 h2 h3 h4 => ?_, fun j e h => ?_, F.tb⟩
  · rcases get_set h with ⟨rfl, z⟩ | ⟨n', h⟩
    · cases z
    · exact F.val j t e h
  · rcases get_set h with ⟨rfl, z⟩ | ⟨n', h⟩
    · cases z
    · exact F.own j t e h
  · rcases get_set h1 with ⟨rfl, z⟩ | ⟨n, h1⟩
    · cases z
    · rcases get_set h2 with ⟨rfl, z⟩ | ⟨n', h2⟩
      · cases z
      · exact F.inj j k t t' e e' a h1 h2 h3 h4
  · rcases h with h | h
    · rcases get_set h with ⟨rfl, z⟩ | ⟨n', h⟩
      · cases z
      · exact F.tag j e (.inl h)
    · rcases get_set h with ⟨rfl, z⟩ | ⟨n', h⟩
      · cases z
      · exact F.tag j e (.inr h)
theorem own_drop {i : Nat} {a : Addr} (o : Own σ (ρ.set i .non) a) : Own σ ρ a := by
  obtain ⟨j, t, e, h1, h2⟩ := o
  rcases get_set h1 with ⟨rfl, z⟩ | ⟨n, h1⟩
  · cases z
  · exact ⟨j, t, e, h1, h2⟩
end
section
variable {tb : Tb} {cl : Wd} {call : Nat → List Slot → Out} {N : List Str} {σ0 : L2.St} {X : Cx} {sc : Scope} {W : WX}
theorem s_nil : PSs X [] (CS X.K cl W σ0 (execs call .nil)) := pss_imp pss_nil fun D σ H h => by
  obtain ⟨ρ, P, F, R⟩ := h
  rw [execs] at R
  exact R.next F Step.refl
theorem s_cons {s : S} {ss : Ss} {st : Stmt} {sts : List Stmt} (h1 : PS X st (CS X.K cl W σ0 (exec call s))) (h2 : PSs X sts (CS X.K cl W σ0 (execs call ss))) : PSs X (st :: sts) (CS X.K cl W σ0 (execs call (.cons s ss))) := by
  refine pss_imp (pss_cons h1 h2) fun D σ H h => ?_
  obtain ⟨ρ, P, F, R⟩ := h
  rw [execs] at R
  refine ⟨ρ, P, F, ?_⟩
  unfold ResS bnd at *
  cases e : exec call s ρ with
  | none => rw [e] at R; exact R
  | some q =>
    obtain ⟨x, ρ'⟩ := q
    rw [e] at R
    cases x with
    | error x => exact R
    | ok f =>
      cases f with
      | nxt =>
        intro σ' H' P' F1 S1
        have R' : ResS X.K cl W σ0 σ ρ H P (execs call ss ρ') D := R
        exact ⟨ρ', P', F1, R'.later S1⟩
      | brk => exact R
      | cnt => exact R
      | ret a => exact R
theorem s_ret {c : C} {e : Expr} {pos : Pos} (h : PE X e (CA cl call X W σ0 c)) : PS X (.Return (some e) pos) (CS X.K cl W σ0 (exec call (.ret c))) := by
  refine ps_imp (ps_ret h) fun D σ H h => ?_
  obtain ⟨ρ, P, F, R⟩ := h
  rw [exec] at R
  refine (ResS.bnd (R1 := rA X.K cl) F Step.refl R).mono fun v H1 ⟨a, ρ1, P1, F1, S1, _, ⟨r1, f1⟩, R1⟩ => ?_
  cases a with
  | dat d => exact R1 σ H1 P1 F1 S1 v r1 f1
  | frs d => exact R1 σ H1 P1 F1 S1 v r1 f1
  | slot i =>
    unfold retA at R1
    dsimp only at R1
    have r1 : σ[i]? = some (some v) := r1
    split at R1
    · rename_i d e
      obtain ⟨w, e2, c0⟩ := F1.own i false d e
      rw [r1] at e2; cases e2
      obtain ⟨b, ob, rfl, g1, g2, g3⟩ := c0
      refine R1 σ H1 P1 (F1.drop i) ⟨S1.keep, S1.mono, S1.newP, fun a o => S1.newO a (own_drop o)⟩ _ ⟨⟨b, ob, rfl, g1, g2, g3⟩, fun b' eb o => ?_⟩ fun _ _ b' eb => ?_
      · cases eb
        obtain ⟨j, t, e', h1, h2⟩ := o
        rcases get_set h1 with ⟨rfl, z⟩ | ⟨n, h1⟩
        · cases z
        · exact n (F1.inj i j _ _ _ _ b e h1 r1 h2)
      · cases eb
        exact S1.newO b ⟨i, false, _, e, r1⟩
    · rename_i d e
      have hz : frz (.slot i) ρ1 = some (d, ρ1.set i (.val true d)) := by simp only [frz, e]
      obtain ⟨P2, F2, S2, r2⟩ := freeze F1 S1 (show AR X.K cl σ H1 P1 ρ1 v (.slot i) from r1) f1 hz
      exact R1 σ H1 P2 F2 S2 v r2 fun _ z => nomatch z
    · rename_i t d e
      obtain ⟨w, e2, r2⟩ := F1.val i t d e
      rw [r1] at e2; cases e2
      exact R1 σ H1 P1 F1 S1 v r2 fun _ z => nomatch z
    · exact (R1 : False).elim
theorem s_retN {pos : Pos} : PS X (.Return none pos) (CS X.K cl W σ0 (exec call .retN)) := ps_imp ps_retN fun D σ H h => by
  obtain ⟨ρ, P, F, R⟩ := h
  rw [exec] at R
  exact R σ H P F Step.refl .non .non fun _ z => nomatch z
theorem s_pas {pos : Pos} : PS X (.Pass pos) (CS X.K cl W σ0 (exec call .pas)) := ps_imp ps_pass fun D σ H h => by
  obtain ⟨ρ, P, F, R⟩ := h
  rw [exec] at R
  exact R.next F Step.refl
theorem s_brk {pos : Pos} : PS X (.Break pos) (CS X.K cl W σ0 (exec call .brk)) := ps_imp ps_break fun D σ H h => by
  obtain ⟨ρ, P, F, R⟩ := h
  rw [exec] at R
  exact R σ H P F Step.refl
theorem s_cnt {pos : Pos} : PS X (.Continue pos) (CS X.K cl W σ0 (exec call .cnt)) := ps_imp ps_continue fun D σ H h => by
  obtain ⟨ρ, P, F, R⟩ := h
  rw [exec] at R
  exact R σ H P F Step.refl
theorem s_bad {st : Stmt} : PS X st (CS X.K cl W σ0 (exec call .bad)) := ps_imp ps_never fun D σ H h => by
  obtain ⟨ρ, P, F, R⟩ := h
  rw [exec] at R
  exact (R : False).elim
/-- raise C("..") -/
theorem s_rse0 {k j : Nat} {cd : Cd} {x m : Str} {p p2 pos pos2 : Pos} {fnB : Str → Bool} (G : Gd tb cl call X N sc fnB W) (hc : tb.cls k = some cd) (hx : cd.name = x) (hf : cd.fld = none) (hg : glB sc x = true) (ho : oddB x = false) :
    PS X (.Raise (some (.Call (.Name x p) [.Constant (.str m) j p2] [] pos)) none pos2) (CS X.K cl W σ0 (exec call (.rse k .none))) := by
  obtain ⟨o1, o2, o3⟩ := odd_of ho
  have ck := G.cls k cd hc
  have hw := ck.ok.how
  rw [hf] at hw
  obtain ⟨nw, ini, FB, q⟩ := hw
  refine ps_imp (ps_raise G.calm G.takes (pmk_own FB q (by rw [← hx]; exact ck.ok.gC) ck.ok.kC (raises_own ck.ok.eC ck.ok.tC) (show X.env.scope.names.lookup x = _ by rw [G.sc]; exact gl_of hg) o1)) fun D σ H h => ?_
  obtain ⟨ρ, P, F, R⟩ := h
  simp only [exec] at R
  exact R _ _ σ H P F Step.refl ⟨rfl, ck.okk, trivial⟩
/-- raise C(e), C's __init__ keeping e -/
theorem s_rse1 {k : Nat} {cd : Cd} {x f : Str} {c : C} {e : Expr} {p pos pos2 : Pos} {fnB : Str → Bool} (G : Gd tb cl call X N sc fnB W) (hc : tb.cls k = some cd) (hx : cd.name = x) (hf : cd.fld = some f) (hg : glB sc x = true) (ho : oddB x = false) (h : PE X e (CA cl call X W σ0 c)) (hs : star e = false) :
    PS X (.Raise (some (.Call (.Name x p) [e] [] pos)) none pos2) (CS X.K cl W σ0 (exec call (.rse k (.some c)))) := by
  obtain ⟨o1, o2, o3⟩ := odd_of ho
  have ck := G.cls k cd hc
  have hw := ck.ok.how
  rw [hf] at hw
  obtain ⟨nw, ini, T⟩ := hw
  obtain ⟨kk, hr, _, _⟩ := G.calls
  refine ps_imp (ps_raise G.calm G.takes (pmk_init T ck.ok.eC (by rw [← hx]; exact ck.ok.gC) hr (pa_cons (pe_frz h) pa_nil (star_each hs _ _)) (show X.env.scope.names.lookup x = _ by rw [G.sc]; exact gl_of hg) o1 (star_each hs _ _))) fun D σ H h => ?_
  obtain ⟨ρ, P, F, R⟩ := h
  simp only [exec] at R
  refine (ResS.bnd (R1 := rD X.K cl) F Step.refl R).mono fun v H1 ⟨dd, ρ1, P1, F1, S1, _, r1, R1⟩ => ⟨v, rfl, fun dx hdx => ?_⟩
  have r1 : Rp X.K cl P1 v dd := r1
  refine R1 _ _ σ _ _ (F1.growP hdx) (S1.trans (Step.growP F1 hdx)) ⟨rfl, ck.okk, dx, v, rfl, ?_, r1.mono (same_upd (F1.none hdx))⟩
  rw [upd_same, ck.fl f hf]
def isComp : Expr → Bool
  | .ListComp .. => true | .SetComp .. => true | .DictComp .. => true
  | _ => false
theorem swaps_no {e : Expr} (h : isComp e = false) (t : Option Expr) (l : Nat) (env : PySem.Env) : swapsWith e t l env = pure false := by
  cases e <;> first | rfl | exact nomatch h
theorem s_expr {c : C} {e : Expr} {pos : Pos} (h : PE X e (CA cl call X W σ0 c)) (hc : isComp e = false) : PS X (.Expr e pos) (CS X.K cl W σ0 (exec call (.expr c))) := by
  refine ps_imp (ps_expr h (swaps_no hc _ _ _)) fun D σ H h => ?_
  obtain ⟨ρ, P, F, R⟩ := h
  rw [exec] at R
  exact (ResS.bnd (R1 := rA X.K cl) F Step.refl R).mono fun v H1 ⟨a, ρ1, P1, F1, S1, _, r1, R1⟩ => R1.next F1 S1
theorem s_ife {c : C} {a b : Ss} {e : Expr} {x y : List Stmt} {pos : Pos} (h : PT X e (CT cl call X W σ0 c)) (h1 : PSs X x (CS X.K cl W σ0 (execs call a))) (h2 : PSs X y (CS X.K cl W σ0 (execs call b))) : PS X (.If e x y pos) (CS X.K cl W σ0 (exec call (.ife c a b))) := by
  refine ps_imp (ps_if h h1 h2) fun D σ H h => ?_
  obtain ⟨ρ, P, F, R⟩ := h
  rw [exec] at R
  refine (ResS.bnd (R1 := rB) F Step.refl R).mono fun k H1 ⟨t, ρ1, P1, F1, S1, _, r1, R1⟩ => ?_
  have r1 : k = t := r1
  rw [← r1] at R1
  cases k with
  | true => exact ⟨ρ1, P1, F1, R1.later S1⟩
  | false => exact ⟨ρ1, P1, F1, R1.later S1⟩
/-- results without slots -/
theorem can_uns {c : C} {σ : L2.St} {H : Hp} {Q : V → Hp → Prop} (h : Can X.K cl ⟨fun σ ρ0 H0 ρ H P v a => (AR X.K cl σ H P ρ v a ∧ AF σ ρ0 H0 v a) ∧ noSlot a = true, fun s h => ⟨⟨h.1.1, h.1.2.back s⟩, h.2⟩⟩ W σ0 (fun ρ => bnd (ev call c ρ) unslot) σ H Q) : CA cl call X W σ0 c σ H Q := by
  obtain ⟨ρ, P, F, R⟩ := h
  refine (Res.bnd (R1 := rA X.K cl) F Step.refl R).mono fun v H1 ⟨a, ρ1, P1, F1, S1, _, ⟨r1, f1⟩, R1⟩ => ?_
  cases a with
  | dat d => exact R1 v H1 P1 F1 S1 ⟨⟨r1, f1⟩, rfl⟩
  | frs d => exact R1 v H1 P1 F1 S1 ⟨⟨r1, f1⟩, rfl⟩
  | slot i =>
    cases e : frz (.slot i) ρ1 with
    | none => rw [unslot, frzM, e] at R1; exact (R1 : False).elim
    | some q =>
      obtain ⟨d, ρ2⟩ := q
      rw [unslot, frzM, e] at R1
      obtain ⟨P2, F2, S2, r2⟩ := freeze F1 S1 r1 f1 e
      exact R1 v H1 P2 F2 S2 ⟨⟨r2, fun _ z => nomatch z⟩, rfl⟩
def rU (K : PySem.W.Frag) (cl : Wd) : Rl V A := ⟨fun σ ρ0 H0 ρ H P v a => (AR K cl σ H P ρ v a ∧ AF σ ρ0 H0 v a) ∧ noSlot a = true, fun s h => ⟨⟨h.1.1, h.1.2.back s⟩, h.2⟩⟩
theorem nm_imp {c : C} {i : Nat} {D : Ends} {σ : L2.St} {H : Hp} (h : CS X.K cl W σ0 (exec call (.asg (.nm i) c)) D σ H) : CA cl call X W σ0 c σ H fun v H1 => D.nx (σ.set i (some v)) H1 := by
  obtain ⟨ρ, P, F, R⟩ := h
  rw [exec] at R
  refine can_uns ((ResS.bnd (R1 := rU X.K cl) (m := fun ρ => bnd (ev call c ρ) unslot) F Step.refl R).mono fun v H1 ⟨a, ρ1, P1, F1, S1, _, ⟨⟨r1, f1⟩, na⟩, R1⟩ => ?_)
  cases e : putA i a ρ1 with
  | none => rw [e] at R1; exact (R1 : False).elim
  | some ρ2 =>
    rw [e] at R1
    obtain ⟨F2, S2, hi, _⟩ := put_res F1 S1 r1 f1 na e
    exact ResS.next F2 S2 R1
theorem s_set {c : C} {i : Nat} {x : Str} {e : Expr} {pos pos' : Pos} (G : Gd tb cl call X N sc (fun _ => true) W) (hi : N[i]? = some x) (hx : locB sc (fun _ => true) x = true) (h : PE X e (CA cl call X W σ0 c)) (hs : swapsWith e (some (.Name x pos')) pos.line X.env = pure false) :
    PS X (.Assign [.Name x pos'] e pos) (CS X.K cl W σ0 (exec call (.asg (.nm i) c))) :=
  ps_imp (ps_set (i := i) (by rw [G.hN]; exact G.nd) (by rw [G.hN]; exact hi) (by rw [G.sc]; exact (loc_of hx).1) h hs (.inl (G.fn x rfl))) fun D σ H h => nm_imp h
theorem s_asg {c : C} {ts : Tgs} {tg e : Expr} {pos : Pos} (hg : PG X tg (CG X.K cl σ0 (.tp ts))) (h : PE X e (CA cl call X W σ0 c)) (ht : star tg = false) (hs : swapsWithSole [tg] e pos.line X.env = pure false) (hw : swappedStores [tg] e X.env = pure none) :
    PS X (.Assign [tg] e pos) (CS X.K cl W σ0 (exec call (.asg (.tp ts) c))) := by
  refine ps_imp (ps_asg (pe_frz h) hg hs hw (by rw [each_assign ht]; rfl)) fun D σ H h => ?_
  obtain ⟨ρ, P, F, R⟩ := h
  simp only [exec] at R
  refine (ResS.bnd (R1 := rD X.K cl) F Step.refl R).mono fun v H1 ⟨d, ρ1, P1, F1, S1, _, r1, R1⟩ => ?_
  cases e : asgT (.tp ts) d ρ1 with
  | none => rw [e] at R1; exact (R1 : False).elim
  | some ρ2 =>
    rw [e] at R1
    exact ⟨ρ1, P1, d, F1, r1, ρ2, e, fun σ' F2 S2 _ => ResS.next F2 (S1.trans S2) R1⟩
theorem s_aug {c : C} {op : BOp} {r : TIp} {i : Nat} {x : Str} {e : Expr} {pos pos' : Pos} (G : Gd tb cl call X N sc (fun _ => true) W) (hi : N[i]? = some x) (hx : locB sc (fun _ => true) x = true) (h : PE X e (CA cl call X W σ0 c)) (hp : PIp X (opB op) r)
    (hr : ∀ (i j k : Int) (H : Hp) (Q : VK), binD op (.int i) (.int j) = some (.dat (.int k)) → Q (.int k) H → r (.int i) (.int j) H Q) (hd : ∀ i j z, binD op (.int i) (.int j) = some z → ∃ k, z = .dat (.int k)) :
    PS X (.AugAssign (.Name x pos') (opB op) e pos) (CS X.K cl W σ0 (exec call (.aug i op c))) := by
  refine ps_imp (ps_aug (i := i) (by rw [G.hN]; exact G.nd) (by rw [G.hN]; exact hi) (by rw [G.sc]; exact (loc_of hx).1) h hp (.inl (G.fn x rfl))) fun D σ H h => ?_
  obtain ⟨ρ, P, F, R⟩ := h
  rw [exec] at R
  split at R
  · rename_i t y e
    obtain ⟨v, e2, r2⟩ := F.val i t _ e
    cases r2.int_inv
    refine ⟨_, e2, (ResS.bnd (R1 := rA X.K cl) F Step.refl R).mono fun u H1 ⟨a, ρ1, P1, F1, S1, _, ⟨r1, f1⟩, R1⟩ => ?_⟩
    unfold augD at R1
    cases e3 : view a ρ1 with
    | none => rw [e3] at R1; exact (R1 : False).elim
    | some d =>
      rw [e3] at R1
      cases d with
      | int j =>
        dsimp only at R1
        cases e4 : binD op (.int y) (.int j) with
        | none => rw [e4] at R1; exact (R1 : False).elim
        | some z =>
          obtain ⟨k, rfl⟩ := hd _ _ _ e4
          rw [e4] at R1
          cases (r1.view F1 e3).int
          refine hr y j k H1 _ e4 ?_
          dsimp only at R1
          cases e5 : putD i (.int k) ρ1 with
          | none => rw [e5] at R1; exact (R1 : False).elim
          | some ρ2 =>
            rw [e5] at R1
            unfold putD at e5
            split at e5
            · rename_i hl
              cases e5
              exact ResS.next (F1.put hl (.int k)) (S1.trans Step.put) R1
            · cases e5
      | _ => exact (R1 : False).elim
  · exact (R : False).elim
end
end MP
set_option Elab.async false
set_option linter.all false
set_option maxRecDepth 100000
set_option maxHeartbeats 4000000
/-! MP: lists written, loops, stores of pairs -/
namespace MP
open PySem PySem.Spec PyProof.Rows L2

section
variable {tb : Tb} {cl : Wd} {call : Nat → List Slot → Out} {N : List Str} {σ0 : L2.St} {X : Cx} {sc : Scope} {W : WX}

/-! ### a op= b -/
def ipR : BOp → TIp
  | .add => rI0 fun i j => .int (i + j)
  | .sub => rI0 fun i j => .int (i - j)
  | .mul => L2.rI CMulW fun i j => .int (i * j)
  | .fdiv => L2.rI (fun _ j => j ≠ 0 ∧ bits j < 9000) fun i j => .int (i.fdiv j)
  | .mod => L2.rI (fun _ j => j ≠ 0) fun i j => .int (i.fmod j)
  | _ => fun _ _ _ _ => False
theorem ip_ok : ∀ op : BOp, PIp X (opB op) (ipR op)
  | .add => fun pins s σ H x y v u Q I rx ry h => by
    obtain ⟨i, j, rfl, rfl, q⟩ := h
    obtain ⟨t, rfl⟩ := rx
    obtain ⟨t', rfl⟩ := ry
    exact iadd_int ⟨.int _, H, I.tok _, ⟨_, rfl⟩, q⟩
  | .sub => fun pins s σ H x y v u Q I rx ry h => by
    obtain ⟨i, j, rfl, rfl, q⟩ := h
    obtain ⟨t, rfl⟩ := rx
    obtain ⟨t', rfl⟩ := ry
    exact isub_int ⟨.int _, H, I.tok _, ⟨_, rfl⟩, q⟩
  | .mul => fun pins s σ H x y v u Q I rx ry h => by
    obtain ⟨i, j, rfl, rfl, c, q⟩ := h
    obtain ⟨t, rfl⟩ := rx
    obtain ⟨t', rfl⟩ := ry
    exact imul_int ⟨.int _, H, I.tok _, ⟨_, rfl⟩, q⟩ c.ok
  | .fdiv => fun pins s σ H x y v u Q I rx ry h => by
    obtain ⟨i, j, rfl, rfl, c, q⟩ := h
    obtain ⟨t, rfl⟩ := rx
    obtain ⟨t', rfl⟩ := ry
    exact ifloordiv_int c.1 ⟨.int _, H, I.tok _, ⟨_, rfl⟩, q⟩ (.inl (PyProof.noPylong_of_log2 c.2))
  | .mod => fun pins s σ H x y v u Q I rx ry h => by
    obtain ⟨i, j, rfl, rfl, c, q⟩ := h
    obtain ⟨t, rfl⟩ := rx
    obtain ⟨t', rfl⟩ := ry
    exact imod_int c ⟨.int _, H, I.tok _, ⟨_, rfl⟩, q⟩
  | .pow => fun _ _ _ _ _ _ _ _ _ _ _ _ h => h.elim
  | .shl => fun _ _ _ _ _ _ _ _ _ _ _ _ h => h.elim
  | .shr => fun _ _ _ _ _ _ _ _ _ _ _ _ h => h.elim
  | .band => fun _ _ _ _ _ _ _ _ _ _ _ _ h => h.elim
def ipB : BOp → Bool
  | .add => true | .sub => true | .mul => true | .fdiv => true | .mod => true | _ => false
theorem ip_run : ∀ {op : BOp}, ipB op = true → ∀ (i j k : Int) (H : Hp) (Q : VK), binD op (.int i) (.int j) = some (.dat (.int k)) → Q (.int k) H → ipR op (.int i) (.int j) H Q
  | .add, _, i, j, k, H, Q, e, q => by cases e; exact ⟨i, j, rfl, rfl, q⟩
  | .sub, _, i, j, k, H, Q, e, q => by cases e; exact ⟨i, j, rfl, rfl, q⟩
  | .mul, _, i, j, k, H, Q, e, q => by
    simp only [binD] at e
    split at e
    · rename_i c; cases e; exact ⟨i, j, rfl, rfl, c, q⟩
    · cases e
  | .fdiv, _, i, j, k, H, Q, e, q => by
    simp only [binD] at e
    split at e
    · rename_i c; cases e; exact ⟨i, j, rfl, rfl, c, q⟩
    · cases e
  | .mod, _, i, j, k, H, Q, e, q => by
    simp only [binD] at e
    split at e
    · rename_i c; cases e; exact ⟨i, j, rfl, rfl, c, q⟩
    · cases e
theorem ip_int : ∀ {op : BOp}, ipB op = true → ∀ i j z, binD op (.int i) (.int j) = some z → ∃ k, z = .dat (.int k)
  | .add, _, i, j, z, e => by cases e; exact ⟨_, rfl⟩
  | .sub, _, i, j, z, e => by cases e; exact ⟨_, rfl⟩
  | .mul, _, i, j, z, e => by simp only [binD] at e; split at e <;> cases e; exact ⟨_, rfl⟩
  | .fdiv, _, i, j, z, e => by simp only [binD] at e; split at e <;> cases e; exact ⟨_, rfl⟩
  | .mod, _, i, j, z, e => by simp only [binD] at e; split at e <;> cases e; exact ⟨_, rfl⟩

/-! ### append, o[i] = .. -/
theorem s_app {c : C} {i : Nat} {x : Str} {e : Expr} {p apos cpos pos : Pos} (G : Gd tb cl call X N sc (fun _ => true) W) (hi : N[i]? = some x) (hx : visB sc x = true) (ho : oddB x = false) (h : PE X e (CA cl call X W σ0 c)) (hs : star e = false) (hl : (apos.endLine == cpos.line) = true) :
    PS X (.Expr (.Call (.Attribute (.Name x p) "append" apos) [e] [] cpos) pos) (CS X.K cl W σ0 (exec call (.app i c))) := by
  obtain ⟨o1, o2, o3⟩ := odd_of ho
  refine ps_imp (ps_expr (pe_bm PySem.F.plainAttrs_list PySem.F.slot_list_append PySem.F.type_list_append mt_append (pe_var (i := i) (by rw [G.hN]; exact hi) (by rw [G.sc]; exact vis_of hx) o1 o2) (pa_cons (pe_frz h) pa_nil (star_each hs _ _)) rfl (by
      rw [star_each hs]; rfl) hl (star_each hs _ _) (back_any (es := []) rfl _ _)) rfl) fun D σ H h => ?_
  obtain ⟨ρ, P, F, R⟩ := h
  rw [exec] at R
  cases e1 : ρ[i]? with
  | none => rw [e1] at R; exact (R : False).elim
  | some s =>
    rw [e1] at R
    cases s with
    | non => exact (R : False).elim
    | val t d => exact (R : False).elim
    | own t d =>
      cases d <;> try exact (R : False).elim
      obtain ⟨q, vs, ds, z0, e2, hH, hP, rr⟩ := own_ref F e1
      cases z0
      refine ⟨_, e2, .inl ⟨rfl, vs, .inl (.inl hH)⟩, ?_⟩
      refine (ResS.bnd (R1 := rD X.K cl) F Step.refl R).mono fun v H1 ⟨d, ρ1, P1, F1, S1, _, r1, R1⟩ => ?_
      unfold appD at R1
      split at R1
      · rename_i t1 xs e3
        obtain ⟨q1, vs1, ds1, e4, e5, hH1, hP1, rr1⟩ := own_ref F1 e3
        cases e4
        rw [e2] at e5
        cases e5
        split at R1
        · rename_i hz
          have hz : vs1.length < sizeLine := by rw [rr1.length]; exact hz
          exact ⟨q, vs1, v, rfl, rfl, hH1, hz, ResS.next (F1.setOwn e3 e2 (rr1.append (.cons r1 .nil))) (S1.setOwn e3 e2) R1⟩
        · exact (R1 : False).elim
      · exact (R1 : False).elim
theorem ix_ixN {n : Nat} {k : Int} {j : Nat} (h : ixD n k = some j) : ixN n k = some j := by
  unfold ixD at h
  unfold ixN
  first
  | exact h
  | (split at h
     · split at h
       · cases h; simp_all
       · cases h
     · split at h
       · cases h; simp_all
       · cases h)
theorem s_seti {c k : C} {i : Nat} {x : Str} {e ix : Expr} {p pos pos' : Pos} (G : Gd tb cl call X N sc (fun _ => true) W) (hi : N[i]? = some x) (hx : visB sc x = true) (ho : oddB x = false) (h : PE X e (CA cl call X W σ0 c)) (hk : PE X ix (CA cl call X W σ0 k)) (hs : isSlice ix = false) :
    PS X (.Assign [.Subscript (.Name x p) ix pos'] e pos) (CS X.K cl W σ0 (exec call (.seti i k c))) := by
  obtain ⟨o1, o2, o3⟩ := odd_of ho
  refine ps_imp (ps_asg (pe_frz h) (pg_sub (pe_var (i := i) (by rw [G.hN]; exact hi) (by rw [G.sc]; exact vis_of hx) o1 o2) hk set_list (by intro v; cases ix <;> first | rfl | exact nomatch hs)) (by cases e <;> rfl) (by cases e <;> rfl)) fun D σ H h => ?_
  obtain ⟨ρ, P, F, R⟩ := h
  rw [exec] at R
  refine (ResS.bnd (R1 := rD X.K cl) F Step.refl R).mono fun v H1 ⟨d, ρ1, P1, F1, S1, _, r1, R1⟩ => ?_
  split at R1
  · rename_i t xs e1
    obtain ⟨q, vs, ds, e0, e2, hH, hP, rr⟩ := own_ref F1 e1
    cases e0
    refine ⟨_, e2, ?_⟩
    refine (ResS.bnd (R1 := rA X.K cl) F1 S1 R1).mono fun u H2 ⟨a, ρ2, P2, F2, S2, S3, ⟨r2, _⟩, R2⟩ => ?_
    unfold setiD at R2
    split at R2
    · rename_i t1 xs1 k1 e3 e4
      obtain ⟨q1, vs1, ds1, e5, e6, hH1, hP1, rr1⟩ := own_ref F2 e3
      cases e5
      rw [e2] at e6
      cases e6
      split at R2
      · rename_i j e7
        have hj : ixN vs1.length k1 = some j := by rw [rr1.length]; exact ix_ixN e7
        have r1 : Rp X.K cl P1 v d := r1
        exact ⟨q, vs1, k1, j, rfl, (r2.view F2 e4).int, hH1, hj, ResS.next (F2.setOwn e3 e2 (Rps.set (Rp.mono S2.mono r1) _ rr1)) (S3.setOwn e3 e2) R2⟩
      · exact (R2 : False).elim
    · exact (R2 : False).elim
  · exact (R1 : False).elim

theorem s_dset {c k : C} {i : Nat} {x : Str} {e ix : Expr} {p pos pos' : Pos} (G : Gd tb cl call X N sc (fun _ => true) W) (hi : N[i]? = some x) (hx : visB sc x = true) (ho : oddB x = false) (h : PE X e (CA cl call X W σ0 c)) (hk : PE X ix (CA cl call X W σ0 k)) (hs : isSlice ix = false) :
    PS X (.Assign [.Subscript (.Name x p) ix pos'] e pos) (CS X.K cl W σ0 (exec call (.dset i k c))) := by
  obtain ⟨o1, o2, o3⟩ := odd_of ho
  refine ps_imp (ps_dput (by have := G.units; omega) (pe_var (i := i) (by rw [G.hN]; exact hi) (by rw [G.sc]; exact vis_of hx) o1 o2) hk (pe_frz h) (by cases e <;> rfl)) fun D σ H h => ?_
  obtain ⟨ρ, P, F, R⟩ := h
  rw [exec] at R
  refine (ResS.bnd (R1 := rD X.K cl) F Step.refl R).mono fun v H1 ⟨d, ρ1, P1, F1, S1, _, r1, R1⟩ => ?_
  split at R1
  · rename_i t ks vs e1
    obtain ⟨v0, e2, c0⟩ := F1.own i t _ e1
    obtain ⟨q, kvs, rfl, hH, hP, rfl, rr⟩ := c0.d
    refine ⟨_, e2, ?_⟩
    refine (ResS.bnd (R1 := rA X.K cl) F1 S1 R1).mono fun u H2 ⟨a, ρ2, P2, F2, S2, S3, ⟨r2, _⟩, R2⟩ => ?_
    unfold dsetD at R2
    split at R2
    · rename_i t1 ks1 vs1 k1 e3 e4
      split at R2
      · rename_i hk
        obtain ⟨v1, e5, c1⟩ := F2.own i t1 _ e3
        obtain ⟨q1, kvs1, rfl, hH1, hP1, rfl, rr1⟩ := c1.d
        rw [e2] at e5
        cases e5
        obtain ⟨ky, rfl, rfl⟩ := key_of ((r2.view F2 e4).dat (fun _ z => by subst z; cases hk.1) (fun _ _ z => by subst z; cases hk.1)) hk.1
        have r1 : Rp X.K cl P1 v d := r1
        have hl : kvs1.length < sizeLine := by have := hk.2; rw [List.length_map] at this; exact this
        exact ⟨q, _, rfl, .inl ⟨kvs1, ky, hH1, rfl, hl, rfl⟩, ResS.next (F2.setOwnO e3 e2 (put_sto ky rr1 (r1.mono S2.mono))) (S3.setOwn e3 e2) R2⟩
      · exact (R2 : False).elim
    · exact (R2 : False).elim
  · exact (R1 : False).elim

/-! ### for, while -/
theorem s_for {tg : Tg} {it : I} {b : Ss} {te ie : Expr} {body : List Stmt} {pos : Pos} (G : Gd tb cl call X N sc (fun _ => true) W) (hi : PI X te ie (CI cl call X W σ0 it)) (hg : PG X te (CG X.K cl σ0 tg)) (hb : PSs X body (CS X.K cl W σ0 (execs call b))) (hs : isSet ie = false) :
    PS X (.For te ie body [] pos) (CS X.K cl W σ0 (exec call (.for_ tg it b))) := by
  refine ps_imp (ps_for G.passes G.calm hi hg hb (folded_of hs _)) fun D σ H h => ?_
  obtain ⟨ρ, P, F, R⟩ := h
  rw [exec] at R
  refine (ResS.bnd (R1 := MP.rI X.K cl) F Step.refl R).mono fun J H1 ⟨ds, ρ1, P1, F1, S1, _, jok, R1⟩ => ?_
  have jok : JOk X.K cl J P1 ds := jok
  refine ⟨fun i m σ' H' => m = ds.length - i ∧ i ≤ ds.length ∧ ∃ ρi Pi, FR X.K cl σ0 σ' H' Pi ρi ∧ Step σ ρ1 H1 P1 σ' ρi H' Pi ∧ ResS X.K cl W σ0 σ ρ H P (forL tg (fun ρ => execs call b ρ) (ds.drop i) ρi) D,
    ⟨ds.length, rfl, Nat.zero_le _, ρ1, P1, F1, Step.refl, R1⟩, ?_⟩
  rintro i m σ' H' ⟨rfl, hi, ρi, Pi, Fi, Si, Ri⟩
  by_cases hlt : i < ds.length
  · have hdr : ds.drop i = ds[i] :: ds.drop (i + 1) := List.drop_eq_getElem_cons hlt
    rw [hdr] at Ri
    obtain ⟨go, yld⟩ := (jok H' Pi Si.mono Fi.sub i).1 ds[i] (List.getElem?_eq_getElem hlt)
    refine .inr ⟨go, fun σ' H' => i + 1 ≤ ds.length ∧ ∃ ρi Pi, FR X.K cl σ0 σ' H' Pi ρi ∧ Step σ ρ1 H1 P1 σ' ρi H' Pi ∧ ResS X.K cl W σ0 σ ρ H P (forL tg (fun ρ => execs call b ρ) (ds.drop (i + 1)) ρi) D,
      fun σ' H' ⟨em, hh⟩ => ⟨ds.length - (i + 1), by omega, rfl, em, hh⟩, fun x H3 y => ?_⟩
    obtain ⟨P3, p1, p2, p3, p4, rx⟩ := yld x H3 y
    obtain ⟨F3, S3⟩ := Fi.grow2 p3 p1 p2 p4
    rw [forL] at Ri
    cases ea : asgT tg ds[i] ρi with
    | none => rw [ea] at Ri; exact (Ri : False).elim
    | some ρa =>
      rw [ea] at Ri
      refine ⟨ρi, P3, ds[i], F3, rx, ρa, ea, fun σ2 F4 S4 off => ⟨ρa, P3, F4, ?_⟩⟩
      have Sa := Si.trans (S3.trans S4)
      unfold ResS bnd at Ri
      unfold ResS
      dsimp only at Ri
      cases eb : execs call b ρa with
      | none => rw [eb] at Ri; exact Ri
      | some q =>
        obtain ⟨z, ρb⟩ := q
        rw [eb] at Ri
        cases z with
        | error z => exact fun c d σ5 H5 P5 F5 S5 r5 => Ri c d σ5 H5 P5 F5 ((S1.trans Sa).trans S5) r5
        | ok f =>
          intro σ5 H5 P5 F5 S5
          cases f with
          | nxt => exact ⟨hlt, ρb, P5, F5, Sa.trans S5, Ri⟩
          | cnt => exact ⟨hlt, ρb, P5, F5, Sa.trans S5, Ri⟩
          | brk => exact Ri σ5 H5 P5 F5 ((S1.trans Sa).trans S5)
          | ret r => exact fun v r1 f1 => Ri σ5 H5 P5 F5 ((S1.trans Sa).trans S5) v r1 (f1.back (S1.trans Sa))
  · have ei2 : ds.drop i = [] := List.drop_eq_nil_of_le (by omega)
    rw [ei2, forL] at Ri
    exact .inl ⟨(jok H' Pi Si.mono Fi.sub i).2 (by omega), ResS.next Fi (S1.trans Si) Ri⟩
theorem whl_spec {c : Env → Mr Bool} {b : Env → Mr Flow} {ρ : Env} : (whlM c b ρ = none) ∨ ∃ n r, whlN c b n ρ = some r ∧ whlM c b ρ = some r := by
  unfold whlM
  split
  · rename_i h
    exact .inr ⟨_, _, Classical.choose_spec (Classical.choose_spec h), rfl⟩
  · exact .inl rfl
theorem s_whl {c : C} {b : Ss} {e : Expr} {body : List Stmt} {pos : Pos} (G : Gd tb cl call X N sc (fun _ => true) W) (h : PT X e (CT cl call X W σ0 c)) (hb : PSs X body (CS X.K cl W σ0 (execs call b))) :
    PS X (.While e body [] pos) (CS X.K cl W σ0 (exec call (.whl c b))) := by
  refine ps_imp (ps_while G.passes h hb) fun D σ H h => ?_
  obtain ⟨ρ, P, F, R⟩ := h
  rw [exec] at R
  rcases whl_spec (c := evT call c) (b := fun ρ => execs call b ρ) (ρ := ρ) with e0 | ⟨n, r, en, e0⟩
  · rw [e0] at R; exact (R : False).elim
  rw [e0] at R
  refine ⟨fun m σ' H' => ∃ ρi Pi, FR X.K cl σ0 σ' H' Pi ρi ∧ Step σ ρ H P σ' ρi H' Pi ∧ whlN (evT call c) (fun ρ => execs call b ρ) m ρi = some r, ⟨n, ρ, P, F, Step.refl, en⟩, ?_⟩
  rintro m σ' H' ⟨ρi, Pi, Fi, Si, ei⟩
  cases m with
  | zero => cases ei
  | succ m =>
    rw [whlN] at ei
    refine ⟨ρi, Pi, Fi, ?_⟩
    unfold Res
    unfold bnd at ei
    cases ec : evT call c ρi with
    | none => rw [ec] at ei; cases ei
    | some q =>
      obtain ⟨z, ρc⟩ := q
      rw [ec] at ei
      cases z with
      | error z =>
        cases ei
        exact fun c d H5 P5 F5 S5 r5 => R c d σ' H5 P5 F5 (Si.trans S5) r5
      | ok k =>
        intro k' H5 P5 F5 S5 rk
        cases (show k' = k from rk)
        dsimp only at ei ⊢
        cases k with
        | false =>
          rw [if_neg Bool.false_ne_true] at ei ⊢
          cases ei
          exact ResS.next F5 (Si.trans S5) R
        | true =>
          rw [if_pos rfl] at ei ⊢
          have Sc := Si.trans S5
          refine ⟨fun σ' H' => ∃ ρi Pi, FR X.K cl σ0 σ' H' Pi ρi ∧ Step σ ρ H P σ' ρi H' Pi ∧ whlN (evT call c) (fun ρ => execs call b ρ) m ρi = some r, fun σ' H' hh => ⟨m, by omega, hh⟩, ρc, P5, F5, ?_⟩
          unfold ResS
          cases eb : execs call b ρc with
          | none => rw [eb] at ei; cases ei
          | some q =>
            obtain ⟨z, ρb⟩ := q
            rw [eb] at ei
            cases z with
            | error z =>
              cases ei
              exact fun c d σ6 H6 P6 F6 S6 r6 => R c d σ6 H6 P6 F6 (Sc.trans S6) r6
            | ok f =>
              intro σ6 H6 P6 F6 S6
              cases f with
              | nxt => exact ⟨ρb, P6, F6, Sc.trans S6, ei⟩
              | cnt => exact ⟨ρb, P6, F6, Sc.trans S6, ei⟩
              | brk =>
                cases ei
                exact R σ6 H6 P6 F6 (Sc.trans S6)
              | ret a =>
                cases ei
                exact fun v r1 f1 => R σ6 H6 P6 F6 (Sc.trans S6) v r1 (f1.back Sc)
end
end MP
set_option Elab.async false
set_option linter.all false
set_option maxRecDepth 100000
set_option maxHeartbeats 4000000
/-! MP: which core statement a written one is -/
namespace MP
open PySem PySem.Spec PyProof.Rows L2

section
variable {tb : Tb} {cl : Wd} {call : Nat → List Slot → Out} {N : List Str} {σ0 : L2.St} {X : Cx} {sc : Scope} {W : WX}
def rUs (K : PySem.W.Frag) (cl : Wd) : Rl (List V) (List A) := ⟨fun σ ρ0 H0 ρ H P vs as => (ARs K cl σ H P ρ vs as ∧ AFs σ ρ0 H0 vs as) ∧ as.all noSlot = true, fun s h => ⟨⟨h.1.1, h.1.2.back s⟩, h.2⟩⟩
theorem pa_rs_nil : PA X [] (Can X.K cl (rUs X.K cl) W σ0 (evRs call .nil)) := pa_imp pa_nil fun σ H Q h => by
  obtain ⟨ρ, P, F, R⟩ := h
  exact Res.ret F Step.refl R ⟨⟨.nil, .nil⟩, rfl⟩
theorem pa_rs_cons {c : C} {cs : Cs} {e : Expr} {es : List Expr} (h1 : PE X e (CA cl call X W σ0 c)) (h2 : PA X es (Can X.K cl (rUs X.K cl) W σ0 (evRs call cs))) (hs : star e = false) :
    PA X (e :: es) (Can X.K cl (rUs X.K cl) W σ0 (evRs call (.cons c cs))) := by
  have p1 : PE X e (Can X.K cl (rU X.K cl) W σ0 (fun ρ => bnd (ev call c ρ) unslot)) := pe_imp h1 fun _ _ _ => can_uns
  refine pa_imp (pa_cons p1 h2 (star_each hs _ _)) fun σ H Q h => ?_
  obtain ⟨ρ, P, F, R⟩ := h
  simp only [evRs] at R
  refine (Res.bnd (R1 := rU X.K cl) F Step.refl R).mono fun v H1 ⟨d, ρ1, P1, F1, S1, _, ⟨⟨r1, f1⟩, n1⟩, R1⟩ => ?_
  refine (Res.bnd (R1 := rUs X.K cl) F1 S1 R1).mono fun vs H2 ⟨ds, ρ2, P2, F2, S2, S, ⟨⟨r2, f2⟩, n2⟩, R2⟩ => ?_
  exact Res.ret F2 S R2 ⟨ars_cons r1 f1 r2 f2 S1 S2, by rw [List.all_cons, n1, n2]; rfl⟩
theorem m_rs : ∀ (es : Cs) (xs : List Expr), Gd tb cl call X N sc (fun _ => true) W → trEs tb N sc es xs = true → PA X xs (Can X.K cl (rUs X.K cl) W σ0 (evRs call es))
  | .nil, xs, G, h => by
    cases xs with
    | nil => exact pa_rs_nil
    | cons x xs => simp [trEs] at h
  | .cons c cs, xs, G, h => by
    cases xs with
    | nil => simp [trEs] at h
    | cons x xs =>
      simp only [trEs, Bool.and_eq_true, Bool.not_eq_true'] at h
      exact pa_rs_cons ((m_e c false _ G h.1.2).1 rfl) (m_rs cs xs G h.2) h.1.1

/-! ### pairs -/
theorem par_imp {is : List Nat} {es : Cs} {D : Ends} {σ : L2.St} {H : Hp} (h : CS X.K cl W σ0 (exec call (.par is es)) D σ H) : Can X.K cl (rUs X.K cl) W σ0 (evRs call es) σ H fun vs H1 => is.length = vs.length ∧ D.nx (setAll is vs σ) H1 := by
  obtain ⟨ρ, P, F, R⟩ := h
  rw [exec] at R
  refine (ResS.bnd (R1 := rUs X.K cl) F Step.refl R).mono fun vs H1 ⟨as, ρ1, P1, F1, S1, _, ⟨⟨r1, f1⟩, n1⟩, R1⟩ => ?_
  cases e : putAs is as ρ1 with
  | none => rw [e] at R1; exact (R1 : False).elim
  | some ρ2 =>
    rw [e] at R1
    obtain ⟨F2, S2, hl⟩ := puts_res F1 S1 r1 f1 n1 e
    exact ⟨hl, ResS.next F2 S2 R1⟩
def swB (sc : Scope) (xs : List (Str × Pos)) (vs : List Expr) : Bool :=
  (sc.kind == .function) && !(vs.any star) && !(vs.all (foldedForSure 8)) && !(vs.all (constantsAlone 8)) && (xs.all fun x => sc.names.lookup x.1 == some .local && (x.2.line == (xs.head?.map (·.2.line)).getD 0))
theorem bk_of {env : PySem.Env} (h : (env.scope.kind == .function) = true) : env.blockKind = .function := by
  have h : env.scope.kind = .function := by simpa using h
  unfold PySem.Env.blockKind
  rw [h]
  rfl
theorem any_star (vs : List Expr) : (vs.any fun | .Starred .. => true | _ => false) = vs.any star := by
  congr 1
theorem sw2 {env : PySem.Env} {x y : Str} {px py p q : Pos} {k k2} {a b : Expr} (h : swB env.scope [(x, px), (y, py)] [a, b] = true) (n : x ≠ y) :
    swappedStores [.Tuple [.Name x px, .Name y py] k p] (.Tuple [a, b] k2 q) env = pure (some [x, y]) := by
  unfold swB at h
  simp only [Bool.and_eq_true, Bool.not_eq_true', List.all_cons, List.all_nil, List.any_cons, List.any_nil, Bool.or_false, Bool.and_true, List.head?_cons, Option.map_some, Option.getD_some] at h
  obtain ⟨⟨⟨⟨h1, h2⟩, h3⟩, h4⟩, ⟨h5, h6⟩, h7, h8⟩ := h
  have hb := bk_of h1
  have e1 : (env.kindOf x == some .local) = true := h5
  have e2 : (env.kindOf y == some .local) = true := h7
  have e3 : (py.line == px.line) = true := h8
  have e4 : (px.line == px.line) = true := h6
  have hs : ([a, b].any fun | .Starred .. => true | _ => false) = false := by rw [any_star]; simpa using h2
  have ny : (y == x) = false := by simpa using fun e => n e.symm
  unfold swappedStores
  simp only [hb, hs, List.length_cons, List.length_nil, List.head?_cons, Option.map_some, Option.getD_some, Expr.pos, List.filterMap_cons, List.filterMap_nil, e1, e2, e3, e4, List.all_cons, List.all_nil, Bool.and_true, h3, h4]
  have n' : (x == y) = false := by simpa using n
  rw [Bool.or_eq_false_iff] at h2
  simp [List.eraseDups_cons, ny, n']
  rintro (z | z)
  · exact absurd (show star a = true from z) (by rw [h2.1]; exact Bool.false_ne_true)
  · exact absurd (show star b = true from z) (by rw [h2.2]; exact Bool.false_ne_true)
theorem s_par2 {i j : Nat} {x y : Str} {a b : Expr} {es : Cs} {px py p q pos : Pos} {k k2} (G : Gd tb cl call X N sc (fun _ => true) W) (hi : N[i]? = some x) (hj : N[j]? = some y) (hij : i ≠ j) (hx : sc.names.lookup x = some .local) (hy : sc.names.lookup y = some .local)
    (h : trEs tb N sc es [a, b] = true) (hs : swB sc [(x, px), (y, py)] [a, b] = true) : PS X (.Assign [.Tuple [.Name x px, .Name y py] k p] (.Tuple [a, b] k2 q) pos) (CS X.K cl W σ0 (exec call (.par [i, j] es))) := by
  have n : x ≠ y := fun e => by
    subst e
    have hi' := List.getElem?_eq_some_iff.mp hi
    have hj' := List.getElem?_eq_some_iff.mp hj
    exact hij ((List.getElem_inj (h₀ := hi'.1) (h₁ := hj'.1) G.nd).mp (hi'.2.trans hj'.2.symm))
  refine ps_imp (ps_par (i := i) (j := j) G.calm (by rw [G.hN]; exact G.nd) (by rw [G.hN]; exact hi) (by rw [G.hN]; exact hj) hij (by rw [G.sc]; exact hx) (by rw [G.sc]; exact hy) (m_rs (σ0 := σ0) es _ G h) (sw2 (by rw [G.sc]; exact hs) n) rfl) fun D σ H h => ?_
  refine (par_imp h).mono fun vs H1 ⟨hl, hh⟩ => ?_
  match vs, hl with
  | [v, w], _ => exact ⟨v, w, rfl, hh⟩
theorem sw3 {env : PySem.Env} {x y z : Str} {px py pz p q : Pos} {k k2} {a b c : Expr} (h : swB env.scope [(x, px), (y, py), (z, pz)] [a, b, c] = true) (n : x ≠ y) (n2 : x ≠ z) (n3 : y ≠ z) :
    swappedStores [.Tuple [.Name x px, .Name y py, .Name z pz] k p] (.Tuple [a, b, c] k2 q) env = pure (some [x, y, z]) := by
  unfold swB at h
  simp only [Bool.and_eq_true, Bool.not_eq_true', List.all_cons, List.all_nil, List.any_cons, List.any_nil, Bool.or_false, Bool.and_true, List.head?_cons, Option.map_some, Option.getD_some] at h
  obtain ⟨⟨⟨⟨h1, h2⟩, h3⟩, h4⟩, ⟨h5, h6⟩, ⟨h7, h8⟩, h9, h10⟩ := h
  have hb := bk_of h1
  have e1 : (env.kindOf x == some .local) = true := h5
  have e2 : (env.kindOf y == some .local) = true := h7
  have e5 : (env.kindOf z == some .local) = true := h9
  have e3 : (py.line == px.line) = true := h8
  have e6 : (pz.line == px.line) = true := h10
  have e4 : (px.line == px.line) = true := h6
  have hs : ([a, b, c].any fun | .Starred .. => true | _ => false) = false := by rw [any_star]; simpa using h2
  have ny : (y == x) = false := by simpa using fun e => n e.symm
  have nz : (z == x) = false := by simpa using fun e => n2 e.symm
  have nzy : (z == y) = false := by simpa using fun e => n3 e.symm
  unfold swappedStores
  simp only [hb, hs, List.length_cons, List.length_nil, List.head?_cons, Option.map_some, Option.getD_some, Expr.pos, List.filterMap_cons, List.filterMap_nil, e1, e2, e3, e4, e5, e6, List.all_cons, List.all_nil, Bool.and_true, h3, h4]
  rw [Bool.or_eq_false_iff, Bool.or_eq_false_iff] at h2
  simp [List.eraseDups_cons, ny, nz, nzy]
  rintro (z | z | z)
  · exact absurd (show star a = true from z) (by rw [h2.1]; exact Bool.false_ne_true)
  · exact absurd (show star b = true from z) (by rw [h2.2.1]; exact Bool.false_ne_true)
  · exact absurd (show star c = true from z) (by rw [h2.2.2]; exact Bool.false_ne_true)
theorem s_par3 {i j l : Nat} {x y z : Str} {a b c : Expr} {es : Cs} {px py pz p q pos : Pos} {k k2} (G : Gd tb cl call X N sc (fun _ => true) W) (hi : N[i]? = some x) (hj : N[j]? = some y) (hl : N[l]? = some z) (hij : i ≠ j) (hil : i ≠ l) (hjl : j ≠ l)
    (hx : sc.names.lookup x = some .local) (hy : sc.names.lookup y = some .local) (hz : sc.names.lookup z = some .local)
    (h : trEs tb N sc es [a, b, c] = true) (hs : swB sc [(x, px), (y, py), (z, pz)] [a, b, c] = true) : PS X (.Assign [.Tuple [.Name x px, .Name y py, .Name z pz] k p] (.Tuple [a, b, c] k2 q) pos) (CS X.K cl W σ0 (exec call (.par [i, j, l] es))) := by
  have n : ∀ {i j : Nat} {x y : Str}, N[i]? = some x → N[j]? = some y → i ≠ j → x ≠ y := fun {i j x y} hi hj hij e => by
    subst e
    have hi' := List.getElem?_eq_some_iff.mp hi
    have hj' := List.getElem?_eq_some_iff.mp hj
    exact hij ((List.getElem_inj (h₀ := hi'.1) (h₁ := hj'.1) G.nd).mp (hi'.2.trans hj'.2.symm))
  refine ps_imp (ps_par3 (i := i) (j := j) (l := l) G.calm (by rw [G.hN]; exact G.nd) (by rw [G.hN]; exact hi) (by rw [G.hN]; exact hj) (by rw [G.hN]; exact hl) hij hil hjl (by rw [G.sc]; exact hx) (by rw [G.sc]; exact hy) (by rw [G.sc]; exact hz) (m_rs (σ0 := σ0) es _ G h)
    (sw3 (by rw [G.sc]; exact hs) (n hi hj hij) (n hi hl hil) (n hj hl hjl)) rfl) fun D σ H h => ?_
  refine (par_imp h).mono fun vs H1 ⟨hl, hh⟩ => ?_
  match vs, hl with
  | [u, v, w], _ => exact ⟨u, v, w, rfl, hh⟩

/-! ### name = [.. for ..] -/
def lcB (sc : Scope) (y : Str) (py : Pos) : Expr → Bool
  | .ListComp _ _ scope pos => (sc.kind == .function) && sc.names.lookup y == some .local && py.line == pos.line && !(scope.names.any fun z => z.1 == y && (z.2 == .local || z.2 == .cell))
  | _ => false
theorem bk_no {env : PySem.Env} (h : (env.scope.kind == .function) = true) : (env.blockKind == .function) = true := by rw [bk_of h]; rfl
def kindB (sc : Scope) : Bool := sc.kind == .function
theorem lc_sw {env : PySem.Env} {y : Str} {py : Pos} {e : Expr} {l : Nat} (hk : kindB env.scope = true) (h : ∃ a b c d, e = .ListComp a b c d) : swapsWith e (some (.Name y py)) l env = pure (lcB env.scope y py e) := by
  obtain ⟨a, b, c, d, rfl⟩ := h
  unfold swapsWith lcB
  rw [show (env.scope.kind == ScopeKind.function) = true from hk]
  simp only [bk_no hk, Bool.true_and]
  rfl
def isLC : Expr → Bool
  | .ListComp .. => true
  | _ => false
theorem s_lc {elt : C} {tg : Tg} {it : I} {ifs : CO} {own : List Nat} {i : Nat} {y : Str} {e : Expr} {py pos : Pos} (G : Gd tb cl call X N sc (fun _ => true) W) (hi : N[i]? = some y) (hl : locB sc (fun _ => true) y = true) (hk : kindB sc = true) (h : trE tb N sc false (.cmpr elt tg it ifs own) e = true) :
    PS X (.Assign [.Name y py] e pos) (CS X.K cl W σ0 (exec call (.asg (.nm i) (.cmpr elt tg it ifs own)))) := by
  have hL : ∃ a b c d, e = .ListComp a b c d := by
    cases e <;> simp only [trE, Bool.false_eq_true] at h
    exact ⟨_, _, _, _, rfl⟩
  have hsw : swapsWith e (some (.Name y py)) pos.line X.env = pure (lcB sc y py e) := by rw [lc_sw (by rw [G.sc]; exact hk) hL, G.sc]
  cases hb : lcB sc y py e with
  | false => exact s_set G hi hl ((m_e _ false _ G h).1 rfl) (by rw [hsw, hb])
  | true =>
    rw [hb] at hsw
    cases e <;> simp only [trE, Bool.false_eq_true] at h
    split at h
    · simp only [Bool.and_eq_true, Bool.not_eq_true'] at h
      obtain ⟨⟨⟨⟨⟨⟨h1, h2⟩, h3⟩, h4⟩, h5⟩, h6⟩, h7⟩ := h
      have hy : sc.names.lookup y = some .local := by
        unfold lcB at hb
        simp only [Bool.and_eq_true] at hb
        simpa using hb.1.1.2
      have he := fun (s : Shared) (H : Hp) (C : Addr) (c : List (Str × Addr)) (fp : List Addr) => pe_frz ((m_e (σ0 := σ0) elt false _ (G.blk s H _ C c fp) h4).1 rfl)
      refine ps_imp (ps_setLc (i := i) (g := CG X.K cl σ0 tg) (tt := Can X.K cl rB W0 σ0 (evIf call ifs)) (te := Can X.K cl (rD X.K cl) W0 σ0 (fun ρ => bnd (ev call elt ρ) frzM)) (own := ownL N own) G.calm (by rw [G.hN]; exact G.nd) (by rw [G.hN]; exact hi) (by rw [G.sc]; exact hy) hsw (m_i (σ0 := σ0) it _ _ G h2)
        (by rw [G.hN, G.sc]; exact blkOk_by h6) (fun s H C c fp => g_tg (G.blk s H _ C c fp) h3)
        (fun s H C c fp => m_if ifs _ (G.blk s H _ C c fp) h5) (fun s H C c fp => he s H C c fp) (fun x => folded_of h1 _ x)) fun D σ H hh => ?_
      rw [ownL_snd]
      exact comp_imp (fun i hi => by
        have := List.all_eq_true.mp h7 i hi
        simpa using this) (nm_imp hh)
    · cases h

/-! ### (a, b) = .. without the swap -/
def swN (tg e : Expr) : Bool := match tg with
  | .Tuple ts _ _ => match e with
    | .Tuple vs _ _ => (ts.length != 2 && ts.length != 3) || vs.length != ts.length || vs.any star || vs.all (foldedForSure 8)
    | _ => true
  | _ => false
theorem sw_none {tg e : Expr} {env : PySem.Env} (h : swN tg e = true) : swappedStores [tg] e env = pure none := by
  cases tg <;> simp only [swN, Bool.false_eq_true] at h
  rename_i ts k p
  cases e <;> first | rfl | skip
  rename_i vs k2 p2
  simp only [Bool.or_eq_true, Bool.and_eq_true] at h
  unfold swappedStores
  simp only []
  split
  · rfl
  · rename_i h1
    split
    · rfl
    · rename_i h2
      split
      · rfl
      · split
        · rfl
        · rename_i h3 h4
          exfalso
          rcases h with ((h | h) | h) | h
          · simp_all
          · simp_all
          · exact h2 ((any_star vs).trans h)
          · exact h4 h
theorem sole_no {tg e : Expr} (h : swN tg e = true) (l : Nat) (env : PySem.Env) : swapsWithSole [tg] e l env = pure false := by
  cases tg <;> simp only [swN, Bool.false_eq_true] at h
  cases e <;> rfl

/-! ### several names at once, one of them a cell: by way of a tuple -/
def gNames : List Nat → TGs
  | [] => gNil
  | i :: is => gCons (gName i) (gNames is)
theorem gNames_of : ∀ {is : List Nat} {vs : List V} {σ : L2.St} {H : Hp} {Q : L2.St → Hp → Prop}, is.length = vs.length → Q (setAll is vs σ) H → gNames is vs σ H Q
  | [], [], σ, H, Q, _, q => ⟨rfl, q⟩
  | i :: is, v :: vs, σ, H, Q, h, q => ⟨v, vs, rfl, gNames_of (by simpa using h) q⟩
  | [], _ :: _, _, _, _, h, _ => by simp at h
  | _ :: _, [], _, _, _, h, _ => by simp at h
def parC (N : List Str) (sc : Scope) : List Nat → List Expr → Bool
  | [], [] => true
  | i :: is, .Name x _ :: es => decide (N[i]? = some x) && locB sc (fun _ => true) x && parC N sc is es
  | _, _ => false
def cellB (sc : Scope) (ts : List Expr) : Bool := ts.any fun t => match t with
  | .Name id _ => !(sc.names.lookup id == some .local)
  | _ => true
theorem parC_star : ∀ {is : List Nat} {es : List Expr}, parC N sc is es = true → es.any star = false ∧ es.length = is.length
  | [], [], _ => ⟨rfl, rfl⟩
  | i :: is, .Name x p :: es, h => by
    simp only [parC, Bool.and_eq_true] at h
    obtain ⟨h1, h2⟩ := parC_star h.2
    exact ⟨by rw [List.any_cons, h1]; rfl, by rw [List.length_cons, List.length_cons, h2]⟩
  | [], _ :: _, h => by simp [parC] at h
  | _ :: _, [], h => by simp [parC] at h
theorem pgs_names (G : Gd tb cl call X N sc (fun _ => true) W) : ∀ {is : List Nat} {es : List Expr}, parC N sc is es = true → PGs X es (gNames is)
  | [], [], _ => pgs_nil
  | i :: is, .Name x p :: es, h => by
    simp only [parC, Bool.and_eq_true, decide_eq_true_eq] at h
    exact pgs_cons (pg_name (by rw [G.hN]; exact G.nd) (by rw [G.hN]; exact h.1.1) (by rw [G.sc]; exact (loc_of h.1.2).1) (.inl (G.fn x rfl))) (pgs_names G h.2) (by rw [each_assign (show star (.Name x p) = false from rfl)]; rfl)
  | [], _ :: _, h => by simp [parC] at h
  | _ :: _, [], h => by simp [parC] at h
theorem filt_lt {f : Expr → Option Str} : ∀ {ts : List Expr}, (ts.any fun t => (f t).isNone) = true → (ts.filterMap f).length < ts.length
  | [], h => by simp at h
  | t :: ts, h => by
    rw [List.any_cons, Bool.or_eq_true] at h
    have hle : (ts.filterMap f).length ≤ ts.length := List.length_filterMap_le f ts
    cases e : f t with
    | none => rw [List.filterMap_cons_none e, List.length_cons]; omega
    | some y =>
      rw [e] at h
      rcases h with h | h
      · cases h
      · have := filt_lt h
        rw [List.filterMap_cons_some e, List.length_cons, List.length_cons]
        omega
theorem sw_cell {ts vs : List Expr} {k k2 : Nat} {p q : Pos} {env : PySem.Env} (h : cellB env.scope ts = true) : swappedStores [.Tuple ts k p] (.Tuple vs k2 q) env = pure none := by
  unfold swappedStores
  simp only []
  split
  · rfl
  · split
    · rfl
    · split
      · rfl
      · rename_i h1
        exfalso
        apply h1
        rw [Bool.or_eq_true]
        left
        simp only [bne_iff_ne, ne_eq]
        refine Nat.ne_of_lt (filt_lt ?_)
        unfold cellB at h
        rw [List.any_eq_true] at h ⊢
        obtain ⟨t, ht, h⟩ := h
        refine ⟨t, ht, ?_⟩
        cases t <;> first | rfl | skip
        rename_i x y
        have hx : (env.kindOf x == some .local) = false := by
          have : (!(env.scope.names.lookup x == some .local)) = true := h
          rw [Bool.not_eq_true'] at this
          exact this
        simp [hx]
theorem ars_step {K : PySem.W.Frag} {σ : L2.St} {ρ1 ρ2 : Env} {H1 H2 P1 P2 : Hp} (S : Step σ ρ1 H1 P1 σ ρ2 H2 P2) : ∀ {vs : List V} {as : List A}, ARs K cl σ H1 P1 ρ1 vs as → ARs K cl σ H2 P2 ρ2 vs as
  | _, _, .nil => .nil
  | _, _, .cons r t n => .cons (r.step S) (ars_step S t) n
theorem s_parC {is : List Nat} {es : Cs} {ts vs : List Expr} {k k2 : Nat} {p q pos : Pos} (G : Gd tb cl call X N sc (fun _ => true) W) (hc : parC N sc is ts = true) (hl : is.length ≤ 1000) (hw : cellB sc ts = true) (h : trEs tb N sc es vs = true) :
    PS X (.Assign [.Tuple ts k p] (.Tuple vs k2 q) pos) (CS X.K cl W σ0 (exec call (.par is es))) := by
  obtain ⟨st, ln⟩ := parC_star hc
  have pg : PG X (.Tuple ts k p) (gTup X.K ts.length (gNames is)) := pg_tup G.calm (pgs_names G hc) (each_len st _) (each_find st _)
  refine ps_imp (ps_asg (pe_tup (m_rs (σ0 := σ0) es vs G h)) pg rfl (sw_cell (by rw [G.sc]; exact hw)) (by rw [each_assign (show star (.Tuple ts k p) = false from rfl)]; rfl)) fun D σ H h => ?_
  obtain ⟨ρ, P, F, R⟩ := h
  rw [exec] at R
  refine (ResS.bnd (R1 := rUs X.K cl) F Step.refl R).mono fun us H1 ⟨as, ρ1, P1, F1, S1, _, ⟨⟨r1, f1⟩, n1⟩, R1⟩ => ?_
  cases e : putAs is as ρ1 with
  | none => rw [e] at R1; exact (R1 : False).elim
  | some ρ2 =>
    rw [e] at R1
    have hlen : is.length = us.length := (puts_res F1 S1 r1 f1 n1 e).2.2
    refine ⟨by rw [sizeLine_eq]; omega, fun b hb => ⟨b, us, rfl, .inl (.inl upd_same), by omega, gNames_of hlen ?_⟩⟩
    obtain ⟨F2, S2, _⟩ := puts_res (F1.grow hb) (S1.trans (Step.grow hb)) (ars_step (Step.grow hb) r1) f1 n1 e
    exact ResS.next F2 S2 R1

/-! ### the written statement -/
mutual
def trS (tb : Tb) (N : List Str) (sc : Scope) : S → Stmt → Bool
  | .asg tg c, st => match st with
    | .Assign ts e _ => match ts with
      | [t] => trE tb N sc false c e && (match tg with
        | .nm i => match t with
          | .Name y py => decide (N[i]? = some y) && locB sc (fun _ => true) y && (!isComp e || (kindB sc && (match c with | .cmpr .. => true | _ => false)))
          | _ => false
        | .tp us => trT N sc (fun _ => true) (.tp us) t && swN t e)
      | _ => false
    | _ => false
  | .par is es, st => match st with
    | .Assign ts e _ => match ts, e with
      | [.Tuple ns _ _], .Tuple vs _ _ => (parC N sc is ns && decide (is.length ≤ 1000) && cellB sc ns && trEs tb N sc es vs) || (match is, ns, vs with
        | [i, j], [.Name x px, .Name y py], [a, b] => decide (N[i]? = some x) && decide (N[j]? = some y) && decide (i ≠ j) && swB sc [(x, px), (y, py)] [a, b] && trEs tb N sc es [a, b]
        | [i, j, l], [.Name x px, .Name y py, .Name z pz], [a, b, c] => decide (N[i]? = some x) && decide (N[j]? = some y) && decide (N[l]? = some z) && decide (i ≠ j) && decide (i ≠ l) && decide (j ≠ l) && swB sc [(x, px), (y, py), (z, pz)] [a, b, c] && trEs tb N sc es [a, b, c]
        | _, _, _ => false)
      | _, _ => false
    | _ => false
  | .aug i op c, st => match st with
    | .AugAssign t o e _ => match t with
      | .Name x _ => ipB op && decide (o = opB op) && decide (N[i]? = some x) && locB sc (fun _ => true) x && trE tb N sc false c e
      | _ => false
    | _ => false
  | .seti i k c, st => match st with
    | .Assign ts e _ => match ts with
      | [.Subscript o ix _] => match o with
        | .Name x _ => decide (N[i]? = some x) && visB sc x && !oddB x && !isSlice ix && trE tb N sc false c e && trE tb N sc false k ix
        | _ => false
      | _ => false
    | _ => false
  | .dset i k c, st => match st with
    | .Assign ts e _ => match ts with
      | [.Subscript o ix _] => match o with
        | .Name x _ => decide (N[i]? = some x) && visB sc x && !oddB x && !isSlice ix && trE tb N sc false c e && trE tb N sc false k ix
        | _ => false
      | _ => false
    | _ => false
  | .app i c, st => match st with
    | .Expr e _ => match e with
      | .Call g xs ks cpos => match g, xs, ks with
        | .Attribute o m apos, [y], [] => match o with
          | .Name x _ => decide (m = "append") && decide (N[i]? = some x) && visB sc x && !oddB x && !star y && (apos.endLine == cpos.line) && trE tb N sc false c y
          | _ => false
        | _, _, _ => false
      | _ => false
    | _ => false
  | .expr c, st => match st with
    | .Expr e _ => !isComp e && trE tb N sc false c e
    | _ => false
  | .ife c a b, st => match st with
    | .If e x y _ => trE tb N sc true c e && trSs tb N sc a x && trSs tb N sc b y
    | _ => false
  | .for_ tg it b, st => match st with
    | .For te ie x y _ => y.isEmpty && !isSet ie && trI tb N sc it te ie && trT N sc (fun _ => true) tg te && trSs tb N sc b x
    | _ => false
  | .whl c b, st => match st with
    | .While e x y _ => y.isEmpty && trE tb N sc true c e && trSs tb N sc b x
    | _ => false
  | .ret c, st => match st with
    | .Return o _ => match o with
      | some e => trE tb N sc false c e
      | none => false
    | _ => false
  | .retN, st => match st with
    | .Return o _ => o.isNone
    | _ => false
  | .pas, st => match st with
    | .Pass _ => true
    | _ => false
  | .brk, st => match st with
    | .Break _ => true
    | _ => false
  | .cnt, st => match st with
    | .Continue _ => true
    | _ => false
  | .rse k eo, st => match st with
    | .Raise o cause _ => match o, cause with
      | some (.Call (.Name x _) [e] [] _), none => match tb.cls k with
        | some cd => decide (cd.name = x) && glB sc x && !oddB x && (match eo with
          | .none => cd.fld.isNone && (match e with
            | .Constant (.str _) _ _ => true
            | _ => false)
          | .some c => cd.fld.isSome && !star e && trE tb N sc false c e)
        | none => false
      | _, _ => false
    | _ => false
  | .bad, _ => true
def trSs (tb : Tb) (N : List Str) (sc : Scope) : Ss → List Stmt → Bool
  | .nil, xs => xs.isEmpty
  | .cons s ss, xs => match xs with
    | x :: xs => trS tb N sc s x && trSs tb N sc ss xs
    | [] => false
end
mutual
theorem m_s : ∀ (s : S) (st : Stmt), Gd tb cl call X N sc (fun _ => true) W → trS tb N sc s st = true → PS X st (CS X.K cl W σ0 (exec call s))
  | .asg tg c, st, G, h => by
    cases st <;> simp only [trS, Bool.false_eq_true] at h
    split at h
    · simp only [Bool.and_eq_true] at h
      obtain ⟨h1, h2⟩ := h
      cases tg with
      | nm i =>
        dsimp only at h2
        split at h2
        · simp only [Bool.and_eq_true, decide_eq_true_eq, Bool.or_eq_true, Bool.not_eq_true'] at h2
          obtain ⟨⟨h3, h4⟩, h5⟩ := h2
          rcases h5 with h5 | h5
          · exact s_set G h3 h4 ((m_e c false _ G h1).1 rfl) (swaps_no h5 _ _ _)
          · cases c <;> simp only [and_false, Bool.false_eq_true] at h5
            exact s_lc G h3 h4 h5.1 h1
        · cases h2
      | tp us =>
        dsimp only at h2
        simp only [Bool.and_eq_true] at h2
        exact s_asg (g_tg G h2.1) ((m_e c false _ G h1).1 rfl) (trT_star h2.1) (sole_no h2.2 _ _) (sw_none h2.2)
    · cases h
  | .par is es, st, G, h => by
    cases st <;> simp only [trS, Bool.false_eq_true] at h
    split at h
    · rw [Bool.or_eq_true] at h
      rcases h with h | h
      · simp only [Bool.and_eq_true, decide_eq_true_eq] at h
        exact s_parC G h.1.1.1 h.1.1.2 h.1.2 h.2
      split at h
      · simp only [Bool.and_eq_true, decide_eq_true_eq] at h
        obtain ⟨⟨⟨⟨h1, h2⟩, h3⟩, h4⟩, h5⟩ := h
        have h6 := h4
        simp only [swB, Bool.and_eq_true, List.all_cons, List.all_nil] at h6
        exact s_par2 G h1 h2 h3 (by simpa using h6.2.1.1) (by simpa using h6.2.2.1.1) h5 h4
      · simp only [Bool.and_eq_true, decide_eq_true_eq] at h
        obtain ⟨⟨⟨⟨⟨⟨⟨h1, h2⟩, h3⟩, h4⟩, h5⟩, h6⟩, h7⟩, h8⟩ := h
        have h9 := h7
        simp only [swB, Bool.and_eq_true, List.all_cons, List.all_nil] at h9
        exact s_par3 G h1 h2 h3 h4 h5 h6 (by simpa using h9.2.1.1) (by simpa using h9.2.2.1.1) (by simpa using h9.2.2.2.1.1) h8 h7
      · cases h
    · cases h
  | .aug i op c, st, G, h => by
    cases st <;> simp only [trS, Bool.false_eq_true] at h
    split at h
    · simp only [Bool.and_eq_true, decide_eq_true_eq] at h
      obtain ⟨⟨⟨⟨h1, rfl⟩, h3⟩, h4⟩, h5⟩ := h
      exact s_aug G h3 h4 ((m_e c false _ G h5).1 rfl) (ip_ok op) (ip_run h1) (ip_int h1)
    · cases h
  | .seti i k c, st, G, h => by
    cases st <;> simp only [trS, Bool.false_eq_true] at h
    split at h
    · split at h
      · simp only [Bool.and_eq_true, decide_eq_true_eq, Bool.not_eq_true'] at h
        obtain ⟨⟨⟨⟨⟨h1, h2⟩, h3⟩, h4⟩, h5⟩, h6⟩ := h
        exact s_seti G h1 h2 h3 ((m_e c false _ G h5).1 rfl) ((m_e k false _ G h6).1 rfl) h4
      · cases h
    · cases h
  | .dset i k c, st, G, h => by
    cases st <;> simp only [trS, Bool.false_eq_true] at h
    split at h
    · split at h
      · simp only [Bool.and_eq_true, decide_eq_true_eq, Bool.not_eq_true'] at h
        obtain ⟨⟨⟨⟨⟨h1, h2⟩, h3⟩, h4⟩, h5⟩, h6⟩ := h
        exact s_dset G h1 h2 h3 ((m_e c false _ G h5).1 rfl) ((m_e k false _ G h6).1 rfl) h4
      · cases h
    · cases h
  | .app i c, st, G, h => by
    cases st <;> simp only [trS, Bool.false_eq_true] at h
    split at h
    · split at h
      · split at h
        · simp only [Bool.and_eq_true, decide_eq_true_eq, Bool.not_eq_true'] at h
          obtain ⟨⟨⟨⟨⟨⟨rfl, h1⟩, h2⟩, h3⟩, h4⟩, h5⟩, h6⟩ := h
          exact s_app G h1 h2 h3 ((m_e c false _ G h6).1 rfl) h4 h5
        · cases h
      · cases h
    · cases h
  | .expr c, st, G, h => by
    cases st <;> simp only [trS, Bool.false_eq_true] at h
    simp only [Bool.and_eq_true, Bool.not_eq_true'] at h
    exact s_expr ((m_e c false _ G h.2).1 rfl) h.1
  | .ife c a b, st, G, h => by
    cases st <;> simp only [trS, Bool.false_eq_true] at h
    simp only [Bool.and_eq_true] at h
    exact s_ife ((m_e c true _ G h.1.1).2 rfl) (m_ss a _ G h.1.2) (m_ss b _ G h.2)
  | .for_ tg it b, st, G, h => by
    cases st <;> simp only [trS, Bool.false_eq_true] at h
    simp only [Bool.and_eq_true, Bool.not_eq_true', List.isEmpty_iff] at h
    obtain ⟨⟨⟨⟨rfl, h1⟩, h2⟩, h3⟩, h4⟩ := h
    exact s_for G (m_i it _ _ G h2) (g_tg G h3) (m_ss b _ G h4) h1
  | .whl c b, st, G, h => by
    cases st <;> simp only [trS, Bool.false_eq_true] at h
    simp only [Bool.and_eq_true, List.isEmpty_iff] at h
    obtain ⟨⟨rfl, h1⟩, h2⟩ := h
    exact s_whl G ((m_e c true _ G h1).2 rfl) (m_ss b _ G h2)
  | .ret c, st, G, h => by
    cases st <;> simp only [trS, Bool.false_eq_true] at h
    split at h
    · exact s_ret ((m_e c false _ G h).1 rfl)
    · cases h
  | .retN, st, G, h => by
    cases st <;> simp only [trS, Bool.false_eq_true] at h
    rename_i o p
    cases o with
    | none => exact s_retN
    | some _ => cases h
  | .pas, st, G, h => by
    cases st <;> simp only [trS, Bool.false_eq_true] at h
    exact s_pas
  | .brk, st, G, h => by
    cases st <;> simp only [trS, Bool.false_eq_true] at h
    exact s_brk
  | .cnt, st, G, h => by
    cases st <;> simp only [trS, Bool.false_eq_true] at h
    exact s_cnt
  | .rse k eo, st, G, h => by
    cases st <;> simp only [trS, Bool.false_eq_true] at h
    split at h
    · rename_i x _ e _ _
      cases hc : tb.cls k with
      | none => rw [hc] at h; cases h
      | some cd =>
        rw [hc] at h
        simp only [Bool.and_eq_true, decide_eq_true_eq, Bool.not_eq_true'] at h
        obtain ⟨⟨⟨h1, h2⟩, h3⟩, h4⟩ := h
        cases eo with
        | none =>
          simp only [Bool.and_eq_true, Option.isNone_iff_eq_none] at h4
          obtain ⟨h5, h6⟩ := h4
          split at h6
          · exact s_rse0 G hc h1 h5 h2 h3
          · cases h6
        | some c =>
          simp only [Bool.and_eq_true, Bool.not_eq_true'] at h4
          obtain ⟨⟨h5, h6⟩, h7⟩ := h4
          obtain ⟨f, hf⟩ := Option.isSome_iff_exists.mp h5
          exact s_rse1 G hc h1 hf h2 h3 ((m_e c false _ G h7).1 rfl) h6
    · cases h
  | .bad, st, G, h => s_bad
theorem m_ss : ∀ (ss : Ss) (sts : List Stmt), Gd tb cl call X N sc (fun _ => true) W → trSs tb N sc ss sts = true → PSs X sts (CS X.K cl W σ0 (execs call ss))
  | .nil, sts, G, h => by
    cases sts with
    | nil => exact s_nil
    | cons x xs => simp [trSs] at h
  | .cons s ss, sts, G, h => by
    cases sts with
    | nil => simp [trSs] at h
    | cons x xs =>
      simp only [trSs, Bool.and_eq_true] at h
      exact s_cons (m_s s x G h.1) (m_ss ss xs G h.2)
end
end
end MP
set_option Elab.async false
set_option linter.all false
set_option maxRecDepth 100000
set_option maxHeartbeats 4000000
/-! MP: defs, and the law -/
namespace MP
open PySem PySem.Spec PyProof.Rows L2

section
variable {K : PySem.W.Frag} {cl : Wd} {N : List Str} {vs : List V} {ρ ρ' : Env} {H P H' P' : Hp} {σ' : L2.St}
def pad (N : List Str) (ρ : Env) : Env := ρ ++ List.replicate (N.length - ρ.length) .non
theorem start_at {i : Nat} {v : V} (h : (vs.map some)[i]? = some (some v)) : (L2.start N vs)[i]? = some (some v) := by
  unfold L2.start
  rw [List.getElem?_append_left (by
    have := (List.getElem?_eq_some_iff.mp h).1
    exact this)]
  exact h
theorem start_back {i : Nat} {x : Option V} (hi : i < vs.length) (h : (L2.start N vs)[i]? = some x) : (vs.map some)[i]? = some x := by
  unfold L2.start at h
  rw [List.getElem?_append_left (by rw [List.length_map]; exact hi)] at h
  exact h
theorem pad_at {i : Nat} {s : Slot} (h : (pad N ρ)[i]? = some s) : s = .non ∨ ρ[i]? = some s := by
  unfold pad at h
  by_cases hi : i < ρ.length
  · rw [List.getElem?_append_left hi] at h
    exact .inr h
  · rw [List.getElem?_append_right (by omega)] at h
    exact .inl (List.eq_of_mem_replicate (List.mem_of_getElem? h))
theorem pad_of {i : Nat} {s : Slot} (h : ρ[i]? = some s) : (pad N ρ)[i]? = some s := by
  unfold pad
  rw [List.getElem?_append_left (List.getElem?_eq_some_iff.mp h).1]
  exact h
theorem own_pad {a : Addr} (hl : ρ.length = vs.length) (o : Own (L2.start N vs) (pad N ρ) a) : Own (vs.map some) ρ a := by
  obtain ⟨i, t, d, h1, h2⟩ := o
  rcases pad_at h1 with z | z
  · cases z
  · have hi : i < vs.length := by rw [← hl]; exact (List.getElem?_eq_some_iff.mp z).1
    exact ⟨i, t, d, z, start_back hi h2⟩
theorem own_pad2 {a : Addr} (o : Own (vs.map some) ρ a) : Own (L2.start N vs) (pad N ρ) a := by
  obtain ⟨i, t, d, h1, h2⟩ := o
  exact ⟨i, t, d, pad_of h1, start_at h2⟩
theorem FR.pad (F : FR K cl (vs.map some) (vs.map some) H P ρ) : FR K cl (L2.start N vs) (L2.start N vs) H P (pad N ρ) := by
  have hl : ρ.length = vs.length := by have := F.len; rwa [List.length_map] at this
  refine ⟨F.sub, ?_, fun i t d h => ?_, fun i t d h => ?_, fun i j t t' d d' a h1 h2 h3 h4 => ?_, fun _ _ _ => rfl, F.tb⟩
  · unfold MP.pad L2.start
    rw [List.length_append, List.length_append, List.length_replicate, List.length_replicate, List.length_map, hl]
  · rcases pad_at h with z | z
    · cases z
    · obtain ⟨v, e, r⟩ := F.val i t d z
      exact ⟨v, start_at e, r⟩
  · rcases pad_at h with z | z
    · cases z
    · obtain ⟨v, e, r⟩ := F.own i t d z
      exact ⟨v, start_at e, r⟩
  · rcases pad_at h1 with z | z
    · cases z
    · rcases pad_at h2 with y | y
      · cases y
      · have hi : i < vs.length := by rw [← hl]; exact (List.getElem?_eq_some_iff.mp z).1
        have hj : j < vs.length := by rw [← hl]; exact (List.getElem?_eq_some_iff.mp y).1
        exact F.inj i j t t' d d' a z y (start_back hi h3) (start_back hj h4)
/-- what a callee gives back -/
theorem mask1_of {a s : Slot} {o : Option Slot} (h : mask1 a o = s) : s = .non ∨ ((∃ d, a = .own true d) ∧ o = some s ∧ ((∃ d, s = .own true d) ∨ ∃ d, s = .val true d)) := by
  unfold mask1 at h
  split at h
  · subst h; exact .inr ⟨⟨_, rfl⟩, rfl, .inl ⟨_, rfl⟩⟩
  · subst h; exact .inr ⟨⟨_, rfl⟩, rfl, .inr ⟨_, rfl⟩⟩
  · exact .inl h.symm
theorem mask_at : ∀ {ρ ρ' : Env} {i : Nat} {s : Slot}, (maskS ρ ρ')[i]? = some s → s = .non ∨ ((∃ d, ρ[i]? = some (.own true d)) ∧ ρ'[i]? = some s ∧ ((∃ d, s = .own true d) ∨ ∃ d, s = .val true d))
  | [], ρ', i, s, h => by simp [maskS] at h
  | a :: ρ, ρ', 0, s, h => by
    simp only [maskS, List.getElem?_cons_zero, Option.some.injEq] at h
    rcases mask1_of h with z | ⟨⟨d, z1⟩, z2, z3⟩
    · exact .inl z
    · exact .inr ⟨⟨d, by rw [z1]; rfl⟩, by rw [← List.head?_eq_getElem?]; exact z2, z3⟩
  | a :: ρ, ρ', i + 1, s, h => by
    simp only [maskS, List.getElem?_cons_succ] at h ⊢
    rcases mask_at h with z | ⟨z1, z2, z3⟩
    · exact .inl z
    · exact .inr ⟨z1, by rw [List.getElem?_tail] at z2; exact z2, z3⟩
theorem mask_len : ∀ {ρ ρ' : Env}, (maskS ρ ρ').length = ρ.length
  | [], ρ' => rfl
  | x :: ρ, ρ' => by rw [maskS, List.length_cons, List.length_cons, mask_len]
theorem own_mask {a : Addr} (hl : ρ.length = vs.length) (F' : FR K cl (L2.start N vs) σ' H' P' ρ') (o : Own (vs.map some) (maskS ρ ρ') a) : Own σ' ρ' a := by
  obtain ⟨i, t, d, h1, h2⟩ := o
  rcases mask_at h1 with z | ⟨_, z, y⟩
  · cases z
  · rcases y with ⟨e, y⟩ | ⟨e, y⟩
    · cases y
      exact ⟨i, true, _, z, by rw [F'.tag i _ (.inr z)]; exact start_at h2⟩
    · cases y
theorem FR.mask (hl : ρ.length = vs.length) (F' : FR K cl (L2.start N vs) σ' H' P' ρ') : FR K cl (vs.map some) (vs.map some) H' P' (maskS ρ ρ') := by
  have bound : ∀ {i : Nat} {d : D}, ρ[i]? = some (.own true d) → i < vs.length := fun {i d} h => by rw [← hl]; exact (List.getElem?_eq_some_iff.mp h).1
  refine ⟨F'.sub, ?_, fun i t d h => ?_, fun i t d h => ?_, fun i j t t' d d' a h1 h2 h3 h4 => ?_, fun _ _ _ => rfl, F'.tb⟩
  · rw [mask_len, List.length_map, hl]
  · rcases mask_at h with z | ⟨⟨e, z0⟩, z, y⟩
    · cases z
    · rcases y with ⟨e', y⟩ | ⟨e', y⟩
      · cases y
      · cases y
        obtain ⟨v, e1, r⟩ := F'.val i true d z
        rw [F'.tag i d (.inl z)] at e1
        exact ⟨v, start_back (bound z0) e1, r⟩
  · rcases mask_at h with z | ⟨⟨e, z0⟩, z, y⟩
    · cases z
    · rcases y with ⟨e', y⟩ | ⟨e', y⟩
      · cases y
        obtain ⟨v, e1, r⟩ := F'.own i true d z
        rw [F'.tag i d (.inr z)] at e1
        exact ⟨v, start_back (bound z0) e1, r⟩
      · cases y
  · rcases mask_at h1 with z | ⟨_, z, y⟩
    · cases z
    · rcases mask_at h2 with z' | ⟨_, z', y'⟩
      · cases z'
      · rcases y with ⟨e', y⟩ | ⟨e', y⟩
        · cases y
          rcases y' with ⟨e2, y'⟩ | ⟨e2, y'⟩
          · cases y'
            exact F'.inj i j true true d d' a z z' (by rw [F'.tag i _ (.inr z)]; exact start_at h3) (by rw [F'.tag j _ (.inr z')]; exact start_at h4)
          · cases y'
        · cases y
theorem Step.mask (hl : ρ.length = vs.length) (F' : FR K cl (L2.start N vs) σ' H' P' ρ') (S : Step (L2.start N vs) (pad N ρ) H P σ' ρ' H' P') : Step (vs.map some) ρ H P (vs.map some) (maskS ρ ρ') H' P' := by
  refine ⟨fun a u e nt n => S.keep a u e nt fun o => n (own_pad hl o), S.mono, fun a h h' => ?_, fun a o => ?_⟩
  · rcases S.newP a h h' with z | z
    · exact .inl z
    · exact .inr (own_pad hl z)
  · rcases S.newO a (own_mask hl F' o) with z | z
    · exact .inl z
    · exact .inr (own_pad hl z)
end

/-! ### defs -/
/-- a def of the module: its core, its text -/
structure Dn (K : PySem.W.Frag) (mg : Str → Option Value) (fd : Fd) (st : Stmt) (ad : Addr) (fdt : FuncData) : Prop where
  fn : L2.Fun K fd.name fd.name st ad fdt
  mgf : mg fd.name = some (.ref ad)
  binds : ∀ us : List Value, us.length = (fd.N.take fd.np).length → bindArgs fdt ⟨us, []⟩ = pure ((fd.N.take fd.np).zip us)
/-- what is looked at once: the text is the core's -/
def dnC (tb : Tb) (lm : Nat → Bool) (f : Nat) (fd : Fd) (st : Stmt) : Bool :=
  decide ((fd.N.take fd.np).length = fd.np) && C8.scC fd.N (fd.N.take fd.np) (defScope st) && trSs { tb with lam := lm f, grd := tb.gs f } fd.N (defScope st) fd.body (defBody st)
theorem dn_mk {K : PySem.W.Frag} {h : Heap} {mg : Str → Option Value} (X : K.In h) (G : h.Ns mainGlobals mg) {fd : Fd} {st : Stmt} {f : Addr} {od an : Option Addr} {sl : Array (Option Value)} {oc kv dc pm cd ct : Value}
    (a : PySem.W.nsIn K mainGlobals fd.name = some (some (.ref f))) (l : K.lookup f = some ⟨oc, od, .func (PySem.W.fnOf fd.name fd.name (defArgs st) (defBody st) (defScope st) .none kv dc pm an cd ct), sl⟩) (c : PySem.W.codeIn K cd fd.name = true) (k : PySem.W.keepIn K (.ref f) = true)
    (b : ∀ us : List Value, us.length = (fd.N.take fd.np).length → bindArgs (PySem.W.fnOf fd.name fd.name (defArgs st) (defBody st) (defScope st) .none kv dc pm an cd ct) ⟨us, []⟩ = pure ((fd.N.take fd.np).zip us)) : ∃ ad fdt, Dn K mg fd st ad fdt :=
  ⟨_, _, fun_mk l c k, PySem.W.mg_of X G a, b⟩
/-- what is known of the module's text: cs the code objects and their tables, lm which defs make lambdas -/
structure Txt (tb : Tb) (lm : Nat → Bool) (cl : Wd) (cs : List (Addr × Addr)) (P : Program) (K : PySem.W.Frag) (mg : Str → Option Value) (tops : Nat → Stmt) : Prop where
  dn : ∀ f fd, tb.fns f = some fd → dnC tb lm f fd (tops f) = true ∧ ∃ ad fdt, Dn K mg fd (tops f) ad fdt ∧ cl.fa f = some ad ∧
    (lm f = true → ∃ c p, fdt.code = .ref c ∧ (c, p) ∈ cs ∧ (p, fd.name ++ ".<locals>." ++ "<lambda>") ∈ cl.T ∧ ∀ q ∈ cl.T, q.1 = p → q.2 = fd.name ++ ".<locals>." ++ "<lambda>")
  consts : ∀ x d, (x, d) ∈ tb.consts → ∃ u v, mg x = some u ∧ RelV v u ∧ ∀ P, Rp K cl P v d
  blt : ∀ x ∈ bltL, mg x = none
  gcd : tb.gcd = true → mg "gcd" = some (.builtin "math.gcd")
  cls : ∀ k cd, tb.cls k = some cd → ClsOk P K mg cl k cd
  mets : ∀ g nm md, tb.mets g = some (nm, md) → MetFacts K mg cl tb.cls nm md
  fa : ∀ f a, cl.fa f = some a → ∃ fd, tb.fns f = some fd
theorem runF_len {call : Nat → List Slot → Out} {fd : Fd} {args : List Slot} {r : Except Ex A × List Slot} (h : runF call fd args = some r) : args.length = fd.np := by
  unfold runF at h
  split at h
  · assumption
  · cases h
theorem callN_len {p : Nat → Option Fd} : ∀ {n f : Nat} {fd : Fd} {args : List Slot} {r : Except Ex A × List Slot}, p f = some fd → callN p n f args = some r → args.length = fd.np
  | 0, f, fd, args, r, hf, h => by rw [callN] at h; cases h
  | n + 1, f, fd, args, r, hf, h => by
    rw [callN, hf] at h
    exact runF_len h
section
variable {tb : Tb} {lm : Nat → Bool} {cl : Wd} {cs : List (Addr × Addr)} {P : Program} {w : World} {K : PySem.W.Frag} {mg : Str → Option Value} {base : Heap} {tops : Nat → Stmt}
theorem res_none {n : Nat} {f : Nat} {vs : List V} {H : Hp} {Q : VK} {E : XK} (h : spOf K cl n (callN tb.fns 0 f) vs H Q E) : False := by
  obtain ⟨_, ρ, P0, F, R⟩ := h
  exact R
theorem body_res {fd : Fd} {call : Nat → List Slot → Out} {vs : List V} {H P0 : Hp} {ρ : Env} {Q : VK} {E : XK} {D : Ends} (hl : vs.length = fd.np) (F : FR K cl (vs.map some) (vs.map some) H P0 ρ)
    (R : Res K cl (rA K cl) (fun c d _ H => E c d H) (vs.map some) (vs.map some) ρ H P0 (runF call fd ρ) Q) (dn : D.nx = fun _ H' => Q .non H') (dr : D.rt = Q) :
    ResS K cl (fun c d _ H => E c d H) (L2.start fd.N vs) (L2.start fd.N vs) (pad fd.N ρ) H P0 (execs call fd.body (pad fd.N ρ)) D := by
  have hρ : ρ.length = vs.length := by have := F.len; rwa [List.length_map] at this
  have e0 : ρ ++ List.replicate (fd.N.length - fd.np) .non = pad fd.N ρ := by unfold pad; rw [hρ, hl]
  unfold runF at R
  rw [if_pos (hρ.trans hl), e0] at R
  unfold ResS
  cases e : execs call fd.body (pad fd.N ρ) with
  | none => rw [e] at R; exact (R : False).elim
  | some q =>
    obtain ⟨x, ρ'⟩ := q
    rw [e] at R
    cases x with
    | error x => exact fun c d σ' H' P' F' S' r => R c d H' P' (F'.mask hρ) (S'.mask hρ F') r
    | ok fl =>
      intro σ' H' P' F' S'
      cases fl with
      | nxt =>
        show D.nx σ' H'
        rw [dn]
        exact R .non H' P' (F'.mask hρ) (S'.mask hρ F') ⟨.non, fun _ z => nomatch z⟩
      | brk => exact (R : False).elim
      | cnt => exact (R : False).elim
      | ret a =>
        intro v r f
        show D.rt v H'
        rw [dr]
        cases a with
        | slot i => exact (R : False).elim
        | dat d => exact R v H' P' (F'.mask hρ) (S'.mask hρ F') ⟨r, fun _ z => nomatch z⟩
        | frs d =>
          refine R v H' P' (F'.mask hρ) (S'.mask hρ F') ⟨⟨r.1, fun b e o => r.2 b e (own_mask hρ F' o)⟩, fun d' e b eb => ?_⟩
          rcases f d' e b eb with z | z
          · exact .inl z
          · exact .inr (own_pad hρ z)
theorem fn_ok (T : Txt tb lm cl cs P K mg tops) (hT : ∀ p ∈ cs, LamX.TabB base mg p.1 p.2) : ∀ (n f : Nat) (fd : Fd) (ad : Addr) (fdt : FuncData), tb.fns f = some fd → Dn K mg fd (tops f) ad fdt →
    (lm f = true → ∃ c p, fdt.code = .ref c ∧ (c, p) ∈ cs ∧ (p, fd.name ++ ".<locals>." ++ "<lambda>") ∈ cl.T ∧ ∀ q ∈ cl.T, q.1 = p → q.2 = fd.name ++ ".<locals>." ++ "<lambda>") →
    FnG (tb.gs f) P w K mg base (3 * n) ad fdt (fd.N.take fd.np) (spOf K cl fd.np (callN tb.fns n f))
  | 0, f, fd, ad, fdt, hf, hd, hlm => by
    obtain ⟨hc, _⟩ := T.dn f fd hf
    simp only [dnC, Bool.and_eq_true, decide_eq_true_eq] at hc
    exact ⟨fun vs H Q E h => by rw [hc.1.1]; exact h.1, fun A outer s H args us vs Q E hr hg he hb hv hs => (res_none hs).elim⟩
  | n + 1, f, fd, ad, fdt, hf, hd, hlm => by
    obtain ⟨hc, _⟩ := T.dn f fd hf
    simp only [dnC, Bool.and_eq_true, decide_eq_true_eq] at hc
    obtain ⟨⟨h1, h2⟩, h3⟩ := hc
    have S := C8.fnScope_by h2
    have e3 : 3 * (n + 1) = (3 * n + 2) + 1 := by omega
    rw [e3]
    refine fnG_of hd.fn S (fun vs H Q E h => by rw [h1]; exact h.1) fun cdv A outer s H vs Q E hcd hr hgd hsp => ?_
    obtain ⟨hl, ρ, P0, F, R⟩ := hsp
    have G : Gd { tb with lam := lm f, grd := tb.gs f } cl (callN tb.fns n) (cxOf (L2.CX P w) P w K mg base fd.N fd.name (defScope (tops f)) ad cdv A outer s H E) fd.N (defScope (tops f)) (fun _ => true) (fun c d _ H => E c d H) :=
      { calm := rfl
        hN := rfl
        nd := S.nd
        sc := rfl
        fn := fun _ _ => rfl
        takes := L2.takes_of rfl rfl rfl rfl
        passes := L2.passes_of rfl
        units := by have := hr.un; show (A.deeper _).units + 65 < cLine; omega
        calls := ⟨3 * n, hr.mono (by omega), fun _ => hr, fun g gd hg => by
          obtain ⟨_, a2, t2, d2, f2, l2⟩ := T.dn g gd hg
          exact ⟨a2, t2, fn_ok T hT n g gd a2 t2 hg d2 l2, d2.mgf, f2, d2.fn.kp, .all d2.binds⟩⟩
        consts := T.consts
        blt := T.blt
        gcd := T.gcd
        cls := T.cls
        mets := T.mets
        guards := hgd
        fa := T.fa
        np := fun g gd args r hg hr => callN_len hg hr
        lam := fun hl => by
          obtain ⟨c, p, q1, q2, q3, q4⟩ := hlm hl
          exact ⟨c, p, hcd.symm.trans q1, hT _ q2, q3, q4⟩ }
    refine ⟨_, m_ss (σ0 := L2.start fd.N vs) fd.body _ G h3, pad fd.N ρ, P0, F.pad, body_res hl F ?_ rfl rfl⟩
    have e : callN tb.fns (n + 1) f ρ = runF (callN tb.fns n) fd ρ := by rw [callN, hf]
    rw [← e]
    exact R
end

end MP
set_option Elab.async false
set_option linter.all false
set_option maxRecDepth 100000
set_option maxHeartbeats 4000000
/-! MP: the law's end -/
namespace MP
open PySem PySem.Spec PyProof.Rows L2
def scriptD (ns : List Int) : D := .lst (ns.map .int)
theorem rps_ints {K : PySem.W.Frag} {cl : Wd} {P : Hp} : ∀ ns : List Int, Rps K cl P (ns.map V.int) (ns.map D.int)
  | [] => .nil
  | n :: ns => .cons (.int n) (rps_ints ns)
/-- what the core must answer -/
def Yes (tb : Tb) (n f : Nat) (ns : List Int) : Prop := ∃ ρ, callN tb.fns n f [.val false (scriptD ns)] = some (.ok (.dat (.bl true)), ρ)
/-- a heap without its tables -/
def bare (H : Hp) : Hp := fun b => match H b with
  | some (.tbl _) => none
  | o => o
theorem bare_sub {H : Hp} : Same (bare H) H := fun b o e => by
  unfold bare at e
  split at e
  · cases e
  · exact e
theorem bare_nt {H : Hp} (a : Addr) (ps : Array Value) : bare H a ≠ some (.tbl ps) := fun e => by
  unfold bare at e
  split at e
  · cases e
  · rename_i h
    exact h _ e
theorem bare_of {H : Hp} {a : Addr} {o : HO} (e : H a = some o) (n : ∀ ps, o ≠ .tbl ps) : bare H a = some o := by
  unfold bare
  split
  · rename_i ps h
    rw [e] at h
    exact absurd (Option.some.inj h) (n ps)
  · exact e
theorem rl_bare {K : PySem.W.Frag} {H : Hp} {a : Addr} {xs : List V} (h : RL K H a xs) : RL K (bare H) a xs := by
  rcases h with (h | ⟨o, h⟩) | h
  · exact .inl (.inl (bare_of h fun ps z => nomatch z))
  · exact .inl (.inr ⟨o, bare_of h fun ps z => nomatch z⟩)
  · exact .inr h
theorem sp_yes {tb : Tb} {cl : Wd} {K : PySem.W.Frag} {n f : Nat} {ns : List Int} {H : Hp} {a : Addr} (hr : RL K H a (ns.map V.int)) (tt : LamX.Tabs cl.T H) (y : Yes tb n f ns) : spOf K cl 1 (callN tb.fns n f) [.ref a] H (fun v _ => v = .bl true) fun _ _ _ => False := by
  obtain ⟨ρ, e⟩ := y
  refine ⟨rfl, [.val false (scriptD ns)], bare H, ⟨bare_sub, rfl, fun i t d h => ?_, fun i t d h => ?_, fun i j t t' d d' a h => ?_, fun _ _ _ => rfl, ⟨tt, bare_nt⟩⟩, ?_⟩
  · cases i with
    | zero =>
      cases h
      exact ⟨_, rfl, .lst (rl_bare hr) (rps_ints ns)⟩
    | succ i => simp at h
  · cases i with
    | zero => cases h
    | succ i => simp at h
  · cases i with
    | zero => cases h
    | succ i => simp at h
  · unfold Res
    rw [e]
    intro v H' P' F S r
    exact (show Rp K cl P' v (.bl true) from r.1).bl_inv
theorem rl_of {K : PySem.W.Frag} {h : Heap} {H : Hp} {a : Addr} {us : List Value} {ns : List Int} (kin : K.In h) (ha : h.get? a = some { cls := .type "list", data := .seq us.toArray }) (hs : SqL K H a (ns.map V.int)) : RL K H a (ns.map V.int) := by
  rcases hs with hs | ⟨o, its, n, hk, hc, hd, hq, hz, hv⟩
  · exact .inl hs
  · have e := kin a o hk
    rw [ha] at e
    cases e
    have hq : Data.seq us.toArray _ = Data.seq its n := hq
    cases hq
    exact .inr ⟨_, _, hk, hz, hv⟩
/-! ### the start: what is tracked is the tables, and the script unless the written part holds it -/
def eTab : Obj := { cls := .none, data := .fields #[] }
def H0 (K : PySem.W.Frag) (a : Addr) (us : List Value) (ns : List Int) (ts : List Addr) : Hp := fun b =>
  if b ∈ ts then some (.tbl #[]) else if b = a ∧ K.lookup a = none then some (.frz { cls := .type "list", data := .seq us.toArray } (.lst (ns.map V.int))) else none
section
variable {P : Program} {w : World} {K : PySem.W.Frag} {a : Addr} {us : List Value} {ns : List Int} {ts : List Addr} {h : Heap}
theorem H0_tab {b : Addr} (hb : b ∈ ts) : H0 K a us ns ts b = some (.tbl #[]) := if_pos hb
theorem H0_inv {b : Addr} {u : HO} (e : H0 K a us ns ts b = some u) : (b ∈ ts ∧ u = .tbl #[]) ∨ (b ∉ ts ∧ b = a ∧ K.lookup a = none ∧ u = .frz { cls := .type "list", data := .seq us.toArray } (.lst (ns.map V.int))) := by
  unfold H0 at e
  split at e
  · rename_i hb
    exact .inl ⟨hb, (Option.some.inj e).symm⟩
  · rename_i hb
    split at e
    · rename_i hc
      exact .inr ⟨hb, hc.1, hc.2, (Option.some.inj e).symm⟩
    · cases e
theorem H0_ok (ht : ∀ b ∈ ts, h.get? b = some eTab) (ha : h.get? a = some { cls := .type "list", data := .seq us.toArray }) (rv : Vals (ns.map V.int) us) (hl : ns.length ≤ sizeLine) : HOk P w (H0 K a us ns ts) h := fun b u e => by
  rcases H0_inv e with ⟨hb, rfl⟩ | ⟨_, rfl, _, rfl⟩
  · exact ht b hb
  · exact ⟨ha, by rw [List.length_map]; exact hl, us, _, rv, ha⟩
/-- an object that is neither a list nor an empty table is not tracked -/
theorem H0_no (ht : ∀ b ∈ ts, h.get? b = some eTab) (ha : h.get? a = some { cls := .type "list", data := .seq us.toArray }) {b : Addr} {o : Obj} (e : h.get? b = some o) (n1 : ∀ vs n, o.data ≠ .seq vs n) (n2 : o.data ≠ .fields #[]) : H0 K a us ns ts b = none := by
  cases q : H0 K a us ns ts b with
  | none => rfl
  | some u =>
    rcases H0_inv q with ⟨hb, _⟩ | ⟨_, rfl, _⟩
    · rw [ht b hb] at e
      cases e
      exact absurd rfl n2
    · rw [ha] at e
      cases e
      exact absurd rfl (n1 _ _)
theorem a_tab (ht : ∀ b ∈ ts, h.get? b = some eTab) (ha : h.get? a = some { cls := .type "list", data := .seq us.toArray }) : a ∉ ts := fun z => by
  have q := ht a z
  rw [ha] at q
  exact nomatch congrArg Obj.data (Option.some.inj q)
theorem H0_script (kin : K.In h) (ht : ∀ b ∈ ts, h.get? b = some eTab) (ha : h.get? a = some { cls := .type "list", data := .seq us.toArray }) (rv : Vals (ns.map V.int) us) (hl : ns.length ≤ sizeLine) : RL K (H0 K a us ns ts) a (ns.map V.int) := by
  cases hk : K.lookup a with
  | none => exact .inl (.inr ⟨{ cls := .type "list", data := .seq us.toArray }, (if_neg (a_tab ht ha)).trans (if_pos ⟨rfl, hk⟩)⟩)
  | some o =>
    have e := kin a o hk
    rw [ha] at e
    cases e
    have lu : us.length = ns.length := by rw [← rv.length, List.length_map]
    exact .inr ⟨us.toArray, _, hk, by rw [List.size_toArray, lu]; exact hl, by simpa using rv⟩
/-- the base heap keeps the written part -/
theorem H0_kin (kin : K.In h) (ht : ∀ b ∈ ts, K.lookup b = none) : K.In (hidT h (H0 K a us ns ts)) := fun b o e => hidT_get (kin b o e) (by
  cases q : H0 K a us ns ts b with
  | none => rfl
  | some u =>
    rcases H0_inv q with ⟨hb, _⟩ | ⟨_, rfl, hk, _⟩
    · rw [ht b hb] at e
      cases e
    · rw [hk] at e
      cases e)
end
/-- the law's call, its def wanting to know that no repr is under way -/
theorem end_call {P : Program} {w : World} {K : PySem.W.Frag} {mg mb : Str → Option Value} {g : Bool} {k : Nat} {fa a : Addr} {cs : List (Addr × Addr)} {fd : FuncData} {x : Str} {sp : Sp} {s1 : Shared} {us : List Value} {ns : List Int}
    (kin : K.In s1.heap) (hns : s1.heap.Ns mainGlobals mg) (hb : s1.heap.Ns builtinsNs mb) (hbb : ∀ x : Str, x ≠ "__name__" → mb x = bootBuiltins x) (hlim : s1.heap.NoLimit) (hg : s1.gens = #[])
    (ht : ∀ p ∈ cs, s1.heap.get? p.2 = some eTab) (hk : ∀ p ∈ cs, K.lookup p.2 = none) (hc : ∀ p ∈ cs, PySem.W.CodeHd s1.heap p.1 p.2)
    (hbm : ∃ (bm : Addr) (ob : Obj), mg "__builtins__" = some (.ref bm) ∧ bm ≠ builtinsNs ∧ s1.heap.get? bm = some ob ∧ ob.cls = .type "module" ∧ ob.dict = some builtinsNs ∧ ob.data = .plain)
    (ha : s1.heap.get? a = some { cls := .type "list", data := .seq us.toArray }) (hi : IntsAre us ns) (hl : ns.length ≤ sizeLine) (hr : Room k callerA)
    (F : ∀ base : Heap, K.In base → base.Ns mainGlobals mg → (∀ p ∈ cs, LamX.TabB base mg p.1 p.2) → FnG g P w K mg base k fa fd [x] sp) (hbind : ∀ (s : Shared) (u : Value), BindsTo s fd ⟨[u], []⟩ [(x, u)])
    (hsp : ∀ H : Hp, (∀ p ∈ cs, H p.2 = some (.tbl #[])) → RL K H a (ns.map V.int) → sp [.ref a] H (fun v _ => v = .bl true) fun _ _ _ => False) :
    codeAny (model P w) callerA (.call (.ref fa) ⟨[.ref a], []⟩) (fun r s' => r = .ok (.ret (.bool true)) ∧ OldK s1.heap s'.heap ∧ s'.os = s1.os ∧ AllBare s'.gens) s1 := by
  have rv := vals_ints hi
  have ht' : ∀ b ∈ cs.map (·.2), s1.heap.get? b = some eTab := fun b hb => by
    obtain ⟨p, hp, rfl⟩ := List.mem_map.mp hb
    exact ht p hp
  have hk' : ∀ b ∈ cs.map (·.2), K.lookup b = none := fun b hb => by
    obtain ⟨p, hp, rfl⟩ := List.mem_map.mp hb
    exact hk p hp
  let H := H0 K a us ns (cs.map (·.2))
  have onT : ∀ p ∈ cs, H p.2 = some (.tbl #[]) := fun p hp => H0_tab (List.mem_map.mpr ⟨p, hp, rfl⟩)
  have still : ∀ {b : Addr} {o : Obj}, s1.heap.get? b = some o → (∀ vs n, o.data ≠ .seq vs n) → o.data ≠ .fields #[] → (hidT s1.heap H).get? b = some o := fun e n1 n2 => hidT_get e (H0_no ht' ha e n1 n2)
  have names : ∀ {b : Addr} {m : Str → Option Value}, s1.heap.Ns b m → (hidT s1.heap H).Ns b m := fun ⟨o, es, ep, e, hd, r⟩ => ⟨o, es, ep, still e (fun vs n z => nomatch hd.symm.trans z) (fun z => nomatch hd.symm.trans z), hd, r⟩
  have kb : K.In (hidT s1.heap H) := H0_kin kin hk'
  have gP : ∀ p ∈ cs, mainGlobals ≠ p.2 := fun p hp z => by
    obtain ⟨o, es, ep, e, hd, _⟩ := hns
    rw [z, ht p hp] at e
    cases e
    cases hd
  have tabB : ∀ p ∈ cs, LamX.TabB (hidT s1.heap H) mg p.1 p.2 := fun p hp => by
    refine ⟨?_, ?_, gP p hp⟩
    · obtain ⟨o, vs, file, tf, flags, tg, inF, text, tt, e, r, r2, r3, more⟩ := hc p hp
      exact ⟨o, vs, file, tf, flags, tg, inF, text, tt, still e (fun vs n z => nomatch r2.symm.trans z) (fun z => by
        have q := r2.symm.trans z
        cases q
        cases r3), r, r2, r3, more⟩
    · obtain ⟨bm, ob, b1, b2, b3, b4, b5, b6⟩ := hbm
      refine ⟨bm, ob, b1, b2, fun z => ?_, fun z => ?_, still b3 (fun vs n z => nomatch b6.symm.trans z) (fun z => nomatch b6.symm.trans z), b4, b5, b6⟩
      · obtain ⟨o, es, ep, e, hd, _⟩ := hns
        rw [z, e] at b3
        cases b3
        cases hd.symm.trans b6
      · rw [z, ht p hp] at b3
        cases b3
        cases b6
  have env : Env0 P w K mg (hidT s1.heap H) callerA [] s1 H := ⟨rfl, ⟨kb, names hns, ⟨mb, names hb, hbb⟩, let ⟨mc, h1, h2⟩ := hlim; ⟨mc, names h1, h2⟩⟩, fun b o e => of_hidT e, Nat.le_of_eq (hidT_size _ _), trivial, fun b hb => absurd (show b ∈ ([] : List Addr) from hb) (by simp), H0_ok ht' ha rv hl, .of_eq hg⟩
  refine codeAny_mono ((F _ kb (names hns) tabB).run callerA [] s1 H ⟨[.ref a], []⟩ [.ref a] [.ref a] _ _ hr (fun _ => rfl) env (hbind s1 (.ref a)) (.cons rfl .nil) (hsp H onT (H0_script kin ht' ha rv hl))) fun r s' c => ?_
  match r, c with
  | .error e, c =>
    obtain ⟨_, _, _, _, _, _, _, _, _, _, _, _, z⟩ := c
    exact z.elim
  | .ok .next, c => exact (c : False).elim
  | .ok .brk, c => exact (c : False).elim
  | .ok .cont, c => exact (c : False).elim
  | .ok (.ret u), c =>
    obtain ⟨v, H', os, bare, un, hok, ru, q⟩ := c
    have q : v = .bl true := q
    subst q
    obtain rfl : u = Value.bool true := ru
    have grown : ∀ p ∈ cs, ∃ more : Array Value, s'.heap.get? p.2 = some { cls := .none, data := .fields more } := fun p hp => by
      obtain ⟨more, z⟩ := un.tbls p.2 #[] (onT p hp)
      exact ⟨_, hok p.2 _ z⟩
    have same : ∀ b o, b ∉ cs.map (·.2) → s1.heap.get? b = some o → s'.heap.get? b = some o := fun b o nb e => by
      cases z : H b with
      | none => exact un.keep b o e z (fun m => absurd (show b ∈ ([] : List Addr) from m) (by simp)) (by simp)
      | some u =>
        rcases H0_inv z with ⟨hb, _⟩ | ⟨_, rfl, _, rfl⟩
        · exact absurd hb nb
        · have e2 := (hok b _ (un.frzs b _ _ z)).1
          rw [ha] at e
          cases e
          exact e2
    refine ⟨rfl, ⟨fun b o e => ?_, fun b o e => ?_⟩, os, bare⟩
    · by_cases hb : b ∈ cs.map (·.2)
      · obtain ⟨p, hp, rfl⟩ := List.mem_map.mp hb
        obtain ⟨more, hm⟩ := grown p hp
        rw [ht p hp] at e
        cases e
        exact .inr (.inl ⟨((hc p hp).tab (ht p hp)).isCodeTable, rfl, #[], more, rfl, by rw [Array.empty_append]; exact hm⟩)
      · exact .inl (same b o hb e)
    · by_cases hb : b ∈ cs.map (·.2)
      · obtain ⟨p, hp, rfl⟩ := List.mem_map.mp hb
        obtain ⟨more, hm⟩ := grown p hp
        exact ⟨_, hm⟩
      · exact ⟨o, same b o hb e⟩
/-- the law's row, behind its head: cs w the code objects that make lambdas, and their tables -/
theorem walk_mp {l : PySem.W.OpenLaw} {m n f : Nat} {q : Program} {loose : List Str} {XP : (Str → Option Value) → Heap → Prop} {YP : World → Heap → Prop} {d : DefRec} {K : Params → PySem.W.Frag} {tb : Tb} {lm : Nat → Bool} {cs : List (Addr × Addr)} {fd : Fd} {tops : Nat → Stmt}
    (hm : l.most = some m) (hm2 : m ≤ sizeLine) (hdf : d.params.defaults = []) (hr : Room (3 * n) callerA)
    (hY : ∀ (w : World) (h : Heap), YP w h → (K w.params).In h) (hC : ∀ (w : World) (h : Heap), YP w h → ∀ p ∈ cs, h.get? p.2 = some eTab ∧ (K w.params).lookup p.2 = none ∧ PySem.W.CodeHd h p.1 p.2) (hf : tb.fns f = some fd) (hnp : fd.np = 1) (hname : fd.name = d.name)
    (T : ∀ (w : World) (mg : Str → Option Value) (h : Heap), (K w.params).In h → h.Ns mainGlobals mg → ∃ cl : Wd, (∀ q ∈ cl.T, ∃ p ∈ cs, p.2 = q.1) ∧ Txt tb lm cl cs l.prog (K w.params) mg tops)
    (yes : ∀ ns : List Int, ns.length ≤ m → Yes tb n f ns) :
    PySem.W.WalkO q loose XP YP l.row.toRowW d [] (fun f vs => PySem.call f vs) := by
  refine Att.attach_callB hm hdf fun w s0 s1 mg mb fa o pm cd doc a us ns G Y ho hd hcd hmg hobj hints hlen hbits hg => ?_
  have kin := hY w _ Y
  have hcs := hC w _ Y
  obtain ⟨cl, hT, T1⟩ := T w mg _ kin G.T.g
  obtain ⟨hc, ad, fdt, dn, fad, hlm⟩ := T1.dn f fd hf
  have ea : ad = fa := by
    have h1 := dn.mgf
    rw [hname, hmg] at h1
    cases h1
    rfl
  subst ea
  simp only [dnC, Bool.and_eq_true, decide_eq_true_eq] at hc
  obtain ⟨x, hx⟩ : ∃ x, fd.N.take fd.np = [x] := by
    have h1 := hc.1.1
    rw [hnp] at h1 ⊢
    match hh : fd.N.take 1, h1 with
    | [x], _ => exact ⟨x, rfl⟩
  have bx := dn.binds
  rw [hx] at bx
  refine end_call (g := tb.gs f) (k := 3 * n) (fd := fdt) (x := x) (sp := spOf (K w.params) cl 1 (callN tb.fns n f)) (cs := cs) kin G.T.g G.T.b G.T.builtins G.T.nolimit hg (fun p hp => (hcs p hp).1) (fun p hp => (hcs p hp).2.1) (fun p hp => (hcs p hp).2.2) G.T.bmain hobj hints (Nat.le_trans hlen hm2) hr
    (fun base kb gb tB => ?_) (fun s u => .of_eq (bx [u] rfl)) (fun H hH hS => sp_yes hS (fun q hq => ?_) (yes ns hlen))
  · have := fn_ok (w := w) (base := base) T1 tB n f fd ad fdt hf dn hlm
    rw [hx, hnp] at this
    exact this
  · obtain ⟨p, hp, e⟩ := hT q hq
    exact .nil (by rw [← e]; exact hH p hp)
end MP
set_option Elab.async false
set_option linter.all false
set_option maxRecDepth 100000
set_option maxHeartbeats 4000000
/-! MP: classes of errors, read off the written part -/
namespace MP
open PySem PySem.Spec PyProof.Rows L2 PySem.W PySem.MPX
theorem xb_value : XBase XB.value.nm "ValueError.__new__" "ValueError.__init__" XB.value.tail := ⟨PySem.F.excBase_ValueError, PySem.F.store_ValueError, PySem.W.kxs_ValueError⟩
theorem xb_index : XBase XB.index.nm "IndexError.__new__" "IndexError.__init__" XB.index.tail := ⟨PySem.F.excBase_IndexError, PySem.F.store_IndexError, PySem.W.kxs_IndexError⟩
theorem xb_runtime : XBase XB.runtime.nm "RuntimeError.__new__" "RuntimeError.__init__" XB.runtime.tail := ⟨PySem.F.excBase_RuntimeError, PySem.F.store_RuntimeError, PySem.W.kxs_RuntimeError⟩
theorem xb_overflow : XBase XB.overflow.nm "OverflowError.__new__" "OverflowError.__init__" XB.overflow.tail := ⟨PySem.F.excBase_OverflowError, PySem.F.store_OverflowError, PySem.W.kxs_OverflowError⟩
theorem xb_arith : XBase XB.arith.nm "ArithmeticError.__new__" "ArithmeticError.__init__" XB.arith.tail := ⟨PySem.F.excBase_ArithmeticError, PySem.F.store_ArithmeticError, PySem.W.kxs_ArithmeticError⟩
theorem cls_plain {prog : Program} {K : Frag} {h : Heap} {mg : Str → Option Value} {b : XB} {nm : Str} {newId initId : String} {C : Addr} (X : K.In h) (G : h.Ns mainGlobals mg) (xb : XBase b.nm newId initId b.tail)
    (a : nsIn K mainGlobals nm = some (some (.ref C))) (k : keepIn K (.ref C) = true) (e : subIn K (.ref C) (.type "BaseException") = some true) (t : typeIn K (.ref C) = some (.type "type")) (x : excIn K C b.tail newId = true) : ClsFacts prog K mg C ⟨nm, b, none⟩ :=
  ⟨mg_of X G a, k, e, t, _, _, xb.fb, x⟩
theorem cls_init {prog : Program} {K : Frag} {h : Heap} {mg : Str → Option Value} {b : XB} {nm f : Str} {newId initId : String} {C fI cda cc : Addr} {oc : Value} {od : Option Addr} {q : Str} {kV doc pm : Value} {an : Option Addr} {ct : Value} {osl : Array (Option Value)} {p1 p2 q1 q2 q3 q4 q5 q6 r1 r2 r3 r4 : Pos} {m : Str} {j : Nat} {ccl : Value} {cdd : Option Addr} {vs : Array Value} {ccs : Array (Option Value)} {file : Str} {tf : Tok} {cl : Value} {cld : Option Addr} {csl : Array (Option Value)}
    (X : K.In h) (G : h.Ns mainGlobals mg) (xb : XBase b.nm newId initId b.tail)
    (fd1 : (f == ("__debug__" : Str)) = false) (s1 : (iS f).names.lookup (PySem.Str.ofString "super") = some .globalImplicit) (s2 : (iS f).names.lookup (PySem.Str.ofString "__class__") = some .free) (s3 : (iS f).names.lookup (PySem.Str.ofString "self") = some .local) (s4 : (iS f).names.lookup f = some .local)
    (bnd : ∀ (q m : Str) (kV doc pm cdv ct : Value) (an : Option Addr) (cc : Addr) (p1 p2 q1 q2 q3 q4 q5 q6 r1 r2 r3 r4 : Pos) (j : Nat) (x v : Value),
      bindArgs (ksFn "__init__" q (iA f p1 p2) (iB f m j q1 q2 q3 q4 q5 q6 r1 r2 r3 r4) (iS f) .none kV doc pm an cdv ct cc) ⟨[x, v], []⟩ = pure [(PySem.Str.ofString "self", x), (f, v)])
    (l1 : ∀ x v : Value, ([(PySem.Str.ofString "self", x), (f, v)] : List (Str × Value)).reverse.lookup (PySem.Str.ofString "self") = some x) (l2 : ∀ x v : Value, ([(PySem.Str.ofString "self", x), (f, v)] : List (Str × Value)).reverse.lookup f = some v)
    (htop : (prog.main.scope.names.lookup ("super" : Str)).isSome = false)
    (a : nsIn K mainGlobals nm = some (some (.ref C))) (k : keepIn K (.ref C) = true) (e : subIn K (.ref C) (.type "BaseException") = some true) (t : typeIn K (.ref C) = some (.type "type"))
    (fi : findIn K (.ref C) "__init__" = some (some (.ref fI))) (ft : typeIn K (.ref fI) = some (.type "function"))
    (fl : K.lookup fI = some ⟨oc, od, .func (ksFn "__init__" q (iA f p1 p2) (iB f m j q1 q2 q3 q4 q5 q6 r1 r2 r3 r4) (iS f) .none kV doc pm an (.ref cda) ct cc), osl⟩) (fc : codeIn K (.ref cda) q = true)
    (lc : K.lookup cda = some ⟨ccl, cdd, .fields vs, ccs⟩) (lcc : K.lookup cc = some ⟨cl, cld, .cell (some (.ref C)), csl⟩) (vf : vs[2]? = some (.str file tf)) (hf : ((prog.main.file : Str) == file) = true) (ln : (q3.endLine == q5.line) = true)
    (xC : excInitIn K C b.tail newId = true) (oC : excOver K C b.tail = true) (sa : findIn K (.ref C) "__setattr__" = some (some (.builtin "object.__setattr__"))) (xf : xfB K C = true)
    (noN : findIn K (.ref C) f = some none) (tk : takerIn K C f = some none) (sup : ks_superIn K C C "__init__" = some (some (.builtin initId))) (sB : subIn K (.ref C) (.type b.nm) = some true) (opq : nsIn K cStatics "thirdparty.any" = some none) (sub : mroIn K C (.ref C) = some true) (supG : nsIn K mainGlobals "super" = some none) : ClsFacts prog K mg C ⟨nm, b, some f⟩ :=
  ⟨mg_of X G a, k, e, t, _, _, xb, k, xC, oC, sa, xfB_ok xf, noN, tk, t, sup, sB, opq, sub, mg_none_of X G supG, htop, fd1, s1, s2, s3, s4, bnd, l1, l2,
    ⟨_, _, _, _, _, _, _, _, _, _, _, _, _, _, _, _, _, _, _, _, _, _, _, _, _, _, _, _, _, _, _, _, _, _, _, fi, ft, fl, fc, ln, lc, vf, hf, lcc⟩⟩
theorem code_of {K : Frag} {c P : Addr} {cl : Value} {d : Option Addr} {vs : Array Value} {sl : Array (Option Value)} (l : K.lookup c = some ⟨cl, d, .fields vs, sl⟩) (p : vs[11]? = some (.ref P)) : True := trivial
theorem const_int {K : Frag} {cl : Wd} {mg : Str → Option Value} {x : Str} {i : Int} {t : Tok} (h : mg x = some (.int i t)) : ∃ u v, mg x = some u ∧ RelV v u ∧ ∀ P, Rp K cl P v (.int i) := ⟨_, .int i, h, ⟨t, rfl⟩, fun _ => .int i⟩
theorem const_str {K : Frag} {cl : Wd} {mg : Str → Option Value} {x s : Str} {t : Tok} (h : mg x = some (.str s t)) : ∃ u v, mg x = some u ∧ RelV v u ∧ ∀ P, Rp K cl P v (.str s) := ⟨_, .str s, h, ⟨t, rfl⟩, fun _ => .str s⟩
theorem const_tup2 {K : Frag} {cl : Wd} {mg : Str → Option Value} {x : Str} {a : Addr} {i j : Int} {t t' : Tok} {n : Nat} {sl : Array (Option Value)} (h : mg x = some (.ref a)) (l : K.lookup a = some ⟨.type "tuple", none, .seq #[.int i t, .int j t'] n, sl⟩) :
    ∃ u v, mg x = some u ∧ RelV v u ∧ ∀ P, Rp K cl P v (.tup [.int i, .int j]) :=
  ⟨_, .ref a, h, rfl, fun P => .tup (vs := [.int i, .int j]) (.inr ⟨_, _, _, l, rfl, rfl, by show 2 ≤ sizeLine; decide, .cons ⟨t, rfl⟩ (.cons ⟨t', rfl⟩ .nil)⟩) (.cons (.int i) (.cons (.int j) .nil))⟩
theorem dn_mk2 {K : PySem.W.Frag} {h : Heap} {mg : Str → Option Value} (X : K.In h) (G : h.Ns mainGlobals mg) {fd : Fd} {st : Stmt} {f : Addr} {od an : Option Addr} {sl : Array (Option Value)} {oc kv dc pm cd ct : Value}
    (a : PySem.W.nsIn K mainGlobals fd.name = some (some (.ref f))) (l : K.lookup f = some ⟨oc, od, .func (PySem.W.fnOf fd.name fd.name (defArgs st) (defBody st) (defScope st) .none kv dc pm an cd ct), sl⟩) (c : PySem.W.codeIn K cd fd.name = true) (k : PySem.W.keepIn K (.ref f) = true)
    (b : ∀ us : List Value, us.length = (fd.N.take fd.np).length → bindArgs (PySem.W.fnOf fd.name fd.name (defArgs st) (defBody st) (defScope st) .none kv dc pm an cd ct) ⟨us, []⟩ = pure ((fd.N.take fd.np).zip us)) :
    Dn K mg fd st f (PySem.W.fnOf fd.name fd.name (defArgs st) (defBody st) (defScope st) .none kv dc pm an cd ct) :=
  ⟨fun_mk l c k, PySem.W.mg_of X G a, b⟩
theorem met_mk {K : PySem.W.Frag} {cl : Wd} {tcls : Nat → Option Cd} {h : Heap} {mg : Str → Option Value} (X : K.In h) (G : h.Ns mainGlobals mg) {nm : Str} {md : Md} {a : Str} {N : List Str} {ois : List (Option Nat)} {st : Stmt} {f : Addr} {od an : Option Addr} {sl : Array (Option Value)} {oc kv dc pm cd ct : Value}
    (n : PySem.W.nsIn K mainGlobals nm = some (some (.ref f))) (l : K.lookup f = some ⟨oc, od, .func (PySem.W.fnOf nm nm (defArgs st) (defBody st) (defScope st) .none kv dc pm an cd ct), sl⟩) (c : PySem.W.codeIn K cd nm = true) (k : PySem.W.keepIn K (.ref f) = true)
    (b : ∀ us : List Value, us.length = [a].length → bindArgs (PySem.W.fnOf nm nm (defArgs st) (defBody st) (defScope st) .none kv dc pm an cd ct) ⟨us, []⟩ = pure ([a].zip us)) (t : metB tcls a N md ois st = true)
    (ex : ∀ k, cl.ok k = true → ∀ h ∈ md.hds, PySem.W.exmOne K (.ref (cl.cl k)) (.ref (cl.cl h.cls)) = some (h.subs.contains k)) : MetFacts K mg cl tcls nm md :=
  ⟨⟨_, _, _, N, a, ois, fun_mk l c k, PySem.W.mg_of X G n, b, t⟩, ex⟩
/-- a def that makes lambdas: what is known of its code object -/
theorem lam_mk {fd : Fd} {T : List (Addr × Str)} {cs : List (Addr × Addr)} {c p : Addr} {fdt : FuncData} (e : fdt.code = .ref c) (h1 : (c, p) ∈ cs) (h2 : (p, fd.name ++ ".<locals>." ++ "<lambda>") ∈ T) (h3 : ∀ q ∈ T, q.1 = p → q.2 = fd.name ++ ".<locals>." ++ "<lambda>") :
    ∃ c p, fdt.code = .ref c ∧ (c, p) ∈ cs ∧ (p, fd.name ++ ".<locals>." ++ "<lambda>") ∈ T ∧ ∀ q ∈ T, q.1 = p → q.2 = fd.name ++ ".<locals>." ++ "<lambda>" := ⟨c, p, e, h1, h2, h3⟩
end MP
set_option Elab.async false
set_option linter.all false
set_option maxRecDepth 100000
/-! MP: how the core runs (no model here) -/
namespace MP
open PySem

theorem small_i {i : Int} (h : i.natAbs < 4611686018427387904) : smallI i = true := Nat.ble_eq_true_of_le (by omega)
/-! ### while -/
theorem whlN_mono (c : Env → Mr Bool) (b : Env → Mr Flow) : ∀ (n : Nat) (ρ : Env) (r), whlN c b n ρ = some r → whlN c b (n + 1) ρ = some r
  | 0, ρ, r, h => by simp [whlN] at h
  | n + 1, ρ, r, h => by
    rw [whlN] at h ⊢
    unfold bnd at *
    split at h
    · cases h
    · exact h
    · rename_i k ρ1 e
      dsimp only at h ⊢
      split at h
      · rename_i hk
        rw [if_pos hk]
        revert h
        cases hb : b ρ1 with
        | none => intro h; cases h
        | some q =>
          obtain ⟨z, ρ2⟩ := q
          cases z with
          | error z => intro h; exact h
          | ok f =>
            cases f with
            | nxt => exact whlN_mono c b n ρ2 r
            | cnt => exact whlN_mono c b n ρ2 r
            | brk => exact id
            | ret a => exact id
      · rename_i hk
        rw [if_neg hk]
        exact h
theorem whlN_le (c : Env → Mr Bool) (b : Env → Mr Flow) {n m : Nat} {ρ : Env} {r} (h : whlN c b n ρ = some r) (l : n ≤ m) : whlN c b m ρ = some r := by
  induction l with
  | refl => exact h
  | step _ ih => exact whlN_mono c b _ ρ r ih
theorem whlM_of {c : Env → Mr Bool} {b : Env → Mr Flow} {n : Nat} {ρ : Env} {r} (h : whlN c b n ρ = some r) : whlM c b ρ = some r := by
  unfold whlM
  split
  · rename_i hh
    have h2 := Classical.choose_spec (Classical.choose_spec hh)
    have a := whlN_le c b h (Nat.le_add_right n (Classical.choose hh))
    have d := whlN_le c b h2 (Nat.le_add_left (Classical.choose hh) n)
    rw [a] at d
    exact d.symm
  · rename_i hh
    exact absurd ⟨n, r, h⟩ hh
theorem whlM_some {c : Env → Mr Bool} {b : Env → Mr Flow} {ρ : Env} {r} (h : whlM c b ρ = some r) : ∃ n, whlN c b n ρ = some r := by
  unfold whlM at h
  split at h
  · rename_i hh
    have h2 := Classical.choose_spec (Classical.choose_spec hh)
    cases h
    exact ⟨_, h2⟩
  · cases h
/-- the loop is left -/
theorem whl_stop {c : Env → Mr Bool} {b : Env → Mr Flow} {ρ ρ1 : Env} (h : c ρ = some (.ok false, ρ1)) : whlM c b ρ = some (.ok .nxt, ρ1) :=
  whlM_of (n := 1) (by rw [whlN, h]; rfl)
/-- one more turn -/
theorem whl_turn {c : Env → Mr Bool} {b : Env → Mr Flow} {ρ ρ1 ρ2 : Env} {r} (h : c ρ = some (.ok true, ρ1)) (hb : b ρ1 = some (.ok .nxt, ρ2)) (t : whlM c b ρ2 = some r) : whlM c b ρ = some r := by
  obtain ⟨n, e⟩ := whlM_some t
  exact whlM_of (n := n + 1) (by rw [whlN, h]; simp [bnd, hb, e])
theorem whl_ret {c : Env → Mr Bool} {b : Env → Mr Flow} {ρ ρ1 ρ2 : Env} {a : A} (h : c ρ = some (.ok true, ρ1)) (hb : b ρ1 = some (.ok (.ret a), ρ2)) : whlM c b ρ = some (.ok (.ret a), ρ2) :=
  whlM_of (n := 1) (by rw [whlN, h]; simp [bnd, hb, ok])

/-! ### for -/
theorem for_nil {tg : Tg} {b : Env → Mr Flow} {ρ : Env} : forL tg b [] ρ = some (.ok .nxt, ρ) := rfl
theorem for_next {tg : Tg} {b : Env → Mr Flow} {d : D} {ds : List D} {ρ ρ1 ρ2 : Env} (h : asgT tg d ρ = some ρ1) (hb : b ρ1 = some (.ok .nxt, ρ2)) : forL tg b (d :: ds) ρ = forL tg b ds ρ2 := by
  rw [forL, h]
  show bnd (b ρ1) _ = _
  rw [hb]
  rfl
theorem for_ret {tg : Tg} {b : Env → Mr Flow} {d : D} {ds : List D} {ρ ρ1 ρ2 : Env} {a : A} (h : asgT tg d ρ = some ρ1) (hb : b ρ1 = some (.ok (.ret a), ρ2)) : forL tg b (d :: ds) ρ = some (.ok (.ret a), ρ2) := by
  rw [forL, h]
  show bnd (b ρ1) _ = _
  rw [hb]
  rfl
/-- a loop in which no turn returns: an invariant of the state -/
theorem for_inv {tg : Tg} {b : Env → Mr Flow} (I : List D → Env → Prop) : ∀ {ds : List D} {ρ : Env}, I ds ρ → (∀ d ds ρ, I (d :: ds) ρ → ∃ ρ1 ρ2, asgT tg d ρ = some ρ1 ∧ b ρ1 = some (.ok .nxt, ρ2) ∧ I ds ρ2) → ∃ ρ', forL tg b ds ρ = some (.ok .nxt, ρ') ∧ I [] ρ'
  | [], ρ, h, _ => ⟨ρ, rfl, h⟩
  | d :: ds, ρ, h, st => by
    obtain ⟨ρ1, ρ2, h1, h2, h3⟩ := st d ds ρ h
    rw [for_next h1 h2]
    exact for_inv I h3 st

/-! ### comprehensions -/
theorem wipeR_get {ρ : Env} : ∀ {vs : List Nat} {i : Nat}, (wipeR ρ vs)[i]? = if i ∈ vs ∧ i < ρ.length then some .non else ρ[i]?
  | [], i => by simp [wipeR]
  | v :: vs, i => by
    have hl : ∀ vs : List Nat, (wipeR ρ vs).length = ρ.length := fun vs => by
      induction vs with
      | nil => rfl
      | cons a b ih => rw [wipeR, List.length_set, ih]
    rw [wipeR, List.getElem?_set, hl, wipeR_get]
    by_cases h : v = i
    · subst h
      by_cases h2 : v < ρ.length
      · simp [h2]
      · simp [h2]
    · have h' : i ≠ v := fun e => h e.symm
      simp [h, h']
theorem wipeL (ρ : Env) : ∀ vs : List Nat, (wipeR ρ vs).length = ρ.length
  | [] => rfl
  | a :: b => by rw [wipeR, List.length_set, wipeL ρ b]
theorem unwipe_back {ρ ρ' : Env} (hl : ρ'.length = ρ.length) : ∀ {vs : List Nat}, (∀ i, i ∉ vs → ρ'[i]? = ρ[i]?) → unwipe ρ ρ' vs = ρ := by
  have key : ∀ {vs : List Nat} {i : Nat}, (unwipe ρ ρ' vs)[i]? = if i ∈ vs then ρ[i]? else ρ'[i]? := by
    intro vs
    induction vs with
    | nil => intro i; simp [unwipe]
    | cons v vs ih =>
      intro i
      have hu : (unwipe ρ ρ' vs).length = ρ'.length := by
        clear ih
        induction vs with
        | nil => rfl
        | cons a b ih2 => rw [unwipe, List.length_set, ih2]
      rw [unwipe, List.getElem?_set, hu, ih]
      by_cases h : v = i
      · subst h
        by_cases h2 : v < ρ.length
        · rw [if_pos rfl, if_pos (by omega), if_pos (by simp), List.getElem?_eq_getElem h2]
          rfl
        · rw [if_pos rfl, if_neg (by omega), if_pos (by simp), List.getElem?_eq_none (by omega)]
      · have h' : i ≠ v := fun e => h e.symm
        simp [h, h']
  intro vs h
  apply List.ext_getElem?
  intro i
  rw [key]
  split
  · rfl
  · rename_i hi
    exact h i hi
theorem comp_run {own : List Nat} {tg : Tg} {t : Env → Mr Bool} {e : Env → Mr D} (ρ0 : Env) (k : D → Bool) (f : D → D) : ∀ (ds : List D), (∀ d ∈ ds, ∃ ρ1, asgT tg d (wipeR ρ0 own) = some ρ1 ∧ ∃ ρ2, t ρ1 = some (.ok (k d), ρ2) ∧
      if k d = true then ∃ ρ3, e ρ2 = some (.ok (f d), ρ3) ∧ wipeR ρ3 own = wipeR ρ0 own else wipeR ρ2 own = wipeR ρ0 own) →
    ∀ ρ, wipeR ρ own = wipeR ρ0 own → ∃ ρ', compL own tg t e ds ρ = some (.ok ((ds.filter k).map f), ρ') ∧ wipeR ρ' own = wipeR ρ0 own
  | [], _, ρ, h => ⟨ρ, rfl, h⟩
  | d :: ds, hh, ρ, h => by
    obtain ⟨ρ1, h1, ρ2, h2, h3⟩ := hh d (List.mem_cons_self ..)
    rw [compL, h, h1]
    dsimp only
    rw [h2]
    cases hk : k d with
    | false =>
      rw [hk] at h3
      obtain ⟨ρ', g1, g2⟩ := comp_run ρ0 k f ds (fun d hd => hh d (List.mem_cons_of_mem _ hd)) ρ2 h3
      refine ⟨ρ', ?_, g2⟩
      rw [List.filter_cons, hk]
      exact g1
    | true =>
      rw [hk, if_pos rfl] at h3
      obtain ⟨ρ3, h4, h5⟩ := h3
      obtain ⟨ρ', g1, g2⟩ := comp_run ρ0 k f ds (fun d hd => hh d (List.mem_cons_of_mem _ hd)) ρ3 h5
      refine ⟨ρ', ?_, g2⟩
      rw [List.filter_cons, hk]
      show bnd (e ρ2) _ = _
      rw [h4]
      show bnd (compL own tg t e ds ρ3) _ = _
      rw [g1]
      rfl
theorem ev_comp {call : Nat → List Slot → Out} {elt : C} {tg : Tg} {it : I} {ifs : CO} {own : List Nat} {ρ ρ1 : Env} {ds : List D} (k : D → Bool) (f : D → D) (hi : evI call it ρ = some (.ok ds, ρ1)) (hl : ds.length ≤ 16777216)
    (h : ∀ d ∈ ds, ∃ ρ2, asgT tg d (wipeR ρ1 own) = some ρ2 ∧ ∃ ρ3, evIf call ifs ρ2 = some (.ok (k d), ρ3) ∧ if k d = true then ∃ ρ4, bnd (ev call elt ρ3) frzM = some (.ok (f d), ρ4) ∧ wipeR ρ4 own = wipeR ρ1 own else wipeR ρ3 own = wipeR ρ1 own) :
    ev call (.cmpr elt tg it ifs own) ρ = some (.ok (.frs (.lst ((ds.filter k).map f))), ρ1) := by
  obtain ⟨ρ', e1, e2⟩ := comp_run ρ1 k f ds h ρ1 rfl
  rw [ev, hi]
  show (if ds.length ≤ 16777216 then _ else _) = _
  rw [if_pos hl, e1]
  show ok _ (unwipe ρ1 ρ' own) = _
  have hlen : ρ'.length = ρ1.length := by
    have := congrArg List.length e2
    rwa [wipeL, wipeL] at this
  rw [unwipe_back hlen fun i hi => by
    have := congrArg (·[i]?) e2
    simp only [wipeR_get] at this
    simpa [hi] using this]
  rfl
/-! ### the evaluator's equations, one by one (comprehensions and loops apart) -/
section
variable (call : Nat → List Slot → Out)
theorem ev_cst (d : D) (ρ : Env) : ev call (.cst d) ρ = ok (.dat d) ρ := by first | (rw [ev]; rfl) | rw [ev]
theorem ev_glb (x : Str) (d : D) (ρ : Env) : ev call (.glb x d) ρ = ok (.dat d) ρ := by first | (rw [ev]; rfl) | rw [ev]
theorem ev_var (i : Nat) (ρ : Env) : ev call (.var i) ρ = match ρ[i]? with
    | some (.val _ d) => ok (.dat d) ρ
    | some (.own _ _) => ok (.slot i) ρ
    | _ => none := by first | (rw [ev]; rfl) | rw [ev]
theorem ev_tup (es : Cs) (ρ : Env) : ev call (.tup es) ρ = bnd (evDs call es ρ) fun ds ρ => ok (.dat (.tup ds)) ρ := by first | (rw [ev]; rfl) | rw [ev]
theorem ev_lst (es : Cs) (ρ : Env) : ev call (.lst es) ρ = bnd (evDs call es ρ) fun ds ρ => ok (.frs (.lst ds)) ρ := by first | (rw [ev]; rfl) | rw [ev]
theorem ev_dis0  (ρ : Env) : ev call (.dis0) ρ = ok (.dat (.dic [] [])) ρ := by first | (rw [ev]; rfl) | rw [ev]
theorem ev_dis1 (k v : C) (ρ : Env) : ev call (.dis1 k v) ρ = bnd (bnd (ev call k ρ) frzM) fun x ρ => bnd (bnd (ev call v ρ) frzM) fun y ρ => if keyB x = true then ok (.dat (.dic [x] [y])) ρ else none := by first | (rw [ev]; rfl) | rw [ev]
theorem ev_bin (op : BOp) (a b : C) (ρ : Env) : ev call (.bin op a b) ρ = bnd (ev call a ρ) fun x ρ => bnd (ev call b ρ) fun y ρ => op2 (binD op) x y ρ := by first | (rw [ev]; rfl) | rw [ev]
theorem ev_neg (a : C) (ρ : Env) : ev call (.neg a) ρ = bnd (ev call a ρ) fun x ρ => op1 negD x ρ := by first | (rw [ev]; rfl) | rw [ev]
theorem ev_boo (k : Bool) (es : Cs) (ρ : Env) : ev call (.boo k es) ρ = evB call k es ρ := by first | (rw [ev]; rfl) | rw [ev]
theorem ev_not (a : C) (ρ : Env) : ev call (.not_ a) ρ = bnd (ev call a ρ) fun x ρ => bnd (tru x ρ) fun k ρ => ok (.dat (.bl (!k))) ρ := by first | (rw [ev]; rfl) | rw [ev]
theorem ev_cmp (op : COp) (a b : C) (ρ : Env) : ev call (.cmp op a b) ρ = bnd (ev call a ρ) fun x ρ => bnd (ev call b ρ) fun y ρ => op2 (fun x y => datB (cmpO op x y)) x y ρ := by first | (rw [ev]; rfl) | rw [ev]
theorem ev_chn (op op' : COp) (a b c : C) (ρ : Env) : ev call (.chn op op' a b c) ρ = bnd (ev call a ρ) fun x ρ => bnd (ev call b ρ) fun y ρ => bnd (op2 (fun x y => datB (cmpO op x y)) x y ρ) fun z ρ => bnd (tru z ρ) fun k ρ =>
      if k = true then bnd (ev call c ρ) fun z ρ => op2 (fun x y => datB (cmpO op' x y)) y z ρ else ok (.dat (.bl false)) ρ := by rw [ev]
theorem ev_chn3 (op op' op'' : COp) (a b c d : C) (ρ : Env) : ev call (.chn3 op op' op'' a b c d) ρ = bnd (ev call a ρ) fun x ρ => bnd (ev call b ρ) fun y ρ => bnd (op2 (fun x y => datB (cmpO op x y)) x y ρ) fun z ρ => bnd (tru z ρ) fun k ρ =>
      if k = true then bnd (ev call c ρ) fun w ρ => bnd (op2 (fun x y => datB (cmpO op' x y)) y w ρ) fun z ρ => bnd (tru z ρ) fun k ρ =>
        if k = true then bnd (ev call d ρ) fun v ρ => op2 (fun x y => datB (cmpO op'' x y)) w v ρ else ok (.dat (.bl false)) ρ else ok (.dat (.bl false)) ρ := by rw [ev]
theorem ev_ite (c a b : C) (ρ : Env) : ev call (.ite c a b) ρ = bnd (ev call c ρ) fun x ρ => bnd (tru x ρ) fun k ρ => if k = true then ev call a ρ else ev call b ρ := by first | (rw [ev]; rfl) | rw [ev]
theorem ev_idx (a i : C) (ρ : Env) : ev call (.idx a i) ρ = bnd (ev call a ρ) fun x ρ => bnd (ev call i ρ) fun y ρ => op2 idxD x y ρ := by first | (rw [ev]; rfl) | rw [ev]
theorem ev_slc (a : C) (lo hi : CO) (ρ : Env) : ev call (.slc a lo hi) ρ = bnd (ev call a ρ) fun x ρ => bnd (evO call lo ρ) fun l ρ => bnd (evO call hi ρ) fun h ρ => op1 (slcD l h) x ρ := by first | (rw [ev]; rfl) | rw [ev]
theorem ev_call (f : Nat) (fl : List Bool) (es : Cs) (ρ : Env) : ev call (.call f fl es) ρ = bnd (evAs call fl es ρ) fun as ρ => doCall call f as ρ := by first | (rw [ev]; rfl) | rw [ev]
theorem ev_blt (f : Blt) (es : Cs) (ρ : Env) : ev call (.blt f es) ρ = bnd (evAs call [] es ρ) fun as ρ => blts f as ρ := by first | (rw [ev]; rfl) | rw [ev]
theorem ev_isi (ts : List Ty) (e : C) (ρ : Env) : ev call (.isi ts e) ρ = bnd (ev call e ρ) fun x ρ => op1 (isiD ts) x ρ := by first | (rw [ev]; rfl) | rw [ev]
theorem ev_lstI (it : I) (ρ : Env) : ev call (.lstI it) ρ = bnd (evI call it ρ) fun ds ρ => if ds.length ≤ 16777216 then ok (.frs (.lst ds)) ρ else none := by first | (rw [ev]; rfl) | rw [ev]
theorem x_par (is : List Nat) (es : Cs) (ρ : Env) : MP.exec call (.par is es) ρ = bnd (evRs call es ρ) fun as ρ => nxtO (putAs is as ρ) := by first | (rw [MP.exec]; rfl) | rw [MP.exec]
theorem x_aug (i : Nat) (op : BOp) (e : C) (ρ : Env) : MP.exec call (.aug i op e) ρ = match ρ[i]? with
    | some (.val _ (.int x)) => bnd (ev call e ρ) fun a ρ => augD i op x a ρ
    | _ => none := by first | (rw [MP.exec]; rfl) | rw [MP.exec]
theorem x_seti (i : Nat) (ix e : C) (ρ : Env) : MP.exec call (.seti i ix e) ρ = bnd (bnd (ev call e ρ) frzM) fun d ρ => match ρ[i]? with
    | some (.own _ (.lst _)) => bnd (ev call ix ρ) fun k ρ => setiD i d k ρ
    | _ => none := by first | (rw [MP.exec]; rfl) | rw [MP.exec]
theorem x_dset (i : Nat) (ix e : C) (ρ : Env) : MP.exec call (.dset i ix e) ρ = bnd (bnd (ev call e ρ) frzM) fun d ρ => match ρ[i]? with
    | some (.own _ (.dic _ _)) => bnd (ev call ix ρ) fun k ρ => dsetD i d k ρ
    | _ => none := by first | (rw [MP.exec]; rfl) | rw [MP.exec]
theorem x_app (i : Nat) (e : C) (ρ : Env) : MP.exec call (.app i e) ρ = match ρ[i]? with
    | some (.own _ (.lst _)) => bnd (bnd (ev call e ρ) frzM) fun d ρ => appD i d ρ
    | _ => none := by first | (rw [MP.exec]; rfl) | rw [MP.exec]
theorem x_expr (e : C) (ρ : Env) : MP.exec call (.expr e) ρ = bnd (ev call e ρ) fun _ ρ => ok .nxt ρ := by first | (rw [MP.exec]; rfl) | rw [MP.exec]
theorem x_ife (c : C) (a b : Ss) (ρ : Env) : MP.exec call (.ife c a b) ρ = bnd (evT call c ρ) fun k ρ => if k = true then MP.execs call a ρ else MP.execs call b ρ := by first | (rw [MP.exec]; rfl) | rw [MP.exec]
theorem x_ret (e : C) (ρ : Env) : MP.exec call (.ret e) ρ = bnd (ev call e ρ) fun a ρ => retA a ρ := by first | (rw [MP.exec]; rfl) | rw [MP.exec]
theorem x_retN  (ρ : Env) : MP.exec call (.retN) ρ = ok (.ret (.dat .non)) ρ := by first | (rw [MP.exec]; rfl) | rw [MP.exec]
theorem x_pas  (ρ : Env) : MP.exec call (.pas) ρ = ok .nxt ρ := by first | (rw [MP.exec]; rfl) | rw [MP.exec]
theorem x_brk  (ρ : Env) : MP.exec call (.brk) ρ = ok .brk ρ := by first | (rw [MP.exec]; rfl) | rw [MP.exec]
theorem x_cnt  (ρ : Env) : MP.exec call (.cnt) ρ = ok .cnt ρ := by first | (rw [MP.exec]; rfl) | rw [MP.exec]
theorem x_rse0 (k : Nat) (ρ : Env) : MP.exec call (.rse k .none) ρ = some (.error ⟨k, none⟩, ρ) := by first | (rw [MP.exec]; rfl) | rw [MP.exec]
theorem x_rse1 (k : Nat) (c : C) (ρ : Env) : MP.exec call (.rse k (.some c)) ρ = bnd (bnd (ev call c ρ) frzM) fun d ρ => some (.error ⟨k, some d⟩, ρ) := by first | (rw [MP.exec]; rfl) | rw [MP.exec]
theorem x_bad (ρ : Env) : MP.exec call .bad ρ = none := by first | (rw [MP.exec]; rfl) | rw [MP.exec]
theorem ev_cmpr (elt : C) (tg : Tg) (it : I) (ifs : CO) (own : List Nat) (ρ : Env) : ev call (.cmpr elt tg it ifs own) ρ = bnd (evI call it ρ) fun ds ρ1 => if ds.length ≤ 16777216 then
      bnd (calm (compL own tg (fun ρ => evIf call ifs ρ) (fun ρ => bnd (ev call elt ρ) frzM) ds ρ1)) fun xs ρ2 => ok (.frs (.lst xs)) (unwipe ρ1 ρ2 own)
      else none := by first | (rw [ev]; rfl) | rw [ev]
theorem ev_bad (ρ : Env) : ev call .bad ρ = none := by first | (rw [ev]; rfl) | rw [ev]
theorem ev_fnv (k : Nat) (ρ : Env) : ev call (.fnv k) ρ = ok (.dat (.fn k)) ρ := by first | (rw [ev]; rfl) | rw [ev]
theorem ev_callL (i m : Nat) (fl : List Bool) (es : Cs) (ρ : Env) : ev call (.callL i m fl es) ρ = match ρ[i]? with
    | some (.val _ (.fn f)) => if f < m then bnd (evAs call fl es ρ) fun as ρ => doCall call f as ρ else none
    | _ => none := by first | (rw [ev]; rfl) | rw [ev]
theorem ev_pop (i : Nat) (ρ : Env) : ev call (.pop i) ρ = popD i ρ := by first | (rw [ev]; rfl) | rw [ev]
theorem ev_disO (ρ : Env) : ev call .disO ρ = ok (.frs (.dic [] [])) ρ := by rw [ev]
theorem ev_dget (a i : C) (ρ : Env) : ev call (.dget a i) ρ = bnd (ev call a ρ) fun x ρ => bnd (ev call i ρ) fun y ρ => op2 dgetD x y ρ := by rw [ev]
theorem ev_din (k : Bool) (i a : C) (ρ : Env) : ev call (.din k i a) ρ = bnd (ev call i ρ) fun x ρ => bnd (ev call a ρ) fun y ρ => op2 (dinD k) x y ρ := by rw [ev]
theorem ev_dget2 (a i z : C) (ρ : Env) : ev call (.dget2 a i z) ρ = bnd (ev call a ρ) fun x ρ => isDicM x ρ fun ρ => bnd (ev call i ρ) fun y ρ => bnd (bnd (ev call z ρ) frzM) fun d ρ => op2 (dget2D d) x y ρ := by rw [ev]
theorem ev_ext (i : Nat) (e : C) (ρ : Env) : ev call (.ext i e) ρ = match ρ[i]? with
    | some (.own _ (.lst _)) => bnd (ev call e ρ) fun a ρ => extD i a ρ
    | _ => none := by first | (rw [ev]; rfl) | rw [ev]
theorem ev_met (g : Nat) (md : Md) (c : C) (ρ : Env) : ev call (.met g md c) ρ = metR md (ev call c ρ) := by first | (rw [ev]; rfl) | rw [ev]
theorem x_nm (i : Nat) (e : C) (ρ : Env) : MP.exec call (.asg (.nm i) e) ρ = bnd (bnd (ev call e ρ) unslot) fun a ρ => nxtO (putA i a ρ) := by first | (rw [MP.exec]; rfl) | rw [MP.exec]
theorem x_tp (ts : Tgs) (e : C) (ρ : Env) : MP.exec call (.asg (.tp ts) e) ρ = bnd (bnd (ev call e ρ) frzM) fun d ρ => nxtO (asgT (.tp ts) d ρ) := by simp only [MP.exec]
end
end MP
set_option Elab.async false
set_option linter.all false
set_option maxRecDepth 100000
/-! MP: a runner that can be worked out, and that it tells what the core does -/
namespace MP
open PySem
/-- what m tells, m' tells -/
def Le {α : Type} (m m' : Option α) : Prop := ∀ r, m = some r → m' = some r
theorem Le.rf {α : Type} {m : Option α} : Le m m := fun _ h => h
theorem bnd_le {α β : Type} {m m' : Mr α} {f f' : α → Env → Mr β} (h : Le m m') (g : ∀ a ρ, Le (f a ρ) (f' a ρ)) : Le (bnd m f) (bnd m' f') := fun r e => by
  unfold bnd at e
  split at e
  · cases e
  · rename_i x ρ
    rw [h _ rfl]
    exact e
  · rename_i a ρ
    rw [h _ rfl]
    exact g _ _ _ e
theorem ite_le {α : Type} {p : Prop} [Decidable p] {a a' b b' : Option α} (h1 : Le a a') (h2 : Le b b') : Le (if p then a else b) (if p then a' else b') := by
  split
  · exact h1
  · exact h2
theorem comp_le {own : List Nat} {tg : Tg} {t t' : Env → Mr Bool} {e e' : Env → Mr D} (ht : ∀ ρ, Le (t ρ) (t' ρ)) (he : ∀ ρ, Le (e ρ) (e' ρ)) : ∀ (ds : List D) (ρ : Env), Le (compL own tg t e ds ρ) (compL own tg t' e' ds ρ)
  | [], ρ => .rf
  | d :: ds, ρ => by
    rw [compL, compL]
    split
    · exact .rf
    · exact bnd_le (ht _) fun k ρ => ite_le (bnd_le (he _) fun x ρ => bnd_le (comp_le ht he ds _) fun _ _ => .rf) (comp_le ht he ds _)
theorem calm_le {α : Type} {m m' : Mr α} (h : Le m m') : Le (calm m) (calm m') := fun r e => by
  unfold calm at e
  split at e
  · rw [h _ rfl]
    exact e
  · cases e
theorem met_le {md : Md} {m m' : Mr A} (h : Le m m') : Le (metR md m) (metR md m') := fun r e => by
  unfold metR at e
  split at e
  · cases e
  · rw [h _ rfl]
    exact e
  · rw [h _ rfl]
    exact e
section
variable {c1 c2 : Nat → List Slot → Out} (hc : ∀ f as, Le (c1 f as) (c2 f as))
include hc
theorem doCall_le (f : Nat) (as : List A) (ρ : Env) : Le (doCall c1 f as ρ) (doCall c2 f as ρ) := fun r e => by
  unfold doCall at e ⊢
  split at e
  · rename_i hn
    rw [if_pos hn]
    cases h : c1 f (lends ρ as) with
    | none => rw [h] at e; cases e
    | some q =>
      rw [hc f _ _ h]
      rw [h] at e
      exact e
  · cases e
mutual
theorem ev_le : ∀ (c : C) (ρ : Env), Le (ev c1 c ρ) (ev c2 c ρ)
  | .cst d, ρ => by rw [ev_cst, ev_cst]; exact .rf
  | .glb x d, ρ => by rw [ev_glb, ev_glb]; exact .rf
  | .var i, ρ => by rw [ev_var, ev_var]; exact .rf
  | .tup es, ρ => by rw [ev_tup, ev_tup]; exact bnd_le (evDs_le es _) fun _ _ => .rf
  | .lst es, ρ => by rw [ev_lst, ev_lst]; exact bnd_le (evDs_le es _) fun _ _ => .rf
  | .dis0, ρ => by rw [ev_dis0, ev_dis0]; exact .rf
  | .dis1 k v, ρ => by rw [ev_dis1, ev_dis1]; exact bnd_le (bnd_le (ev_le k _) fun _ _ => .rf) fun _ _ => bnd_le (bnd_le (ev_le v _) fun _ _ => .rf) fun _ _ => .rf
  | .bin op a b, ρ => by rw [ev_bin, ev_bin]; exact bnd_le (ev_le a _) fun _ _ => bnd_le (ev_le b _) fun _ _ => .rf
  | .neg a, ρ => by rw [ev_neg, ev_neg]; exact bnd_le (ev_le a _) fun _ _ => .rf
  | .boo k es, ρ => by rw [ev_boo, ev_boo]; exact evB_le k es _
  | .not_ a, ρ => by rw [ev_not, ev_not]; exact bnd_le (ev_le a _) fun _ _ => .rf
  | .cmp op a b, ρ => by rw [ev_cmp, ev_cmp]; exact bnd_le (ev_le a _) fun _ _ => bnd_le (ev_le b _) fun _ _ => .rf
  | .chn op op' a b c, ρ => by rw [ev_chn, ev_chn]; exact bnd_le (ev_le a _) fun _ _ => bnd_le (ev_le b _) fun _ _ => bnd_le .rf fun _ _ => bnd_le .rf fun _ _ => ite_le (bnd_le (ev_le c _) fun _ _ => .rf) .rf
  | .chn3 op op' op'' a b c d, ρ => by rw [ev_chn3, ev_chn3]; exact bnd_le (ev_le a _) fun _ _ => bnd_le (ev_le b _) fun _ _ => bnd_le .rf fun _ _ => bnd_le .rf fun _ _ => ite_le (bnd_le (ev_le c _) fun _ _ => bnd_le .rf fun _ _ => bnd_le .rf fun _ _ => ite_le (bnd_le (ev_le d _) fun _ _ => .rf) .rf) .rf
  | .ite c a b, ρ => by rw [ev_ite, ev_ite]; exact bnd_le (ev_le c _) fun _ _ => bnd_le .rf fun _ _ => ite_le (ev_le a _) (ev_le b _)
  | .idx a i, ρ => by rw [ev_idx, ev_idx]; exact bnd_le (ev_le a _) fun _ _ => bnd_le (ev_le i _) fun _ _ => .rf
  | .slc a lo hi, ρ => by rw [ev_slc, ev_slc]; exact bnd_le (ev_le a _) fun _ _ => bnd_le (evO_le lo _) fun _ _ => bnd_le (evO_le hi _) fun _ _ => .rf
  | .call f fl es, ρ => by rw [ev_call, ev_call]; exact bnd_le (evAs_le fl es _) fun _ _ => doCall_le hc f _ _
  | .blt f es, ρ => by rw [ev_blt, ev_blt]; exact bnd_le (evAs_le [] es _) fun _ _ => .rf
  | .isi ts e, ρ => by rw [ev_isi, ev_isi]; exact bnd_le (ev_le e _) fun _ _ => .rf
  | .lstI it, ρ => by rw [ev_lstI, ev_lstI]; exact bnd_le (evI_le it _) fun _ _ => .rf
  | .cmpr elt tg it ifs own, ρ => by
    rw [ev_cmpr, ev_cmpr]
    exact bnd_le (evI_le it _) fun _ _ => ite_le (bnd_le (calm_le (comp_le (fun ρ => evIf_le ifs ρ) (fun ρ => bnd_le (ev_le elt _) fun _ _ => .rf) _ _)) fun _ _ => .rf) .rf
  | .bad, ρ => by rw [ev_bad, ev_bad]; exact .rf
  | .fnv k, ρ => by rw [ev_fnv, ev_fnv]; exact .rf
  | .callL i m fl es, ρ => by
    rw [ev_callL, ev_callL]
    split
    · exact ite_le (bnd_le (evAs_le fl es _) fun _ _ => doCall_le hc _ _ _) .rf
    · exact .rf
  | .met g md c, ρ => by rw [ev_met, ev_met]; exact met_le (ev_le c _)
  | .pop i, ρ => by rw [ev_pop, ev_pop]; exact .rf
  | .disO, ρ => by rw [ev_disO, ev_disO]; exact .rf
  | .dget a i, ρ => by rw [ev_dget, ev_dget]; exact bnd_le (ev_le a _) fun _ _ => bnd_le (ev_le i _) fun _ _ => .rf
  | .din k i a, ρ => by rw [ev_din, ev_din]; exact bnd_le (ev_le i _) fun _ _ => bnd_le (ev_le a _) fun _ _ => .rf
  | .dget2 a i z, ρ => by
    rw [ev_dget2, ev_dget2]
    refine bnd_le (ev_le a _) fun x ρ => ?_
    unfold isDicM
    split
    · exact bnd_le (ev_le i _) fun _ _ => bnd_le (bnd_le (ev_le z _) fun _ _ => .rf) fun _ _ => .rf
    · exact .rf
  | .ext i e, ρ => by
    rw [ev_ext, ev_ext]
    split
    · exact bnd_le (ev_le e _) fun _ _ => .rf
    · exact .rf
theorem evB_le : ∀ (k : Bool) (es : Cs) (ρ : Env), Le (evB c1 k es ρ) (evB c2 k es ρ)
  | k, .nil, ρ => by rw [evB, evB]; exact .rf
  | k, .cons e .nil, ρ => by rw [evB, evB]; exact bnd_le (ev_le e _) fun _ _ => .rf
  | k, .cons e (.cons e' es), ρ => by rw [evB, evB]; exact bnd_le (ev_le e _) fun _ _ => bnd_le .rf fun _ _ => ite_le (evB_le k (.cons e' es) _) .rf
theorem evIf_le : ∀ (c : CO) (ρ : Env), Le (evIf c1 c ρ) (evIf c2 c ρ)
  | .none, ρ => by rw [evIf, evIf]; exact .rf
  | .some c, ρ => by rw [evIf, evIf]; exact bnd_le (ev_le c _) fun _ _ => .rf
theorem evO_le : ∀ (c : CO) (ρ : Env), Le (evO c1 c ρ) (evO c2 c ρ)
  | .none, ρ => by rw [evO, evO]; exact .rf
  | .some c, ρ => by rw [evO, evO]; exact bnd_le (ev_le c _) fun _ _ => .rf
theorem evAs_le : ∀ (fl : List Bool) (es : Cs) (ρ : Env), Le (evAs c1 fl es ρ) (evAs c2 fl es ρ)
  | fl, .nil, ρ => by rw [evAs, evAs]; exact .rf
  | fl, .cons e es, ρ => by rw [evAs, evAs]; exact bnd_le (bnd_le (ev_le e _) fun _ _ => .rf) fun _ _ => bnd_le (evAs_le fl.tail es _) fun _ _ => .rf
theorem evDs_le : ∀ (es : Cs) (ρ : Env), Le (evDs c1 es ρ) (evDs c2 es ρ)
  | .nil, ρ => by rw [evDs, evDs]; exact .rf
  | .cons e es, ρ => by rw [evDs, evDs]; exact bnd_le (bnd_le (ev_le e _) fun _ _ => .rf) fun _ _ => bnd_le (evDs_le es _) fun _ _ => .rf
theorem evI_le : ∀ (it : I) (ρ : Env), Le (evI c1 it ρ) (evI c2 it ρ)
  | .seq e, ρ => by rw [evI, evI]; exact bnd_le (bnd_le (ev_le e _) fun _ _ => .rf) fun _ _ => .rf
  | .rng1 a, ρ => by rw [evI, evI]; exact bnd_le (ev_le a _) fun _ _ => .rf
  | .rng2 a b, ρ => by rw [evI, evI]; exact bnd_le (ev_le a _) fun _ _ => bnd_le (ev_le b _) fun _ _ => .rf
  | .rng3 a b c, ρ => by rw [evI, evI]; exact bnd_le (ev_le a _) fun _ _ => bnd_le (ev_le b _) fun _ _ => bnd_le (ev_le c _) fun _ _ => .rf
  | .enum e, ρ => by rw [evI, evI]; exact bnd_le (bnd_le (ev_le e _) fun _ _ => .rf) fun _ _ => .rf
  | .zip a b, ρ => by rw [evI, evI]; exact bnd_le (bnd_le (ev_le a _) fun _ _ => .rf) fun _ _ => bnd_le (bnd_le (ev_le b _) fun _ _ => .rf) fun _ _ => .rf
  | .zips e, ρ => by rw [evI, evI]; exact bnd_le (bnd_le (ev_le e _) fun _ _ => .rf) fun _ _ => .rf
  | .rev e, ρ => by rw [evI, evI]; exact bnd_le (bnd_le (ev_le e _) fun _ _ => .rf) fun _ _ => .rf
end
theorem evT_le (c : C) (ρ : Env) : Le (evT c1 c ρ) (evT c2 c ρ) := bnd_le (ev_le hc c ρ) fun _ _ => .rf
theorem evRs_le : ∀ (es : Cs) (ρ : Env), Le (evRs c1 es ρ) (evRs c2 es ρ)
  | .nil, ρ => by rw [evRs, evRs]; exact .rf
  | .cons e es, ρ => by rw [evRs, evRs]; exact bnd_le (bnd_le (ev_le hc e _) fun _ _ => .rf) fun _ _ => bnd_le (evRs_le es _) fun _ _ => .rf
end
/-! ### data worked out at once -/
def frcN {β : Type} (n : Nat) (k : Nat → β) : β := match n with
  | 0 => k 0
  | n + 1 => k (n + 1)
def frcI {β : Type} (i : Int) (k : Int → β) : β := match i with
  | .ofNat n => frcN n fun n => k (.ofNat n)
  | .negSucc n => frcN n fun n => k (.negSucc n)
def frcB {β : Type} (b : Bool) (k : Bool → β) : β := match b with
  | true => k true
  | false => k false
theorem frcN_eq {β : Type} (n : Nat) (k : Nat → β) : frcN n k = k n := by cases n <;> rfl
theorem frcI_eq {β : Type} (n : Int) (k : Int → β) : frcI n k = k n := by cases n <;> simp [frcI, frcN_eq]
theorem frcB_eq {β : Type} (n : Bool) (k : Bool → β) : frcB n k = k n := by cases n <;> rfl
mutual
def frcD {β : Type} : D → (D → β) → β
  | .non, k => k .non
  | .bl b, k => frcB b fun b => k (.bl b)
  | .int i, k => frcI i fun i => k (.int i)
  | .str x, k => k (.str x)
  | .tup xs, k => frcDs xs fun xs => k (.tup xs)
  | .lst xs, k => frcDs xs fun xs => k (.lst xs)
  | .dic a b, k => frcDs a fun a => frcDs b fun b => k (.dic a b)
  | .fn n, k => k (.fn n)
def frcDs {β : Type} : List D → (List D → β) → β
  | [], k => k []
  | x :: xs, k => frcD x fun x => frcDs xs fun xs => k (x :: xs)
end
mutual
theorem frcD_eq {β : Type} : ∀ (d : D) (k : D → β), frcD d k = k d
  | .non, k => by rw [frcD]
  | .bl b, k => by rw [frcD, frcB_eq]
  | .int i, k => by rw [frcD, frcI_eq]
  | .str x, k => by rw [frcD]
  | .tup xs, k => by rw [frcD, frcDs_eq]
  | .lst xs, k => by rw [frcD, frcDs_eq]
  | .dic a b, k => by rw [frcD, frcDs_eq, frcDs_eq]
  | .fn n, k => by rw [frcD]
theorem frcDs_eq {β : Type} : ∀ (d : List D) (k : List D → β), frcDs d k = k d
  | [], k => by rw [frcDs]
  | x :: xs, k => by rw [frcDs, frcD_eq, frcDs_eq]
end
def frcS {β : Type} (s : Slot) (k : Slot → β) : β := match s with
  | .non => k .non
  | .val t d => frcB t fun t => frcD d fun d => k (.val t d)
  | .own t d => frcB t fun t => frcD d fun d => k (.own t d)
theorem frcS_eq {β : Type} (s : Slot) (k : Slot → β) : frcS s k = k s := by cases s <;> simp [frcS, frcB_eq, frcD_eq]
def frcE {β : Type} : Env → (Env → β) → β
  | [], k => k []
  | x :: xs, k => frcS x fun x => frcE xs fun xs => k (x :: xs)
theorem frcE_eq {β : Type} : ∀ (ρ : Env) (k : Env → β), frcE ρ k = k ρ
  | [], k => by rw [frcE]
  | x :: xs, k => by rw [frcE, frcS_eq, frcE_eq]
/-! ### the runner: w turns of a while at most -/
section
variable (call : Nat → List Slot → Out) (w : Nat)
def whlR (c : Env → Mr Bool) (b : Env → Mr Flow) (w : Nat) (ρ : Env) : Mr Flow := whlN (fun ρ => frcE ρ c) b w ρ
mutual
def execR : S → Env → Mr Flow
  | .asg tg e, ρ => match tg with
    | .nm i => bnd (bnd (ev call e ρ) unslot) fun a ρ => nxtO (putA i a ρ)
    | tg => bnd (bnd (ev call e ρ) frzM) fun d ρ => nxtO (asgT tg d ρ)
  | .par is es, ρ => bnd (evRs call es ρ) fun as ρ => nxtO (putAs is as ρ)
  | .aug i op e, ρ => match ρ[i]? with
    | some (.val _ (.int x)) => bnd (ev call e ρ) fun a ρ => augD i op x a ρ
    | _ => none
  | .seti i ix e, ρ => bnd (bnd (ev call e ρ) frzM) fun d ρ => match ρ[i]? with
    | some (.own _ (.lst _)) => bnd (ev call ix ρ) fun k ρ => setiD i d k ρ
    | _ => none
  | .dset i ix e, ρ => bnd (bnd (ev call e ρ) frzM) fun d ρ => match ρ[i]? with
    | some (.own _ (.dic _ _)) => bnd (ev call ix ρ) fun k ρ => dsetD i d k ρ
    | _ => none
  | .app i e, ρ => match ρ[i]? with
    | some (.own _ (.lst _)) => bnd (bnd (ev call e ρ) frzM) fun d ρ => appD i d ρ
    | _ => none
  | .expr e, ρ => bnd (ev call e ρ) fun _ ρ => ok .nxt ρ
  | .ife c a b, ρ => bnd (evT call c ρ) fun k ρ => if k = true then execsR a ρ else execsR b ρ
  | .for_ tg it b, ρ => bnd (evI call it ρ) fun ds ρ => forL tg (fun ρ => frcE ρ fun ρ => execsR b ρ) ds ρ
  | .whl c b, ρ => whlN (fun ρ => frcE ρ fun ρ => evT call c ρ) (fun ρ => execsR b ρ) w ρ
  | .ret e, ρ => bnd (ev call e ρ) fun a ρ => retA a ρ
  | .retN, ρ => ok (.ret (.dat .non)) ρ
  | .pas, ρ => ok .nxt ρ
  | .brk, ρ => ok .brk ρ
  | .cnt, ρ => ok .cnt ρ
  | .rse k e, ρ => match e with
    | .none => some (.error ⟨k, none⟩, ρ)
    | .some c => bnd (bnd (ev call c ρ) frzM) fun d ρ => some (.error ⟨k, some d⟩, ρ)
  | .bad, _ => none
def execsR : Ss → Env → Mr Flow
  | .nil, ρ => ok .nxt ρ
  | .cons s ss, ρ => bnd (execR s ρ) fun f ρ => match f with
    | .nxt => execsR ss ρ
    | f => ok f ρ
end
end
theorem for_le {tg : Tg} {b b' : Env → Mr Flow} (h : ∀ ρ, Le (b ρ) (b' ρ)) : ∀ (ds : List D) (ρ : Env), Le (forL tg b ds ρ) (forL tg b' ds ρ)
  | [], ρ => .rf
  | d :: ds, ρ => by
    rw [forL, forL]
    split
    · exact .rf
    · refine bnd_le (h _) fun f ρ => ?_
      cases f with
      | nxt => exact for_le h ds ρ
      | cnt => exact for_le h ds ρ
      | brk => exact .rf
      | ret r => exact .rf
theorem whlN_le2 {c c' : Env → Mr Bool} {b b' : Env → Mr Flow} (hc : ∀ ρ, Le (c ρ) (c' ρ)) (hb : ∀ ρ, Le (b ρ) (b' ρ)) : ∀ (n : Nat) (ρ : Env), Le (whlN c b n ρ) (whlN c' b' n ρ)
  | 0, ρ => .rf
  | n + 1, ρ => by
    rw [whlN, whlN]
    refine bnd_le (hc _) fun k ρ => ite_le (bnd_le (hb _) fun f ρ => ?_) .rf
    cases f with
    | nxt => exact whlN_le2 hc hb n ρ
    | cnt => exact whlN_le2 hc hb n ρ
    | brk => exact .rf
    | ret r => exact .rf
section
variable {c1 c2 : Nat → List Slot → Out} (hc : ∀ f as, Le (c1 f as) (c2 f as)) (w : Nat)
include hc
mutual
theorem exec_le : ∀ (s : S) (ρ : Env), Le (execR c1 w s ρ) (exec c2 s ρ)
  | .asg (.nm i) e, ρ => by rw [execR, exec]; exact bnd_le (bnd_le (ev_le hc e _) fun _ _ => .rf) fun _ _ => .rf
  | .asg (.tp ts) e, ρ => by rw [x_tp]; simp only [execR]; exact bnd_le (bnd_le (ev_le hc e _) fun _ _ => .rf) fun _ _ => .rf
  | .par is es, ρ => by rw [execR, exec]; exact bnd_le (evRs_le hc es _) fun _ _ => .rf
  | .aug i op e, ρ => by
    rw [execR, exec]
    generalize ρ[i]? = o
    rcases o with _ | (_ | ⟨t, d⟩ | ⟨t, d⟩) <;> first | exact .rf | (cases d <;> first | exact .rf | exact bnd_le (ev_le hc e _) fun _ _ => .rf)
  | .seti i ix e, ρ => by
    rw [execR, exec]
    refine bnd_le (bnd_le (ev_le hc e _) fun _ _ => .rf) fun _ ρ => ?_
    generalize ρ[i]? = o
    rcases o with _ | (_ | ⟨t, d⟩ | ⟨t, d⟩) <;> first | exact .rf | (cases d <;> first | exact .rf | exact bnd_le (ev_le hc ix _) fun _ _ => .rf)
  | .dset i ix e, ρ => by
    rw [execR, exec]
    refine bnd_le (bnd_le (ev_le hc e _) fun _ _ => .rf) fun _ ρ => ?_
    generalize ρ[i]? = o
    rcases o with _ | (_ | ⟨t, d⟩ | ⟨t, d⟩) <;> first | exact .rf | (cases d <;> first | exact .rf | exact bnd_le (ev_le hc ix _) fun _ _ => .rf)
  | .app i e, ρ => by
    rw [execR, exec]
    generalize ρ[i]? = o
    rcases o with _ | (_ | ⟨t, d⟩ | ⟨t, d⟩) <;> first | exact .rf | (cases d <;> first | exact .rf | exact bnd_le (bnd_le (ev_le hc e _) fun _ _ => .rf) fun _ _ => .rf)
  | .expr e, ρ => by rw [execR, exec]; exact bnd_le (ev_le hc e _) fun _ _ => .rf
  | .ife c a b, ρ => by rw [execR, exec]; exact bnd_le (evT_le hc c _) fun _ _ => ite_le (execs_le a _) (execs_le b _)
  | .for_ tg it b, ρ => by
    rw [execR, exec]
    exact bnd_le (evI_le hc it _) fun _ _ => for_le (fun ρ => by rw [frcE_eq]; exact execs_le b ρ) _ _
  | .whl c b, ρ => by
    rw [execR, exec]
    exact fun r h => whlM_of (whlN_le2 (fun ρ => by rw [frcE_eq]; exact evT_le hc c ρ) (fun ρ => execs_le b ρ) w ρ r h)
  | .ret e, ρ => by rw [execR, exec]; exact bnd_le (ev_le hc e _) fun _ _ => .rf
  | .retN, ρ => by rw [execR, exec]; exact .rf
  | .pas, ρ => by rw [execR, exec]; exact .rf
  | .brk, ρ => by rw [execR, exec]; exact .rf
  | .cnt, ρ => by rw [execR, exec]; exact .rf
  | .rse k .none, ρ => by rw [execR, exec]; exact .rf
  | .rse k (.some c), ρ => by rw [execR, exec]; exact bnd_le (bnd_le (ev_le hc c _) fun _ _ => .rf) fun _ _ => .rf
  | .bad, ρ => by rw [execR, exec]; exact .rf
theorem execs_le : ∀ (s : Ss) (ρ : Env), Le (execsR c1 w s ρ) (execs c2 s ρ)
  | .nil, ρ => by rw [execsR, execs]; exact .rf
  | .cons s ss, ρ => by
    rw [execsR, execs]
    refine bnd_le (exec_le s _) fun f ρ => ?_
    cases f with
    | nxt => exact execs_le ss ρ
    | brk => exact .rf
    | cnt => exact .rf
    | ret r => exact .rf
end
end
def runR (call : Nat → List Slot → Out) (w : Nat) (fd : Fd) (args : List Slot) : Out :=
  if args.length = fd.np then
    match frcE args fun args => execsR call w fd.body (args ++ List.replicate (fd.N.length - fd.np) .non) with
    | some (.ok (.ret (.dat d)), ρ) => some (.ok (.dat d), maskS args ρ)
    | some (.ok (.ret (.frs d)), ρ) => some (.ok (.frs d), maskS args ρ)
    | some (.ok .nxt, ρ) => some (.ok (.dat .non), maskS args ρ)
    | some (.error x, ρ) => some (.error x, maskS args ρ)
    | _ => none
  else none
def callR (P : Nat → Option Fd) (w : Nat) : Nat → Nat → List Slot → Out
  | 0, _, _ => none
  | n + 1, f, args => match P f with
    | some fd => runR (callR P w n) w fd args
    | none => none
theorem callR_le (P : Nat → Option Fd) (w : Nat) : ∀ (n f : Nat) (args : List Slot), Le (callR P w n f args) (callN P n f args)
  | 0, f, args => fun r h => by rw [callR] at h; cases h
  | n + 1, f, args => fun r h => by
    rw [callR] at h
    rw [callN]
    cases e : P f with
    | none => rw [e] at h; cases h
    | some fd =>
      rw [e] at h
      dsimp only at h ⊢
      unfold runR at h
      unfold runF
      rw [frcE_eq] at h
      split at h
      · rename_i hl
        rw [if_pos hl]
        cases e2 : execsR (callR P w n) w fd.body (args ++ List.replicate (fd.N.length - fd.np) .non) with
        | none => rw [e2] at h; cases h
        | some q =>
          rw [execs_le (callR_le P w n) w _ _ _ e2]
          rw [e2] at h
          exact h
      · cases h
end MP
set_option Elab.async false
set_option linter.all false
set_option maxRecDepth 100000
/-! MP: data, checked -/
namespace MP
open PySem
/-- a plain text -/
def plainS (x : Str) : Bool := x.cps.all (· < 1114112)
theorem shp_non (k : Nat) : D.shp k .non = true := by cases k <;> rfl
theorem shp_bl (k : Nat) (b : Bool) : D.shp k (.bl b) = true := by cases k <;> rfl
theorem shp_int (k : Nat) (i : Int) : D.shp k (.int i) = true := by cases k <;> rfl
theorem shp_str (k : Nat) (x : Str) : D.shp k (.str x) = plainS x := by cases k <;> rfl
theorem shp_tup (k : Nat) (xs : List D) : D.shp (k + 1) (.tup xs) = D.shps k xs := rfl
theorem shp_lst (k : Nat) (xs : List D) : D.shp (k + 1) (.lst xs) = D.shps k xs := rfl
theorem shps_nil (k : Nat) : D.shps k [] = true := by cases k <;> rfl
theorem shps_cons (k : Nat) (x : D) (xs : List D) : D.shps k (x :: xs) = (D.shp k x && D.shps k xs) := by cases k <;> rfl
theorem plain_app {x y : Str} (h1 : plainS x = true) (h2 : plainS y = true) : plainS (x ++ y) = true := by
  unfold plainS at *
  show (x.cps ++ y.cps).all _ = true
  rw [Array.all_append, h1, h2]
  rfl
/-- the text that repr gives -/
def rs (d : D) : Str := (reprS d).getD Str.empty
/-- .. it does, and the text is plain and short -/
def repB (d : D) : Bool := match reprS d with
  | some r => plainS r && decide (r.cps.size ≤ 1000)
  | none => false
structure RepOk (d : D) : Prop where
  eq : reprS d = some (rs d)
  all : plainS (rs d) = true
  small : (rs d).cps.size ≤ 1000
theorem rep_ok {d : D} (h : repB d = true) : RepOk d := by
  unfold repB at h
  split at h
  · rename_i r e
    simp only [Bool.and_eq_true, decide_eq_true_eq] at h
    have : rs d = r := by unfold rs; rw [e]; rfl
    exact ⟨by rw [this, e], by rw [this]; exact h.1, by rw [this]; exact h.2⟩
  · cases h
mutual
theorem D.eqv_self : ∀ {d : D} {k : Nat}, d.shp k = true → d.eqv d = true
  | .non, k, h => by simp [D.eqv]
  | .bl a, k, h => by simp [D.eqv]
  | .int a, k, h => by simp [D.eqv]
  | .str a, k, h => by simp [D.eqv]
  | .fn a, k, h => by cases k <;> simp [D.shp] at h
  | .dic a b, k, h => by cases k <;> simp [D.shp] at h
  | .tup a, 0, h => by simp [D.shp] at h
  | .lst a, 0, h => by simp [D.shp] at h
  | .tup a, k + 1, h => by
    simp only [D.shp] at h
    simp only [D.eqv]
    exact D.eqvs_self h
  | .lst a, k + 1, h => by
    simp only [D.shp] at h
    simp only [D.eqv]
    exact D.eqvs_self h
theorem D.eqvs_self : ∀ {d : List D} {k : Nat}, D.shps k d = true → D.eqvs d d = true
  | [], k, h => by simp [D.eqvs]
  | x :: xs, k, h => by
    simp only [D.shps, Bool.and_eq_true] at h
    simp only [D.eqvs, D.eqv_self h.1, D.eqvs_self h.2, Bool.and_self]
end
/-- a call that is refused -/
def errB (o : Out) (k : Nat) (a : Option D) : Bool := match o, a with
  | some (.error ⟨j, some x⟩, bs), some d => j == k && x.same d && bs.all fun s => match s with | .non => true | _ => false
  | some (.error ⟨j, none⟩, bs), none => j == k && bs.all fun s => match s with | .non => true | _ => false
  | _, _ => false
theorem err_of {o : Out} {k : Nat} {a : Option D} (h : errB o k a = true) : ∃ bs, o = some (.error ⟨k, a⟩, bs) := by
  unfold errB at h
  split at h
  · simp only [Bool.and_eq_true, beq_iff_eq] at h
    obtain ⟨⟨rfl, h2⟩, h3⟩ := h
    rw [D.same_eq h2]
    exact ⟨_, rfl⟩
  · simp only [Bool.and_eq_true, beq_iff_eq] at h
    obtain ⟨rfl, h3⟩ := h
    exact ⟨_, rfl⟩
  · cases h
/-- .. at each of some data -/
theorem err_all {P : Nat → Option Fd} {w n f k : Nat} {xs : List D} {g : D → List Slot} (h : (xs.all fun d => errB (callR P w n f (g d)) k (some d)) = true) : ∀ d ∈ xs, ∃ bs, callN P n f (g d) = some (.error ⟨k, some d⟩, bs) := fun d hd => by
  obtain ⟨bs, e⟩ := err_of (List.all_eq_true.mp h d hd)
  exact ⟨bs, callR_le P w n f _ _ e⟩
/-! what is handed on as data comes back as it was -/
theorem backs_nil (as : List A) (ρ : Env) : backs as [] ρ = ρ := by
  cases as with
  | nil => rfl
  | cons a as => cases a <;> rfl
theorem backs_f1 (a : D) (bs : List Slot) (ρ : Env) : backs [.frs a] bs ρ = ρ := by cases bs <;> rfl
theorem backs_d1 (a : D) (bs : List Slot) (ρ : Env) : backs [.dat a] bs ρ = ρ := by cases bs <;> rfl
theorem backs_d2 (a b : D) (bs : List Slot) (ρ : Env) : backs [.dat a, .dat b] bs ρ = ρ := by
  cases bs with
  | nil => rfl
  | cons x bs => exact backs_d1 b bs ρ
theorem backs_d3 (a b c : D) (bs : List Slot) (ρ : Env) : backs [.dat a, .dat b, .dat c] bs ρ = ρ := by
  cases bs with
  | nil => rfl
  | cons x bs => exact backs_d2 b c bs ρ
theorem backs_d4 (a b c d : D) (bs : List Slot) (ρ : Env) : backs [.dat a, .dat b, .dat c, .dat d] bs ρ = ρ := by
  cases bs with
  | nil => rfl
  | cons x bs => exact backs_d3 b c d bs ρ
theorem backs_d5 (a b c d e : D) (bs : List Slot) (ρ : Env) : backs [.dat a, .dat b, .dat c, .dat d, .dat e] bs ρ = ρ := by
  cases bs with
  | nil => rfl
  | cons x bs => exact backs_d4 b c d e bs ρ
theorem backs_d6 (a b c d e f : D) (bs : List Slot) (ρ : Env) : backs [.dat a, .dat b, .dat c, .dat d, .dat e, .dat f] bs ρ = ρ := by
  cases bs with
  | nil => rfl
  | cons x bs => exact backs_d5 b c d e f bs ρ
end MP
set_option Elab.async false
set_option linter.all false
set_option maxRecDepth 100000
set_option maxHeartbeats 1000000
/-! MP: the dice of the laws, the common divisor -/
namespace MP
open PySem
theorem bits_small {i : Int} {k : Nat} (h : i.natAbs < 2 ^ k) (hk : 0 < k) : bits i < k := by
  unfold bits
  by_cases h0 : i.natAbs = 0
  · rw [h0]; simpa using hk
  · exact (Nat.log2_lt h0).mpr h
def diceFd : Fd := ⟨"_law_dice", 2, ["_law_script", "_law_spot", "_law_cell", "_law_left"], (Ss.cons (S.asg (Tg.nm 2) (C.ite (C.cmp .lt (C.var 1) (C.blt .len (Cs.cons (C.var 0) Cs.nil))) (C.blt .int1 (Cs.cons (C.idx (C.var 0) (C.var 1)) Cs.nil)) (C.bin .add (C.bin .mul (C.cst (D.int 97)) (C.var 1)) (C.cst (D.int 59))))) (Ss.cons (S.asg (Tg.nm 3) (C.bin .mod (C.blt .max2 (Cs.cons (C.cst (D.int 0)) (Cs.cons (C.bin .sub (C.blt .abs (Cs.cons (C.var 2) Cs.nil)) (C.bin .pow (C.cst (D.int 10)) (C.cst (D.int 16)))) Cs.nil))) (C.bin .mul (C.bin .pow (C.cst (D.int 10)) (C.cst (D.int 58))) (C.bin .pow (C.cst (D.int 10)) (C.cst (D.int 60)))))) (Ss.cons (S.ret (C.lst (Cs.cons (C.var 3) (Cs.cons (C.bin .add (C.bin .add (C.bin .add (C.bin .mul (C.bin .mod (C.blt .abs (Cs.cons (C.var 2) Cs.nil)) (C.cst (D.int 1152921504606846733))) (C.cst (D.int 83))) (C.bin .mul (C.cst (D.int 1033)) (C.var 1))) (C.bin .mul (C.cst (D.int 61)) (C.blt .int1 (Cs.cons (C.cmp .lt (C.var 2) (C.cst (D.int 0))) Cs.nil)))) (C.cst (D.int 29))) (Cs.cons (C.cst (D.int 0)) Cs.nil))))) Ss.nil)))⟩
def rollFd : Fd := ⟨"_law_roll", 2, ["_law_dice_here", "_law_most", "_law_one", "_law_two", "_law_found"], (Ss.cons (S.ife (C.cmp .gt (C.idx (C.var 0) (C.cst (D.int 0))) (C.cst (D.int 0))) (Ss.cons (S.asg (Tg.nm 4) (C.bin .mod (C.blt .int1 (Cs.cons (C.idx (C.var 0) (C.cst (D.int 0))) Cs.nil)) (C.var 1))) (Ss.cons (S.seti 0 (C.cst (D.int 0)) (C.bin .fdiv (C.idx (C.var 0) (C.cst (D.int 0))) (C.var 1))) (Ss.cons (S.ret (C.var 4)) Ss.nil))) Ss.nil) (Ss.cons (S.seti 0 (C.cst (D.int 2)) (C.bin .add (C.idx (C.var 0) (C.cst (D.int 2))) (C.cst (D.int 1)))) (Ss.cons (S.asg (Tg.nm 2) (C.bin .mod (C.blt .int1 (Cs.cons (C.bin .add (C.idx (C.var 0) (C.cst (D.int 1))) (C.bin .mul (C.cst (D.int 86028121)) (C.idx (C.var 0) (C.cst (D.int 2))))) Cs.nil)) (C.cst (D.int 2305843009213693561)))) (Ss.cons (S.asg (Tg.nm 3) (C.bin .mod (C.blt .int1 (Cs.cons (C.bin .add (C.bin .mul (C.var 2) (C.var 2)) (C.bin .mul (C.cst (D.int 103)) (C.idx (C.var 0) (C.cst (D.int 2))))) Cs.nil)) (C.cst (D.int 2305843009213693669)))) (Ss.cons (S.ret (C.bin .mod (C.blt .int1 (Cs.cons (C.bin .fdiv (C.bin .add (C.bin .mul (C.var 3) (C.cst (D.int 7654321))) (C.var 2)) (C.cst (D.int 65557))) Cs.nil)) (C.var 1))) Ss.nil)))))⟩
def pickFd (r : Nat) : Fd := ⟨"_law_pick", 2, ["_law_dice_here", "_law_items"], (Ss.cons (S.ret (C.idx (C.var 1) (C.call r [true, false] (Cs.cons (C.var 0) (Cs.cons (C.blt .len (Cs.cons (C.var 1) Cs.nil)) Cs.nil))))) Ss.nil)⟩
def gcdFd : Fd := ⟨"_law_gcd", 2, ["_law_one", "_law_other"], (Ss.cons (S.par [0, 1] (Cs.cons (C.blt .abs (Cs.cons (C.var 0) Cs.nil)) (Cs.cons (C.blt .abs (Cs.cons (C.var 1) Cs.nil)) Cs.nil))) (Ss.cons (S.whl (C.cmp .gt (C.var 1) (C.cst (D.int 0))) (Ss.cons (S.par [0, 1] (Cs.cons (C.var 1) (Cs.cons (C.bin .mod (C.blt .int1 (Cs.cons (C.var 0) Cs.nil)) (C.var 1)) Cs.nil))) Ss.nil)) (Ss.cons (S.ret (C.var 0)) Ss.nil)))⟩

def Dice (L : Int) (d : D) : Prop := ∃ a b c : Int, d = .lst [.int a, .int b, .int c] ∧ 0 ≤ c ∧ c ≤ L
theorem fmod_pos (x : Int) {m : Int} (h : 0 < m) : 0 ≤ x.fmod m ∧ x.fmod m < m := by
  rw [Int.fmod_eq_emod_of_nonneg x (by omega)]
  exact ⟨Int.emod_nonneg x (by omega), Int.emod_lt_of_pos x h⟩
theorem run_roll {P : Nat → Option Fd} {f : Nat} (hP : P f = some rollFd) (n : Nat) {d : D} {L : Int} (hd : Dice L d) (hL : L < 2 ^ 60) (t : Bool) {m : Int} (hm : 0 < m) (hb : bits m < 9000) :
    ∃ r d', callN P (n + 1) f [.own true d, .val t (.int m)] = some (.ok (.dat (.int r)), [.own true d', .non]) ∧ 0 ≤ r ∧ r < m ∧ Dice (L + 1) d' := by
  obtain ⟨a, b, c, rfl, h1, h2⟩ := hd
  have hm0 : m ≠ 0 := by omega
  rw [callN, hP]
  by_cases ha : 0 < a
  · refine ⟨a.fmod m, .lst [.int (a.fdiv m), .int b, .int c], ?_, (fmod_pos a hm).1, (fmod_pos a hm).2, _, _, _, rfl, h1, by omega⟩
    simp [rollFd, runF, MP.execs, ev_cst, ev_glb, ev_var, ev_tup, ev_lst, ev_dis0, ev_dis1, ev_bin, ev_neg, ev_boo, ev_not, ev_cmp, ev_chn, ev_chn3, ev_ite, ev_idx, ev_slc, ev_call, ev_blt, ev_isi, ev_lstI, x_par, x_aug, x_seti, x_app, x_expr, x_ife, x_ret, x_retN, x_pas, x_brk, x_cnt, x_rse0, x_rse1, ev_fnv, ev_callL, ev_met, ev_disO, ev_dget, ev_din, ev_dget2, x_dset, dgetD, dinD, dget2D, isDicM, dsetD, sortedD, min1D, ev_pop, ev_ext, popD, extD, metR, pickH, tells, Pt.tell, showD, x_nm, x_tp, backs_f1, backs_d1, backs_d2, backs_d3, backs_d4, backs_d5, backs_d6, backs_nil, evB, evIf, evO, evAs, evDs, evI, evT, evRs, bnd, ok, op1, op2, view, views, tru, frzM, frz, keepA, unslot, slotOf, putA, putAs, putD, nxtO, augD, setiD, appD, retA, asgT, asgTs, blts, liftO, bltD, absD, maxD, minD, int1D, lenD, gcdD, isiD, blsD, intsD, anyD, allD, sumD, tupleD, listD, strD, reprD, keyB, binD, cmpO, cmpD, datB, negD, idxD, getD, ixD, slcD, tyD, D.isFn, D.truth, shp_non, shp_bl, shp_int, shp_str, shp_tup, shp_lst, shps_nil, shps_cons, D.eqv, D.eqvs, itemsD, rngD, zipO, enumO, intO, isND, doCall, lends, lendA, lentIx, backs, backS, maskS, mask1, ha, hm0, hb]
  · have k1 : bits 86028121 + bits (c + 1) < 1000000 := by
      have : bits (c + 1) < 64 := bits_small (by omega) (by omega)
      have h2 : bits 86028121 < 64 := by decide +kernel
      omega
    have k2 : bits 103 + bits (c + 1) < 1000000 := by
      have : bits (c + 1) < 64 := bits_small (by omega) (by omega)
      have h2 : bits 103 < 64 := by decide +kernel
      omega
    have k3 : ∀ x : Int, bits (x.fmod 2305843009213693561) + bits (x.fmod 2305843009213693561) < 1000000 := fun x => by
      have := fmod_pos x (m := 2305843009213693561) (by omega)
      have : bits (x.fmod 2305843009213693561) < 64 := bits_small (by omega) (by omega)
      omega
    have k4 : ∀ x : Int, bits (x.fmod 2305843009213693669) + bits 7654321 < 1000000 := fun x => by
      have := fmod_pos x (m := 2305843009213693669) (by omega)
      have : bits (x.fmod 2305843009213693669) < 64 := bits_small (by omega) (by omega)
      have h2 : bits 7654321 < 64 := by decide +kernel
      omega
    have k5 : bits 65557 < 9000 := by decide +kernel
    refine ⟨(((((b + 86028121 * (c + 1)).fmod 2305843009213693561) * ((b + 86028121 * (c + 1)).fmod 2305843009213693561) + 103 * (c + 1)).fmod 2305843009213693669 * 7654321 + (b + 86028121 * (c + 1)).fmod 2305843009213693561).fdiv 65557).fmod m, .lst [.int a, .int b, .int (c + 1)], ?_, (fmod_pos _ hm).1, (fmod_pos _ hm).2, a, b, c + 1, rfl, by omega, by omega⟩
    simp [rollFd, runF, MP.execs, ev_cst, ev_glb, ev_var, ev_tup, ev_lst, ev_dis0, ev_dis1, ev_bin, ev_neg, ev_boo, ev_not, ev_cmp, ev_chn, ev_chn3, ev_ite, ev_idx, ev_slc, ev_call, ev_blt, ev_isi, ev_lstI, x_par, x_aug, x_seti, x_app, x_expr, x_ife, x_ret, x_retN, x_pas, x_brk, x_cnt, x_rse0, x_rse1, ev_fnv, ev_callL, ev_met, ev_disO, ev_dget, ev_din, ev_dget2, x_dset, dgetD, dinD, dget2D, isDicM, dsetD, sortedD, min1D, ev_pop, ev_ext, popD, extD, metR, pickH, tells, Pt.tell, showD, x_nm, x_tp, backs_f1, backs_d1, backs_d2, backs_d3, backs_d4, backs_d5, backs_d6, backs_nil, evB, evIf, evO, evAs, evDs, evI, evT, evRs, bnd, ok, op1, op2, view, views, tru, frzM, frz, keepA, unslot, slotOf, putA, putAs, putD, nxtO, augD, setiD, appD, retA, asgT, asgTs, blts, liftO, bltD, absD, maxD, minD, int1D, lenD, gcdD, isiD, blsD, intsD, anyD, allD, sumD, tupleD, listD, strD, reprD, keyB, binD, cmpO, cmpD, datB, negD, idxD, getD, ixD, slcD, tyD, D.isFn, D.truth, shp_non, shp_bl, shp_int, shp_str, shp_tup, shp_lst, shps_nil, shps_cons, D.eqv, D.eqvs, itemsD, rngD, zipO, enumO, intO, isND, doCall, lends, lendA, lentIx, backs, backS, maskS, mask1, ha, hm0, hb, k1, k2, k3, k4, k5]
theorem run_pick {P : Nat → Option Fd} {f r : Nat} (hP : P f = some (pickFd r)) (hR : P r = some rollFd) (n : Nat) {d : D} {L : Int} (hd : Dice L d) (hL : L < 2 ^ 60) (t : Bool) {xs : List D} (h0 : 0 < xs.length) (hl : xs.length < 2 ^ 60) :
    ∃ x d', x ∈ xs ∧ callN P (n + 2) f [.own true d, .val t (.lst xs)] = some (.ok (.dat x), [.own true d', .non]) ∧ Dice (L + 1) d' := by
  obtain ⟨k, d', e, h1, h2, h3⟩ := run_roll hR n hd hL false (m := (xs.length : Int)) (by omega) (Nat.lt_trans (bits_small (k := 64) (by omega) (by omega)) (by decide))
  have hk : k.toNat < xs.length := by omega
  refine ⟨xs[k.toNat], d', List.getElem_mem hk, ?_, h3⟩
  rw [callN, hP]
  simp [pickFd, runF, MP.execs, ev_cst, ev_glb, ev_var, ev_tup, ev_lst, ev_dis0, ev_dis1, ev_bin, ev_neg, ev_boo, ev_not, ev_cmp, ev_chn, ev_chn3, ev_ite, ev_idx, ev_slc, ev_call, ev_blt, ev_isi, ev_lstI, x_par, x_aug, x_seti, x_app, x_expr, x_ife, x_ret, x_retN, x_pas, x_brk, x_cnt, x_rse0, x_rse1, ev_fnv, ev_callL, ev_met, ev_disO, ev_dget, ev_din, ev_dget2, x_dset, dgetD, dinD, dget2D, isDicM, dsetD, sortedD, min1D, ev_pop, ev_ext, popD, extD, metR, pickH, tells, Pt.tell, showD, x_nm, x_tp, backs_f1, backs_d1, backs_d2, backs_d3, backs_d4, backs_d5, backs_d6, backs_nil, evB, evIf, evO, evAs, evDs, evI, evT, evRs, bnd, ok, op1, op2, view, views, tru, frzM, frz, keepA, unslot, slotOf, putA, putAs, putD, nxtO, augD, setiD, appD, retA, asgT, asgTs, blts, liftO, bltD, absD, maxD, minD, int1D, lenD, gcdD, isiD, blsD, intsD, anyD, allD, sumD, tupleD, listD, strD, reprD, keyB, binD, cmpO, cmpD, datB, negD, idxD, getD, ixD, slcD, tyD, D.isFn, D.truth, shp_non, shp_bl, shp_int, shp_str, shp_tup, shp_lst, shps_nil, shps_cons, D.eqv, D.eqvs, itemsD, rngD, zipO, enumO, intO, isND, doCall, lends, lendA, lentIx, backs, backS, maskS, mask1, e, h1, h2, List.getElem?_eq_getElem hk]
theorem gcd_loop (call : Nat → List Slot → Out) : ∀ (y x : Nat), whlM (evT call (C.cmp .gt (C.var 1) (C.cst (D.int 0)))) (fun ρ => MP.execs call (Ss.cons (S.par [0, 1] (Cs.cons (C.var 1) (Cs.cons (C.bin .mod (C.blt .int1 (Cs.cons (C.var 0) Cs.nil)) (C.var 1)) Cs.nil))) Ss.nil) ρ)
    [.val false (.int x), .val false (.int y)] = some (.ok .nxt, [.val false (.int (Nat.gcd x y : Nat)), .val false (.int 0)]) := by
  intro y
  induction y using Nat.strongRecOn with
  | _ y ih =>
    intro x
    by_cases h : y = 0
    · subst h
      rw [Nat.gcd_zero_right]
      exact whl_stop (by simp [runF, MP.execs, ev_cst, ev_glb, ev_var, ev_tup, ev_lst, ev_dis0, ev_dis1, ev_bin, ev_neg, ev_boo, ev_not, ev_cmp, ev_chn, ev_chn3, ev_ite, ev_idx, ev_slc, ev_call, ev_blt, ev_isi, ev_lstI, x_par, x_aug, x_seti, x_app, x_expr, x_ife, x_ret, x_retN, x_pas, x_brk, x_cnt, x_rse0, x_rse1, ev_fnv, ev_callL, ev_met, ev_disO, ev_dget, ev_din, ev_dget2, x_dset, dgetD, dinD, dget2D, isDicM, dsetD, sortedD, min1D, ev_pop, ev_ext, popD, extD, metR, pickH, tells, Pt.tell, showD, x_nm, x_tp, backs_f1, backs_d1, backs_d2, backs_d3, backs_d4, backs_d5, backs_d6, backs_nil, evB, evIf, evO, evAs, evDs, evI, evT, evRs, bnd, ok, op1, op2, view, views, tru, frzM, frz, keepA, unslot, slotOf, putA, putAs, putD, nxtO, augD, setiD, appD, retA, asgT, asgTs, blts, liftO, bltD, absD, maxD, minD, int1D, lenD, gcdD, isiD, blsD, intsD, anyD, allD, sumD, tupleD, listD, strD, reprD, keyB, binD, cmpO, cmpD, datB, negD, idxD, getD, ixD, slcD, tyD, D.isFn, D.truth, shp_non, shp_bl, shp_int, shp_str, shp_tup, shp_lst, shps_nil, shps_cons, D.eqv, D.eqvs, itemsD, rngD, zipO, enumO, intO, isND, doCall, lends, lendA, lentIx, backs, backS, maskS, mask1])
    · have hp : (0 : Int) < (y : Int) := by omega
      have hp0 : ¬ (y : Int) = 0 := by omega
      have e := ih (x % y) (Nat.mod_lt _ (by omega)) y
      have e2 : Nat.gcd y (x % y) = Nat.gcd x y := by rw [Nat.gcd_comm x y, Nat.gcd_rec y x, Nat.gcd_comm]
      rw [e2] at e
      have em : (x : Int).fmod (y : Int) = ((x % y : Nat) : Int) := by rw [Int.fmod_eq_emod_of_nonneg _ (by omega)]; exact (Int.natCast_emod x y).symm
      exact whl_turn (ρ1 := [.val false (.int x), .val false (.int y)]) (ρ2 := [.val false (.int y), .val false (.int (x % y : Nat))]) (by simp [runF, MP.execs, ev_cst, ev_glb, ev_var, ev_tup, ev_lst, ev_dis0, ev_dis1, ev_bin, ev_neg, ev_boo, ev_not, ev_cmp, ev_chn, ev_chn3, ev_ite, ev_idx, ev_slc, ev_call, ev_blt, ev_isi, ev_lstI, x_par, x_aug, x_seti, x_app, x_expr, x_ife, x_ret, x_retN, x_pas, x_brk, x_cnt, x_rse0, x_rse1, ev_fnv, ev_callL, ev_met, ev_disO, ev_dget, ev_din, ev_dget2, x_dset, dgetD, dinD, dget2D, isDicM, dsetD, sortedD, min1D, ev_pop, ev_ext, popD, extD, metR, pickH, tells, Pt.tell, showD, x_nm, x_tp, backs_f1, backs_d1, backs_d2, backs_d3, backs_d4, backs_d5, backs_d6, backs_nil, evB, evIf, evO, evAs, evDs, evI, evT, evRs, bnd, ok, op1, op2, view, views, tru, frzM, frz, keepA, unslot, slotOf, putA, putAs, putD, nxtO, augD, setiD, appD, retA, asgT, asgTs, blts, liftO, bltD, absD, maxD, minD, int1D, lenD, gcdD, isiD, blsD, intsD, anyD, allD, sumD, tupleD, listD, strD, reprD, keyB, binD, cmpO, cmpD, datB, negD, idxD, getD, ixD, slcD, tyD, D.isFn, D.truth, shp_non, shp_bl, shp_int, shp_str, shp_tup, shp_lst, shps_nil, shps_cons, D.eqv, D.eqvs, itemsD, rngD, zipO, enumO, intO, isND, doCall, lends, lendA, lentIx, backs, backS, maskS, mask1, h]; omega) (by simp [runF, MP.execs, ev_cst, ev_glb, ev_var, ev_tup, ev_lst, ev_dis0, ev_dis1, ev_bin, ev_neg, ev_boo, ev_not, ev_cmp, ev_chn, ev_chn3, ev_ite, ev_idx, ev_slc, ev_call, ev_blt, ev_isi, ev_lstI, x_par, x_aug, x_seti, x_app, x_expr, x_ife, x_ret, x_retN, x_pas, x_brk, x_cnt, x_rse0, x_rse1, ev_fnv, ev_callL, ev_met, ev_disO, ev_dget, ev_din, ev_dget2, x_dset, dgetD, dinD, dget2D, isDicM, dsetD, sortedD, min1D, ev_pop, ev_ext, popD, extD, metR, pickH, tells, Pt.tell, showD, x_nm, x_tp, backs_f1, backs_d1, backs_d2, backs_d3, backs_d4, backs_d5, backs_d6, backs_nil, evB, evIf, evO, evAs, evDs, evI, evT, evRs, bnd, ok, op1, op2, view, views, tru, frzM, frz, keepA, unslot, slotOf, putA, putAs, putD, nxtO, augD, setiD, appD, retA, asgT, asgTs, blts, liftO, bltD, absD, maxD, minD, int1D, lenD, gcdD, isiD, blsD, intsD, anyD, allD, sumD, tupleD, listD, strD, reprD, keyB, binD, cmpO, cmpD, datB, negD, idxD, getD, ixD, slcD, tyD, D.isFn, D.truth, shp_non, shp_bl, shp_int, shp_str, shp_tup, shp_lst, shps_nil, shps_cons, D.eqv, D.eqvs, itemsD, rngD, zipO, enumO, intO, isND, doCall, lends, lendA, lentIx, backs, backS, maskS, mask1, h, em]) e
theorem x_whl (call : Nat → List Slot → Out) (c : C) (b : Ss) (ρ : Env) : MP.exec call (.whl c b) ρ = whlM (evT call c) (fun ρ => MP.execs call b ρ) ρ := by
  first | (rw [MP.exec]; rfl) | rw [MP.exec]
theorem run_gcd {P : Nat → Option Fd} {f : Nat} (hP : P f = some gcdFd) (n : Nat) (t t1 : Bool) (a b : Int) : callN P (n + 1) f [.val t (.int a), .val t1 (.int b)] = some (.ok (.dat (.int (Nat.gcd a.natAbs b.natAbs : Nat))), [.non, .non]) := by
  have e : ∀ i : Int, (if i < 0 then -i else i) = (i.natAbs : Nat) := fun i => by split <;> omega
  have hw : MP.exec (callN P n) (S.whl (C.cmp .gt (C.var 1) (C.cst (D.int 0))) (Ss.cons (S.par [0, 1] (Cs.cons (C.var 1) (Cs.cons (C.bin .mod (C.blt .int1 (Cs.cons (C.var 0) Cs.nil)) (C.var 1)) Cs.nil))) Ss.nil)) [.val false (.int a.natAbs), .val false (.int b.natAbs)] = some (.ok .nxt, [.val false (.int (Nat.gcd a.natAbs b.natAbs : Nat)), .val false (.int 0)]) := by
    rw [x_whl]
    exact gcd_loop (callN P n) b.natAbs a.natAbs
  rw [callN, hP]
  simp [gcdFd, runF, MP.execs, ev_cst, ev_glb, ev_var, ev_tup, ev_lst, ev_dis0, ev_dis1, ev_bin, ev_neg, ev_boo, ev_not, ev_cmp, ev_chn, ev_chn3, ev_ite, ev_idx, ev_slc, ev_call, ev_blt, ev_isi, ev_lstI, x_par, x_aug, x_seti, x_app, x_expr, x_ife, x_ret, x_retN, x_pas, x_brk, x_cnt, x_rse0, x_rse1, ev_fnv, ev_callL, ev_met, ev_disO, ev_dget, ev_din, ev_dget2, x_dset, dgetD, dinD, dget2D, isDicM, dsetD, sortedD, min1D, ev_pop, ev_ext, popD, extD, metR, pickH, tells, Pt.tell, showD, x_nm, x_tp, backs_f1, backs_d1, backs_d2, backs_d3, backs_d4, backs_d5, backs_d6, backs_nil, evB, evIf, evO, evAs, evDs, evI, evT, evRs, bnd, ok, op1, op2, view, views, tru, frzM, frz, keepA, unslot, slotOf, putA, putAs, putD, nxtO, augD, setiD, appD, retA, asgT, asgTs, blts, liftO, bltD, absD, maxD, minD, int1D, lenD, gcdD, isiD, blsD, intsD, anyD, allD, sumD, tupleD, listD, strD, reprD, keyB, binD, cmpO, cmpD, datB, negD, idxD, getD, ixD, slcD, tyD, D.isFn, D.truth, shp_non, shp_bl, shp_int, shp_str, shp_tup, shp_lst, shps_nil, shps_cons, D.eqv, D.eqvs, itemsD, rngD, zipO, enumO, intO, isND, doCall, lends, lendA, lentIx, backs, backS, maskS, mask1, e, hw]
theorem run_dice {P : Nat → Option Fd} {f : Nat} (hP : P f = some diceFd) (n : Nat) (t t1 : Bool) (ns : List Int) (k : Nat) (hk : k < 64) : ∃ d, callN P (n + 1) f [.val t (.lst (ns.map .int)), .val t1 (.int k)] = some (.ok (.frs d), [.non, .non]) ∧ Dice 0 d := by
  have hkb : bits 97 + bits (k : Int) < 1000000 := by
    have : bits (k : Int) < 64 := bits_small (by omega) (by omega)
    have h2 : bits 97 < 64 := by decide +kernel
    omega
  have hkb2 : bits 1033 + bits (k : Int) < 1000000 := by
    have : bits (k : Int) < 64 := bits_small (by omega) (by omega)
    have h2 : bits 1033 < 64 := by decide +kernel
    omega
  have p1 : bits (10000000000000000000000000000000000000000000000000000000000 : Int) + bits (1000000000000000000000000000000000000000000000000000000000000 : Int) < 1000000 := by decide +kernel
  have k3 : ∀ x : Int, bits (x.fmod 1152921504606846733) + bits 83 < 1000000 := fun x => by
    have := fmod_pos x (m := 1152921504606846733) (by omega)
    have : bits (x.fmod 1152921504606846733) < 64 := bits_small (by omega) (by omega)
    have h2 : bits 83 < 64 := by decide +kernel
    omega
  have k4 : bits 61 + bits 0 < 1000000 := by decide +kernel
  have k5 : bits 61 + bits 1 < 1000000 := by decide +kernel
  rw [callN, hP]
  have fin : ∀ a b : Int, Dice 0 (.lst [.int a, .int b, .int 0]) := fun a b => ⟨a, b, 0, rfl, by omega, by omega⟩
  by_cases h : k < ns.length
  · have hi : (k : Int) < (ns.length : Int) := by omega
    by_cases hc : ns[k] < 0
    · refine ⟨_, ?_, fin ((if -ns[k] - 10000000000000000 > 0 then -ns[k] - 10000000000000000 else 0).fmod 10000000000000000000000000000000000000000000000000000000000000000000000000000000000000000000000000000000000000000000000) ((-ns[k]).fmod 1152921504606846733 * 83 + 1033 * k + 61 + 29)⟩
      simp [diceFd, runF, MP.execs, ev_cst, ev_glb, ev_var, ev_tup, ev_lst, ev_dis0, ev_dis1, ev_bin, ev_neg, ev_boo, ev_not, ev_cmp, ev_chn, ev_chn3, ev_ite, ev_idx, ev_slc, ev_call, ev_blt, ev_isi, ev_lstI, x_par, x_aug, x_seti, x_app, x_expr, x_ife, x_ret, x_retN, x_pas, x_brk, x_cnt, x_rse0, x_rse1, ev_fnv, ev_callL, ev_met, ev_disO, ev_dget, ev_din, ev_dget2, x_dset, dgetD, dinD, dget2D, isDicM, dsetD, sortedD, min1D, ev_pop, ev_ext, popD, extD, metR, pickH, tells, Pt.tell, showD, x_nm, x_tp, backs_f1, backs_d1, backs_d2, backs_d3, backs_d4, backs_d5, backs_d6, backs_nil, evB, evIf, evO, evAs, evDs, evI, evT, evRs, bnd, ok, op1, op2, view, views, tru, frzM, frz, keepA, unslot, slotOf, putA, putAs, putD, nxtO, augD, setiD, appD, retA, asgT, asgTs, blts, liftO, bltD, absD, maxD, minD, int1D, lenD, gcdD, isiD, blsD, intsD, anyD, allD, sumD, tupleD, listD, strD, reprD, keyB, binD, cmpO, cmpD, datB, negD, idxD, getD, ixD, slcD, tyD, D.isFn, D.truth, shp_non, shp_bl, shp_int, shp_str, shp_tup, shp_lst, shps_nil, shps_cons, D.eqv, D.eqvs, itemsD, rngD, zipO, enumO, intO, isND, doCall, lends, lendA, lentIx, backs, backS, maskS, mask1, hi, h, hc, hkb2, k3, k4, k5, p1]
    · refine ⟨_, ?_, fin ((if ns[k] - 10000000000000000 > 0 then ns[k] - 10000000000000000 else 0).fmod 10000000000000000000000000000000000000000000000000000000000000000000000000000000000000000000000000000000000000000000000) (ns[k].fmod 1152921504606846733 * 83 + 1033 * k + 29)⟩
      simp [diceFd, runF, MP.execs, ev_cst, ev_glb, ev_var, ev_tup, ev_lst, ev_dis0, ev_dis1, ev_bin, ev_neg, ev_boo, ev_not, ev_cmp, ev_chn, ev_chn3, ev_ite, ev_idx, ev_slc, ev_call, ev_blt, ev_isi, ev_lstI, x_par, x_aug, x_seti, x_app, x_expr, x_ife, x_ret, x_retN, x_pas, x_brk, x_cnt, x_rse0, x_rse1, ev_fnv, ev_callL, ev_met, ev_disO, ev_dget, ev_din, ev_dget2, x_dset, dgetD, dinD, dget2D, isDicM, dsetD, sortedD, min1D, ev_pop, ev_ext, popD, extD, metR, pickH, tells, Pt.tell, showD, x_nm, x_tp, backs_f1, backs_d1, backs_d2, backs_d3, backs_d4, backs_d5, backs_d6, backs_nil, evB, evIf, evO, evAs, evDs, evI, evT, evRs, bnd, ok, op1, op2, view, views, tru, frzM, frz, keepA, unslot, slotOf, putA, putAs, putD, nxtO, augD, setiD, appD, retA, asgT, asgTs, blts, liftO, bltD, absD, maxD, minD, int1D, lenD, gcdD, isiD, blsD, intsD, anyD, allD, sumD, tupleD, listD, strD, reprD, keyB, binD, cmpO, cmpD, datB, negD, idxD, getD, ixD, slcD, tyD, D.isFn, D.truth, shp_non, shp_bl, shp_int, shp_str, shp_tup, shp_lst, shps_nil, shps_cons, D.eqv, D.eqvs, itemsD, rngD, zipO, enumO, intO, isND, doCall, lends, lendA, lentIx, backs, backS, maskS, mask1, hi, h, hc, hkb2, k3, k4, k5, p1]
  · have hi : ¬ (k : Int) < (ns.length : Int) := by omega
    have hc : ¬ (97 * (k : Int) + 59 < 0) := by omega
    refine ⟨_, ?_, fin ((if 97 * (k : Int) + 59 - 10000000000000000 > 0 then 97 * (k : Int) + 59 - 10000000000000000 else 0).fmod 10000000000000000000000000000000000000000000000000000000000000000000000000000000000000000000000000000000000000000000000) ((97 * (k : Int) + 59).fmod 1152921504606846733 * 83 + 1033 * k + 29)⟩
    simp [diceFd, runF, MP.execs, ev_cst, ev_glb, ev_var, ev_tup, ev_lst, ev_dis0, ev_dis1, ev_bin, ev_neg, ev_boo, ev_not, ev_cmp, ev_chn, ev_chn3, ev_ite, ev_idx, ev_slc, ev_call, ev_blt, ev_isi, ev_lstI, x_par, x_aug, x_seti, x_app, x_expr, x_ife, x_ret, x_retN, x_pas, x_brk, x_cnt, x_rse0, x_rse1, ev_fnv, ev_callL, ev_met, ev_disO, ev_dget, ev_din, ev_dget2, x_dset, dgetD, dinD, dget2D, isDicM, dsetD, sortedD, min1D, ev_pop, ev_ext, popD, extD, metR, pickH, tells, Pt.tell, showD, x_nm, x_tp, backs_f1, backs_d1, backs_d2, backs_d3, backs_d4, backs_d5, backs_d6, backs_nil, evB, evIf, evO, evAs, evDs, evI, evT, evRs, bnd, ok, op1, op2, view, views, tru, frzM, frz, keepA, unslot, slotOf, putA, putAs, putD, nxtO, augD, setiD, appD, retA, asgT, asgTs, blts, liftO, bltD, absD, maxD, minD, int1D, lenD, gcdD, isiD, blsD, intsD, anyD, allD, sumD, tupleD, listD, strD, reprD, keyB, binD, cmpO, cmpD, datB, negD, idxD, getD, ixD, slcD, tyD, D.isFn, D.truth, shp_non, shp_bl, shp_int, shp_str, shp_tup, shp_lst, shps_nil, shps_cons, D.eqv, D.eqvs, itemsD, rngD, zipO, enumO, intO, isND, doCall, lends, lendA, lentIx, backs, backS, maskS, mask1, hi, h, hc, hkb, hkb2, k3, k4, k5, p1]
end MP
set_option Elab.async false
set_option linter.all false
set_option maxRecDepth 100000
set_option maxHeartbeats 2000000
/-! MP: a law's loop over its spots; calls that are let -/
namespace MP
open PySem
theorem mem_intsL' {lo : Int} {n : Nat} {d : D} (h : d ∈ intsL lo n) : ∃ i, lo ≤ i ∧ i < lo + n ∧ d = .int i := by
  induction n generalizing lo with
  | zero => simp [intsL] at h
  | succ n ih =>
    rw [intsL, List.mem_cons] at h
    rcases h with h | h
    · exact ⟨lo, by omega, by omega, h⟩
    · obtain ⟨i, h1, h2, h3⟩ := ih h
      exact ⟨i, by omega, by omega, h3⟩
def spotsI (M : Int) : I := .rng1 (.blt .max2 (.cons (.cst (.int 1)) (.cons (.blt .min2 (.cons (.cst (.int M)) (.cons (.blt .len (.cons (.var 0) .nil)) .nil))) .nil)))
theorem ev_spots (call : Nat → List Slot → Out) (M : Int) (h1 : 1 ≤ M) (h2 : M < 64) (t : Bool) (ns : List Int) (hn : ns.length ≤ 63) (ρ : Env) (h0 : ρ[0]? = some (.val t (.lst (ns.map .int)))) :
    ∃ K : Nat, K < 64 ∧ evI call (spotsI M) ρ = some (.ok (intsL 0 K), ρ) := by
  have a1 : smallI 0 = true := by decide +kernel
  have sm : ∀ z : Int, 0 ≤ z → z < 64 → smallI z = true := fun z z1 z2 => small_i (by omega)
  unfold spotsI
  by_cases h3 : (ns.length : Int) < M
  · by_cases h4 : (1 : Int) < (ns.length : Int)
    · refine ⟨ns.length, by omega, ?_⟩
      have h4' : 1 < ns.length := by omega
      simp [runF, MP.execs, ev_cst, ev_glb, ev_var, ev_tup, ev_lst, ev_dis0, ev_dis1, ev_bin, ev_neg, ev_boo, ev_not, ev_cmp, ev_chn, ev_chn3, ev_ite, ev_idx, ev_slc, ev_call, ev_blt, ev_isi, ev_lstI, x_par, x_aug, x_seti, x_app, x_expr, x_ife, x_ret, x_retN, x_pas, x_brk, x_cnt, x_rse0, x_rse1, ev_fnv, ev_callL, ev_met, ev_disO, ev_dget, ev_din, ev_dget2, x_dset, dgetD, dinD, dget2D, isDicM, dsetD, sortedD, min1D, ev_pop, ev_ext, popD, extD, metR, pickH, tells, Pt.tell, showD, x_nm, x_tp, backs_f1, backs_d1, backs_d2, backs_d3, backs_d4, backs_d5, backs_d6, backs_nil, evB, evIf, evO, evAs, evDs, evI, evT, evRs, bnd, ok, op1, op2, view, views, tru, frzM, frz, keepA, unslot, slotOf, putA, putAs, putD, nxtO, augD, setiD, appD, retA, asgT, asgTs, blts, liftO, bltD, absD, maxD, minD, int1D, lenD, gcdD, isiD, blsD, intsD, anyD, allD, sumD, tupleD, listD, strD, reprD, keyB, binD, cmpO, cmpD, datB, negD, idxD, getD, ixD, slcD, tyD, D.isFn, D.truth, shp_non, shp_bl, shp_int, shp_str, shp_tup, shp_lst, shps_nil, shps_cons, D.eqv, D.eqvs, itemsD, rngD, zipO, enumO, intO, isND, doCall, lends, lendA, lentIx, backs, backS, maskS, mask1, h0, h3, h4, h4', a1, sm (ns.length : Int) (by omega) (by omega)]
    · refine ⟨1, by omega, ?_⟩
      have h4' : ¬ 1 < ns.length := by omega
      simp [runF, MP.execs, ev_cst, ev_glb, ev_var, ev_tup, ev_lst, ev_dis0, ev_dis1, ev_bin, ev_neg, ev_boo, ev_not, ev_cmp, ev_chn, ev_chn3, ev_ite, ev_idx, ev_slc, ev_call, ev_blt, ev_isi, ev_lstI, x_par, x_aug, x_seti, x_app, x_expr, x_ife, x_ret, x_retN, x_pas, x_brk, x_cnt, x_rse0, x_rse1, ev_fnv, ev_callL, ev_met, ev_disO, ev_dget, ev_din, ev_dget2, x_dset, dgetD, dinD, dget2D, isDicM, dsetD, sortedD, min1D, ev_pop, ev_ext, popD, extD, metR, pickH, tells, Pt.tell, showD, x_nm, x_tp, backs_f1, backs_d1, backs_d2, backs_d3, backs_d4, backs_d5, backs_d6, backs_nil, evB, evIf, evO, evAs, evDs, evI, evT, evRs, bnd, ok, op1, op2, view, views, tru, frzM, frz, keepA, unslot, slotOf, putA, putAs, putD, nxtO, augD, setiD, appD, retA, asgT, asgTs, blts, liftO, bltD, absD, maxD, minD, int1D, lenD, gcdD, isiD, blsD, intsD, anyD, allD, sumD, tupleD, listD, strD, reprD, keyB, binD, cmpO, cmpD, datB, negD, idxD, getD, ixD, slcD, tyD, D.isFn, D.truth, shp_non, shp_bl, shp_int, shp_str, shp_tup, shp_lst, shps_nil, shps_cons, D.eqv, D.eqvs, itemsD, rngD, zipO, enumO, intO, isND, doCall, lends, lendA, lentIx, backs, backS, maskS, mask1, h0, h3, h4, h4', a1, sm 1 (by omega) (by omega)]
  · by_cases h4 : (1 : Int) < M
    · refine ⟨M.toNat, by omega, ?_⟩
      simp [runF, MP.execs, ev_cst, ev_glb, ev_var, ev_tup, ev_lst, ev_dis0, ev_dis1, ev_bin, ev_neg, ev_boo, ev_not, ev_cmp, ev_chn, ev_chn3, ev_ite, ev_idx, ev_slc, ev_call, ev_blt, ev_isi, ev_lstI, x_par, x_aug, x_seti, x_app, x_expr, x_ife, x_ret, x_retN, x_pas, x_brk, x_cnt, x_rse0, x_rse1, ev_fnv, ev_callL, ev_met, ev_disO, ev_dget, ev_din, ev_dget2, x_dset, dgetD, dinD, dget2D, isDicM, dsetD, sortedD, min1D, ev_pop, ev_ext, popD, extD, metR, pickH, tells, Pt.tell, showD, x_nm, x_tp, backs_f1, backs_d1, backs_d2, backs_d3, backs_d4, backs_d5, backs_d6, backs_nil, evB, evIf, evO, evAs, evDs, evI, evT, evRs, bnd, ok, op1, op2, view, views, tru, frzM, frz, keepA, unslot, slotOf, putA, putAs, putD, nxtO, augD, setiD, appD, retA, asgT, asgTs, blts, liftO, bltD, absD, maxD, minD, int1D, lenD, gcdD, isiD, blsD, intsD, anyD, allD, sumD, tupleD, listD, strD, reprD, keyB, binD, cmpO, cmpD, datB, negD, idxD, getD, ixD, slcD, tyD, D.isFn, D.truth, shp_non, shp_bl, shp_int, shp_str, shp_tup, shp_lst, shps_nil, shps_cons, D.eqv, D.eqvs, itemsD, rngD, zipO, enumO, intO, isND, doCall, lends, lendA, lentIx, backs, backS, maskS, mask1, h0, h3, h4, a1, sm M (by omega) (by omega)]
    · refine ⟨1, by omega, ?_⟩
      have : M = 1 := by omega
      subst this
      simp [runF, MP.execs, ev_cst, ev_glb, ev_var, ev_tup, ev_lst, ev_dis0, ev_dis1, ev_bin, ev_neg, ev_boo, ev_not, ev_cmp, ev_chn, ev_chn3, ev_ite, ev_idx, ev_slc, ev_call, ev_blt, ev_isi, ev_lstI, x_par, x_aug, x_seti, x_app, x_expr, x_ife, x_ret, x_retN, x_pas, x_brk, x_cnt, x_rse0, x_rse1, ev_fnv, ev_callL, ev_met, ev_disO, ev_dget, ev_din, ev_dget2, x_dset, dgetD, dinD, dget2D, isDicM, dsetD, sortedD, min1D, ev_pop, ev_ext, popD, extD, metR, pickH, tells, Pt.tell, showD, x_nm, x_tp, backs_f1, backs_d1, backs_d2, backs_d3, backs_d4, backs_d5, backs_d6, backs_nil, evB, evIf, evO, evAs, evDs, evI, evT, evRs, bnd, ok, op1, op2, view, views, tru, frzM, frz, keepA, unslot, slotOf, putA, putAs, putD, nxtO, augD, setiD, appD, retA, asgT, asgTs, blts, liftO, bltD, absD, maxD, minD, int1D, lenD, gcdD, isiD, blsD, intsD, anyD, allD, sumD, tupleD, listD, strD, reprD, keyB, binD, cmpO, cmpD, datB, negD, idxD, getD, ixD, slcD, tyD, D.isFn, D.truth, shp_non, shp_bl, shp_int, shp_str, shp_tup, shp_lst, shps_nil, shps_cons, D.eqv, D.eqvs, itemsD, rngD, zipO, enumO, intO, isND, doCall, lends, lendA, lentIx, backs, backS, maskS, mask1, h0, h3, a1, sm 1 (by omega) (by omega)]
theorem spots_loop (call : Nat → List Slot → Out) (M : Int) (h1 : 1 ≤ M) (h2 : M < 64) (ns : List Int) (hn : ns.length ≤ 63) (i : Nat) (B : Ss) (Q : Env → Prop) (h0 : ∀ ρ, Q ρ → i < ρ.length ∧ ∃ t, ρ[0]? = some (.val t (.lst (ns.map .int))))
    (step : ∀ (k : Nat) ρ, k < 64 → Q ρ → ∃ ρ2, MP.execs call B (ρ.set i (.val false (.int k))) = some (.ok .nxt, ρ2) ∧ Q ρ2) (ρ : Env) (hQ : Q ρ) : ∃ ρ', MP.exec call (.for_ (.nm i) (spotsI M) B) ρ = some (.ok .nxt, ρ') ∧ Q ρ' := by
  obtain ⟨hl, t, hs⟩ := h0 ρ hQ
  obtain ⟨K, hK, e⟩ := ev_spots call M h1 h2 t ns hn ρ hs
  rw [MP.exec, e]
  show ∃ ρ', forL (.nm i) (fun ρ => MP.execs call B ρ) (intsL 0 K) ρ = some (.ok .nxt, ρ') ∧ Q ρ'
  obtain ⟨ρ', e1, e2, e3⟩ := for_inv (tg := .nm i) (b := fun ρ => MP.execs call B ρ) (fun ds ρ => (∀ d ∈ ds, ∃ k : Nat, k < 64 ∧ d = .int k) ∧ Q ρ) (ds := intsL 0 K) (ρ := ρ) ⟨fun d hd => by
      obtain ⟨j, j1, j2, rfl⟩ := mem_intsL' hd
      exact ⟨j.toNat, by omega, by congr 1; omega⟩, hQ⟩ (fun d ds ρ ⟨ha, hb⟩ => by
      obtain ⟨k, hk, rfl⟩ := ha _ (List.mem_cons_self ..)
      obtain ⟨ρ2, g1, g2⟩ := step k ρ hk hb
      exact ⟨ρ.set i (.val false (.int k)), ρ2, by simp [asgT, putD, (h0 ρ hb).1], g1, fun v hv => ha v (List.mem_cons_of_mem _ hv), g2⟩)
  exact ⟨ρ', e1, e3⟩
theorem x_for (call : Nat → List Slot → Out) (tg : Tg) (it : I) (b : Ss) (ρ : Env) : MP.exec call (.for_ tg it b) ρ = bnd (evI call it ρ) fun ds ρ => forL tg (fun ρ => MP.execs call b ρ) ds ρ := by rw [MP.exec]
/-- one statement more -/
theorem step {call : Nat → List Slot → Out} {s : S} {ss : Ss} {ρ ρ1 : Env} {r : Mr MP.Flow} (h : MP.exec call s ρ = some (.ok .nxt, ρ1)) (t : MP.execs call ss ρ1 = r) : MP.execs call (.cons s ss) ρ = r := by
  rw [MP.execs, h]
  exact t
theorem last {call : Nat → List Slot → Out} {s : S} {ss : Ss} {ρ ρ1 : Env} {a : A} (h : MP.exec call s ρ = some (.ok (.ret a), ρ1)) : MP.execs call (.cons s ss) ρ = some (.ok (.ret a), ρ1) := by
  rw [MP.execs, h]
  rfl
theorem done {call : Nat → List Slot → Out} {ρ : Env} : MP.execs call .nil ρ = some (.ok .nxt, ρ) := by rw [MP.execs]; rfl
theorem for_begin {call : Nat → List Slot → Out} {tg : Tg} {it : I} {b : Ss} {ρ ρ1 : Env} {ds : List D} {r : Mr MP.Flow} (h : evI call it ρ = some (.ok ds, ρ1)) (t : forL tg (fun ρ => MP.execs call b ρ) ds ρ1 = r) : MP.exec call (.for_ tg it b) ρ = r := by
  rw [x_for, h]
  exact t
theorem for_step {tg : Tg} {b : Env → Mr MP.Flow} {d : D} {ds : List D} {ρ ρ1 ρ2 : Env} {r : Mr MP.Flow} (h : asgT tg d ρ = some ρ1) (hb : b ρ1 = some (.ok .nxt, ρ2)) (t : forL tg b ds ρ2 = r) : forL tg b (d :: ds) ρ = r := by
  rw [for_next h hb]
  exact t
/-- a def's end -/
theorem ran {P : Nat → Option Fd} {n f : Nat} {fd : Fd} {args : List Slot} {d : D} {ρ' : Env} (hP : P f = some fd) (hl : args.length = fd.np) (h : MP.execs (callN P n) fd.body (args ++ List.replicate (fd.N.length - fd.np) .non) = some (.ok (.ret (.dat d)), ρ')) :
    callN P (n + 1) f args = some (.ok (.dat d), maskS args ρ') := by
  rw [callN, hP]
  show runF (callN P n) fd args = _
  unfold runF
  rw [if_pos hl, h]
/-- a call that is let -/
def okD (o : Out) : Bool := match o with
  | some (.ok (.dat _), _) => true
  | _ => false
theorem okD_of {o : Out} (h : okD o = true) : ∃ d bs, o = some (.ok (.dat d), bs) := by
  unfold okD at h
  split at h
  · exact ⟨_, _, rfl⟩
  · cases h
theorem okD_run {P : Nat → Option Fd} {w n f : Nat} {as : List Slot} (h : okD (callR P w n f as) = true) : ∃ d bs, callN P n f as = some (.ok (.dat d), bs) := by
  obtain ⟨d, bs, e⟩ := okD_of h
  exact ⟨d, bs, callR_le P w n f _ _ e⟩
/-- .. what it tells, checked -/
def valB (o : Out) (d : D) : Bool := match o with
  | some (.ok (.dat x), _) => x.same d
  | _ => false
theorem val_of {o : Out} {d : D} (h : valB o d = true) : ∃ bs, o = some (.ok (.dat d), bs) := by
  unfold valB at h
  split at h
  · rw [D.same_eq h]
    exact ⟨_, rfl⟩
  · cases h
theorem val_allP {P : Nat → Option Fd} {w n f : Nat} {α : Type} {L : List α} {args : α → List Slot} {d : α → D} (h : (L.all fun p => valB (callR P w n f (args p)) (d p)) = true) : ∀ p ∈ L, ∃ bs, callN P n f (args p) = some (.ok (.dat (d p)), bs) := fun p hp => by
  obtain ⟨bs, e⟩ := val_of (List.all_eq_true.mp h p hp)
  exact ⟨bs, callR_le P w n f _ _ e⟩
theorem err_allP {P : Nat → Option Fd} {w n f k : Nat} {α : Type} {L : List α} {args : α → List Slot} {a : α → Option D} (h : (L.all fun p => errB (callR P w n f (args p)) k (a p)) = true) : ∀ p ∈ L, ∃ bs, callN P n f (args p) = some (.error ⟨k, a p⟩, bs) := fun p hp => by
  obtain ⟨bs, e⟩ := err_of (List.all_eq_true.mp h p hp)
  exact ⟨bs, callR_le P w n f _ _ e⟩
theorem err_run {P : Nat → Option Fd} {w n f k : Nat} {as : List Slot} {a : Option D} (h : errB (callR P w n f as) k a = true) : ∃ bs, callN P n f as = some (.error ⟨k, a⟩, bs) := by
  obtain ⟨bs, e⟩ := err_of h
  exact ⟨bs, callR_le P w n f _ _ e⟩
end MP
set_option Elab.async false
set_option linter.all false
set_option maxRecDepth 100000
namespace K04
open PySem MP
def d_is_whole : Fd := ⟨"is_whole", 1, ["value"], (Ss.cons (S.ret (C.boo true (Cs.cons (C.isi [.int] (C.var 0)) (Cs.cons (C.not_ (C.isi [.bool] (C.var 0))) Cs.nil)))) Ss.nil)⟩
def d_is_within : Fd := ⟨"is_within", 3, ["value", "least", "most"], (Ss.cons (S.ret (C.boo true (Cs.cons (C.call 0 [false] (Cs.cons (C.var 0) Cs.nil)) (Cs.cons (C.chn .le .le (C.var 1) (C.var 0) (C.var 2)) Cs.nil)))) Ss.nil)⟩
def d_require_within : Fd := ⟨"require_within", 3, ["value", "least", "most"], (Ss.cons (S.ife (C.not_ (C.call 1 [false, false, false] (Cs.cons (C.var 0) (Cs.cons (C.var 1) (Cs.cons (C.var 2) Cs.nil))))) (Ss.cons (S.rse 0 (CO.some (C.var 0))) Ss.nil) Ss.nil) Ss.nil)⟩
def d_least_divisor : Fd := ⟨"least_divisor", 1, ["number", "divisor"], (Ss.cons (S.asg (Tg.nm 1) (C.glb "LEAST_PRIME" (D.int 2))) (Ss.cons (S.whl (C.cmp .le (C.bin .mul (C.var 1) (C.var 1)) (C.var 0)) (Ss.cons (S.ife (C.cmp .eq (C.bin .mod (C.var 0) (C.var 1)) (C.cst (D.int 0))) (Ss.cons (S.ret (C.var 1)) Ss.nil) Ss.nil) (Ss.cons (S.aug 1 .add (C.cst (D.int 1))) Ss.nil))) (Ss.cons (S.ret (C.var 0)) Ss.nil)))⟩
def d_is_prime_in : Fd := ⟨"is_prime_in", 1, ["number"], (Ss.cons (S.ret (C.boo true (Cs.cons (C.cmp .ge (C.var 0) (C.glb "LEAST_PRIME" (D.int 2))) (Cs.cons (C.cmp .eq (C.call 3 [false] (Cs.cons (C.var 0) Cs.nil)) (C.var 0)) Cs.nil)))) Ss.nil)⟩
def d_parts_in : Fd := ⟨"parts_in", 1, ["number", "found", "left", "divisor", "many"], (Ss.cons (S.par [1, 2, 3] (Cs.cons (C.lst Cs.nil) (Cs.cons (C.var 0) (Cs.cons (C.glb "LEAST_PRIME" (D.int 2)) Cs.nil)))) (Ss.cons (S.whl (C.cmp .le (C.bin .mul (C.var 3) (C.var 3)) (C.var 2)) (Ss.cons (S.asg (Tg.nm 4) (C.cst (D.int 0))) (Ss.cons (S.whl (C.cmp .eq (C.bin .mod (C.var 2) (C.var 3)) (C.cst (D.int 0))) (Ss.cons (S.par [2, 4] (Cs.cons (C.bin .fdiv (C.var 2) (C.var 3)) (Cs.cons (C.bin .add (C.var 4) (C.cst (D.int 1))) Cs.nil))) Ss.nil)) (Ss.cons (S.ife (C.cmp .gt (C.var 4) (C.cst (D.int 0))) (Ss.cons (S.app 1 (C.tup (Cs.cons (C.var 3) (Cs.cons (C.var 4) Cs.nil)))) Ss.nil) Ss.nil) (Ss.cons (S.aug 3 .add (C.cst (D.int 1))) Ss.nil))))) (Ss.cons (S.ife (C.cmp .gt (C.var 2) (C.cst (D.int 1))) (Ss.cons (S.app 1 (C.tup (Cs.cons (C.var 2) (Cs.cons (C.cst (D.int 1)) Cs.nil)))) Ss.nil) Ss.nil) (Ss.cons (S.ret (C.var 1)) Ss.nil))))⟩
def d_power_rest : Fd := ⟨"power_rest", 3, ["base", "exponent", "modulus", "found", "here", "left"], (Ss.cons (S.par [3, 4, 5] (Cs.cons (C.bin .mod (C.cst (D.int 1)) (C.var 2)) (Cs.cons (C.bin .mod (C.var 0) (C.var 2)) (Cs.cons (C.var 1) Cs.nil)))) (Ss.cons (S.whl (C.cmp .gt (C.var 5) (C.cst (D.int 0))) (Ss.cons (S.ife (C.cmp .eq (C.bin .mod (C.var 5) (C.cst (D.int 2))) (C.cst (D.int 1))) (Ss.cons (S.asg (Tg.nm 3) (C.bin .mod (C.bin .mul (C.var 3) (C.var 4)) (C.var 2))) Ss.nil) Ss.nil) (Ss.cons (S.par [4, 5] (Cs.cons (C.bin .mod (C.bin .mul (C.var 4) (C.var 4)) (C.var 2)) (Cs.cons (C.bin .fdiv (C.var 5) (C.cst (D.int 2))) Cs.nil))) Ss.nil))) (Ss.cons (S.ret (C.var 3)) Ss.nil)))⟩
def d_is_maker_of : Fd := ⟨"is_maker_of", 3, ["prime", "number", "parts", "part", "many"], (Ss.cons (S.ret (C.blt .all (Cs.cons (C.cmpr (C.cmp .ne (C.call 6 [false, false, false] (Cs.cons (C.var 1) (Cs.cons (C.bin .fdiv (C.bin .sub (C.var 0) (C.cst (D.int 1))) (C.var 3)) (Cs.cons (C.var 0) Cs.nil)))) (C.cst (D.int 1))) (Tg.tp (Tgs.cons (Tg.nm 3) (Tgs.cons (Tg.nm 4) Tgs.nil))) (I.seq (C.var 2)) CO.none [3, 4]) Cs.nil))) Ss.nil)⟩
def d_least_maker_in : Fd := ⟨"least_maker_in", 1, ["prime", "parts", "found"], (Ss.cons (S.par [1, 2] (Cs.cons (C.call 5 [false] (Cs.cons (C.bin .sub (C.var 0) (C.cst (D.int 1))) Cs.nil)) (Cs.cons (C.cst (D.int 1)) Cs.nil))) (Ss.cons (S.whl (C.not_ (C.call 7 [false, false, false] (Cs.cons (C.var 0) (Cs.cons (C.var 2) (Cs.cons (C.var 1) Cs.nil))))) (Ss.cons (S.aug 2 .add (C.cst (D.int 1))) Ss.nil)) (Ss.cons (S.ret (C.var 2)) Ss.nil)))⟩
def d_prime_paper : Fd := ⟨"prime_paper", 1, ["prime", "rows", "waiting", "here", "parts", "part", "many"], (Ss.cons (S.par [1, 2] (Cs.cons C.disO (Cs.cons (C.lst (Cs.cons (C.var 0) Cs.nil)) Cs.nil))) (Ss.cons (S.whl (C.cmp .ne (C.var 2) (C.lst Cs.nil)) (Ss.cons (S.asg (Tg.nm 3) (C.pop 2)) (Ss.cons (S.ife (C.boo true (Cs.cons (C.cmp .ne (C.var 3) (C.glb "LEAST_PRIME" (D.int 2))) (Cs.cons (C.din false (C.var 3) (C.var 1)) Cs.nil))) (Ss.cons (S.asg (Tg.nm 4) (C.blt .tuple (Cs.cons (C.call 5 [false] (Cs.cons (C.bin .sub (C.var 3) (C.cst (D.int 1))) Cs.nil)) Cs.nil))) (Ss.cons (S.dset 1 (C.var 3) (C.tup (Cs.cons (C.var 3) (Cs.cons (C.call 8 [false] (Cs.cons (C.var 3) Cs.nil)) (Cs.cons (C.var 4) Cs.nil))))) (Ss.cons (S.expr (C.ext 2 (C.cmpr (C.var 5) (Tg.tp (Tgs.cons (Tg.nm 5) (Tgs.cons (Tg.nm 6) Tgs.nil))) (I.seq (C.var 4)) CO.none [5, 6]))) Ss.nil))) Ss.nil) Ss.nil))) (Ss.cons (S.ret (C.blt .tuple (Cs.cons (C.cmpr (C.dget (C.var 1) (C.var 3)) (Tg.nm 3) (I.seq (C.blt .sorted (Cs.cons (C.var 1) Cs.nil))) CO.none [3]) Cs.nil))) Ss.nil)))⟩
def d_is_prime : Fd := ⟨"is_prime", 1, ["number"], (Ss.cons (S.expr (C.call 2 [false, false, false] (Cs.cons (C.var 0) (Cs.cons (C.cst (D.int 0)) (Cs.cons (C.glb "MOST" (D.int 100000000)) Cs.nil))))) (Ss.cons (S.ret (C.call 4 [false] (Cs.cons (C.var 0) Cs.nil))) Ss.nil))⟩
def d_next_prime : Fd := ⟨"next_prime", 1, ["number", "found"], (Ss.cons (S.expr (C.call 2 [false, false, false] (Cs.cons (C.var 0) (Cs.cons (C.cst (D.int 0)) (Cs.cons (C.glb "MOST" (D.int 100000000)) Cs.nil))))) (Ss.cons (S.asg (Tg.nm 1) (C.bin .add (C.var 0) (C.cst (D.int 1)))) (Ss.cons (S.whl (C.not_ (C.call 4 [false] (Cs.cons (C.var 1) Cs.nil))) (Ss.cons (S.aug 1 .add (C.cst (D.int 1))) Ss.nil)) (Ss.cons (S.ret (C.var 1)) Ss.nil))))⟩
def d_prime_answer : Fd := ⟨"prime_answer", 1, ["number", "divisor"], (Ss.cons (S.expr (C.call 2 [false, false, false] (Cs.cons (C.var 0) (Cs.cons (C.glb "LEAST_PRIME" (D.int 2)) (Cs.cons (C.glb "MOST" (D.int 100000000)) Cs.nil))))) (Ss.cons (S.asg (Tg.nm 1) (C.call 3 [false] (Cs.cons (C.var 0) Cs.nil))) (Ss.cons (S.ife (C.cmp .lt (C.var 1) (C.var 0)) (Ss.cons (S.ret (C.tup (Cs.cons (C.tup (Cs.cons (C.cst (D.str "split")) (Cs.cons (C.var 0) Cs.nil))) (Cs.cons (C.tup (Cs.cons (C.var 1) (Cs.cons (C.bin .fdiv (C.var 0) (C.var 1)) Cs.nil))) Cs.nil)))) Ss.nil) Ss.nil) (Ss.cons (S.ret (C.tup (Cs.cons (C.tup (Cs.cons (C.cst (D.str "prime")) (Cs.cons (C.var 0) Cs.nil))) (Cs.cons (C.call 9 [false] (Cs.cons (C.var 0) Cs.nil)) Cs.nil)))) Ss.nil))))⟩
def d_law_dice : Fd := ⟨"_law_dice", 2, ["_law_script", "_law_spot", "_law_cell", "_law_left"], (Ss.cons (S.asg (Tg.nm 2) (C.ite (C.cmp .lt (C.var 1) (C.blt .len (Cs.cons (C.var 0) Cs.nil))) (C.blt .int1 (Cs.cons (C.idx (C.var 0) (C.var 1)) Cs.nil)) (C.bin .add (C.bin .mul (C.cst (D.int 97)) (C.var 1)) (C.cst (D.int 59))))) (Ss.cons (S.asg (Tg.nm 3) (C.bin .mod (C.blt .max2 (Cs.cons (C.cst (D.int 0)) (Cs.cons (C.bin .sub (C.blt .abs (Cs.cons (C.var 2) Cs.nil)) (C.bin .pow (C.cst (D.int 10)) (C.cst (D.int 16)))) Cs.nil))) (C.bin .mul (C.bin .pow (C.cst (D.int 10)) (C.cst (D.int 58))) (C.bin .pow (C.cst (D.int 10)) (C.cst (D.int 60)))))) (Ss.cons (S.ret (C.lst (Cs.cons (C.var 3) (Cs.cons (C.bin .add (C.bin .add (C.bin .add (C.bin .mul (C.bin .mod (C.blt .abs (Cs.cons (C.var 2) Cs.nil)) (C.cst (D.int 1152921504606846733))) (C.cst (D.int 83))) (C.bin .mul (C.cst (D.int 1033)) (C.var 1))) (C.bin .mul (C.cst (D.int 61)) (C.blt .int1 (Cs.cons (C.cmp .lt (C.var 2) (C.cst (D.int 0))) Cs.nil)))) (C.cst (D.int 29))) (Cs.cons (C.cst (D.int 0)) Cs.nil))))) Ss.nil)))⟩
def d_law_roll : Fd := ⟨"_law_roll", 2, ["_law_dice_here", "_law_most", "_law_one", "_law_two", "_law_found"], (Ss.cons (S.ife (C.cmp .gt (C.idx (C.var 0) (C.cst (D.int 0))) (C.cst (D.int 0))) (Ss.cons (S.asg (Tg.nm 4) (C.bin .mod (C.blt .int1 (Cs.cons (C.idx (C.var 0) (C.cst (D.int 0))) Cs.nil)) (C.var 1))) (Ss.cons (S.seti 0 (C.cst (D.int 0)) (C.bin .fdiv (C.idx (C.var 0) (C.cst (D.int 0))) (C.var 1))) (Ss.cons (S.ret (C.var 4)) Ss.nil))) Ss.nil) (Ss.cons (S.seti 0 (C.cst (D.int 2)) (C.bin .add (C.idx (C.var 0) (C.cst (D.int 2))) (C.cst (D.int 1)))) (Ss.cons (S.asg (Tg.nm 2) (C.bin .mod (C.blt .int1 (Cs.cons (C.bin .add (C.idx (C.var 0) (C.cst (D.int 1))) (C.bin .mul (C.cst (D.int 86028121)) (C.idx (C.var 0) (C.cst (D.int 2))))) Cs.nil)) (C.cst (D.int 2305843009213693561)))) (Ss.cons (S.asg (Tg.nm 3) (C.bin .mod (C.blt .int1 (Cs.cons (C.bin .add (C.bin .mul (C.var 2) (C.var 2)) (C.bin .mul (C.cst (D.int 103)) (C.idx (C.var 0) (C.cst (D.int 2))))) Cs.nil)) (C.cst (D.int 2305843009213693669)))) (Ss.cons (S.ret (C.bin .mod (C.blt .int1 (Cs.cons (C.bin .fdiv (C.bin .add (C.bin .mul (C.var 3) (C.cst (D.int 7654321))) (C.var 2)) (C.cst (D.int 65557))) Cs.nil)) (C.var 1))) Ss.nil)))))⟩
def d_law_pick : Fd := ⟨"_law_pick", 2, ["_law_dice_here", "_law_items"], (Ss.cons (S.ret (C.idx (C.var 1) (C.call 14 [true, false] (Cs.cons (C.var 0) (Cs.cons (C.blt .len (Cs.cons (C.var 1) Cs.nil)) Cs.nil))))) Ss.nil)⟩
def d_law_pr_least : Fd := ⟨"_law_pr_least", 1, ["_law_number", "_law_divisor"], (Ss.cons (S.for_ (Tg.nm 1) (I.rng2 (C.cst (D.int 2)) (C.cst (D.int 10003))) (Ss.cons (S.ife (C.cmp .gt (C.bin .mul (C.var 1) (C.var 1)) (C.var 0)) (Ss.cons (S.ret (C.var 0)) Ss.nil) Ss.nil) (Ss.cons (S.ife (C.cmp .eq (C.bin .mod (C.var 0) (C.var 1)) (C.cst (D.int 0))) (Ss.cons (S.ret (C.var 1)) Ss.nil) Ss.nil) Ss.nil))) (Ss.cons (S.ret (C.var 0)) Ss.nil))⟩
def d_law_pr_is : Fd := ⟨"_law_pr_is", 1, ["_law_number"], (Ss.cons (S.ret (C.boo true (Cs.cons (C.cmp .ge (C.var 0) (C.cst (D.int 2))) (Cs.cons (C.cmp .eq (C.call 16 [false] (Cs.cons (C.var 0) Cs.nil)) (C.var 0)) Cs.nil)))) Ss.nil)⟩
def d_law_pr_power : Fd := ⟨"_law_pr_power", 3, ["_law_base", "_law_exponent", "_law_modulus", "_law_found", "_law_square", "_law_left"], (Ss.cons (S.par [3, 4, 5] (Cs.cons (C.bin .mod (C.cst (D.int 1)) (C.var 2)) (Cs.cons (C.bin .mod (C.blt .int1 (Cs.cons (C.var 0) Cs.nil)) (C.var 2)) (Cs.cons (C.var 1) Cs.nil)))) (Ss.cons (S.whl (C.cmp .gt (C.var 5) (C.cst (D.int 0))) (Ss.cons (S.ife (C.cmp .eq (C.bin .mod (C.var 5) (C.cst (D.int 2))) (C.cst (D.int 1))) (Ss.cons (S.asg (Tg.nm 3) (C.bin .mod (C.blt .int1 (Cs.cons (C.bin .mul (C.var 3) (C.var 4)) Cs.nil)) (C.var 2))) Ss.nil) Ss.nil) (Ss.cons (S.par [4, 5] (Cs.cons (C.bin .mod (C.blt .int1 (Cs.cons (C.bin .mul (C.var 4) (C.var 4)) Cs.nil)) (C.var 2)) (Cs.cons (C.bin .fdiv (C.var 5) (C.cst (D.int 2))) Cs.nil))) Ss.nil))) (Ss.cons (S.ret (C.var 3)) Ss.nil)))⟩
def d_law_pr_times : Fd := ⟨"_law_pr_times", 2, ["_law_base", "_law_exponent", "_law_found", "_law_turn"], (Ss.cons (S.asg (Tg.nm 2) (C.cst (D.int 1))) (Ss.cons (S.for_ (Tg.nm 3) (I.rng1 (C.var 1)) (Ss.cons (S.asg (Tg.nm 2) (C.bin .mul (C.var 2) (C.var 0))) Ss.nil)) (Ss.cons (S.ret (C.var 2)) Ss.nil)))⟩
def d_law_pr_is_whole : Fd := ⟨"_law_pr_is_whole", 1, ["_law_value"], (Ss.cons (S.ret (C.boo true (Cs.cons (C.isi [.int] (C.var 0)) (Cs.cons (C.not_ (C.isi [.bool] (C.var 0))) Cs.nil)))) Ss.nil)⟩
def d_law_pr_is_row : Fd := ⟨"_law_pr_is_row", 2, ["_law_known", "_law_value", "_law_prime", "_law_maker", "_law_parts", "_law_whole", "_law_last", "_law_part"], (Ss.cons (S.ife (C.boo false (Cs.cons (C.not_ (C.isi [.tuple] (C.var 1))) (Cs.cons (C.cmp .ne (C.blt .len (Cs.cons (C.var 1) Cs.nil)) (C.cst (D.int 3))) (Cs.cons (C.not_ (C.call 20 [false] (Cs.cons (C.idx (C.var 1) (C.cst (D.int 0))) Cs.nil))) (Cs.cons (C.not_ (C.call 20 [false] (Cs.cons (C.idx (C.var 1) (C.cst (D.int 1))) Cs.nil))) Cs.nil))))) (Ss.cons (S.ret (C.cst (D.bl false))) Ss.nil) Ss.nil) (Ss.cons (S.asg (Tg.tp (Tgs.cons (Tg.nm 2) (Tgs.cons (Tg.nm 3) (Tgs.cons (Tg.nm 4) Tgs.nil)))) (C.var 1)) (Ss.cons (S.ife (C.boo false (Cs.cons (C.cmp .le (C.var 2) (C.idx (C.var 0) (C.neg (C.cst (D.int 1))))) (Cs.cons (C.not_ (C.chn .le .lt (C.cst (D.int 1)) (C.var 3) (C.var 2))) (Cs.cons (C.not_ (C.isi [.tuple] (C.var 4))) Cs.nil)))) (Ss.cons (S.ret (C.cst (D.bl false))) Ss.nil) Ss.nil) (Ss.cons (S.asg (Tg.tp (Tgs.cons (Tg.nm 5) (Tgs.cons (Tg.nm 6) Tgs.nil))) (C.tup (Cs.cons (C.cst (D.int 1)) (Cs.cons (C.cst (D.int 0)) Cs.nil)))) (Ss.cons (S.for_ (Tg.nm 7) (I.seq (C.var 4)) (Ss.cons (S.ife (C.boo false (Cs.cons (C.not_ (C.isi [.tuple] (C.var 7))) (Cs.cons (C.cmp .ne (C.blt .len (Cs.cons (C.var 7) Cs.nil)) (C.cst (D.int 2))) (Cs.cons (C.not_ (C.call 20 [false] (Cs.cons (C.idx (C.var 7) (C.cst (D.int 0))) Cs.nil))) (Cs.cons (C.not_ (C.call 20 [false] (Cs.cons (C.idx (C.var 7) (C.cst (D.int 1))) Cs.nil))) Cs.nil))))) (Ss.cons (S.ret (C.cst (D.bl false))) Ss.nil) Ss.nil) (Ss.cons (S.ife (C.boo false (Cs.cons (C.cmp .le (C.idx (C.var 7) (C.cst (D.int 0))) (C.var 6)) (Cs.cons (C.cmp .notIn (C.idx (C.var 7) (C.cst (D.int 0))) (C.var 0)) (Cs.cons (C.not_ (C.chn .le .le (C.cst (D.int 1)) (C.idx (C.var 7) (C.cst (D.int 1))) (C.cst (D.int 400)))) Cs.nil)))) (Ss.cons (S.ret (C.cst (D.bl false))) Ss.nil) Ss.nil) (Ss.cons (S.par [5, 6] (Cs.cons (C.bin .mul (C.var 5) (C.call 19 [false, false] (Cs.cons (C.idx (C.var 7) (C.cst (D.int 0))) (Cs.cons (C.idx (C.var 7) (C.cst (D.int 1))) Cs.nil)))) (Cs.cons (C.idx (C.var 7) (C.cst (D.int 0))) Cs.nil))) (Ss.cons (S.ife (C.cmp .eq (C.call 18 [false, false, false] (Cs.cons (C.var 3) (Cs.cons (C.bin .fdiv (C.bin .sub (C.var 2) (C.cst (D.int 1))) (C.idx (C.var 7) (C.cst (D.int 0)))) (Cs.cons (C.var 2) Cs.nil)))) (C.cst (D.int 1))) (Ss.cons (S.ret (C.cst (D.bl false))) Ss.nil) Ss.nil) Ss.nil))))) (Ss.cons (S.ret (C.boo true (Cs.cons (C.cmp .eq (C.var 5) (C.bin .sub (C.var 2) (C.cst (D.int 1)))) (Cs.cons (C.cmp .eq (C.call 18 [false, false, false] (Cs.cons (C.var 3) (Cs.cons (C.bin .sub (C.var 2) (C.cst (D.int 1))) (Cs.cons (C.var 2) Cs.nil)))) (C.cst (D.int 1))) Cs.nil)))) Ss.nil))))))⟩
def d_law_pr_is_paper : Fd := ⟨"_law_pr_is_paper", 2, ["_law_number", "_law_value", "_law_known", "_law_row"], (Ss.cons (S.ife (C.boo false (Cs.cons (C.not_ (C.isi [.tuple] (C.var 1))) (Cs.cons (C.cmp .ne (C.cmp .eq (C.var 1) (C.tup Cs.nil)) (C.cmp .eq (C.var 0) (C.cst (D.int 2)))) Cs.nil))) (Ss.cons (S.ret (C.cst (D.bl false))) Ss.nil) Ss.nil) (Ss.cons (S.asg (Tg.nm 2) (C.lst (Cs.cons (C.cst (D.int 2)) Cs.nil))) (Ss.cons (S.for_ (Tg.nm 3) (I.seq (C.var 1)) (Ss.cons (S.ife (C.not_ (C.call 21 [true, false] (Cs.cons (C.var 2) (Cs.cons (C.var 3) Cs.nil)))) (Ss.cons (S.ret (C.cst (D.bl false))) Ss.nil) Ss.nil) (Ss.cons (S.app 2 (C.idx (C.var 3) (C.cst (D.int 0)))) Ss.nil))) (Ss.cons (S.ret (C.cmp .eq (C.idx (C.var 2) (C.neg (C.cst (D.int 1)))) (C.var 0))) Ss.nil))))⟩
def d_law_pr_drawn : Fd := ⟨"_law_pr_drawn", 1, ["_law_dice_here", "_law_some", "_law_way"], (Ss.cons (S.asg (Tg.nm 1) (C.lst (Cs.cons (C.cst (D.int 2)) (Cs.cons (C.cst (D.int 3)) (Cs.cons (C.cst (D.int 5)) (Cs.cons (C.cst (D.int 7)) (Cs.cons (C.cst (D.int 11)) (Cs.cons (C.cst (D.int 13)) (Cs.cons (C.cst (D.int 17)) (Cs.cons (C.cst (D.int 19)) (Cs.cons (C.cst (D.int 23)) (Cs.cons (C.cst (D.int 29)) (Cs.cons (C.cst (D.int 31)) (Cs.cons (C.cst (D.int 37)) (Cs.cons (C.cst (D.int 41)) (Cs.cons (C.cst (D.int 43)) (Cs.cons (C.cst (D.int 47)) (Cs.cons (C.cst (D.int 53)) (Cs.cons (C.cst (D.int 59)) (Cs.cons (C.cst (D.int 61)) (Cs.cons (C.cst (D.int 67)) (Cs.cons (C.cst (D.int 71)) (Cs.cons (C.cst (D.int 73)) (Cs.cons (C.cst (D.int 79)) (Cs.cons (C.cst (D.int 83)) (Cs.cons (C.cst (D.int 89)) (Cs.cons (C.cst (D.int 97)) (Cs.cons (C.cst (D.int 101)) (Cs.cons (C.cst (D.int 251)) (Cs.cons (C.cst (D.int 991)) Cs.nil)))))))))))))))))))))))))))))) (Ss.cons (S.asg (Tg.nm 2) (C.call 14 [true, false] (Cs.cons (C.var 0) (Cs.cons (C.cst (D.int 8)) Cs.nil)))) (Ss.cons (S.ife (C.cmp .lt (C.var 2) (C.cst (D.int 2))) (Ss.cons (S.ret (C.call 14 [true, false] (Cs.cons (C.var 0) (Cs.cons (C.ite (C.cmp .eq (C.var 2) (C.cst (D.int 0))) (C.cst (D.int 90)) (C.cst (D.int 4000))) Cs.nil)))) Ss.nil) Ss.nil) (Ss.cons (S.ife (C.cmp .eq (C.var 2) (C.cst (D.int 2))) (Ss.cons (S.ret (C.bin .mul (C.call 15 [true, false] (Cs.cons (C.var 0) (Cs.cons (C.var 1) Cs.nil))) (C.call 15 [true, false] (Cs.cons (C.var 0) (Cs.cons (C.var 1) Cs.nil))))) Ss.nil) Ss.nil) (Ss.cons (S.ife (C.cmp .eq (C.var 2) (C.cst (D.int 3))) (Ss.cons (S.ret (C.call 19 [false, false] (Cs.cons (C.call 15 [true, false] (Cs.cons (C.var 0) (Cs.cons (C.slc (C.var 1) CO.none (CO.some (C.cst (D.int 6)))) Cs.nil))) (Cs.cons (C.bin .add (C.cst (D.int 1)) (C.call 14 [true, false] (Cs.cons (C.var 0) (Cs.cons (C.cst (D.int 7)) Cs.nil)))) Cs.nil)))) Ss.nil) Ss.nil) (Ss.cons (S.ife (C.cmp .eq (C.var 2) (C.cst (D.int 4))) (Ss.cons (S.ret (C.call 15 [true, false] (Cs.cons (C.var 0) (Cs.cons (C.lst (Cs.cons (C.cst (D.int 341)) (Cs.cons (C.cst (D.int 561)) (Cs.cons (C.cst (D.int 1105)) (Cs.cons (C.cst (D.int 2047)) (Cs.cons (C.cst (D.int 6601)) (Cs.cons (C.cst (D.int 65537)) (Cs.cons (C.cst (D.int 99460729)) (Cs.cons (C.cst (D.int 99999989)) (Cs.cons (C.cst (D.int 99999990)) (Cs.cons (C.cst (D.int 100000000)) (Cs.cons (C.cst (D.int 16785407)) (Cs.cons (C.cst (D.int 30030)) Cs.nil))))))))))))) Cs.nil)))) Ss.nil) Ss.nil) (Ss.cons (S.ife (C.cmp .eq (C.var 2) (C.cst (D.int 5))) (Ss.cons (S.ret (C.bin .mul (C.bin .mul (C.call 15 [true, false] (Cs.cons (C.var 0) (Cs.cons (C.var 1) Cs.nil))) (C.call 15 [true, false] (Cs.cons (C.var 0) (Cs.cons (C.var 1) Cs.nil)))) (C.call 15 [true, false] (Cs.cons (C.var 0) (Cs.cons (C.slc (C.var 1) CO.none (CO.some (C.cst (D.int 14)))) Cs.nil))))) Ss.nil) Ss.nil) (Ss.cons (S.ret (C.call 14 [true, false] (Cs.cons (C.var 0) (Cs.cons (C.bin .add (C.call 15 [true, false] (Cs.cons (C.var 0) (Cs.cons (C.lst (Cs.cons (C.bin .pow (C.cst (D.int 10)) (C.cst (D.int 4))) (Cs.cons (C.bin .pow (C.cst (D.int 10)) (C.cst (D.int 5))) (Cs.cons (C.bin .pow (C.cst (D.int 10)) (C.cst (D.int 6))) (Cs.cons (C.bin .pow (C.cst (D.int 10)) (C.cst (D.int 7))) (Cs.cons (C.bin .pow (C.cst (D.int 10)) (C.cst (D.int 8))) Cs.nil)))))) Cs.nil))) (C.cst (D.int 1))) Cs.nil)))) Ss.nil))))))))⟩
def d_law_right : Fd := ⟨"_law_right", 1, ["_law_dice_here", "_law_number", "_law_here", "_law_told", "_law_claim", "_law_paper", "_law_one"], (Ss.cons (S.asg (Tg.nm 1) (C.call 23 [true] (Cs.cons (C.var 0) Cs.nil))) (Ss.cons (S.ife (C.cmp .ne (C.blt .reprv (Cs.cons (C.call 10 [false] (Cs.cons (C.var 1) Cs.nil)) Cs.nil)) (C.blt .reprv (Cs.cons (C.call 17 [false] (Cs.cons (C.var 1) Cs.nil)) Cs.nil))) (Ss.cons (S.ret (C.cst (D.bl false))) Ss.nil) Ss.nil) (Ss.cons (S.ife (C.cmp .ge (C.var 1) (C.cst (D.int 2))) (Ss.cons (S.asg (Tg.tp (Tgs.cons (Tg.nm 4) (Tgs.cons (Tg.nm 5) Tgs.nil))) (C.call 12 [false] (Cs.cons (C.var 1) Cs.nil))) (Ss.cons (S.ife (C.cmp .ne (C.var 4) (C.tup (Cs.cons (C.ite (C.call 17 [false] (Cs.cons (C.var 1) Cs.nil)) (C.cst (D.str "prime")) (C.cst (D.str "split"))) (Cs.cons (C.var 1) Cs.nil)))) (Ss.cons (S.ret (C.cst (D.bl false))) Ss.nil) Ss.nil) (Ss.cons (S.ife (C.boo true (Cs.cons (C.cmp .eq (C.idx (C.var 4) (C.cst (D.int 0))) (C.cst (D.str "prime"))) (Cs.cons (C.not_ (C.call 22 [false, false] (Cs.cons (C.var 1) (Cs.cons (C.var 5) Cs.nil)))) Cs.nil))) (Ss.cons (S.ret (C.cst (D.bl false))) Ss.nil) Ss.nil) (Ss.cons (S.ife (C.boo true (Cs.cons (C.cmp .eq (C.idx (C.var 4) (C.cst (D.int 0))) (C.cst (D.str "split"))) (Cs.cons (C.not_ (C.call 25 [false, false] (Cs.cons (C.var 1) (Cs.cons (C.var 5) Cs.nil)))) Cs.nil))) (Ss.cons (S.ret (C.cst (D.bl false))) Ss.nil) Ss.nil) Ss.nil)))) Ss.nil) (Ss.cons (S.asg (Tg.nm 2) (C.blt .min2 (Cs.cons (C.var 1) (Cs.cons (C.bin .pow (C.cst (D.int 10)) (C.cst (D.int 6))) Cs.nil)))) (Ss.cons (S.asg (Tg.nm 3) (C.call 11 [false] (Cs.cons (C.var 2) Cs.nil))) (Ss.cons (S.ret (C.boo true (Cs.cons (C.cmp .gt (C.var 3) (C.var 2)) (Cs.cons (C.cmp .eq (C.cmpr (C.var 6) (Tg.nm 6) (I.rng2 (C.bin .add (C.var 2) (C.cst (D.int 1))) (C.bin .add (C.var 3) (C.cst (D.int 1)))) (CO.some (C.call 17 [false] (Cs.cons (C.var 6) Cs.nil))) [6]) (C.lst (Cs.cons (C.var 3) Cs.nil))) Cs.nil)))) Ss.nil))))))⟩
def d_law_is_split : Fd := ⟨"_law_is_split", 2, ["_law_number", "_law_value", "_law_one"], (Ss.cons (S.ife (C.boo false (Cs.cons (C.not_ (C.isi [.tuple] (C.var 1))) (Cs.cons (C.cmp .ne (C.blt .len (Cs.cons (C.var 1) Cs.nil)) (C.cst (D.int 2))) (Cs.cons (C.cmp .ne (C.cmpr (C.var 2) (Tg.nm 2) (I.seq (C.var 1)) (CO.some (C.not_ (C.call 20 [false] (Cs.cons (C.var 2) Cs.nil)))) [2]) (C.lst Cs.nil)) Cs.nil)))) (Ss.cons (S.ret (C.cst (D.bl false))) Ss.nil) Ss.nil) (Ss.cons (S.ret (C.boo true (Cs.cons (C.cmp .ge (C.blt .min1 (Cs.cons (C.var 1) Cs.nil)) (C.cst (D.int 2))) (Cs.cons (C.cmp .eq (C.bin .mul (C.idx (C.var 1) (C.cst (D.int 0))) (C.idx (C.var 1) (C.cst (D.int 1)))) (C.var 0)) Cs.nil)))) Ss.nil))⟩
def d_law : Fd := ⟨"law", 1, ["_law_script", "_law_spot", "_law_told", "_law_dice_here", "_law_turn", "_law_one"], (Ss.cons (S.for_ (Tg.nm 1) (I.rng1 (C.blt .max2 (Cs.cons (C.cst (D.int 1)) (Cs.cons (C.blt .min2 (Cs.cons (C.cst (D.int 3)) (Cs.cons (C.blt .len (Cs.cons (C.var 0) Cs.nil)) Cs.nil))) Cs.nil)))) (Ss.cons (S.asg (Tg.nm 3) (C.call 13 [false, false] (Cs.cons (C.var 0) (Cs.cons (C.var 1) Cs.nil)))) (Ss.cons (S.for_ (Tg.nm 4) (I.rng1 (C.cst (D.int 4))) (Ss.cons (S.ife (C.not_ (C.call 24 [true] (Cs.cons (C.var 3) Cs.nil))) (Ss.cons (S.ret (C.cst (D.bl false))) Ss.nil) Ss.nil) Ss.nil)) Ss.nil))) (Ss.cons (S.asg (Tg.nm 2) (C.lst (Cs.cons (C.idx (C.call 12 [false] (Cs.cons (C.cst (D.int 7)) Cs.nil)) (C.cst (D.int 0))) (Cs.cons (C.call 12 [false] (Cs.cons (C.cst (D.int 2)) Cs.nil)) (Cs.cons (C.idx (C.call 12 [false] (Cs.cons (C.cst (D.int 91)) Cs.nil)) (C.cst (D.int 0))) (Cs.cons (C.call 12 [false] (Cs.cons (C.cst (D.int 4)) Cs.nil)) (Cs.cons (C.call 11 [false] (Cs.cons (C.cst (D.int 89)) Cs.nil)) (Cs.cons (C.call 11 [false] (Cs.cons (C.cst (D.int 0)) Cs.nil)) Cs.nil)))))))) (Ss.cons (S.ife (C.cmp .ne (C.var 2) (C.lst (Cs.cons (C.tup (Cs.cons (C.cst (D.str "prime")) (Cs.cons (C.cst (D.int 7)) Cs.nil))) (Cs.cons (C.tup (Cs.cons (C.tup (Cs.cons (C.cst (D.str "prime")) (Cs.cons (C.cst (D.int 2)) Cs.nil))) (Cs.cons (C.tup Cs.nil) Cs.nil))) (Cs.cons (C.tup (Cs.cons (C.cst (D.str "split")) (Cs.cons (C.cst (D.int 91)) Cs.nil))) (Cs.cons (C.tup (Cs.cons (C.tup (Cs.cons (C.cst (D.str "split")) (Cs.cons (C.cst (D.int 4)) Cs.nil))) (Cs.cons (C.tup (Cs.cons (C.cst (D.int 2)) (Cs.cons (C.cst (D.int 2)) Cs.nil))) Cs.nil))) (Cs.cons (C.cst (D.int 97)) (Cs.cons (C.cst (D.int 2)) Cs.nil)))))))) (Ss.cons (S.ret (C.cst (D.bl false))) Ss.nil) Ss.nil) (Ss.cons (S.ife (C.boo false (Cs.cons (C.not_ (C.call 22 [false, false] (Cs.cons (C.cst (D.int 7)) (Cs.cons (C.tup (Cs.cons (C.tup (Cs.cons (C.cst (D.int 3)) (Cs.cons (C.cst (D.int 2)) (Cs.cons (C.tup (Cs.cons (C.tup (Cs.cons (C.cst (D.int 2)) (Cs.cons (C.cst (D.int 1)) Cs.nil))) Cs.nil)) Cs.nil)))) (Cs.cons (C.tup (Cs.cons (C.cst (D.int 7)) (Cs.cons (C.cst (D.int 3)) (Cs.cons (C.tup (Cs.cons (C.tup (Cs.cons (C.cst (D.int 2)) (Cs.cons (C.cst (D.int 1)) Cs.nil))) (Cs.cons (C.tup (Cs.cons (C.cst (D.int 3)) (Cs.cons (C.cst (D.int 1)) Cs.nil))) Cs.nil))) Cs.nil)))) Cs.nil))) Cs.nil)))) (Cs.cons (C.call 22 [false, false] (Cs.cons (C.cst (D.int 7)) (Cs.cons (C.tup (Cs.cons (C.tup (Cs.cons (C.cst (D.int 7)) (Cs.cons (C.cst (D.int 3)) (Cs.cons (C.tup (Cs.cons (C.tup (Cs.cons (C.cst (D.int 2)) (Cs.cons (C.cst (D.int 1)) Cs.nil))) (Cs.cons (C.tup (Cs.cons (C.cst (D.int 3)) (Cs.cons (C.cst (D.int 1)) Cs.nil))) Cs.nil))) Cs.nil)))) Cs.nil)) Cs.nil))) Cs.nil))) (Ss.cons (S.ret (C.cst (D.bl false))) Ss.nil) Ss.nil) (Ss.cons (S.ret (C.boo true (Cs.cons (C.cmp .eq (C.cmpr (C.call 10 [false] (Cs.cons (C.var 5) Cs.nil)) (Tg.nm 5) (I.seq (C.tup (Cs.cons (C.cst (D.int 0)) (Cs.cons (C.cst (D.int 1)) (Cs.cons (C.cst (D.int 2)) (Cs.cons (C.cst (D.int 97)) (Cs.cons (C.cst (D.int 341)) Cs.nil))))))) CO.none [5]) (C.lst (Cs.cons (C.cst (D.bl false)) (Cs.cons (C.cst (D.bl false)) (Cs.cons (C.cst (D.bl true)) (Cs.cons (C.cst (D.bl true)) (Cs.cons (C.cst (D.bl false)) Cs.nil))))))) (Cs.cons (C.cmp .eq (C.call 11 [false] (Cs.cons (C.bin .pow (C.cst (D.int 10)) (C.cst (D.int 8))) Cs.nil)) (C.cst (D.int 100000007))) Cs.nil)))) Ss.nil)))))⟩
def fns : Nat → Option Fd
  | 0 => some d_is_whole
  | 1 => some d_is_within
  | 2 => some d_require_within
  | 3 => some d_least_divisor
  | 4 => some d_is_prime_in
  | 5 => some d_parts_in
  | 6 => some d_power_rest
  | 7 => some d_is_maker_of
  | 8 => some d_least_maker_in
  | 9 => some d_prime_paper
  | 10 => some d_is_prime
  | 11 => some d_next_prime
  | 12 => some d_prime_answer
  | 13 => some d_law_dice
  | 14 => some d_law_roll
  | 15 => some d_law_pick
  | 16 => some d_law_pr_least
  | 17 => some d_law_pr_is
  | 18 => some d_law_pr_power
  | 19 => some d_law_pr_times
  | 20 => some d_law_pr_is_whole
  | 21 => some d_law_pr_is_row
  | 22 => some d_law_pr_is_paper
  | 23 => some d_law_pr_drawn
  | 24 => some d_law_right
  | 25 => some d_law_is_split
  | 26 => some d_law
  | _ => none
def cls : Nat → Option Cd
  | 0 => some ⟨"InvalidNumber", .index, some "given"⟩
  | _ => none
def flN : Nat → Str
  | 0 => "given"
  | _ => Str.empty
def okN : Nat → Bool
  | 0 => true
  | _ => false
def mets : Nat → Option (Str × Md)
  | _ => none
def gsN : Nat → Bool
  | 24 => true
  | 26 => true
  | _ => false
def lmN : Nat → Bool
  | _ => false
def tb : Tb := ⟨false, fns, [("MOST", (D.int 100000000)), ("LEAST_PRIME", (D.int 2))], cls, mets, gsN, false, false⟩
-- depth 7
end K04
set_option Elab.async false
set_option linter.all false
set_option maxRecDepth 100000
set_option maxHeartbeats 4000000
namespace K04
open PySem PySem.Spec PyProof.Rows L2 MP
def topS (i : Nat) : Stmt := PySem.Challenge.pw_zeroorone_k04_whole_primes_and_their_pap.main.body.getD i (.Pass ⟨0, 0, 0, 0⟩)
def tops : Nat → Stmt
  | 0 => topS 3
  | 1 => topS 4
  | 2 => topS 5
  | 3 => topS 9
  | 4 => topS 10
  | 5 => topS 11
  | 6 => topS 12
  | 7 => topS 13
  | 8 => topS 14
  | 9 => topS 15
  | 10 => topS 16
  | 11 => topS 17
  | 12 => topS 18
  | 13 => topS 20
  | 14 => topS 21
  | 15 => topS 22
  | 16 => topS 23
  | 17 => topS 24
  | 18 => topS 25
  | 19 => topS 26
  | 20 => topS 27
  | 21 => topS 28
  | 22 => topS 29
  | 23 => topS 30
  | 24 => topS 31
  | 25 => topS 32
  | 26 => topS 33
  | _ => .Pass ⟨0, 0, 0, 0⟩
theorem t_is_whole : dnC tb lmN 0 d_is_whole (tops 0) = true := by decide +kernel
theorem t_is_within : dnC tb lmN 1 d_is_within (tops 1) = true := by decide +kernel
theorem t_require_within : dnC tb lmN 2 d_require_within (tops 2) = true := by decide +kernel
theorem t_least_divisor : dnC tb lmN 3 d_least_divisor (tops 3) = true := by decide +kernel
theorem t_is_prime_in : dnC tb lmN 4 d_is_prime_in (tops 4) = true := by decide +kernel
theorem t_parts_in : dnC tb lmN 5 d_parts_in (tops 5) = true := by decide +kernel
theorem t_power_rest : dnC tb lmN 6 d_power_rest (tops 6) = true := by decide +kernel
theorem t_is_maker_of : dnC tb lmN 7 d_is_maker_of (tops 7) = true := by decide +kernel
theorem t_least_maker_in : dnC tb lmN 8 d_least_maker_in (tops 8) = true := by decide +kernel
theorem t_prime_paper : dnC tb lmN 9 d_prime_paper (tops 9) = true := by decide +kernel
theorem t_is_prime : dnC tb lmN 10 d_is_prime (tops 10) = true := by decide +kernel
theorem t_next_prime : dnC tb lmN 11 d_next_prime (tops 11) = true := by decide +kernel
theorem t_prime_answer : dnC tb lmN 12 d_prime_answer (tops 12) = true := by decide +kernel
theorem t_law_dice : dnC tb lmN 13 d_law_dice (tops 13) = true := by decide +kernel
theorem t_law_roll : dnC tb lmN 14 d_law_roll (tops 14) = true := by decide +kernel
theorem t_law_pick : dnC tb lmN 15 d_law_pick (tops 15) = true := by decide +kernel
theorem t_law_pr_least : dnC tb lmN 16 d_law_pr_least (tops 16) = true := by decide +kernel
theorem t_law_pr_is : dnC tb lmN 17 d_law_pr_is (tops 17) = true := by decide +kernel
theorem t_law_pr_power : dnC tb lmN 18 d_law_pr_power (tops 18) = true := by decide +kernel
theorem t_law_pr_times : dnC tb lmN 19 d_law_pr_times (tops 19) = true := by decide +kernel
theorem t_law_pr_is_whole : dnC tb lmN 20 d_law_pr_is_whole (tops 20) = true := by decide +kernel
theorem t_law_pr_is_row : dnC tb lmN 21 d_law_pr_is_row (tops 21) = true := by decide +kernel
theorem t_law_pr_is_paper : dnC tb lmN 22 d_law_pr_is_paper (tops 22) = true := by decide +kernel
theorem t_law_pr_drawn : dnC tb lmN 23 d_law_pr_drawn (tops 23) = true := by decide +kernel
theorem t_law_right : dnC tb lmN 24 d_law_right (tops 24) = true := by decide +kernel
theorem t_law_is_split : dnC tb lmN 25 d_law_is_split (tops 25) = true := by decide +kernel
theorem t_law : dnC tb lmN 26 d_law (tops 26) = true := by decide +kernel
def faN (f0 f1 f2 f3 f4 f5 f6 f7 f8 f9 f10 f11 f12 f13 f14 f15 f16 f17 f18 f19 f20 f21 f22 f23 f24 f25 f26 : Addr) : Nat → Option Addr
  | 0 => some f0
  | 1 => some f1
  | 2 => some f2
  | 3 => some f3
  | 4 => some f4
  | 5 => some f5
  | 6 => some f6
  | 7 => some f7
  | 8 => some f8
  | 9 => some f9
  | 10 => some f10
  | 11 => some f11
  | 12 => some f12
  | 13 => some f13
  | 14 => some f14
  | 15 => some f15
  | 16 => some f16
  | 17 => some f17
  | 18 => some f18
  | 19 => some f19
  | 20 => some f20
  | 21 => some f21
  | 22 => some f22
  | 23 => some f23
  | 24 => some f24
  | 25 => some f25
  | 26 => some f26
  | _ => none
def clN (C0 : Addr) : Nat → Addr
  | 0 => C0
  | _ => 0
theorem txt {prog : Program} {K : PySem.W.Frag} {h : Heap} {mg : Str → Option Value} (X : K.In h) (G : h.Ns mainGlobals mg)
    {f0 : Addr} {od0 an0 : Option Addr} {sl0 : Array (Option Value)} {oc0 kv0 dc0 pm0 cd0 ct0 : Value}
    (a0 : PySem.W.nsIn K mainGlobals "is_whole" = some (some (.ref f0))) (l0 : K.lookup f0 = some ⟨oc0, od0, .func (PySem.W.fnOf "is_whole" "is_whole" (defArgs (tops 0)) (defBody (tops 0)) (defScope (tops 0)) .none kv0 dc0 pm0 an0 cd0 ct0), sl0⟩) (c0 : PySem.W.codeIn K cd0 "is_whole" = true) (k0 : PySem.W.keepIn K (.ref f0) = true)
    {f1 : Addr} {od1 an1 : Option Addr} {sl1 : Array (Option Value)} {oc1 kv1 dc1 pm1 cd1 ct1 : Value}
    (a1 : PySem.W.nsIn K mainGlobals "is_within" = some (some (.ref f1))) (l1 : K.lookup f1 = some ⟨oc1, od1, .func (PySem.W.fnOf "is_within" "is_within" (defArgs (tops 1)) (defBody (tops 1)) (defScope (tops 1)) .none kv1 dc1 pm1 an1 cd1 ct1), sl1⟩) (c1 : PySem.W.codeIn K cd1 "is_within" = true) (k1 : PySem.W.keepIn K (.ref f1) = true)
    {f2 : Addr} {od2 an2 : Option Addr} {sl2 : Array (Option Value)} {oc2 kv2 dc2 pm2 cd2 ct2 : Value}
    (a2 : PySem.W.nsIn K mainGlobals "require_within" = some (some (.ref f2))) (l2 : K.lookup f2 = some ⟨oc2, od2, .func (PySem.W.fnOf "require_within" "require_within" (defArgs (tops 2)) (defBody (tops 2)) (defScope (tops 2)) .none kv2 dc2 pm2 an2 cd2 ct2), sl2⟩) (c2 : PySem.W.codeIn K cd2 "require_within" = true) (k2 : PySem.W.keepIn K (.ref f2) = true)
    {f3 : Addr} {od3 an3 : Option Addr} {sl3 : Array (Option Value)} {oc3 kv3 dc3 pm3 cd3 ct3 : Value}
    (a3 : PySem.W.nsIn K mainGlobals "least_divisor" = some (some (.ref f3))) (l3 : K.lookup f3 = some ⟨oc3, od3, .func (PySem.W.fnOf "least_divisor" "least_divisor" (defArgs (tops 3)) (defBody (tops 3)) (defScope (tops 3)) .none kv3 dc3 pm3 an3 cd3 ct3), sl3⟩) (c3 : PySem.W.codeIn K cd3 "least_divisor" = true) (k3 : PySem.W.keepIn K (.ref f3) = true)
    {f4 : Addr} {od4 an4 : Option Addr} {sl4 : Array (Option Value)} {oc4 kv4 dc4 pm4 cd4 ct4 : Value}
    (a4 : PySem.W.nsIn K mainGlobals "is_prime_in" = some (some (.ref f4))) (l4 : K.lookup f4 = some ⟨oc4, od4, .func (PySem.W.fnOf "is_prime_in" "is_prime_in" (defArgs (tops 4)) (defBody (tops 4)) (defScope (tops 4)) .none kv4 dc4 pm4 an4 cd4 ct4), sl4⟩) (c4 : PySem.W.codeIn K cd4 "is_prime_in" = true) (k4 : PySem.W.keepIn K (.ref f4) = true)
    {f5 : Addr} {od5 an5 : Option Addr} {sl5 : Array (Option Value)} {oc5 kv5 dc5 pm5 cd5 ct5 : Value}
    (a5 : PySem.W.nsIn K mainGlobals "parts_in" = some (some (.ref f5))) (l5 : K.lookup f5 = some ⟨oc5, od5, .func (PySem.W.fnOf "parts_in" "parts_in" (defArgs (tops 5)) (defBody (tops 5)) (defScope (tops 5)) .none kv5 dc5 pm5 an5 cd5 ct5), sl5⟩) (c5 : PySem.W.codeIn K cd5 "parts_in" = true) (k5 : PySem.W.keepIn K (.ref f5) = true)
    {f6 : Addr} {od6 an6 : Option Addr} {sl6 : Array (Option Value)} {oc6 kv6 dc6 pm6 cd6 ct6 : Value}
    (a6 : PySem.W.nsIn K mainGlobals "power_rest" = some (some (.ref f6))) (l6 : K.lookup f6 = some ⟨oc6, od6, .func (PySem.W.fnOf "power_rest" "power_rest" (defArgs (tops 6)) (defBody (tops 6)) (defScope (tops 6)) .none kv6 dc6 pm6 an6 cd6 ct6), sl6⟩) (c6 : PySem.W.codeIn K cd6 "power_rest" = true) (k6 : PySem.W.keepIn K (.ref f6) = true)
    {f7 : Addr} {od7 an7 : Option Addr} {sl7 : Array (Option Value)} {oc7 kv7 dc7 pm7 cd7 ct7 : Value}
    (a7 : PySem.W.nsIn K mainGlobals "is_maker_of" = some (some (.ref f7))) (l7 : K.lookup f7 = some ⟨oc7, od7, .func (PySem.W.fnOf "is_maker_of" "is_maker_of" (defArgs (tops 7)) (defBody (tops 7)) (defScope (tops 7)) .none kv7 dc7 pm7 an7 cd7 ct7), sl7⟩) (c7 : PySem.W.codeIn K cd7 "is_maker_of" = true) (k7 : PySem.W.keepIn K (.ref f7) = true)
    {f8 : Addr} {od8 an8 : Option Addr} {sl8 : Array (Option Value)} {oc8 kv8 dc8 pm8 cd8 ct8 : Value}
    (a8 : PySem.W.nsIn K mainGlobals "least_maker_in" = some (some (.ref f8))) (l8 : K.lookup f8 = some ⟨oc8, od8, .func (PySem.W.fnOf "least_maker_in" "least_maker_in" (defArgs (tops 8)) (defBody (tops 8)) (defScope (tops 8)) .none kv8 dc8 pm8 an8 cd8 ct8), sl8⟩) (c8 : PySem.W.codeIn K cd8 "least_maker_in" = true) (k8 : PySem.W.keepIn K (.ref f8) = true)
    {f9 : Addr} {od9 an9 : Option Addr} {sl9 : Array (Option Value)} {oc9 kv9 dc9 pm9 cd9 ct9 : Value}
    (a9 : PySem.W.nsIn K mainGlobals "prime_paper" = some (some (.ref f9))) (l9 : K.lookup f9 = some ⟨oc9, od9, .func (PySem.W.fnOf "prime_paper" "prime_paper" (defArgs (tops 9)) (defBody (tops 9)) (defScope (tops 9)) .none kv9 dc9 pm9 an9 cd9 ct9), sl9⟩) (c9 : PySem.W.codeIn K cd9 "prime_paper" = true) (k9 : PySem.W.keepIn K (.ref f9) = true)
    {f10 : Addr} {od10 an10 : Option Addr} {sl10 : Array (Option Value)} {oc10 kv10 dc10 pm10 cd10 ct10 : Value}
    (a10 : PySem.W.nsIn K mainGlobals "is_prime" = some (some (.ref f10))) (l10 : K.lookup f10 = some ⟨oc10, od10, .func (PySem.W.fnOf "is_prime" "is_prime" (defArgs (tops 10)) (defBody (tops 10)) (defScope (tops 10)) .none kv10 dc10 pm10 an10 cd10 ct10), sl10⟩) (c10 : PySem.W.codeIn K cd10 "is_prime" = true) (k10 : PySem.W.keepIn K (.ref f10) = true)
    {f11 : Addr} {od11 an11 : Option Addr} {sl11 : Array (Option Value)} {oc11 kv11 dc11 pm11 cd11 ct11 : Value}
    (a11 : PySem.W.nsIn K mainGlobals "next_prime" = some (some (.ref f11))) (l11 : K.lookup f11 = some ⟨oc11, od11, .func (PySem.W.fnOf "next_prime" "next_prime" (defArgs (tops 11)) (defBody (tops 11)) (defScope (tops 11)) .none kv11 dc11 pm11 an11 cd11 ct11), sl11⟩) (c11 : PySem.W.codeIn K cd11 "next_prime" = true) (k11 : PySem.W.keepIn K (.ref f11) = true)
    {f12 : Addr} {od12 an12 : Option Addr} {sl12 : Array (Option Value)} {oc12 kv12 dc12 pm12 cd12 ct12 : Value}
    (a12 : PySem.W.nsIn K mainGlobals "prime_answer" = some (some (.ref f12))) (l12 : K.lookup f12 = some ⟨oc12, od12, .func (PySem.W.fnOf "prime_answer" "prime_answer" (defArgs (tops 12)) (defBody (tops 12)) (defScope (tops 12)) .none kv12 dc12 pm12 an12 cd12 ct12), sl12⟩) (c12 : PySem.W.codeIn K cd12 "prime_answer" = true) (k12 : PySem.W.keepIn K (.ref f12) = true)
    {f13 : Addr} {od13 an13 : Option Addr} {sl13 : Array (Option Value)} {oc13 kv13 dc13 pm13 cd13 ct13 : Value}
    (a13 : PySem.W.nsIn K mainGlobals "_law_dice" = some (some (.ref f13))) (l13 : K.lookup f13 = some ⟨oc13, od13, .func (PySem.W.fnOf "_law_dice" "_law_dice" (defArgs (tops 13)) (defBody (tops 13)) (defScope (tops 13)) .none kv13 dc13 pm13 an13 cd13 ct13), sl13⟩) (c13 : PySem.W.codeIn K cd13 "_law_dice" = true) (k13 : PySem.W.keepIn K (.ref f13) = true)
    {f14 : Addr} {od14 an14 : Option Addr} {sl14 : Array (Option Value)} {oc14 kv14 dc14 pm14 cd14 ct14 : Value}
    (a14 : PySem.W.nsIn K mainGlobals "_law_roll" = some (some (.ref f14))) (l14 : K.lookup f14 = some ⟨oc14, od14, .func (PySem.W.fnOf "_law_roll" "_law_roll" (defArgs (tops 14)) (defBody (tops 14)) (defScope (tops 14)) .none kv14 dc14 pm14 an14 cd14 ct14), sl14⟩) (c14 : PySem.W.codeIn K cd14 "_law_roll" = true) (k14 : PySem.W.keepIn K (.ref f14) = true)
    {f15 : Addr} {od15 an15 : Option Addr} {sl15 : Array (Option Value)} {oc15 kv15 dc15 pm15 cd15 ct15 : Value}
    (a15 : PySem.W.nsIn K mainGlobals "_law_pick" = some (some (.ref f15))) (l15 : K.lookup f15 = some ⟨oc15, od15, .func (PySem.W.fnOf "_law_pick" "_law_pick" (defArgs (tops 15)) (defBody (tops 15)) (defScope (tops 15)) .none kv15 dc15 pm15 an15 cd15 ct15), sl15⟩) (c15 : PySem.W.codeIn K cd15 "_law_pick" = true) (k15 : PySem.W.keepIn K (.ref f15) = true)
    {f16 : Addr} {od16 an16 : Option Addr} {sl16 : Array (Option Value)} {oc16 kv16 dc16 pm16 cd16 ct16 : Value}
    (a16 : PySem.W.nsIn K mainGlobals "_law_pr_least" = some (some (.ref f16))) (l16 : K.lookup f16 = some ⟨oc16, od16, .func (PySem.W.fnOf "_law_pr_least" "_law_pr_least" (defArgs (tops 16)) (defBody (tops 16)) (defScope (tops 16)) .none kv16 dc16 pm16 an16 cd16 ct16), sl16⟩) (c16 : PySem.W.codeIn K cd16 "_law_pr_least" = true) (k16 : PySem.W.keepIn K (.ref f16) = true)
    {f17 : Addr} {od17 an17 : Option Addr} {sl17 : Array (Option Value)} {oc17 kv17 dc17 pm17 cd17 ct17 : Value}
    (a17 : PySem.W.nsIn K mainGlobals "_law_pr_is" = some (some (.ref f17))) (l17 : K.lookup f17 = some ⟨oc17, od17, .func (PySem.W.fnOf "_law_pr_is" "_law_pr_is" (defArgs (tops 17)) (defBody (tops 17)) (defScope (tops 17)) .none kv17 dc17 pm17 an17 cd17 ct17), sl17⟩) (c17 : PySem.W.codeIn K cd17 "_law_pr_is" = true) (k17 : PySem.W.keepIn K (.ref f17) = true)
    {f18 : Addr} {od18 an18 : Option Addr} {sl18 : Array (Option Value)} {oc18 kv18 dc18 pm18 cd18 ct18 : Value}
    (a18 : PySem.W.nsIn K mainGlobals "_law_pr_power" = some (some (.ref f18))) (l18 : K.lookup f18 = some ⟨oc18, od18, .func (PySem.W.fnOf "_law_pr_power" "_law_pr_power" (defArgs (tops 18)) (defBody (tops 18)) (defScope (tops 18)) .none kv18 dc18 pm18 an18 cd18 ct18), sl18⟩) (c18 : PySem.W.codeIn K cd18 "_law_pr_power" = true) (k18 : PySem.W.keepIn K (.ref f18) = true)
    {f19 : Addr} {od19 an19 : Option Addr} {sl19 : Array (Option Value)} {oc19 kv19 dc19 pm19 cd19 ct19 : Value}
    (a19 : PySem.W.nsIn K mainGlobals "_law_pr_times" = some (some (.ref f19))) (l19 : K.lookup f19 = some ⟨oc19, od19, .func (PySem.W.fnOf "_law_pr_times" "_law_pr_times" (defArgs (tops 19)) (defBody (tops 19)) (defScope (tops 19)) .none kv19 dc19 pm19 an19 cd19 ct19), sl19⟩) (c19 : PySem.W.codeIn K cd19 "_law_pr_times" = true) (k19 : PySem.W.keepIn K (.ref f19) = true)
    {f20 : Addr} {od20 an20 : Option Addr} {sl20 : Array (Option Value)} {oc20 kv20 dc20 pm20 cd20 ct20 : Value}
    (a20 : PySem.W.nsIn K mainGlobals "_law_pr_is_whole" = some (some (.ref f20))) (l20 : K.lookup f20 = some ⟨oc20, od20, .func (PySem.W.fnOf "_law_pr_is_whole" "_law_pr_is_whole" (defArgs (tops 20)) (defBody (tops 20)) (defScope (tops 20)) .none kv20 dc20 pm20 an20 cd20 ct20), sl20⟩) (c20 : PySem.W.codeIn K cd20 "_law_pr_is_whole" = true) (k20 : PySem.W.keepIn K (.ref f20) = true)
    {f21 : Addr} {od21 an21 : Option Addr} {sl21 : Array (Option Value)} {oc21 kv21 dc21 pm21 cd21 ct21 : Value}
    (a21 : PySem.W.nsIn K mainGlobals "_law_pr_is_row" = some (some (.ref f21))) (l21 : K.lookup f21 = some ⟨oc21, od21, .func (PySem.W.fnOf "_law_pr_is_row" "_law_pr_is_row" (defArgs (tops 21)) (defBody (tops 21)) (defScope (tops 21)) .none kv21 dc21 pm21 an21 cd21 ct21), sl21⟩) (c21 : PySem.W.codeIn K cd21 "_law_pr_is_row" = true) (k21 : PySem.W.keepIn K (.ref f21) = true)
    {f22 : Addr} {od22 an22 : Option Addr} {sl22 : Array (Option Value)} {oc22 kv22 dc22 pm22 cd22 ct22 : Value}
    (a22 : PySem.W.nsIn K mainGlobals "_law_pr_is_paper" = some (some (.ref f22))) (l22 : K.lookup f22 = some ⟨oc22, od22, .func (PySem.W.fnOf "_law_pr_is_paper" "_law_pr_is_paper" (defArgs (tops 22)) (defBody (tops 22)) (defScope (tops 22)) .none kv22 dc22 pm22 an22 cd22 ct22), sl22⟩) (c22 : PySem.W.codeIn K cd22 "_law_pr_is_paper" = true) (k22 : PySem.W.keepIn K (.ref f22) = true)
    {f23 : Addr} {od23 an23 : Option Addr} {sl23 : Array (Option Value)} {oc23 kv23 dc23 pm23 cd23 ct23 : Value}
    (a23 : PySem.W.nsIn K mainGlobals "_law_pr_drawn" = some (some (.ref f23))) (l23 : K.lookup f23 = some ⟨oc23, od23, .func (PySem.W.fnOf "_law_pr_drawn" "_law_pr_drawn" (defArgs (tops 23)) (defBody (tops 23)) (defScope (tops 23)) .none kv23 dc23 pm23 an23 cd23 ct23), sl23⟩) (c23 : PySem.W.codeIn K cd23 "_law_pr_drawn" = true) (k23 : PySem.W.keepIn K (.ref f23) = true)
    {f24 : Addr} {od24 an24 : Option Addr} {sl24 : Array (Option Value)} {oc24 kv24 dc24 pm24 cd24 ct24 : Value}
    (a24 : PySem.W.nsIn K mainGlobals "_law_right" = some (some (.ref f24))) (l24 : K.lookup f24 = some ⟨oc24, od24, .func (PySem.W.fnOf "_law_right" "_law_right" (defArgs (tops 24)) (defBody (tops 24)) (defScope (tops 24)) .none kv24 dc24 pm24 an24 cd24 ct24), sl24⟩) (c24 : PySem.W.codeIn K cd24 "_law_right" = true) (k24 : PySem.W.keepIn K (.ref f24) = true)
    {f25 : Addr} {od25 an25 : Option Addr} {sl25 : Array (Option Value)} {oc25 kv25 dc25 pm25 cd25 ct25 : Value}
    (a25 : PySem.W.nsIn K mainGlobals "_law_is_split" = some (some (.ref f25))) (l25 : K.lookup f25 = some ⟨oc25, od25, .func (PySem.W.fnOf "_law_is_split" "_law_is_split" (defArgs (tops 25)) (defBody (tops 25)) (defScope (tops 25)) .none kv25 dc25 pm25 an25 cd25 ct25), sl25⟩) (c25 : PySem.W.codeIn K cd25 "_law_is_split" = true) (k25 : PySem.W.keepIn K (.ref f25) = true)
    {f26 : Addr} {od26 an26 : Option Addr} {sl26 : Array (Option Value)} {oc26 kv26 dc26 pm26 cd26 ct26 : Value}
    (a26 : PySem.W.nsIn K mainGlobals "law" = some (some (.ref f26))) (l26 : K.lookup f26 = some ⟨oc26, od26, .func (PySem.W.fnOf "law" "law" (defArgs (tops 26)) (defBody (tops 26)) (defScope (tops 26)) .none kv26 dc26 pm26 an26 cd26 ct26), sl26⟩) (c26 : PySem.W.codeIn K cd26 "law" = true) (k26 : PySem.W.keepIn K (.ref f26) = true)
    {tk0 : Tok} (i0 : PySem.W.nsIn K mainGlobals "MOST" = some (some (.int 100000000 tk0)))
    {tk1 : Tok} (i1 : PySem.W.nsIn K mainGlobals "LEAST_PRIME" = some (some (.int 2 tk1)))
    (b0 : PySem.W.nsIn K mainGlobals "abs" = some none)
    (b1 : PySem.W.nsIn K mainGlobals "max" = some none)
    (b2 : PySem.W.nsIn K mainGlobals "min" = some none)
    (b3 : PySem.W.nsIn K mainGlobals "int" = some none)
    (b4 : PySem.W.nsIn K mainGlobals "len" = some none)
    (b5 : PySem.W.nsIn K mainGlobals "isinstance" = some none)
    (b6 : PySem.W.nsIn K mainGlobals "any" = some none)
    (b7 : PySem.W.nsIn K mainGlobals "all" = some none)
    (b8 : PySem.W.nsIn K mainGlobals "sum" = some none)
    (b9 : PySem.W.nsIn K mainGlobals "tuple" = some none)
    (b10 : PySem.W.nsIn K mainGlobals "list" = some none)
    (b11 : PySem.W.nsIn K mainGlobals "bool" = some none)
    (b12 : PySem.W.nsIn K mainGlobals "str" = some none)
    (b13 : PySem.W.nsIn K mainGlobals "dict" = some none)
    (b14 : PySem.W.nsIn K mainGlobals "range" = some none)
    (b15 : PySem.W.nsIn K mainGlobals "enumerate" = some none)
    (b16 : PySem.W.nsIn K mainGlobals "zip" = some none)
    (b17 : PySem.W.nsIn K mainGlobals "sorted" = some none)
    (b18 : PySem.W.nsIn K mainGlobals "repr" = some none)
    (b19 : PySem.W.nsIn K mainGlobals "reversed" = some none)
    {C0 : Addr}
    (x0 : ClsFacts prog K mg C0 ⟨"InvalidNumber", .index, some "given"⟩)
    : Txt tb lmN (⟨[], faN f0 f1 f2 f3 f4 f5 f6 f7 f8 f9 f10 f11 f12 f13 f14 f15 f16 f17 f18 f19 f20 f21 f22 f23 f24 f25 f26, clN C0, flN, okN⟩ : Wd) [] prog K mg tops where
  dn := fun f fd e => match f, e with
    | 0, e => by cases e; exact ⟨t_is_whole, _, _, dn_mk2 X G a0 l0 c0 k0 (fun us hl => match us, hl with | [_], _ => rfl), rfl, (fun z => nomatch z)⟩
    | 1, e => by cases e; exact ⟨t_is_within, _, _, dn_mk2 X G a1 l1 c1 k1 (fun us hl => match us, hl with | [_, _, _], _ => rfl), rfl, (fun z => nomatch z)⟩
    | 2, e => by cases e; exact ⟨t_require_within, _, _, dn_mk2 X G a2 l2 c2 k2 (fun us hl => match us, hl with | [_, _, _], _ => rfl), rfl, (fun z => nomatch z)⟩
    | 3, e => by cases e; exact ⟨t_least_divisor, _, _, dn_mk2 X G a3 l3 c3 k3 (fun us hl => match us, hl with | [_], _ => rfl), rfl, (fun z => nomatch z)⟩
    | 4, e => by cases e; exact ⟨t_is_prime_in, _, _, dn_mk2 X G a4 l4 c4 k4 (fun us hl => match us, hl with | [_], _ => rfl), rfl, (fun z => nomatch z)⟩
    | 5, e => by cases e; exact ⟨t_parts_in, _, _, dn_mk2 X G a5 l5 c5 k5 (fun us hl => match us, hl with | [_], _ => rfl), rfl, (fun z => nomatch z)⟩
    | 6, e => by cases e; exact ⟨t_power_rest, _, _, dn_mk2 X G a6 l6 c6 k6 (fun us hl => match us, hl with | [_, _, _], _ => rfl), rfl, (fun z => nomatch z)⟩
    | 7, e => by cases e; exact ⟨t_is_maker_of, _, _, dn_mk2 X G a7 l7 c7 k7 (fun us hl => match us, hl with | [_, _, _], _ => rfl), rfl, (fun z => nomatch z)⟩
    | 8, e => by cases e; exact ⟨t_least_maker_in, _, _, dn_mk2 X G a8 l8 c8 k8 (fun us hl => match us, hl with | [_], _ => rfl), rfl, (fun z => nomatch z)⟩
    | 9, e => by cases e; exact ⟨t_prime_paper, _, _, dn_mk2 X G a9 l9 c9 k9 (fun us hl => match us, hl with | [_], _ => rfl), rfl, (fun z => nomatch z)⟩
    | 10, e => by cases e; exact ⟨t_is_prime, _, _, dn_mk2 X G a10 l10 c10 k10 (fun us hl => match us, hl with | [_], _ => rfl), rfl, (fun z => nomatch z)⟩
    | 11, e => by cases e; exact ⟨t_next_prime, _, _, dn_mk2 X G a11 l11 c11 k11 (fun us hl => match us, hl with | [_], _ => rfl), rfl, (fun z => nomatch z)⟩
    | 12, e => by cases e; exact ⟨t_prime_answer, _, _, dn_mk2 X G a12 l12 c12 k12 (fun us hl => match us, hl with | [_], _ => rfl), rfl, (fun z => nomatch z)⟩
    | 13, e => by cases e; exact ⟨t_law_dice, _, _, dn_mk2 X G a13 l13 c13 k13 (fun us hl => match us, hl with | [_, _], _ => rfl), rfl, (fun z => nomatch z)⟩
    | 14, e => by cases e; exact ⟨t_law_roll, _, _, dn_mk2 X G a14 l14 c14 k14 (fun us hl => match us, hl with | [_, _], _ => rfl), rfl, (fun z => nomatch z)⟩
    | 15, e => by cases e; exact ⟨t_law_pick, _, _, dn_mk2 X G a15 l15 c15 k15 (fun us hl => match us, hl with | [_, _], _ => rfl), rfl, (fun z => nomatch z)⟩
    | 16, e => by cases e; exact ⟨t_law_pr_least, _, _, dn_mk2 X G a16 l16 c16 k16 (fun us hl => match us, hl with | [_], _ => rfl), rfl, (fun z => nomatch z)⟩
    | 17, e => by cases e; exact ⟨t_law_pr_is, _, _, dn_mk2 X G a17 l17 c17 k17 (fun us hl => match us, hl with | [_], _ => rfl), rfl, (fun z => nomatch z)⟩
    | 18, e => by cases e; exact ⟨t_law_pr_power, _, _, dn_mk2 X G a18 l18 c18 k18 (fun us hl => match us, hl with | [_, _, _], _ => rfl), rfl, (fun z => nomatch z)⟩
    | 19, e => by cases e; exact ⟨t_law_pr_times, _, _, dn_mk2 X G a19 l19 c19 k19 (fun us hl => match us, hl with | [_, _], _ => rfl), rfl, (fun z => nomatch z)⟩
    | 20, e => by cases e; exact ⟨t_law_pr_is_whole, _, _, dn_mk2 X G a20 l20 c20 k20 (fun us hl => match us, hl with | [_], _ => rfl), rfl, (fun z => nomatch z)⟩
    | 21, e => by cases e; exact ⟨t_law_pr_is_row, _, _, dn_mk2 X G a21 l21 c21 k21 (fun us hl => match us, hl with | [_, _], _ => rfl), rfl, (fun z => nomatch z)⟩
    | 22, e => by cases e; exact ⟨t_law_pr_is_paper, _, _, dn_mk2 X G a22 l22 c22 k22 (fun us hl => match us, hl with | [_, _], _ => rfl), rfl, (fun z => nomatch z)⟩
    | 23, e => by cases e; exact ⟨t_law_pr_drawn, _, _, dn_mk2 X G a23 l23 c23 k23 (fun us hl => match us, hl with | [_], _ => rfl), rfl, (fun z => nomatch z)⟩
    | 24, e => by cases e; exact ⟨t_law_right, _, _, dn_mk2 X G a24 l24 c24 k24 (fun us hl => match us, hl with | [_], _ => rfl), rfl, (fun z => nomatch z)⟩
    | 25, e => by cases e; exact ⟨t_law_is_split, _, _, dn_mk2 X G a25 l25 c25 k25 (fun us hl => match us, hl with | [_, _], _ => rfl), rfl, (fun z => nomatch z)⟩
    | 26, e => by cases e; exact ⟨t_law, _, _, dn_mk2 X G a26 l26 c26 k26 (fun us hl => match us, hl with | [_], _ => rfl), rfl, (fun z => nomatch z)⟩
    | m + 27, e => by cases e
  consts := fun x i hm => by
    simp only [tb, List.mem_cons, List.not_mem_nil, or_false, Prod.mk.injEq, false_and] at hm
    rcases hm with ⟨rfl, rfl⟩ | ⟨rfl, rfl⟩
    · exact const_int (PySem.W.mg_of X G i0)
    · exact const_int (PySem.W.mg_of X G i1)
  blt := fun x hx => by
    simp only [bltL, List.mem_cons, List.not_mem_nil, or_false] at hx
    rcases hx with rfl | rfl | rfl | rfl | rfl | rfl | rfl | rfl | rfl | rfl | rfl | rfl | rfl | rfl | rfl | rfl | rfl | rfl | rfl | rfl
    · exact PySem.W.mg_none_of X G b0
    · exact PySem.W.mg_none_of X G b1
    · exact PySem.W.mg_none_of X G b2
    · exact PySem.W.mg_none_of X G b3
    · exact PySem.W.mg_none_of X G b4
    · exact PySem.W.mg_none_of X G b5
    · exact PySem.W.mg_none_of X G b6
    · exact PySem.W.mg_none_of X G b7
    · exact PySem.W.mg_none_of X G b8
    · exact PySem.W.mg_none_of X G b9
    · exact PySem.W.mg_none_of X G b10
    · exact PySem.W.mg_none_of X G b11
    · exact PySem.W.mg_none_of X G b12
    · exact PySem.W.mg_none_of X G b13
    · exact PySem.W.mg_none_of X G b14
    · exact PySem.W.mg_none_of X G b15
    · exact PySem.W.mg_none_of X G b16
    · exact PySem.W.mg_none_of X G b17
    · exact PySem.W.mg_none_of X G b18
    · exact PySem.W.mg_none_of X G b19
  gcd := fun e => by cases e
  cls := fun k cd e => match k, e with
    | 0, e => by cases e; exact ⟨x0, fun f z => by cases z; try rfl, rfl⟩
    | m + 1, e => by cases e
  mets := fun n nm md e => match n, e with
    | m + 0, e => by cases e
  fa := fun f a e => match f, e with
    | 0, _ => ⟨_, rfl⟩
    | 1, _ => ⟨_, rfl⟩
    | 2, _ => ⟨_, rfl⟩
    | 3, _ => ⟨_, rfl⟩
    | 4, _ => ⟨_, rfl⟩
    | 5, _ => ⟨_, rfl⟩
    | 6, _ => ⟨_, rfl⟩
    | 7, _ => ⟨_, rfl⟩
    | 8, _ => ⟨_, rfl⟩
    | 9, _ => ⟨_, rfl⟩
    | 10, _ => ⟨_, rfl⟩
    | 11, _ => ⟨_, rfl⟩
    | 12, _ => ⟨_, rfl⟩
    | 13, _ => ⟨_, rfl⟩
    | 14, _ => ⟨_, rfl⟩
    | 15, _ => ⟨_, rfl⟩
    | 16, _ => ⟨_, rfl⟩
    | 17, _ => ⟨_, rfl⟩
    | 18, _ => ⟨_, rfl⟩
    | 19, _ => ⟨_, rfl⟩
    | 20, _ => ⟨_, rfl⟩
    | 21, _ => ⟨_, rfl⟩
    | 22, _ => ⟨_, rfl⟩
    | 23, _ => ⟨_, rfl⟩
    | 24, _ => ⟨_, rfl⟩
    | 25, _ => ⟨_, rfl⟩
    | 26, _ => ⟨_, rfl⟩
    | m + 27, e => nomatch e
end K04
set_option Elab.async false
set_option linter.all false
set_option maxRecDepth 100000
set_option maxHeartbeats 2000000
/-! MP: primes: least_divisor, is_prime_in, parts_in, power_rest, units_in, for any law -/
namespace MP
open PySem
def least_divisor_c1 : C := (C.cmp .le (C.bin .mul (C.var 1) (C.var 1)) (C.var 0))
def least_divisor_b1 : Ss := (Ss.cons (S.ife (C.cmp .eq (C.bin .mod (C.var 0) (C.var 1)) (C.cst (D.int 0))) (Ss.cons (S.ret (C.var 1)) Ss.nil) Ss.nil) (Ss.cons (S.aug 1 .add (C.cst (D.int 1))) Ss.nil))
def F_least_divisor : Fd := ⟨"least_divisor", 1, ["number", "divisor"], (Ss.cons (S.asg (Tg.nm 1) (C.glb "LEAST_PRIME" (D.int 2))) (Ss.cons (S.whl least_divisor_c1 least_divisor_b1) (Ss.cons (S.ret (C.var 0)) Ss.nil)))⟩
def F_is_prime_in (i_least_divisor : Nat) : Fd := ⟨"is_prime_in", 1, ["number"], (Ss.cons (S.ret (C.boo true (Cs.cons (C.cmp .ge (C.var 0) (C.glb "LEAST_PRIME" (D.int 2))) (Cs.cons (C.cmp .eq (C.call i_least_divisor [false] (Cs.cons (C.var 0) Cs.nil)) (C.var 0)) Cs.nil)))) Ss.nil)⟩
def parts_in_c2 : C := (C.cmp .eq (C.bin .mod (C.var 2) (C.var 3)) (C.cst (D.int 0)))
def parts_in_b2 : Ss := (Ss.cons (S.par [2, 4] (Cs.cons (C.bin .fdiv (C.var 2) (C.var 3)) (Cs.cons (C.bin .add (C.var 4) (C.cst (D.int 1))) Cs.nil))) Ss.nil)
def parts_in_c1 : C := (C.cmp .le (C.bin .mul (C.var 3) (C.var 3)) (C.var 2))
def parts_in_b1 : Ss := (Ss.cons (S.asg (Tg.nm 4) (C.cst (D.int 0))) (Ss.cons (S.whl parts_in_c2 parts_in_b2) (Ss.cons (S.ife (C.cmp .gt (C.var 4) (C.cst (D.int 0))) (Ss.cons (S.app 1 (C.tup (Cs.cons (C.var 3) (Cs.cons (C.var 4) Cs.nil)))) Ss.nil) Ss.nil) (Ss.cons (S.aug 3 .add (C.cst (D.int 1))) Ss.nil))))
def F_parts_in : Fd := ⟨"parts_in", 1, ["number", "found", "left", "divisor", "many"], (Ss.cons (S.par [1, 2, 3] (Cs.cons (C.lst Cs.nil) (Cs.cons (C.var 0) (Cs.cons (C.glb "LEAST_PRIME" (D.int 2)) Cs.nil)))) (Ss.cons (S.whl parts_in_c1 parts_in_b1) (Ss.cons (S.ife (C.cmp .gt (C.var 2) (C.cst (D.int 1))) (Ss.cons (S.app 1 (C.tup (Cs.cons (C.var 2) (Cs.cons (C.cst (D.int 1)) Cs.nil)))) Ss.nil) Ss.nil) (Ss.cons (S.ret (C.var 1)) Ss.nil))))⟩
def power_rest_c1 : C := (C.cmp .gt (C.var 5) (C.cst (D.int 0)))
def power_rest_b1 : Ss := (Ss.cons (S.ife (C.cmp .eq (C.bin .mod (C.var 5) (C.cst (D.int 2))) (C.cst (D.int 1))) (Ss.cons (S.asg (Tg.nm 3) (C.bin .mod (C.bin .mul (C.var 3) (C.var 4)) (C.var 2))) Ss.nil) Ss.nil) (Ss.cons (S.par [4, 5] (Cs.cons (C.bin .mod (C.bin .mul (C.var 4) (C.var 4)) (C.var 2)) (Cs.cons (C.bin .fdiv (C.var 5) (C.cst (D.int 2))) Cs.nil))) Ss.nil))
def F_power_rest : Fd := ⟨"power_rest", 3, ["base", "exponent", "modulus", "found", "here", "left"], (Ss.cons (S.par [3, 4, 5] (Cs.cons (C.bin .mod (C.cst (D.int 1)) (C.var 2)) (Cs.cons (C.bin .mod (C.var 0) (C.var 2)) (Cs.cons (C.var 1) Cs.nil)))) (Ss.cons (S.whl power_rest_c1 power_rest_b1) (Ss.cons (S.ret (C.var 3)) Ss.nil)))⟩
def units_in_b2 : Ss := (Ss.cons (S.asg (Tg.nm 1) (C.bin .mul (C.var 1) (C.var 2))) Ss.nil)
def units_in_b1 : Ss := (Ss.cons (S.asg (Tg.nm 1) (C.bin .mul (C.var 1) (C.bin .sub (C.var 2) (C.cst (D.int 1))))) (Ss.cons (S.for_ (Tg.nm 4) (I.rng1 (C.bin .sub (C.var 3) (C.cst (D.int 1)))) units_in_b2) Ss.nil))
def F_units_in (i_parts_in : Nat) : Fd := ⟨"units_in", 1, ["number", "found", "part", "many", "turn"], (Ss.cons (S.asg (Tg.nm 1) (C.cst (D.int 1))) (Ss.cons (S.for_ (Tg.tp (Tgs.cons (Tg.nm 2) (Tgs.cons (Tg.nm 3) Tgs.nil))) (I.seq (C.call i_parts_in [false] (Cs.cons (C.var 0) Cs.nil))) units_in_b1) (Ss.cons (S.ret (C.var 1)) Ss.nil)))⟩
theorem fmodN (a b : Nat) : (a : Int).fmod (b : Int) = ((a % b : Nat) : Int) := by rw [Int.fmod_eq_emod_of_nonneg _ (by omega)]; exact (Int.natCast_emod a b).symm
theorem fdivN (a b : Nat) : (a : Int).fdiv (b : Int) = ((a / b : Nat) : Int) := by rw [Int.fdiv_eq_ediv_of_nonneg _ (by omega)]; exact (Int.natCast_ediv a b).symm
theorem bitsN {a : Nat} (h : a < 2 ^ 63) : bits (a : Int) < 64 := bits_small (by rw [Int.natAbs_natCast]; omega) (by omega)
/-! ### primes -/
def Prm (p : Nat) : Prop := 2 ≤ p ∧ ∀ e, 2 ≤ e → e < p → ¬ e ∣ p
structure LD (n r : Nat) : Prop where
  ge : 2 ≤ r
  dvd : r ∣ n
  least : ∀ e, 2 ≤ e → e < r → ¬ e ∣ n
theorem no_small {n d : Nat} (hn : 2 ≤ n) (hd : 2 ≤ d) (h : ∀ e, 2 ≤ e → e < d → ¬ e ∣ n) (hq : n < d * d) : ∀ e, 2 ≤ e → e < n → ¬ e ∣ n := fun e h1 h2 ⟨q, hq2⟩ => by
  by_cases he : e < d
  · exact h e h1 he ⟨q, hq2⟩
  · have q1 : q < d := by
      apply Classical.byContradiction
      intro z
      have := Nat.mul_le_mul (show d ≤ e by omega) (show d ≤ q by omega)
      omega
    have q2 : 2 ≤ q := by
      apply Classical.byContradiction
      intro z
      have : q = 0 ∨ q = 1 := by omega
      rcases this with rfl | rfl
      · omega
      · omega
    exact h q q2 q1 ⟨e, by rw [hq2, Nat.mul_comm]⟩
theorem LD.prm {n r : Nat} (h : LD n r) : Prm r := ⟨h.ge, fun e h1 h2 h3 => h.least e h1 h2 (Nat.dvd_trans h3 h.dvd)⟩
theorem ld_loop (call : Nat → List Slot → Out) (t : Bool) {n : Nat} (hn : n < 2 ^ 60) : ∀ (m d : Nat), n + 1 - d = m → 2 ≤ d → d ≤ n → (∀ e, 2 ≤ e → e < d → ¬ e ∣ n) →
    ∃ (r : Nat) (d' : Nat), LD n r ∧ (whlM (evT call least_divisor_c1) (fun ρ => MP.execs call least_divisor_b1 ρ) [.val t (.int n), .val false (.int d)] = some (.ok (.ret (.dat (.int r))), [.val t (.int n), .val false (.int d')]) ∨
      (r = n ∧ whlM (evT call least_divisor_c1) (fun ρ => MP.execs call least_divisor_b1 ρ) [.val t (.int n), .val false (.int d)] = some (.ok .nxt, [.val t (.int n), .val false (.int d')]))) := by
  intro m
  induction m with
  | zero => intro d h1 h2 h3; omega
  | succ m ih =>
    intro d h1 h2 h3 h4
    have b1 := bitsN (a := d) (by omega)
    have b2 : bits (d : Int) + bits (d : Int) < 1000000 := by omega
    have hd0 : d ≠ 0 := by omega
    by_cases hq : d * d ≤ n
    · have hqi : (d : Int) * (d : Int) ≤ (n : Int) := by exact_mod_cast hq
      by_cases hm : n % d = 0
      · refine ⟨d, d, ⟨h2, Nat.dvd_of_mod_eq_zero hm, h4⟩, Or.inl ?_⟩
        exact whl_ret (ρ1 := [.val t (.int n), .val false (.int d)]) (by simp [least_divisor_c1, runF, MP.execs, ev_cst, ev_glb, ev_var, ev_tup, ev_lst, ev_dis0, ev_dis1, ev_bin, ev_neg, ev_boo, ev_not, ev_cmp, ev_chn, ev_chn3, ev_ite, ev_idx, ev_slc, ev_call, ev_blt, ev_isi, ev_lstI, x_par, x_aug, x_seti, x_app, x_expr, x_ife, x_ret, x_retN, x_pas, x_brk, x_cnt, x_rse0, x_rse1, ev_fnv, ev_callL, ev_met, ev_disO, ev_dget, ev_din, ev_dget2, x_dset, dgetD, dinD, dget2D, isDicM, dsetD, sortedD, min1D, ev_pop, ev_ext, popD, extD, metR, pickH, tells, Pt.tell, showD, x_nm, x_tp, backs_f1, backs_d1, backs_d2, backs_d3, backs_d4, backs_d5, backs_d6, backs_nil, evB, evIf, evO, evAs, evDs, evI, evT, evRs, bnd, ok, op1, op2, view, views, tru, frzM, frz, keepA, unslot, slotOf, putA, putAs, putD, nxtO, augD, setiD, appD, retA, asgT, asgTs, blts, liftO, bltD, absD, maxD, minD, int1D, lenD, gcdD, isiD, blsD, intsD, anyD, allD, sumD, tupleD, listD, strD, reprD, keyB, binD, cmpO, cmpD, datB, negD, idxD, getD, ixD, slcD, tyD, D.isFn, D.truth, shp_non, shp_bl, shp_int, shp_str, shp_tup, shp_lst, shps_nil, shps_cons, D.eqv, D.eqvs, itemsD, rngD, zipO, enumO, intO, isND, doCall, lends, lendA, lentIx, backs, backS, maskS, mask1, b2, hqi]) (by simp [least_divisor_b1, runF, MP.execs, ev_cst, ev_glb, ev_var, ev_tup, ev_lst, ev_dis0, ev_dis1, ev_bin, ev_neg, ev_boo, ev_not, ev_cmp, ev_chn, ev_chn3, ev_ite, ev_idx, ev_slc, ev_call, ev_blt, ev_isi, ev_lstI, x_par, x_aug, x_seti, x_app, x_expr, x_ife, x_ret, x_retN, x_pas, x_brk, x_cnt, x_rse0, x_rse1, ev_fnv, ev_callL, ev_met, ev_disO, ev_dget, ev_din, ev_dget2, x_dset, dgetD, dinD, dget2D, isDicM, dsetD, sortedD, min1D, ev_pop, ev_ext, popD, extD, metR, pickH, tells, Pt.tell, showD, x_nm, x_tp, backs_f1, backs_d1, backs_d2, backs_d3, backs_d4, backs_d5, backs_d6, backs_nil, evB, evIf, evO, evAs, evDs, evI, evT, evRs, bnd, ok, op1, op2, view, views, tru, frzM, frz, keepA, unslot, slotOf, putA, putAs, putD, nxtO, augD, setiD, appD, retA, asgT, asgTs, blts, liftO, bltD, absD, maxD, minD, int1D, lenD, gcdD, isiD, blsD, intsD, anyD, allD, sumD, tupleD, listD, strD, reprD, keyB, binD, cmpO, cmpD, datB, negD, idxD, getD, ixD, slcD, tyD, D.isFn, D.truth, shp_non, shp_bl, shp_int, shp_str, shp_tup, shp_lst, shps_nil, shps_cons, D.eqv, D.eqvs, itemsD, rngD, zipO, enumO, intO, isND, doCall, lends, lendA, lentIx, backs, backS, maskS, mask1, fmodN, hm, hd0])
      · have hm2 : ¬ ((n % d : Nat) : Int) = 0 := by omega
        have hdd : d < n := by
          have := Nat.mul_le_mul_right d h2
          omega
        obtain ⟨r, d', hr, ho⟩ := ih (d + 1) (by omega) (by omega) (by omega) (fun e e1 e2 e3 => by
          by_cases he : e < d
          · exact h4 e e1 he e3
          · have : e = d := by omega
            subst this
            exact hm (Nat.mod_eq_zero_of_dvd e3))
        refine ⟨r, d', hr, ?_⟩
        have hc : evT call least_divisor_c1 [.val t (.int n), .val false (.int d)] = some (.ok true, [.val t (.int n), .val false (.int d)]) := by simp [least_divisor_c1, runF, MP.execs, ev_cst, ev_glb, ev_var, ev_tup, ev_lst, ev_dis0, ev_dis1, ev_bin, ev_neg, ev_boo, ev_not, ev_cmp, ev_chn, ev_chn3, ev_ite, ev_idx, ev_slc, ev_call, ev_blt, ev_isi, ev_lstI, x_par, x_aug, x_seti, x_app, x_expr, x_ife, x_ret, x_retN, x_pas, x_brk, x_cnt, x_rse0, x_rse1, ev_fnv, ev_callL, ev_met, ev_disO, ev_dget, ev_din, ev_dget2, x_dset, dgetD, dinD, dget2D, isDicM, dsetD, sortedD, min1D, ev_pop, ev_ext, popD, extD, metR, pickH, tells, Pt.tell, showD, x_nm, x_tp, backs_f1, backs_d1, backs_d2, backs_d3, backs_d4, backs_d5, backs_d6, backs_nil, evB, evIf, evO, evAs, evDs, evI, evT, evRs, bnd, ok, op1, op2, view, views, tru, frzM, frz, keepA, unslot, slotOf, putA, putAs, putD, nxtO, augD, setiD, appD, retA, asgT, asgTs, blts, liftO, bltD, absD, maxD, minD, int1D, lenD, gcdD, isiD, blsD, intsD, anyD, allD, sumD, tupleD, listD, strD, reprD, keyB, binD, cmpO, cmpD, datB, negD, idxD, getD, ixD, slcD, tyD, D.isFn, D.truth, shp_non, shp_bl, shp_int, shp_str, shp_tup, shp_lst, shps_nil, shps_cons, D.eqv, D.eqvs, itemsD, rngD, zipO, enumO, intO, isND, doCall, lends, lendA, lentIx, backs, backS, maskS, mask1, b2, hqi]
        generalize hR : ((n % d : Nat) : Int) = R at *
        have hb : MP.execs call least_divisor_b1 [.val t (.int n), .val false (.int d)] = some (.ok .nxt, [.val t (.int n), .val false (.int (d + 1 : Nat))]) := by simp [least_divisor_b1, runF, MP.execs, ev_cst, ev_glb, ev_var, ev_tup, ev_lst, ev_dis0, ev_dis1, ev_bin, ev_neg, ev_boo, ev_not, ev_cmp, ev_chn, ev_chn3, ev_ite, ev_idx, ev_slc, ev_call, ev_blt, ev_isi, ev_lstI, x_par, x_aug, x_seti, x_app, x_expr, x_ife, x_ret, x_retN, x_pas, x_brk, x_cnt, x_rse0, x_rse1, ev_fnv, ev_callL, ev_met, ev_disO, ev_dget, ev_din, ev_dget2, x_dset, dgetD, dinD, dget2D, isDicM, dsetD, sortedD, min1D, ev_pop, ev_ext, popD, extD, metR, pickH, tells, Pt.tell, showD, x_nm, x_tp, backs_f1, backs_d1, backs_d2, backs_d3, backs_d4, backs_d5, backs_d6, backs_nil, evB, evIf, evO, evAs, evDs, evI, evT, evRs, bnd, ok, op1, op2, view, views, tru, frzM, frz, keepA, unslot, slotOf, putA, putAs, putD, nxtO, augD, setiD, appD, retA, asgT, asgTs, blts, liftO, bltD, absD, maxD, minD, int1D, lenD, gcdD, isiD, blsD, intsD, anyD, allD, sumD, tupleD, listD, strD, reprD, keyB, binD, cmpO, cmpD, datB, negD, idxD, getD, ixD, slcD, tyD, D.isFn, D.truth, shp_non, shp_bl, shp_int, shp_str, shp_tup, shp_lst, shps_nil, shps_cons, D.eqv, D.eqvs, itemsD, rngD, zipO, enumO, intO, isND, doCall, lends, lendA, lentIx, backs, backS, maskS, mask1, fmodN, hR, hm2, hd0]
        rcases ho with ho | ⟨rfl, ho⟩
        · exact Or.inl (whl_turn hc hb ho)
        · exact Or.inr ⟨rfl, whl_turn hc hb ho⟩
    · have hqi : ¬ (d : Int) * (d : Int) ≤ (n : Int) := by
        intro z
        exact hq (by exact_mod_cast z)
      refine ⟨n, d, ⟨by omega, Nat.dvd_refl n, no_small (by omega) h2 h4 (by omega)⟩, Or.inr ⟨rfl, ?_⟩⟩
      exact whl_stop (ρ1 := [.val t (.int n), .val false (.int d)]) (by simp [least_divisor_c1, runF, MP.execs, ev_cst, ev_glb, ev_var, ev_tup, ev_lst, ev_dis0, ev_dis1, ev_bin, ev_neg, ev_boo, ev_not, ev_cmp, ev_chn, ev_chn3, ev_ite, ev_idx, ev_slc, ev_call, ev_blt, ev_isi, ev_lstI, x_par, x_aug, x_seti, x_app, x_expr, x_ife, x_ret, x_retN, x_pas, x_brk, x_cnt, x_rse0, x_rse1, ev_fnv, ev_callL, ev_met, ev_disO, ev_dget, ev_din, ev_dget2, x_dset, dgetD, dinD, dget2D, isDicM, dsetD, sortedD, min1D, ev_pop, ev_ext, popD, extD, metR, pickH, tells, Pt.tell, showD, x_nm, x_tp, backs_f1, backs_d1, backs_d2, backs_d3, backs_d4, backs_d5, backs_d6, backs_nil, evB, evIf, evO, evAs, evDs, evI, evT, evRs, bnd, ok, op1, op2, view, views, tru, frzM, frz, keepA, unslot, slotOf, putA, putAs, putD, nxtO, augD, setiD, appD, retA, asgT, asgTs, blts, liftO, bltD, absD, maxD, minD, int1D, lenD, gcdD, isiD, blsD, intsD, anyD, allD, sumD, tupleD, listD, strD, reprD, keyB, binD, cmpO, cmpD, datB, negD, idxD, getD, ixD, slcD, tyD, D.isFn, D.truth, shp_non, shp_bl, shp_int, shp_str, shp_tup, shp_lst, shps_nil, shps_cons, D.eqv, D.eqvs, itemsD, rngD, zipO, enumO, intO, isND, doCall, lends, lendA, lentIx, backs, backS, maskS, mask1, b2, hqi])
theorem run_ld {P : Nat → Option Fd} {i : Nat} (hP : P i = some F_least_divisor) (m : Nat) (t : Bool) {n : Nat} (h2 : 2 ≤ n) (hn : n < 2 ^ 60) : ∃ r : Nat, LD n r ∧ callN P (m + 1) i [.val t (.int n)] = some (.ok (.dat (.int r)), [.non]) := by
  obtain ⟨r, d', hr, ho⟩ := ld_loop (callN P m) t hn _ 2 rfl (by omega) (by omega) (fun e h1 h2 => by omega)
  refine ⟨r, hr, ?_⟩
  rcases ho with ho | ⟨rfl, ho⟩
  · have hw : MP.exec (callN P m) (S.whl least_divisor_c1 least_divisor_b1) [.val t (.int n), .val false (.int 2)] = some (.ok (.ret (.dat (.int r))), [.val t (.int n), .val false (.int d')]) := by rw [x_whl]; exact ho
    rw [callN, hP]
    simp [F_least_divisor, runF, MP.execs, ev_cst, ev_glb, ev_var, ev_tup, ev_lst, ev_dis0, ev_dis1, ev_bin, ev_neg, ev_boo, ev_not, ev_cmp, ev_chn, ev_chn3, ev_ite, ev_idx, ev_slc, ev_call, ev_blt, ev_isi, ev_lstI, x_par, x_aug, x_seti, x_app, x_expr, x_ife, x_ret, x_retN, x_pas, x_brk, x_cnt, x_rse0, x_rse1, ev_fnv, ev_callL, ev_met, ev_disO, ev_dget, ev_din, ev_dget2, x_dset, dgetD, dinD, dget2D, isDicM, dsetD, sortedD, min1D, ev_pop, ev_ext, popD, extD, metR, pickH, tells, Pt.tell, showD, x_nm, x_tp, backs_f1, backs_d1, backs_d2, backs_d3, backs_d4, backs_d5, backs_d6, backs_nil, evB, evIf, evO, evAs, evDs, evI, evT, evRs, bnd, ok, op1, op2, view, views, tru, frzM, frz, keepA, unslot, slotOf, putA, putAs, putD, nxtO, augD, setiD, appD, retA, asgT, asgTs, blts, liftO, bltD, absD, maxD, minD, int1D, lenD, gcdD, isiD, blsD, intsD, anyD, allD, sumD, tupleD, listD, strD, reprD, keyB, binD, cmpO, cmpD, datB, negD, idxD, getD, ixD, slcD, tyD, D.isFn, D.truth, shp_non, shp_bl, shp_int, shp_str, shp_tup, shp_lst, shps_nil, shps_cons, D.eqv, D.eqvs, itemsD, rngD, zipO, enumO, intO, isND, doCall, lends, lendA, lentIx, backs, backS, maskS, mask1, hw]
  · have hw : MP.exec (callN P m) (S.whl least_divisor_c1 least_divisor_b1) [.val t (.int r), .val false (.int 2)] = some (.ok .nxt, [.val t (.int r), .val false (.int d')]) := by rw [x_whl]; exact ho
    rw [callN, hP]
    simp [F_least_divisor, runF, MP.execs, ev_cst, ev_glb, ev_var, ev_tup, ev_lst, ev_dis0, ev_dis1, ev_bin, ev_neg, ev_boo, ev_not, ev_cmp, ev_chn, ev_chn3, ev_ite, ev_idx, ev_slc, ev_call, ev_blt, ev_isi, ev_lstI, x_par, x_aug, x_seti, x_app, x_expr, x_ife, x_ret, x_retN, x_pas, x_brk, x_cnt, x_rse0, x_rse1, ev_fnv, ev_callL, ev_met, ev_disO, ev_dget, ev_din, ev_dget2, x_dset, dgetD, dinD, dget2D, isDicM, dsetD, sortedD, min1D, ev_pop, ev_ext, popD, extD, metR, pickH, tells, Pt.tell, showD, x_nm, x_tp, backs_f1, backs_d1, backs_d2, backs_d3, backs_d4, backs_d5, backs_d6, backs_nil, evB, evIf, evO, evAs, evDs, evI, evT, evRs, bnd, ok, op1, op2, view, views, tru, frzM, frz, keepA, unslot, slotOf, putA, putAs, putD, nxtO, augD, setiD, appD, retA, asgT, asgTs, blts, liftO, bltD, absD, maxD, minD, int1D, lenD, gcdD, isiD, blsD, intsD, anyD, allD, sumD, tupleD, listD, strD, reprD, keyB, binD, cmpO, cmpD, datB, negD, idxD, getD, ixD, slcD, tyD, D.isFn, D.truth, shp_non, shp_bl, shp_int, shp_str, shp_tup, shp_lst, shps_nil, shps_cons, D.eqv, D.eqvs, itemsD, rngD, zipO, enumO, intO, isND, doCall, lends, lendA, lentIx, backs, backS, maskS, mask1, hw]
theorem run_ip {P : Nat → Option Fd} {i j : Nat} (hP : P i = some (F_is_prime_in j)) (hJ : P j = some F_least_divisor) (m : Nat) (t : Bool) {n : Nat} (hn : n < 2 ^ 60) : ∃ b : Bool, (b = true ↔ Prm n) ∧ callN P (m + 2) i [.val t (.int n)] = some (.ok (.dat (.bl b)), [.non]) := by
  by_cases h2 : 2 ≤ n
  · obtain ⟨r, hr, e⟩ := run_ld hJ m false h2 hn
    have h2i : (2 : Int) ≤ (n : Int) := by omega
    refine ⟨decide (r = n), ?_, ?_⟩
    · rw [decide_eq_true_eq]
      refine ⟨fun h => h ▸ hr.prm, fun h => ?_⟩
      apply Classical.byContradiction
      intro z
      have := Nat.le_of_dvd (by omega) hr.dvd
      exact h.2 r hr.ge (by omega) hr.dvd
    · rw [callN, hP]
      by_cases hrn : r = n
      · subst hrn
        simp [F_is_prime_in, runF, MP.execs, ev_cst, ev_glb, ev_var, ev_tup, ev_lst, ev_dis0, ev_dis1, ev_bin, ev_neg, ev_boo, ev_not, ev_cmp, ev_chn, ev_chn3, ev_ite, ev_idx, ev_slc, ev_call, ev_blt, ev_isi, ev_lstI, x_par, x_aug, x_seti, x_app, x_expr, x_ife, x_ret, x_retN, x_pas, x_brk, x_cnt, x_rse0, x_rse1, ev_fnv, ev_callL, ev_met, ev_disO, ev_dget, ev_din, ev_dget2, x_dset, dgetD, dinD, dget2D, isDicM, dsetD, sortedD, min1D, ev_pop, ev_ext, popD, extD, metR, pickH, tells, Pt.tell, showD, x_nm, x_tp, backs_f1, backs_d1, backs_d2, backs_d3, backs_d4, backs_d5, backs_d6, backs_nil, evB, evIf, evO, evAs, evDs, evI, evT, evRs, bnd, ok, op1, op2, view, views, tru, frzM, frz, keepA, unslot, slotOf, putA, putAs, putD, nxtO, augD, setiD, appD, retA, asgT, asgTs, blts, liftO, bltD, absD, maxD, minD, int1D, lenD, gcdD, isiD, blsD, intsD, anyD, allD, sumD, tupleD, listD, strD, reprD, keyB, binD, cmpO, cmpD, datB, negD, idxD, getD, ixD, slcD, tyD, D.isFn, D.truth, shp_non, shp_bl, shp_int, shp_str, shp_tup, shp_lst, shps_nil, shps_cons, D.eqv, D.eqvs, itemsD, rngD, zipO, enumO, intO, isND, doCall, lends, lendA, lentIx, backs, backS, maskS, mask1, e, h2, h2i]
      · have : ¬ (r : Int) = (n : Int) := by omega
        simp [F_is_prime_in, runF, MP.execs, ev_cst, ev_glb, ev_var, ev_tup, ev_lst, ev_dis0, ev_dis1, ev_bin, ev_neg, ev_boo, ev_not, ev_cmp, ev_chn, ev_chn3, ev_ite, ev_idx, ev_slc, ev_call, ev_blt, ev_isi, ev_lstI, x_par, x_aug, x_seti, x_app, x_expr, x_ife, x_ret, x_retN, x_pas, x_brk, x_cnt, x_rse0, x_rse1, ev_fnv, ev_callL, ev_met, ev_disO, ev_dget, ev_din, ev_dget2, x_dset, dgetD, dinD, dget2D, isDicM, dsetD, sortedD, min1D, ev_pop, ev_ext, popD, extD, metR, pickH, tells, Pt.tell, showD, x_nm, x_tp, backs_f1, backs_d1, backs_d2, backs_d3, backs_d4, backs_d5, backs_d6, backs_nil, evB, evIf, evO, evAs, evDs, evI, evT, evRs, bnd, ok, op1, op2, view, views, tru, frzM, frz, keepA, unslot, slotOf, putA, putAs, putD, nxtO, augD, setiD, appD, retA, asgT, asgTs, blts, liftO, bltD, absD, maxD, minD, int1D, lenD, gcdD, isiD, blsD, intsD, anyD, allD, sumD, tupleD, listD, strD, reprD, keyB, binD, cmpO, cmpD, datB, negD, idxD, getD, ixD, slcD, tyD, D.isFn, D.truth, shp_non, shp_bl, shp_int, shp_str, shp_tup, shp_lst, shps_nil, shps_cons, D.eqv, D.eqvs, itemsD, rngD, zipO, enumO, intO, isND, doCall, lends, lendA, lentIx, backs, backS, maskS, mask1, e, h2, h2i, hrn]
        exact this
  · have h2i : ¬ (2 : Int) ≤ (n : Int) := by omega
    refine ⟨false, ⟨(fun h => nomatch h), fun h => absurd h.1 h2⟩, ?_⟩
    rw [callN, hP]
    simp [F_is_prime_in, runF, MP.execs, ev_cst, ev_glb, ev_var, ev_tup, ev_lst, ev_dis0, ev_dis1, ev_bin, ev_neg, ev_boo, ev_not, ev_cmp, ev_chn, ev_chn3, ev_ite, ev_idx, ev_slc, ev_call, ev_blt, ev_isi, ev_lstI, x_par, x_aug, x_seti, x_app, x_expr, x_ife, x_ret, x_retN, x_pas, x_brk, x_cnt, x_rse0, x_rse1, ev_fnv, ev_callL, ev_met, ev_disO, ev_dget, ev_din, ev_dget2, x_dset, dgetD, dinD, dget2D, isDicM, dsetD, sortedD, min1D, ev_pop, ev_ext, popD, extD, metR, pickH, tells, Pt.tell, showD, x_nm, x_tp, backs_f1, backs_d1, backs_d2, backs_d3, backs_d4, backs_d5, backs_d6, backs_nil, evB, evIf, evO, evAs, evDs, evI, evT, evRs, bnd, ok, op1, op2, view, views, tru, frzM, frz, keepA, unslot, slotOf, putA, putAs, putD, nxtO, augD, setiD, appD, retA, asgT, asgTs, blts, liftO, bltD, absD, maxD, minD, int1D, lenD, gcdD, isiD, blsD, intsD, anyD, allD, sumD, tupleD, listD, strD, reprD, keyB, binD, cmpO, cmpD, datB, negD, idxD, getD, ixD, slcD, tyD, D.isFn, D.truth, shp_non, shp_bl, shp_int, shp_str, shp_tup, shp_lst, shps_nil, shps_cons, D.eqv, D.eqvs, itemsD, rngD, zipO, enumO, intO, isND, doCall, lends, lendA, lentIx, backs, backS, maskS, mask1, h2, h2i]

/-! ### parts -/
def pstrip (d : Nat) : Nat → Nat → Nat → Nat × Nat
  | 0, l, k => (l, k)
  | w + 1, l, k => if l % d = 0 then pstrip d w (l / d) (k + 1) else (l, k)
def pl : Nat → Nat → Nat → List (Nat × Nat) → Option (List (Nat × Nat) × Nat)
  | 0, _, _, _ => none
  | w + 1, d, l, acc => if d * d ≤ l then (match pstrip d 60 l 0 with | (l', k) => pl w (d + 1) l' (if 0 < k then acc ++ [(d, k)] else acc)) else some (acc, l)
def lastP (q : List (Nat × Nat) × Nat) : List (Nat × Nat) := if 1 < q.2 then q.1 ++ [(q.2, 1)] else q.1
def partsN (w n : Nat) : Option (List (Nat × Nat)) := (pl w 2 n []).map lastP
def pairD (p : Nat × Nat) : D := .tup [.int p.1, .int p.2]
def partsD (ps : List (Nat × Nat)) : D := .lst (ps.map pairD)
theorem strip_loop (call : Nat → List Slot → Out) (s0 s1 : Slot) {d : Nat} (hd : 2 ≤ d) (hb : d < 2 ^ 60) : ∀ (w l k : Nat), 1 ≤ l → l < 2 ^ w →
    whlM (evT call parts_in_c2) (fun ρ => MP.execs call parts_in_b2 ρ) [s0, s1, .val false (.int l), .val false (.int d), .val false (.int k)] = some (.ok .nxt, [s0, s1, .val false (.int (pstrip d w l k).1), .val false (.int d), .val false (.int (pstrip d w l k).2)]) := by
  have hd0 : d ≠ 0 := by omega
  have b1 := bitsN (a := d) (by omega)
  have b2 : bits (d : Int) < 9000 := by omega
  intro w
  induction w with
  | zero => intro l k h1 h2; omega
  | succ w ih =>
    intro l k h1 h2
    rw [pstrip]
    by_cases hm : l % d = 0
    · rw [if_pos hm]
      have hdm := Nat.div_add_mod l d
      have h3 : 1 ≤ l / d := Nat.div_pos (Nat.le_of_dvd h1 (Nat.dvd_of_mod_eq_zero hm)) (by omega)
      have h4 : l / d < 2 ^ w := by
        have h9 : 2 * (l / d) ≤ d * (l / d) := Nat.mul_le_mul_right _ hd
        rw [Nat.pow_succ] at h2
        generalize l / d = Q9 at *
        omega
      have e := ih (l / d) (k + 1) h3 h4
      have hc : evT call parts_in_c2 [s0, s1, .val false (.int l), .val false (.int d), .val false (.int k)] = some (.ok true, [s0, s1, .val false (.int l), .val false (.int d), .val false (.int k)]) := by
        simp [parts_in_c2, runF, MP.execs, ev_cst, ev_glb, ev_var, ev_tup, ev_lst, ev_dis0, ev_dis1, ev_bin, ev_neg, ev_boo, ev_not, ev_cmp, ev_chn, ev_chn3, ev_ite, ev_idx, ev_slc, ev_call, ev_blt, ev_isi, ev_lstI, x_par, x_aug, x_seti, x_app, x_expr, x_ife, x_ret, x_retN, x_pas, x_brk, x_cnt, x_rse0, x_rse1, ev_fnv, ev_callL, ev_met, ev_disO, ev_dget, ev_din, ev_dget2, x_dset, dgetD, dinD, dget2D, isDicM, dsetD, sortedD, min1D, ev_pop, ev_ext, popD, extD, metR, pickH, tells, Pt.tell, showD, x_nm, x_tp, backs_f1, backs_d1, backs_d2, backs_d3, backs_d4, backs_d5, backs_d6, backs_nil, evB, evIf, evO, evAs, evDs, evI, evT, evRs, bnd, ok, op1, op2, view, views, tru, frzM, frz, keepA, unslot, slotOf, putA, putAs, putD, nxtO, augD, setiD, appD, retA, asgT, asgTs, blts, liftO, bltD, absD, maxD, minD, int1D, lenD, gcdD, isiD, blsD, intsD, anyD, allD, sumD, tupleD, listD, strD, reprD, keyB, binD, cmpO, cmpD, datB, negD, idxD, getD, ixD, slcD, tyD, D.isFn, D.truth, shp_non, shp_bl, shp_int, shp_str, shp_tup, shp_lst, shps_nil, shps_cons, D.eqv, D.eqvs, itemsD, rngD, zipO, enumO, intO, isND, doCall, lends, lendA, lentIx, backs, backS, maskS, mask1, hd0, fmodN, hm]
      generalize hQ : ((l / d : Nat) : Int) = Q at *
      exact whl_turn hc (ρ2 := [s0, s1, .val false (.int Q), .val false (.int d), .val false (.int (k + 1 : Nat))]) (by simp [parts_in_b2, runF, MP.execs, ev_cst, ev_glb, ev_var, ev_tup, ev_lst, ev_dis0, ev_dis1, ev_bin, ev_neg, ev_boo, ev_not, ev_cmp, ev_chn, ev_chn3, ev_ite, ev_idx, ev_slc, ev_call, ev_blt, ev_isi, ev_lstI, x_par, x_aug, x_seti, x_app, x_expr, x_ife, x_ret, x_retN, x_pas, x_brk, x_cnt, x_rse0, x_rse1, ev_fnv, ev_callL, ev_met, ev_disO, ev_dget, ev_din, ev_dget2, x_dset, dgetD, dinD, dget2D, isDicM, dsetD, sortedD, min1D, ev_pop, ev_ext, popD, extD, metR, pickH, tells, Pt.tell, showD, x_nm, x_tp, backs_f1, backs_d1, backs_d2, backs_d3, backs_d4, backs_d5, backs_d6, backs_nil, evB, evIf, evO, evAs, evDs, evI, evT, evRs, bnd, ok, op1, op2, view, views, tru, frzM, frz, keepA, unslot, slotOf, putA, putAs, putD, nxtO, augD, setiD, appD, retA, asgT, asgTs, blts, liftO, bltD, absD, maxD, minD, int1D, lenD, gcdD, isiD, blsD, intsD, anyD, allD, sumD, tupleD, listD, strD, reprD, keyB, binD, cmpO, cmpD, datB, negD, idxD, getD, ixD, slcD, tyD, D.isFn, D.truth, shp_non, shp_bl, shp_int, shp_str, shp_tup, shp_lst, shps_nil, shps_cons, D.eqv, D.eqvs, itemsD, rngD, zipO, enumO, intO, isND, doCall, lends, lendA, lentIx, backs, backS, maskS, mask1, hd0, fdivN, b2, hQ]) e
    · rw [if_neg hm]
      have hm2 : ¬ ((l % d : Nat) : Int) = 0 := by omega
      generalize hR : ((l % d : Nat) : Int) = R at *
      exact whl_stop (by simp [parts_in_c2, runF, MP.execs, ev_cst, ev_glb, ev_var, ev_tup, ev_lst, ev_dis0, ev_dis1, ev_bin, ev_neg, ev_boo, ev_not, ev_cmp, ev_chn, ev_chn3, ev_ite, ev_idx, ev_slc, ev_call, ev_blt, ev_isi, ev_lstI, x_par, x_aug, x_seti, x_app, x_expr, x_ife, x_ret, x_retN, x_pas, x_brk, x_cnt, x_rse0, x_rse1, ev_fnv, ev_callL, ev_met, ev_disO, ev_dget, ev_din, ev_dget2, x_dset, dgetD, dinD, dget2D, isDicM, dsetD, sortedD, min1D, ev_pop, ev_ext, popD, extD, metR, pickH, tells, Pt.tell, showD, x_nm, x_tp, backs_f1, backs_d1, backs_d2, backs_d3, backs_d4, backs_d5, backs_d6, backs_nil, evB, evIf, evO, evAs, evDs, evI, evT, evRs, bnd, ok, op1, op2, view, views, tru, frzM, frz, keepA, unslot, slotOf, putA, putAs, putD, nxtO, augD, setiD, appD, retA, asgT, asgTs, blts, liftO, bltD, absD, maxD, minD, int1D, lenD, gcdD, isiD, blsD, intsD, anyD, allD, sumD, tupleD, listD, strD, reprD, keyB, binD, cmpO, cmpD, datB, negD, idxD, getD, ixD, slcD, tyD, D.isFn, D.truth, shp_non, shp_bl, shp_int, shp_str, shp_tup, shp_lst, shps_nil, shps_cons, D.eqv, D.eqvs, itemsD, rngD, zipO, enumO, intO, isND, doCall, lends, lendA, lentIx, backs, backS, maskS, mask1, hd0, fmodN, hR, hm2])
theorem pstrip_spec {d : Nat} (hd : 2 ≤ d) : ∀ (w l k : Nat), 1 ≤ l → l < 2 ^ w → ∃ j, (pstrip d w l k).2 = k + j ∧ l = (pstrip d w l k).1 * d ^ j ∧ (pstrip d w l k).1 % d ≠ 0 ∧ 1 ≤ (pstrip d w l k).1 := by
  intro w
  induction w with
  | zero => intro l k h1 h2; omega
  | succ w ih =>
    intro l k h1 h2
    rw [pstrip]
    by_cases hm : l % d = 0
    · rw [if_pos hm]
      have hdm := Nat.div_add_mod l d
      have h3 : 1 ≤ l / d := Nat.div_pos (Nat.le_of_dvd h1 (Nat.dvd_of_mod_eq_zero hm)) (by omega)
      have h4 : l / d < 2 ^ w := by
        have h9 : 2 * (l / d) ≤ d * (l / d) := Nat.mul_le_mul_right _ hd
        rw [Nat.pow_succ] at h2
        generalize l / d = Q9 at *
        omega
      obtain ⟨j, e1, e2, e3, e4⟩ := ih (l / d) (k + 1) h3 h4
      refine ⟨j + 1, by rw [e1]; omega, ?_, e3, e4⟩
      rw [Nat.pow_succ, ← Nat.mul_assoc, ← e2, Nat.mul_comm]
      omega
    · rw [if_neg hm]
      exact ⟨0, by simp, by simp, hm, h1⟩
theorem pstrip_le {d : Nat} (hd : 2 ≤ d) {l : Nat} (h1 : 1 ≤ l) (h2 : l < 2 ^ 60) : (pstrip d 60 l 0).1 ≤ l := by
  obtain ⟨j, e1, e2, e3, e4⟩ := pstrip_spec hd 60 l 0 h1 h2
  have := Nat.le_mul_of_pos_right (pstrip d 60 l 0).1 (Nat.pow_pos (n := j) (show 0 < d by omega))
  omega
theorem pl_loop (call : Nat → List Slot → Out) (s0 : Slot) : ∀ (w d l : Nat) (acc : List (Nat × Nat)) (q : List (Nat × Nat) × Nat) (s4 : Slot), pl w d l acc = some q → 2 ≤ d → d + w < 16000000 → acc.length < d → 1 ≤ l → l < 2 ^ 60 →
    ∃ d' s, whlM (evT call parts_in_c1) (fun ρ => MP.execs call parts_in_b1 ρ) [s0, .own false (partsD acc), .val false (.int l), .val false (.int d), s4] = some (.ok .nxt, [s0, .own false (partsD q.1), .val false (.int q.2), .val false (.int (d' : Nat)), s]) ∧ q.1.length < 16000000 := by
  intro w
  induction w with
  | zero => intro d l acc q s4 h; simp [pl] at h
  | succ w ih =>
    intro d l acc q s4 h h1 h2 h3 h4 h5
    have b1 := bitsN (a := d) (by omega)
    have b2 : bits (d : Int) + bits (d : Int) < 1000000 := by omega
    rw [pl] at h
    by_cases hq : d * d ≤ l
    · have hqi : (d : Int) * (d : Int) ≤ (l : Int) := by exact_mod_cast hq
      rw [if_pos hq] at h
      have es := strip_loop call s0 (.own false (partsD acc)) h1 (by omega) 60 l 0 h4 h5
      have hle := pstrip_le h1 h4 h5
      obtain ⟨j, e1, e2, e3, e4⟩ := pstrip_spec h1 60 l 0 h4 h5
      generalize hp : pstrip d 60 l 0 = p at *
      obtain ⟨l', k⟩ := p
      dsimp only at *
      have hw : MP.exec call (S.whl parts_in_c2 parts_in_b2) [s0, .own false (partsD acc), .val false (.int l), .val false (.int d), .val false (.int 0)] = some (.ok .nxt, [s0, .own false (partsD acc), .val false (.int l'), .val false (.int d), .val false (.int k)]) := by rw [x_whl]; exact es
      have hla : acc.length < 16777216 := by omega
      have hc : evT call parts_in_c1 [s0, .own false (partsD acc), .val false (.int l), .val false (.int d), s4] = some (.ok true, [s0, .own false (partsD acc), .val false (.int l), .val false (.int d), s4]) := by simp [parts_in_c1, runF, MP.execs, ev_cst, ev_glb, ev_var, ev_tup, ev_lst, ev_dis0, ev_dis1, ev_bin, ev_neg, ev_boo, ev_not, ev_cmp, ev_chn, ev_chn3, ev_ite, ev_idx, ev_slc, ev_call, ev_blt, ev_isi, ev_lstI, x_par, x_aug, x_seti, x_app, x_expr, x_ife, x_ret, x_retN, x_pas, x_brk, x_cnt, x_rse0, x_rse1, ev_fnv, ev_callL, ev_met, ev_disO, ev_dget, ev_din, ev_dget2, x_dset, dgetD, dinD, dget2D, isDicM, dsetD, sortedD, min1D, ev_pop, ev_ext, popD, extD, metR, pickH, tells, Pt.tell, showD, x_nm, x_tp, backs_f1, backs_d1, backs_d2, backs_d3, backs_d4, backs_d5, backs_d6, backs_nil, evB, evIf, evO, evAs, evDs, evI, evT, evRs, bnd, ok, op1, op2, view, views, tru, frzM, frz, keepA, unslot, slotOf, putA, putAs, putD, nxtO, augD, setiD, appD, retA, asgT, asgTs, blts, liftO, bltD, absD, maxD, minD, int1D, lenD, gcdD, isiD, blsD, intsD, anyD, allD, sumD, tupleD, listD, strD, reprD, keyB, binD, cmpO, cmpD, datB, negD, idxD, getD, ixD, slcD, tyD, D.isFn, D.truth, shp_non, shp_bl, shp_int, shp_str, shp_tup, shp_lst, shps_nil, shps_cons, D.eqv, D.eqvs, itemsD, rngD, zipO, enumO, intO, isND, doCall, lends, lendA, lentIx, backs, backS, maskS, mask1, b2, hqi]
      by_cases hk : 0 < k
      · rw [if_pos hk] at h
        obtain ⟨d', s, e, hl⟩ := ih (d + 1) l' (acc ++ [(d, k)]) q (.val false (.int k)) h (by omega) (by omega) (by simp; omega) e4 (by omega)
        refine ⟨d', s, whl_turn hc (ρ2 := [s0, .own false (partsD (acc ++ [(d, k)])), .val false (.int l'), .val false (.int (d + 1 : Nat)), .val false (.int k)]) ?_ e, hl⟩
        simp only [partsD] at hw ⊢
        simp [parts_in_b1, runF, MP.execs, ev_cst, ev_glb, ev_var, ev_tup, ev_lst, ev_dis0, ev_dis1, ev_bin, ev_neg, ev_boo, ev_not, ev_cmp, ev_chn, ev_chn3, ev_ite, ev_idx, ev_slc, ev_call, ev_blt, ev_isi, ev_lstI, x_par, x_aug, x_seti, x_app, x_expr, x_ife, x_ret, x_retN, x_pas, x_brk, x_cnt, x_rse0, x_rse1, ev_fnv, ev_callL, ev_met, ev_disO, ev_dget, ev_din, ev_dget2, x_dset, dgetD, dinD, dget2D, isDicM, dsetD, sortedD, min1D, ev_pop, ev_ext, popD, extD, metR, pickH, tells, Pt.tell, showD, x_nm, x_tp, backs_f1, backs_d1, backs_d2, backs_d3, backs_d4, backs_d5, backs_d6, backs_nil, evB, evIf, evO, evAs, evDs, evI, evT, evRs, bnd, ok, op1, op2, view, views, tru, frzM, frz, keepA, unslot, slotOf, putA, putAs, putD, nxtO, augD, setiD, appD, retA, asgT, asgTs, blts, liftO, bltD, absD, maxD, minD, int1D, lenD, gcdD, isiD, blsD, intsD, anyD, allD, sumD, tupleD, listD, strD, reprD, keyB, binD, cmpO, cmpD, datB, negD, idxD, getD, ixD, slcD, tyD, D.isFn, D.truth, shp_non, shp_bl, shp_int, shp_str, shp_tup, shp_lst, shps_nil, shps_cons, D.eqv, D.eqvs, itemsD, rngD, zipO, enumO, intO, isND, doCall, lends, lendA, lentIx, backs, backS, maskS, mask1, hw, hk, hla, pairD]
      · rw [if_neg hk] at h
        obtain ⟨d', s, e, hl⟩ := ih (d + 1) l' acc q (.val false (.int k)) h (by omega) (by omega) (by omega) e4 (by omega)
        refine ⟨d', s, whl_turn hc (ρ2 := [s0, .own false (partsD acc), .val false (.int l'), .val false (.int (d + 1 : Nat)), .val false (.int k)]) ?_ e, hl⟩
        simp only [partsD] at hw ⊢
        simp [parts_in_b1, runF, MP.execs, ev_cst, ev_glb, ev_var, ev_tup, ev_lst, ev_dis0, ev_dis1, ev_bin, ev_neg, ev_boo, ev_not, ev_cmp, ev_chn, ev_chn3, ev_ite, ev_idx, ev_slc, ev_call, ev_blt, ev_isi, ev_lstI, x_par, x_aug, x_seti, x_app, x_expr, x_ife, x_ret, x_retN, x_pas, x_brk, x_cnt, x_rse0, x_rse1, ev_fnv, ev_callL, ev_met, ev_disO, ev_dget, ev_din, ev_dget2, x_dset, dgetD, dinD, dget2D, isDicM, dsetD, sortedD, min1D, ev_pop, ev_ext, popD, extD, metR, pickH, tells, Pt.tell, showD, x_nm, x_tp, backs_f1, backs_d1, backs_d2, backs_d3, backs_d4, backs_d5, backs_d6, backs_nil, evB, evIf, evO, evAs, evDs, evI, evT, evRs, bnd, ok, op1, op2, view, views, tru, frzM, frz, keepA, unslot, slotOf, putA, putAs, putD, nxtO, augD, setiD, appD, retA, asgT, asgTs, blts, liftO, bltD, absD, maxD, minD, int1D, lenD, gcdD, isiD, blsD, intsD, anyD, allD, sumD, tupleD, listD, strD, reprD, keyB, binD, cmpO, cmpD, datB, negD, idxD, getD, ixD, slcD, tyD, D.isFn, D.truth, shp_non, shp_bl, shp_int, shp_str, shp_tup, shp_lst, shps_nil, shps_cons, D.eqv, D.eqvs, itemsD, rngD, zipO, enumO, intO, isND, doCall, lends, lendA, lentIx, backs, backS, maskS, mask1, hw, hk]
    · have hqi : ¬ (d : Int) * (d : Int) ≤ (l : Int) := by
        intro z
        exact hq (by exact_mod_cast z)
      rw [if_neg hq] at h
      cases h
      exact ⟨d, s4, whl_stop (by simp [parts_in_c1, runF, MP.execs, ev_cst, ev_glb, ev_var, ev_tup, ev_lst, ev_dis0, ev_dis1, ev_bin, ev_neg, ev_boo, ev_not, ev_cmp, ev_chn, ev_chn3, ev_ite, ev_idx, ev_slc, ev_call, ev_blt, ev_isi, ev_lstI, x_par, x_aug, x_seti, x_app, x_expr, x_ife, x_ret, x_retN, x_pas, x_brk, x_cnt, x_rse0, x_rse1, ev_fnv, ev_callL, ev_met, ev_disO, ev_dget, ev_din, ev_dget2, x_dset, dgetD, dinD, dget2D, isDicM, dsetD, sortedD, min1D, ev_pop, ev_ext, popD, extD, metR, pickH, tells, Pt.tell, showD, x_nm, x_tp, backs_f1, backs_d1, backs_d2, backs_d3, backs_d4, backs_d5, backs_d6, backs_nil, evB, evIf, evO, evAs, evDs, evI, evT, evRs, bnd, ok, op1, op2, view, views, tru, frzM, frz, keepA, unslot, slotOf, putA, putAs, putD, nxtO, augD, setiD, appD, retA, asgT, asgTs, blts, liftO, bltD, absD, maxD, minD, int1D, lenD, gcdD, isiD, blsD, intsD, anyD, allD, sumD, tupleD, listD, strD, reprD, keyB, binD, cmpO, cmpD, datB, negD, idxD, getD, ixD, slcD, tyD, D.isFn, D.truth, shp_non, shp_bl, shp_int, shp_str, shp_tup, shp_lst, shps_nil, shps_cons, D.eqv, D.eqvs, itemsD, rngD, zipO, enumO, intO, isND, doCall, lends, lendA, lentIx, backs, backS, maskS, mask1, b2, hqi]), by dsimp only; omega⟩
theorem run_parts {P : Nat → Option Fd} {i : Nat} (hP : P i = some F_parts_in) (m : Nat) (t : Bool) {w n : Nat} {ps : List (Nat × Nat)} (h1 : 1 ≤ n) (hn : n < 2 ^ 60) (hw : w < 15000000) (h : partsN w n = some ps) : callN P (m + 1) i [.val t (.int n)] = some (.ok (.frs (partsD ps)), [.non]) := by
  unfold partsN at h
  obtain ⟨q, hq0, rfl⟩ := Option.map_eq_some_iff.mp h
  obtain ⟨d', s, e, hl⟩ := pl_loop (callN P m) (.val t (.int n)) w 2 n [] q .non hq0 (by omega) (by omega) (by simp) h1 hn
  have hx : MP.exec (callN P m) (S.whl parts_in_c1 parts_in_b1) [.val t (.int n), .own false (.lst []), .val false (.int n), .val false (.int 2), .non] = some (.ok .nxt, [.val t (.int n), .own false (partsD q.1), .val false (.int q.2), .val false (.int (d' : Nat)), s]) := by rw [x_whl]; exact e
  have hl2 : q.1.length < 16777216 := by omega
  rw [callN, hP]
  unfold lastP
  by_cases hq : 1 < q.2
  · have hqi : (1 : Int) < (q.2 : Int) := by omega
    simp only [partsD] at hx ⊢
    simp [F_parts_in, runF, MP.execs, ev_cst, ev_glb, ev_var, ev_tup, ev_lst, ev_dis0, ev_dis1, ev_bin, ev_neg, ev_boo, ev_not, ev_cmp, ev_chn, ev_chn3, ev_ite, ev_idx, ev_slc, ev_call, ev_blt, ev_isi, ev_lstI, x_par, x_aug, x_seti, x_app, x_expr, x_ife, x_ret, x_retN, x_pas, x_brk, x_cnt, x_rse0, x_rse1, ev_fnv, ev_callL, ev_met, ev_disO, ev_dget, ev_din, ev_dget2, x_dset, dgetD, dinD, dget2D, isDicM, dsetD, sortedD, min1D, ev_pop, ev_ext, popD, extD, metR, pickH, tells, Pt.tell, showD, x_nm, x_tp, backs_f1, backs_d1, backs_d2, backs_d3, backs_d4, backs_d5, backs_d6, backs_nil, evB, evIf, evO, evAs, evDs, evI, evT, evRs, bnd, ok, op1, op2, view, views, tru, frzM, frz, keepA, unslot, slotOf, putA, putAs, putD, nxtO, augD, setiD, appD, retA, asgT, asgTs, blts, liftO, bltD, absD, maxD, minD, int1D, lenD, gcdD, isiD, blsD, intsD, anyD, allD, sumD, tupleD, listD, strD, reprD, keyB, binD, cmpO, cmpD, datB, negD, idxD, getD, ixD, slcD, tyD, D.isFn, D.truth, shp_non, shp_bl, shp_int, shp_str, shp_tup, shp_lst, shps_nil, shps_cons, D.eqv, D.eqvs, itemsD, rngD, zipO, enumO, intO, isND, doCall, lends, lendA, lentIx, backs, backS, maskS, mask1, hx, hq, hqi, pairD, hl2]
  · have hqi : ¬ (1 : Int) < (q.2 : Int) := by omega
    simp only [partsD] at hx ⊢
    simp [F_parts_in, runF, MP.execs, ev_cst, ev_glb, ev_var, ev_tup, ev_lst, ev_dis0, ev_dis1, ev_bin, ev_neg, ev_boo, ev_not, ev_cmp, ev_chn, ev_chn3, ev_ite, ev_idx, ev_slc, ev_call, ev_blt, ev_isi, ev_lstI, x_par, x_aug, x_seti, x_app, x_expr, x_ife, x_ret, x_retN, x_pas, x_brk, x_cnt, x_rse0, x_rse1, ev_fnv, ev_callL, ev_met, ev_disO, ev_dget, ev_din, ev_dget2, x_dset, dgetD, dinD, dget2D, isDicM, dsetD, sortedD, min1D, ev_pop, ev_ext, popD, extD, metR, pickH, tells, Pt.tell, showD, x_nm, x_tp, backs_f1, backs_d1, backs_d2, backs_d3, backs_d4, backs_d5, backs_d6, backs_nil, evB, evIf, evO, evAs, evDs, evI, evT, evRs, bnd, ok, op1, op2, view, views, tru, frzM, frz, keepA, unslot, slotOf, putA, putAs, putD, nxtO, augD, setiD, appD, retA, asgT, asgTs, blts, liftO, bltD, absD, maxD, minD, int1D, lenD, gcdD, isiD, blsD, intsD, anyD, allD, sumD, tupleD, listD, strD, reprD, keyB, binD, cmpO, cmpD, datB, negD, idxD, getD, ixD, slcD, tyD, D.isFn, D.truth, shp_non, shp_bl, shp_int, shp_str, shp_tup, shp_lst, shps_nil, shps_cons, D.eqv, D.eqvs, itemsD, rngD, zipO, enumO, intO, isND, doCall, lends, lendA, lentIx, backs, backS, maskS, mask1, hx, hq, hqi]

/-! ### the parts are the parts -/
def pprod (ps : List (Nat × Nat)) : Nat := (ps.map fun p => p.1 ^ p.2).foldr (· * ·) 1
theorem pprod_app (a b : List (Nat × Nat)) : pprod (a ++ b) = pprod a * pprod b := by
  induction a with
  | nil => simp [pprod]
  | cons x a ih =>
    simp only [pprod, List.cons_append, List.map_cons, List.foldr_cons] at ih ⊢
    rw [ih, Nat.mul_assoc]
structure Parts (n : Nat) (ps : List (Nat × Nat)) : Prop where
  prod : pprod ps = n
  prime : ∀ p ∈ ps, Prm p.1 ∧ 1 ≤ p.2
  asc : ps.Pairwise fun a b => a.1 < b.1
theorem asc_app {ps : List (Nat × Nat)} {d k : Nat} (h : ps.Pairwise fun a b => a.1 < b.1) (h2 : ∀ p ∈ ps, p.1 < d) : (ps ++ [(d, k)]).Pairwise fun a b => a.1 < b.1 := by
  rw [List.pairwise_append]
  refine ⟨h, List.pairwise_singleton _ _, fun a ha b hb => ?_⟩
  rw [List.mem_singleton] at hb
  subst hb
  exact h2 a ha
theorem pl_spec : ∀ (w d l : Nat) (acc : List (Nat × Nat)) (q : List (Nat × Nat) × Nat), pl w d l acc = some q → 2 ≤ d → 1 ≤ l → l < 2 ^ 60 → (∀ e, 2 ≤ e → e < d → ¬ e ∣ l) → (∀ p ∈ acc, Prm p.1 ∧ 1 ≤ p.2) → (∀ p ∈ acc, p.1 < d) → (acc.Pairwise fun a b => a.1 < b.1) →
    pprod q.1 * q.2 = pprod acc * l ∧ (∀ p ∈ q.1, Prm p.1 ∧ 1 ≤ p.2) ∧ (q.1.Pairwise fun a b => a.1 < b.1) ∧ 1 ≤ q.2 ∧ ∃ d', 2 ≤ d' ∧ q.2 < d' * d' ∧ (∀ e, 2 ≤ e → e < d' → ¬ e ∣ q.2) ∧ (∀ p ∈ q.1, p.1 < d') := by
  intro w
  induction w with
  | zero => intro d l acc q h; simp [pl] at h
  | succ w ih =>
    intro d l acc q h h1 h2 h3 h4 h5 h6 h7
    rw [pl] at h
    by_cases hq : d * d ≤ l
    · rw [if_pos hq] at h
      have hle := pstrip_le h1 h2 h3
      obtain ⟨j, e1, e2, e3, e4⟩ := pstrip_spec h1 60 l 0 h2 h3
      generalize hp : pstrip d 60 l 0 = p at *
      obtain ⟨l', k⟩ := p
      dsimp only at *
      have hkj : k = j := by omega
      subst hkj
      have hnd : ∀ e, 2 ≤ e → e < d + 1 → ¬ e ∣ l' := fun e g1 g2 g3 => by
        by_cases he : e = d
        · subst he
          exact e3 (Nat.mod_eq_zero_of_dvd g3)
        · exact h4 e g1 (by omega) (by rw [e2]; exact Nat.dvd_trans g3 (Nat.dvd_mul_right _ _))
      by_cases hk : 0 < k
      · rw [if_pos hk] at h
        have hdl : d ∣ l := by
          rw [e2]
          exact Nat.dvd_trans (Nat.dvd_of_mod_eq_zero (by rw [show k = (k - 1) + 1 by omega, Nat.pow_succ]; exact Nat.mul_mod_left _ _)) (Nat.dvd_mul_left _ _)
        have hpd : Prm d := ⟨h1, fun e g1 g2 g3 => h4 e g1 g2 (Nat.dvd_trans g3 hdl)⟩
        obtain ⟨r1, r2, r3, r4, r5⟩ := ih (d + 1) l' (acc ++ [(d, k)]) q h (by omega) e4 (by omega) hnd
          (fun p hp => by
            rcases List.mem_append.mp hp with hp | hp
            · exact h5 p hp
            · rw [List.mem_singleton] at hp
              subst hp
              exact ⟨hpd, hk⟩)
          (fun p hp => by
            rcases List.mem_append.mp hp with hp | hp
            · have := h6 p hp
              omega
            · rw [List.mem_singleton] at hp
              subst hp
              exact Nat.lt_succ_self d)
          (asc_app h7 h6)
        refine ⟨?_, r2, r3, r4, r5⟩
        rw [r1, pprod_app, Nat.mul_assoc, e2]
        simp [pprod, Nat.mul_comm]
      · rw [if_neg hk] at h
        have : k = 0 := by omega
        subst this
        obtain ⟨r1, r2, r3, r4, r5⟩ := ih (d + 1) l' acc q h (by omega) e4 (by omega) hnd h5 (fun p hp => by have := h6 p hp; omega) h7
        refine ⟨?_, r2, r3, r4, r5⟩
        rw [r1]
        simp at e2
        rw [e2]
    · rw [if_neg hq] at h
      cases h
      exact ⟨rfl, h5, h7, h2, d, h1, by dsimp only; omega, h4, h6⟩
theorem partsN_spec {w n : Nat} {ps : List (Nat × Nat)} (h1 : 1 ≤ n) (hn : n < 2 ^ 60) (h : partsN w n = some ps) : Parts n ps := by
  unfold partsN at h
  obtain ⟨q, hq0, rfl⟩ := Option.map_eq_some_iff.mp h
  obtain ⟨r1, r2, r3, r4, d', r5, r6, r7, r8⟩ := pl_spec w 2 n [] q hq0 (by omega) h1 hn (fun e g1 g2 => by omega) (by simp) (by simp) List.Pairwise.nil
  unfold lastP
  by_cases hq : 1 < q.2
  · rw [if_pos hq]
    have hge : d' ≤ q.2 := by
      apply Classical.byContradiction
      intro z
      exact r7 q.2 (by omega) (by omega) (Nat.dvd_refl _)
    refine ⟨?_, fun p hp => ?_, asc_app r3 (fun p hp => Nat.lt_of_lt_of_le (r8 p hp) hge)⟩
    · rw [pprod_app]
      simp [pprod] at r1 ⊢
      exact r1
    · rcases List.mem_append.mp hp with hp | hp
      · exact r2 p hp
      · rw [List.mem_singleton] at hp
        subst hp
        exact ⟨⟨hq, no_small (by omega) r5 r7 r6⟩, Nat.le_refl 1⟩
  · rw [if_neg hq]
    refine ⟨?_, r2, r3⟩
    have : q.2 = 1 := by omega
    rw [this] at r1
    simp [pprod] at r1 ⊢
    exact r1
theorem pl_some : ∀ (w d l : Nat) (acc : List (Nat × Nat)), 2 ≤ d → 1 ≤ l → l < 2 ^ 60 → l < (d + w) * (d + w) → ∃ q, pl (w + 1) d l acc = some q := by
  intro w
  induction w with
  | zero =>
    intro d l acc h1 h2 h3 h4
    rw [pl]
    rw [if_neg (by simp only [Nat.add_zero] at h4; omega)]
    exact ⟨_, rfl⟩
  | succ w ih =>
    intro d l acc h1 h2 h3 h4
    rw [pl]
    by_cases hq : d * d ≤ l
    · rw [if_pos hq]
      have hle := pstrip_le h1 h2 h3
      obtain ⟨j, e1, e2, e3, e4⟩ := pstrip_spec h1 60 l 0 h2 h3
      generalize hp : pstrip d 60 l 0 = p at *
      obtain ⟨l', k⟩ := p
      dsimp only at *
      exact ih (d + 1) _ _ (by omega) e4 (by omega) (by rw [show d + 1 + w = d + (w + 1) by omega]; omega)
    · rw [if_neg hq]
      exact ⟨_, rfl⟩
/-- to 10 ** 8 -/
theorem partsN_some {n : Nat} (h1 : 1 ≤ n) (hn : n ≤ 100000000) : ∃ ps, partsN 10001 n = some ps := by
  obtain ⟨q, h⟩ := pl_some 10000 2 n [] (by omega) h1 (by omega) (by omega)
  exact ⟨_, by unfold partsN; rw [h]; rfl⟩

/-! ### powers modulo m -/
theorem one_modN (m : Nat) : (1 : Int).fmod (m : Int) = ((1 % m : Nat) : Int) := fmodN 1 m
theorem pw_step {x y k m : Nat} (h : 1 ≤ k) : (if k % 2 = 1 then x * y % m else x) * ((y * y % m) ^ (k / 2)) % m = x * y ^ k % m := by
  have hk := Nat.div_add_mod k 2
  have e1 : y ^ k = (y * y) ^ (k / 2) * y ^ (k % 2) := by
    rw [← Nat.pow_two, ← Nat.pow_mul, ← Nat.pow_add, hk]
  rw [Nat.mul_mod, ← Nat.pow_mod, ← Nat.mul_mod, e1]
  by_cases ho : k % 2 = 1
  · rw [if_pos ho, ho, Nat.pow_one, Nat.mul_mod, Nat.mod_mod, ← Nat.mul_mod, Nat.mul_assoc, Nat.mul_comm y]
  · have : k % 2 = 0 := by omega
    rw [if_neg ho, this, Nat.pow_zero, Nat.mul_one]
theorem pow_loop (call : Nat → List Slot → Out) (s0 s1 : Slot) (t : Bool) {m : Nat} (hm : 1 ≤ m) (hb : m < 2 ^ 60) : ∀ (k x y : Nat), x < m → y < m →
    ∃ s, whlM (evT call power_rest_c1) (fun ρ => MP.execs call power_rest_b1 ρ) [s0, s1, .val t (.int m), .val false (.int x), .val false (.int y), .val false (.int k)] = some (.ok .nxt, [s0, s1, .val t (.int m), .val false (.int (x * y ^ k % m : Nat)), s, .val false (.int 0)]) := by
  have hm0 : m ≠ 0 := by omega
  have b2 : bits 2 < 9000 := by decide +kernel
  intro k
  induction k using Nat.strongRecOn with
  | _ k ih =>
    intro x y hx hy
    by_cases hk : k = 0
    · subst hk
      refine ⟨.val false (.int y), ?_⟩
      rw [Nat.pow_zero, Nat.mul_one, Nat.mod_eq_of_lt hx]
      exact whl_stop (ρ1 := [s0, s1, .val t (.int m), .val false (.int x), .val false (.int y), .val false (.int 0)]) (by simp [power_rest_c1, runF, MP.execs, ev_cst, ev_glb, ev_var, ev_tup, ev_lst, ev_dis0, ev_dis1, ev_bin, ev_neg, ev_boo, ev_not, ev_cmp, ev_chn, ev_chn3, ev_ite, ev_idx, ev_slc, ev_call, ev_blt, ev_isi, ev_lstI, x_par, x_aug, x_seti, x_app, x_expr, x_ife, x_ret, x_retN, x_pas, x_brk, x_cnt, x_rse0, x_rse1, ev_fnv, ev_callL, ev_met, ev_disO, ev_dget, ev_din, ev_dget2, x_dset, dgetD, dinD, dget2D, isDicM, dsetD, sortedD, min1D, ev_pop, ev_ext, popD, extD, metR, pickH, tells, Pt.tell, showD, x_nm, x_tp, backs_f1, backs_d1, backs_d2, backs_d3, backs_d4, backs_d5, backs_d6, backs_nil, evB, evIf, evO, evAs, evDs, evI, evT, evRs, bnd, ok, op1, op2, view, views, tru, frzM, frz, keepA, unslot, slotOf, putA, putAs, putD, nxtO, augD, setiD, appD, retA, asgT, asgTs, blts, liftO, bltD, absD, maxD, minD, int1D, lenD, gcdD, isiD, blsD, intsD, anyD, allD, sumD, tupleD, listD, strD, reprD, keyB, binD, cmpO, cmpD, datB, negD, idxD, getD, ixD, slcD, tyD, D.isFn, D.truth, shp_non, shp_bl, shp_int, shp_str, shp_tup, shp_lst, shps_nil, shps_cons, D.eqv, D.eqvs, itemsD, rngD, zipO, enumO, intO, isND, doCall, lends, lendA, lentIx, backs, backS, maskS, mask1])
    · have hkp : (0 : Int) < (k : Int) := by omega
      have hy2 : y * y % m < m := Nat.mod_lt _ (by omega)
      have hc : evT call power_rest_c1 [s0, s1, .val t (.int m), .val false (.int x), .val false (.int y), .val false (.int k)] = some (.ok true, [s0, s1, .val t (.int m), .val false (.int x), .val false (.int y), .val false (.int k)]) := by simp [power_rest_c1, runF, MP.execs, ev_cst, ev_glb, ev_var, ev_tup, ev_lst, ev_dis0, ev_dis1, ev_bin, ev_neg, ev_boo, ev_not, ev_cmp, ev_chn, ev_chn3, ev_ite, ev_idx, ev_slc, ev_call, ev_blt, ev_isi, ev_lstI, x_par, x_aug, x_seti, x_app, x_expr, x_ife, x_ret, x_retN, x_pas, x_brk, x_cnt, x_rse0, x_rse1, ev_fnv, ev_callL, ev_met, ev_disO, ev_dget, ev_din, ev_dget2, x_dset, dgetD, dinD, dget2D, isDicM, dsetD, sortedD, min1D, ev_pop, ev_ext, popD, extD, metR, pickH, tells, Pt.tell, showD, x_nm, x_tp, backs_f1, backs_d1, backs_d2, backs_d3, backs_d4, backs_d5, backs_d6, backs_nil, evB, evIf, evO, evAs, evDs, evI, evT, evRs, bnd, ok, op1, op2, view, views, tru, frzM, frz, keepA, unslot, slotOf, putA, putAs, putD, nxtO, augD, setiD, appD, retA, asgT, asgTs, blts, liftO, bltD, absD, maxD, minD, int1D, lenD, gcdD, isiD, blsD, intsD, anyD, allD, sumD, tupleD, listD, strD, reprD, keyB, binD, cmpO, cmpD, datB, negD, idxD, getD, ixD, slcD, tyD, D.isFn, D.truth, shp_non, shp_bl, shp_int, shp_str, shp_tup, shp_lst, shps_nil, shps_cons, D.eqv, D.eqvs, itemsD, rngD, zipO, enumO, intO, isND, doCall, lends, lendA, lentIx, backs, backS, maskS, mask1, hkp]; omega
      have hbx := bitsN (a := x) (by omega)
      have hby := bitsN (a := y) (by omega)
      have g1 : bits (x : Int) + bits (y : Int) < 1000000 := by omega
      have g2 : bits (y : Int) + bits (y : Int) < 1000000 := by omega
      have e2 : (k : Int).fdiv 2 = ((k / 2 : Nat) : Int) := fdivN k 2
      have em : (k : Int).fmod 2 = ((k % 2 : Nat) : Int) := fmodN k 2
      have ey : ((y : Int) * (y : Int)).fmod (m : Int) = ((y * y % m : Nat) : Int) := by rw [← Int.natCast_mul]; exact fmodN _ _
      have ex : ((x : Int) * (y : Int)).fmod (m : Int) = ((x * y % m : Nat) : Int) := by rw [← Int.natCast_mul]; exact fmodN _ _
      have hp := pw_step (x := x) (y := y) (m := m) (show 1 ≤ k by omega)
      by_cases ho : k % 2 = 1
      · rw [if_pos ho] at hp
        obtain ⟨s, e⟩ := ih (k / 2) (by omega) (x * y % m) (y * y % m) (Nat.mod_lt _ (by omega)) hy2
        rw [hp] at e
        refine ⟨s, ?_⟩
        rw [ho] at em
        generalize hK : ((k / 2 : Nat) : Int) = K at *
        generalize hX : ((x * y % m : Nat) : Int) = X at *
        generalize hY : ((y * y % m : Nat) : Int) = Y at *
        exact whl_turn hc (ρ2 := [s0, s1, .val t (.int m), .val false (.int X), .val false (.int Y), .val false (.int K)]) (by simp [power_rest_b1, runF, MP.execs, ev_cst, ev_glb, ev_var, ev_tup, ev_lst, ev_dis0, ev_dis1, ev_bin, ev_neg, ev_boo, ev_not, ev_cmp, ev_chn, ev_chn3, ev_ite, ev_idx, ev_slc, ev_call, ev_blt, ev_isi, ev_lstI, x_par, x_aug, x_seti, x_app, x_expr, x_ife, x_ret, x_retN, x_pas, x_brk, x_cnt, x_rse0, x_rse1, ev_fnv, ev_callL, ev_met, ev_disO, ev_dget, ev_din, ev_dget2, x_dset, dgetD, dinD, dget2D, isDicM, dsetD, sortedD, min1D, ev_pop, ev_ext, popD, extD, metR, pickH, tells, Pt.tell, showD, x_nm, x_tp, backs_f1, backs_d1, backs_d2, backs_d3, backs_d4, backs_d5, backs_d6, backs_nil, evB, evIf, evO, evAs, evDs, evI, evT, evRs, bnd, ok, op1, op2, view, views, tru, frzM, frz, keepA, unslot, slotOf, putA, putAs, putD, nxtO, augD, setiD, appD, retA, asgT, asgTs, blts, liftO, bltD, absD, maxD, minD, int1D, lenD, gcdD, isiD, blsD, intsD, anyD, allD, sumD, tupleD, listD, strD, reprD, keyB, binD, cmpO, cmpD, datB, negD, idxD, getD, ixD, slcD, tyD, D.isFn, D.truth, shp_non, shp_bl, shp_int, shp_str, shp_tup, shp_lst, shps_nil, shps_cons, D.eqv, D.eqvs, itemsD, rngD, zipO, enumO, intO, isND, doCall, lends, lendA, lentIx, backs, backS, maskS, mask1, em, ex, ey, e2, g1, g2, b2, hm0]) e
      · rw [if_neg ho] at hp
        have ho2 : k % 2 = 0 := by omega
        obtain ⟨s, e⟩ := ih (k / 2) (by omega) x (y * y % m) hx hy2
        rw [hp] at e
        refine ⟨s, ?_⟩
        rw [ho2] at em
        generalize hK : ((k / 2 : Nat) : Int) = K at *
        generalize hY : ((y * y % m : Nat) : Int) = Y at *
        exact whl_turn hc (ρ2 := [s0, s1, .val t (.int m), .val false (.int x), .val false (.int Y), .val false (.int K)]) (by simp [power_rest_b1, runF, MP.execs, ev_cst, ev_glb, ev_var, ev_tup, ev_lst, ev_dis0, ev_dis1, ev_bin, ev_neg, ev_boo, ev_not, ev_cmp, ev_chn, ev_chn3, ev_ite, ev_idx, ev_slc, ev_call, ev_blt, ev_isi, ev_lstI, x_par, x_aug, x_seti, x_app, x_expr, x_ife, x_ret, x_retN, x_pas, x_brk, x_cnt, x_rse0, x_rse1, ev_fnv, ev_callL, ev_met, ev_disO, ev_dget, ev_din, ev_dget2, x_dset, dgetD, dinD, dget2D, isDicM, dsetD, sortedD, min1D, ev_pop, ev_ext, popD, extD, metR, pickH, tells, Pt.tell, showD, x_nm, x_tp, backs_f1, backs_d1, backs_d2, backs_d3, backs_d4, backs_d5, backs_d6, backs_nil, evB, evIf, evO, evAs, evDs, evI, evT, evRs, bnd, ok, op1, op2, view, views, tru, frzM, frz, keepA, unslot, slotOf, putA, putAs, putD, nxtO, augD, setiD, appD, retA, asgT, asgTs, blts, liftO, bltD, absD, maxD, minD, int1D, lenD, gcdD, isiD, blsD, intsD, anyD, allD, sumD, tupleD, listD, strD, reprD, keyB, binD, cmpO, cmpD, datB, negD, idxD, getD, ixD, slcD, tyD, D.isFn, D.truth, shp_non, shp_bl, shp_int, shp_str, shp_tup, shp_lst, shps_nil, shps_cons, D.eqv, D.eqvs, itemsD, rngD, zipO, enumO, intO, isND, doCall, lends, lendA, lentIx, backs, backS, maskS, mask1, em, ey, e2, g2, b2, hm0]) e
theorem run_power {P : Nat → Option Fd} {i : Nat} (hP : P i = some F_power_rest) (n : Nat) (t t1 t2 : Bool) {a : Int} {b k m : Nat} (hm : 1 ≤ m) (hb : m < 2 ^ 60) (ha : a.fmod (m : Int) = (b : Int)) : callN P (n + 1) i [.val t (.int a), .val t1 (.int k), .val t2 (.int m)] = some (.ok (.dat (.int (b ^ k % m : Nat))), [.non, .non, .non]) := by
  have hbm : b < m := by
    have := (fmod_pos a (m := (m : Int)) (by omega)).2
    omega
  have hm0 : m ≠ 0 := by omega
  obtain ⟨s, e⟩ := pow_loop (callN P n) (.val t (.int a)) (.val t1 (.int k)) t2 hm hb k (1 % m) b (Nat.mod_lt _ (by omega)) hbm
  have e1 : (1 % m) * b ^ k % m = b ^ k % m := by rw [Nat.mul_mod, Nat.mod_mod, ← Nat.mul_mod, Nat.one_mul]
  rw [e1] at e
  have e2 := one_modN m
  generalize hX : ((b ^ k % m : Nat) : Int) = X at *
  generalize hO : ((1 % m : Nat) : Int) = O at *
  have hw : MP.exec (callN P n) (S.whl power_rest_c1 power_rest_b1) [.val t (.int a), .val t1 (.int k), .val t2 (.int m), .val false (.int O), .val false (.int b), .val false (.int k)] = some (.ok .nxt, [.val t (.int a), .val t1 (.int k), .val t2 (.int m), .val false (.int X), s, .val false (.int 0)]) := by rw [x_whl]; exact e
  rw [callN, hP]
  simp [F_power_rest, runF, MP.execs, ev_cst, ev_glb, ev_var, ev_tup, ev_lst, ev_dis0, ev_dis1, ev_bin, ev_neg, ev_boo, ev_not, ev_cmp, ev_chn, ev_chn3, ev_ite, ev_idx, ev_slc, ev_call, ev_blt, ev_isi, ev_lstI, x_par, x_aug, x_seti, x_app, x_expr, x_ife, x_ret, x_retN, x_pas, x_brk, x_cnt, x_rse0, x_rse1, ev_fnv, ev_callL, ev_met, ev_disO, ev_dget, ev_din, ev_dget2, x_dset, dgetD, dinD, dget2D, isDicM, dsetD, sortedD, min1D, ev_pop, ev_ext, popD, extD, metR, pickH, tells, Pt.tell, showD, x_nm, x_tp, backs_f1, backs_d1, backs_d2, backs_d3, backs_d4, backs_d5, backs_d6, backs_nil, evB, evIf, evO, evAs, evDs, evI, evT, evRs, bnd, ok, op1, op2, view, views, tru, frzM, frz, keepA, unslot, slotOf, putA, putAs, putD, nxtO, augD, setiD, appD, retA, asgT, asgTs, blts, liftO, bltD, absD, maxD, minD, int1D, lenD, gcdD, isiD, blsD, intsD, anyD, allD, sumD, tupleD, listD, strD, reprD, keyB, binD, cmpO, cmpD, datB, negD, idxD, getD, ixD, slcD, tyD, D.isFn, D.truth, shp_non, shp_bl, shp_int, shp_str, shp_tup, shp_lst, shps_nil, shps_cons, D.eqv, D.eqvs, itemsD, rngD, zipO, enumO, intO, isND, doCall, lends, lendA, lentIx, backs, backS, maskS, mask1, hw, ha, e2, hm0]
/-! ### the number of units -/
def unitsN (ps : List (Nat × Nat)) (x : Nat) : Nat := ps.foldl (fun x p => x * (p.1 - 1) * p.1 ^ (p.2 - 1)) x
theorem pprod_cons (p : Nat × Nat) (ps : List (Nat × Nat)) : pprod (p :: ps) = p.1 ^ p.2 * pprod ps := rfl
theorem pprod_pos {ps : List (Nat × Nat)} (h : ∀ p ∈ ps, 1 ≤ p.1) : 1 ≤ pprod ps := by
  induction ps with
  | nil => simp [pprod]
  | cons p ps ih =>
    rw [pprod_cons]
    exact Nat.mul_pos (Nat.pow_pos (h p (List.mem_cons_self ..))) (ih fun q hq => h q (List.mem_cons_of_mem _ hq))
theorem rep_loop (call : Nat → List Slot → Out) (s0 s3 : Slot) {p : Nat} (hp : p < 2 ^ 60) (h1 : 1 ≤ p) : ∀ (j x : Nat) (lo : Int) (s4 : Slot), x * p ^ j < 2 ^ 60 →
    ∃ s, forL (.nm 4) (fun ρ => MP.execs call units_in_b2 ρ) (intsL lo j) [s0, .val false (.int x), .val false (.int p), s3, s4] = some (.ok .nxt, [s0, .val false (.int (x * p ^ j : Nat)), .val false (.int p), s3, s]) := by
  intro j
  induction j with
  | zero =>
    intro x lo s4 h
    rw [Nat.pow_zero, Nat.mul_one]
    exact ⟨_, rfl⟩
  | succ j ih =>
    intro x lo s4 h
    have e1 : x * p ^ (j + 1) = x * p * p ^ j := by rw [Nat.pow_succ, Nat.mul_comm (p ^ j) p, Nat.mul_assoc]
    rw [e1] at h ⊢
    obtain ⟨s, e⟩ := ih (x * p) (lo + 1) (.val false (.int lo)) h
    have hx : x < 2 ^ 60 := by
      have h2 := Nat.le_mul_of_pos_right (x * p) (Nat.pow_pos (n := j) (show 0 < p by omega))
      have h3 := Nat.le_mul_of_pos_right x (show 0 < p by omega)
      omega
    have b1 := bitsN (a := x) (by omega)
    have b2 := bitsN (a := p) (by omega)
    have b3 : bits (x : Int) + bits (p : Int) < 1000000 := by omega
    refine ⟨s, ?_⟩
    rw [intsL, for_next (ρ1 := [s0, .val false (.int x), .val false (.int p), s3, .val false (.int lo)]) (ρ2 := [s0, .val false (.int (x * p : Nat)), .val false (.int p), s3, .val false (.int lo)]) (by simp [asgT, putD]) (by simp [units_in_b2, runF, MP.execs, ev_cst, ev_glb, ev_var, ev_tup, ev_lst, ev_dis0, ev_dis1, ev_bin, ev_neg, ev_boo, ev_not, ev_cmp, ev_chn, ev_chn3, ev_ite, ev_idx, ev_slc, ev_call, ev_blt, ev_isi, ev_lstI, x_par, x_aug, x_seti, x_app, x_expr, x_ife, x_ret, x_retN, x_pas, x_brk, x_cnt, x_rse0, x_rse1, ev_fnv, ev_callL, ev_met, ev_disO, ev_dget, ev_din, ev_dget2, x_dset, dgetD, dinD, dget2D, isDicM, dsetD, sortedD, min1D, ev_pop, ev_ext, popD, extD, metR, pickH, tells, Pt.tell, showD, x_nm, x_tp, backs_f1, backs_d1, backs_d2, backs_d3, backs_d4, backs_d5, backs_d6, backs_nil, evB, evIf, evO, evAs, evDs, evI, evT, evRs, bnd, ok, op1, op2, view, views, tru, frzM, frz, keepA, unslot, slotOf, putA, putAs, putD, nxtO, augD, setiD, appD, retA, asgT, asgTs, blts, liftO, bltD, absD, maxD, minD, int1D, lenD, gcdD, isiD, blsD, intsD, anyD, allD, sumD, tupleD, listD, strD, reprD, keyB, binD, cmpO, cmpD, datB, negD, idxD, getD, ixD, slcD, tyD, D.isFn, D.truth, shp_non, shp_bl, shp_int, shp_str, shp_tup, shp_lst, shps_nil, shps_cons, D.eqv, D.eqvs, itemsD, rngD, zipO, enumO, intO, isND, doCall, lends, lendA, lentIx, backs, backS, maskS, mask1, b3])]
    exact e
theorem units_loop (call : Nat → List Slot → Out) (s0 : Slot) : ∀ (ps : List (Nat × Nat)) (x : Nat) (s2 s3 s4 : Slot), (∀ p ∈ ps, 2 ≤ p.1 ∧ 1 ≤ p.2) → 1 ≤ x → x * pprod ps < 2 ^ 60 →
    ∃ a b c, forL (Tg.tp (Tgs.cons (Tg.nm 2) (Tgs.cons (Tg.nm 3) Tgs.nil))) (fun ρ => MP.execs call units_in_b1 ρ) (ps.map pairD) [s0, .val false (.int x), s2, s3, s4] = some (.ok .nxt, [s0, .val false (.int (unitsN ps x)), a, b, c]) ∧ 1 ≤ unitsN ps x ∧ unitsN ps x ≤ x * pprod ps := by
  intro ps
  induction ps with
  | nil => intro x s2 s3 s4 h1 h0 h2; exact ⟨_, _, _, rfl, h0, by simp [unitsN, pprod]⟩
  | cons p ps ih =>
    intro x s2 s3 s4 h1 h0 h2
    obtain ⟨p1, k1⟩ := h1 p (List.mem_cons_self ..)
    have hall : ∀ q ∈ ps, 2 ≤ q.1 ∧ 1 ≤ q.2 := fun q hq => h1 q (List.mem_cons_of_mem _ hq)
    obtain ⟨p, k⟩ := p
    dsimp only at p1 k1
    have hpp := pprod_pos (ps := ps) fun q hq => Nat.le_trans (by omega) (hall q hq).1
    rw [pprod_cons] at h2 ⊢
    dsimp only at h2 ⊢
    have hk : p ^ k = p * p ^ (k - 1) := by
      have : k = (k - 1) + 1 := by omega
      rw [this, Nat.pow_succ, Nat.mul_comm]
      simp
    have hle : x * (p - 1) * p ^ (k - 1) ≤ x * p ^ k := by
      rw [hk, ← Nat.mul_assoc]
      exact Nat.mul_le_mul_right _ (Nat.mul_le_mul_left _ (by omega))
    have hle2 : x * p ^ k ≤ x * p ^ k * pprod ps := Nat.le_mul_of_pos_right _ hpp
    rw [← Nat.mul_assoc] at h2 ⊢
    have hxp : x * p ≤ x * p ^ k := by
      rw [hk, ← Nat.mul_assoc]
      exact Nat.le_mul_of_pos_right _ (Nat.pow_pos (by omega))
    have hxx := Nat.le_mul_of_pos_right x (show 0 < p by omega)
    have hpx := Nat.le_mul_of_pos_left p (show 0 < x by omega)
    have hx1 : 1 ≤ x * (p - 1) := Nat.mul_pos (by omega) (by omega)
    obtain ⟨s, er⟩ := rep_loop call s0 (.val false (.int k)) (p := p) (by omega) (by omega) (k - 1) (x * (p - 1)) 0 s4 (by omega)
    have hlt := Nat.mul_le_mul_right (pprod ps) hle
    obtain ⟨a, b, c, e, e2, e3⟩ := ih (x * (p - 1) * p ^ (k - 1)) (.val false (.int p)) (.val false (.int k)) s hall (Nat.mul_pos hx1 (Nat.pow_pos (by omega))) (by omega)
    have hu : unitsN ((p, k) :: ps) x = unitsN ps (x * (p - 1) * p ^ (k - 1)) := rfl
    rw [hu]
    refine ⟨a, b, c, ?_, e2, by omega⟩
    have b1 := bitsN (a := x) (by omega)
    have b2 : bits ((p : Int) - 1) < 64 := bits_small (by omega) (by omega)
    have b3 : bits (x : Int) + bits ((p : Int) - 1) < 1000000 := by omega
    have hkk : ((k : Int) - 1).toNat = k - 1 := by omega
    have hpc : (x : Int) * ((p : Int) - 1) = ((x * (p - 1) : Nat) : Int) := by rw [Int.natCast_mul]; congr 1; omega
    have hk60 : k < 2 ^ 60 := by
      have h3 : k < 2 ^ k := Nat.lt_two_pow_self
      have h4 : 2 ^ k ≤ p ^ k := Nat.pow_le_pow_left p1 k
      have h5 := Nat.le_mul_of_pos_left (p ^ k) (show 0 < x by omega)
      omega
    have hs1 : smallI ((k : Int) - 1) = true := small_i (by omega)
    have hs0 : smallI 0 = true := by decide
    generalize hX : ((x * (p - 1) : Nat) : Int) = X at *
    generalize hR : ((x * (p - 1) * p ^ (k - 1) : Nat) : Int) = R at *
    rw [List.map_cons, for_next (ρ1 := [s0, .val false (.int x), .val false (.int p), .val false (.int k), s4]) (ρ2 := [s0, .val false (.int R), .val false (.int p), .val false (.int k), s]) (by simp [asgT, asgTs, putD, pairD]) (by simp [units_in_b1, x_for, runF, MP.execs, ev_cst, ev_glb, ev_var, ev_tup, ev_lst, ev_dis0, ev_dis1, ev_bin, ev_neg, ev_boo, ev_not, ev_cmp, ev_chn, ev_chn3, ev_ite, ev_idx, ev_slc, ev_call, ev_blt, ev_isi, ev_lstI, x_par, x_aug, x_seti, x_app, x_expr, x_ife, x_ret, x_retN, x_pas, x_brk, x_cnt, x_rse0, x_rse1, ev_fnv, ev_callL, ev_met, ev_disO, ev_dget, ev_din, ev_dget2, x_dset, dgetD, dinD, dget2D, isDicM, dsetD, sortedD, min1D, ev_pop, ev_ext, popD, extD, metR, pickH, tells, Pt.tell, showD, x_nm, x_tp, backs_f1, backs_d1, backs_d2, backs_d3, backs_d4, backs_d5, backs_d6, backs_nil, evB, evIf, evO, evAs, evDs, evI, evT, evRs, bnd, ok, op1, op2, view, views, tru, frzM, frz, keepA, unslot, slotOf, putA, putAs, putD, nxtO, augD, setiD, appD, retA, asgT, asgTs, blts, liftO, bltD, absD, maxD, minD, int1D, lenD, gcdD, isiD, blsD, intsD, anyD, allD, sumD, tupleD, listD, strD, reprD, keyB, binD, cmpO, cmpD, datB, negD, idxD, getD, ixD, slcD, tyD, D.isFn, D.truth, shp_non, shp_bl, shp_int, shp_str, shp_tup, shp_lst, shps_nil, shps_cons, D.eqv, D.eqvs, itemsD, rngD, zipO, enumO, intO, isND, doCall, lends, lendA, lentIx, backs, backS, maskS, mask1, b3, hpc, hs1, hs0, hkk, er])]
    exact e
theorem run_units {P : Nat → Option Fd} {i j : Nat} (hP : P i = some (F_units_in j)) (hJ : P j = some F_parts_in) (m : Nat) (t : Bool) {w n : Nat} {ps : List (Nat × Nat)} (h1 : 1 ≤ n) (hn : n < 2 ^ 60) (hw : w < 15000000) (h : partsN w n = some ps) :
    callN P (m + 2) i [.val t (.int n)] = some (.ok (.dat (.int (unitsN ps 1 : Nat))), [.non]) ∧ 1 ≤ unitsN ps 1 ∧ unitsN ps 1 ≤ n := by
  have e1 := run_parts hJ m false h1 hn hw h
  have sp := partsN_spec h1 hn h
  obtain ⟨a, b, c, e2, e3, e4⟩ := units_loop (callN P (m + 1)) (.val t (.int n)) ps 1 .non .non .non (fun p hp => ⟨(sp.prime p hp).1.1, (sp.prime p hp).2⟩) (Nat.le_refl 1) (by rw [sp.prod]; omega)
  rw [sp.prod] at e4
  refine ⟨?_, e3, by omega⟩
  simp only [partsD] at e1
  have hx : MP.exec (callN P (m + 1)) (S.for_ (Tg.tp (Tgs.cons (Tg.nm 2) (Tgs.cons (Tg.nm 3) Tgs.nil))) (I.seq (C.call j [false] (Cs.cons (C.var 0) Cs.nil))) units_in_b1) [.val t (.int n), .val false (.int 1), .non, .non, .non] = some (.ok .nxt, [.val t (.int n), .val false (.int (unitsN ps 1 : Nat)), a, b, c]) := by
    rw [x_for]
    have hi : evI (callN P (m + 1)) (I.seq (C.call j [false] (Cs.cons (C.var 0) Cs.nil))) [.val t (.int n), .val false (.int 1), .non, .non, .non] = some (.ok (ps.map pairD), [.val t (.int n), .val false (.int 1), .non, .non, .non]) := by simp [runF, MP.execs, ev_cst, ev_glb, ev_var, ev_tup, ev_lst, ev_dis0, ev_dis1, ev_bin, ev_neg, ev_boo, ev_not, ev_cmp, ev_chn, ev_chn3, ev_ite, ev_idx, ev_slc, ev_call, ev_blt, ev_isi, ev_lstI, x_par, x_aug, x_seti, x_app, x_expr, x_ife, x_ret, x_retN, x_pas, x_brk, x_cnt, x_rse0, x_rse1, ev_fnv, ev_callL, ev_met, ev_disO, ev_dget, ev_din, ev_dget2, x_dset, dgetD, dinD, dget2D, isDicM, dsetD, sortedD, min1D, ev_pop, ev_ext, popD, extD, metR, pickH, tells, Pt.tell, showD, x_nm, x_tp, backs_f1, backs_d1, backs_d2, backs_d3, backs_d4, backs_d5, backs_d6, backs_nil, evB, evIf, evO, evAs, evDs, evI, evT, evRs, bnd, ok, op1, op2, view, views, tru, frzM, frz, keepA, unslot, slotOf, putA, putAs, putD, nxtO, augD, setiD, appD, retA, asgT, asgTs, blts, liftO, bltD, absD, maxD, minD, int1D, lenD, gcdD, isiD, blsD, intsD, anyD, allD, sumD, tupleD, listD, strD, reprD, keyB, binD, cmpO, cmpD, datB, negD, idxD, getD, ixD, slcD, tyD, D.isFn, D.truth, shp_non, shp_bl, shp_int, shp_str, shp_tup, shp_lst, shps_nil, shps_cons, D.eqv, D.eqvs, itemsD, rngD, zipO, enumO, intO, isND, doCall, lends, lendA, lentIx, backs, backS, maskS, mask1, e1]
    rw [hi]
    exact e2
  rw [callN, hP]
  simp [F_units_in, runF, MP.execs, ev_cst, ev_glb, ev_var, ev_tup, ev_lst, ev_dis0, ev_dis1, ev_bin, ev_neg, ev_boo, ev_not, ev_cmp, ev_chn, ev_chn3, ev_ite, ev_idx, ev_slc, ev_call, ev_blt, ev_isi, ev_lstI, x_par, x_aug, x_seti, x_app, x_expr, x_ife, x_ret, x_retN, x_pas, x_brk, x_cnt, x_rse0, x_rse1, ev_fnv, ev_callL, ev_met, ev_disO, ev_dget, ev_din, ev_dget2, x_dset, dgetD, dinD, dget2D, isDicM, dsetD, sortedD, min1D, ev_pop, ev_ext, popD, extD, metR, pickH, tells, Pt.tell, showD, x_nm, x_tp, backs_f1, backs_d1, backs_d2, backs_d3, backs_d4, backs_d5, backs_d6, backs_nil, evB, evIf, evO, evAs, evDs, evI, evT, evRs, bnd, ok, op1, op2, view, views, tru, frzM, frz, keepA, unslot, slotOf, putA, putAs, putD, nxtO, augD, setiD, appD, retA, asgT, asgTs, blts, liftO, bltD, absD, maxD, minD, int1D, lenD, gcdD, isiD, blsD, intsD, anyD, allD, sumD, tupleD, listD, strD, reprD, keyB, binD, cmpO, cmpD, datB, negD, idxD, getD, ixD, slcD, tyD, D.isFn, D.truth, shp_non, shp_bl, shp_int, shp_str, shp_tup, shp_lst, shps_nil, shps_cons, D.eqv, D.eqvs, itemsD, rngD, zipO, enumO, intO, isND, doCall, lends, lendA, lentIx, backs, backS, maskS, mask1, hx]
end MP
set_option Elab.async false
set_option linter.all false
set_option maxRecDepth 100000
set_option maxHeartbeats 2000000
/-! MP: orders modulo m -/
namespace MP
open PySem
def order_in_c2 (i_power_rest : Nat) : C := (C.boo true (Cs.cons (C.cmp .eq (C.bin .mod (C.var 2) (C.var 3)) (C.cst (D.int 0))) (Cs.cons (C.cmp .eq (C.call i_power_rest [false, false, false] (Cs.cons (C.var 1) (Cs.cons (C.bin .fdiv (C.var 2) (C.var 3)) (Cs.cons (C.var 0) Cs.nil)))) (C.bin .mod (C.cst (D.int 1)) (C.var 0))) Cs.nil)))
def order_in_b2 : Ss := (Ss.cons (S.asg (Tg.nm 2) (C.bin .fdiv (C.var 2) (C.var 3))) Ss.nil)
def order_in_b1 (i_power_rest : Nat) : Ss := (Ss.cons (S.whl (order_in_c2 i_power_rest) order_in_b2) Ss.nil)
def F_order_in (i_parts_in : Nat) (i_power_rest : Nat) (i_units_in : Nat) : Fd := ⟨"order_in", 2, ["modulus", "number", "found", "part", "many"], (Ss.cons (S.asg (Tg.nm 2) (C.call i_units_in [false] (Cs.cons (C.var 0) Cs.nil))) (Ss.cons (S.for_ (Tg.tp (Tgs.cons (Tg.nm 3) (Tgs.cons (Tg.nm 4) Tgs.nil))) (I.seq (C.call i_parts_in [false] (Cs.cons (C.var 2) Cs.nil))) (order_in_b1 i_power_rest)) (Ss.cons (S.ret (C.var 2)) Ss.nil)))⟩
def law_pr_times_b1 : Ss := (Ss.cons (S.asg (Tg.nm 2) (C.bin .mul (C.var 2) (C.var 0))) Ss.nil)
def F_law_pr_times : Fd := ⟨"_law_pr_times", 2, ["_law_base", "_law_exponent", "_law_found", "_law_turn"], (Ss.cons (S.asg (Tg.nm 2) (C.cst (D.int 1))) (Ss.cons (S.for_ (Tg.nm 3) (I.rng1 (C.var 1)) law_pr_times_b1) (Ss.cons (S.ret (C.var 2)) Ss.nil)))⟩
def law_order_c1 : C := (C.cmp .ne (C.var 2) (C.bin .mod (C.cst (D.int 1)) (C.var 0)))
def law_order_b1 : Ss := (Ss.cons (S.par [2, 3] (Cs.cons (C.bin .mod (C.blt .int1 (Cs.cons (C.bin .mul (C.var 2) (C.var 1)) Cs.nil)) (C.var 0)) (Cs.cons (C.bin .add (C.var 3) (C.cst (D.int 1))) Cs.nil))) Ss.nil)
def F_law_order : Fd := ⟨"_law_order", 2, ["_law_modulus", "_law_number", "_law_here", "_law_found"], (Ss.cons (S.par [2, 3] (Cs.cons (C.bin .mod (C.blt .int1 (Cs.cons (C.var 1) Cs.nil)) (C.var 0)) (Cs.cons (C.cst (D.int 1)) Cs.nil))) (Ss.cons (S.whl law_order_c1 law_order_b1) (Ss.cons (S.ret (C.var 3)) Ss.nil)))⟩
structure IsOrd (b m o : Nat) : Prop where
  pos : 1 ≤ o
  one : b ^ o % m = 1 % m
  least : ∀ j, 1 ≤ j → j < o → b ^ j % m ≠ 1 % m
theorem one_pow_mod {x m k : Nat} (h : x % m = 1 % m) : x ^ k % m = 1 % m := by
  rw [Nat.pow_mod, h, ← Nat.pow_mod, Nat.one_pow]
theorem IsOrd.dvd {b m o e : Nat} (h : IsOrd b m o) (he : b ^ e % m = 1 % m) : o ∣ e := by
  have hd := Nat.div_add_mod e o
  have h1 : b ^ (e % o) % m = 1 % m := by
    have e1 : b ^ e = (b ^ o) ^ (e / o) * b ^ (e % o) := by rw [← Nat.pow_mul, ← Nat.pow_add, hd]
    rw [e1, Nat.mul_mod, one_pow_mod h.one, ← Nat.mul_mod, Nat.one_mul] at he
    exact he
  have h2 := Nat.mod_lt e h.pos
  by_cases hz : e % o = 0
  · exact Nat.dvd_of_mod_eq_zero hz
  · exact absurd h1 (h.least _ (by omega) h2)
theorem IsOrd.mul {b m o e : Nat} (h : IsOrd b m o) (he : o ∣ e) : b ^ e % m = 1 % m := by
  obtain ⟨q, rfl⟩ := he
  rw [Nat.pow_mul]
  exact one_pow_mod h.one
theorem IsOrd.uniq {b m o o' : Nat} (h : IsOrd b m o) (h' : IsOrd b m o') : o = o' := Nat.dvd_antisymm (h.dvd h'.one) (h'.dvd h.one)
theorem ord_exists {b m f : Nat} (hf : 1 ≤ f) (h : b ^ f % m = 1 % m) : ∃ o, IsOrd b m o := by
  induction f using Nat.strongRecOn with
  | _ f ih =>
    by_cases hx : ∃ j, 1 ≤ j ∧ j < f ∧ b ^ j % m = 1 % m
    · obtain ⟨j, h1, h2, h3⟩ := hx
      exact ih j h2 h1 h3
    · exact ⟨f, hf, h, fun j h1 h2 h3 => hx ⟨j, h1, h2, h3⟩⟩
theorem IsOrd.pow {b m o t : Nat} (h : IsOrd b m o) (ht : 1 ≤ t) : IsOrd (b ^ t % m) m (o / Nat.gcd o t) := by
  have hg : 0 < Nat.gcd o t := Nat.gcd_pos_of_pos_left _ h.pos
  have key : ∀ j, (b ^ t % m) ^ j % m = 1 % m ↔ o / Nat.gcd o t ∣ j := fun j => by
    rw [← Nat.pow_mod, ← Nat.pow_mul]
    have hc : Nat.Coprime (o / Nat.gcd o t) (t / Nat.gcd o t) := Nat.coprime_div_gcd_div_gcd hg
    have ho : o = Nat.gcd o t * (o / Nat.gcd o t) := (Nat.mul_div_cancel' (Nat.gcd_dvd_left o t)).symm
    have htt : t = Nat.gcd o t * (t / Nat.gcd o t) := (Nat.mul_div_cancel' (Nat.gcd_dvd_right o t)).symm
    constructor
    · intro e
      have h1 := h.dvd e
      have h2 : Nat.gcd o t * (o / Nat.gcd o t) ∣ Nat.gcd o t * ((t / Nat.gcd o t) * j) := by
        rw [← ho, ← Nat.mul_assoc, ← htt]
        exact h1
      exact hc.dvd_of_dvd_mul_left (Nat.dvd_of_mul_dvd_mul_left hg h2)
    · intro e
      apply h.mul
      obtain ⟨q, rfl⟩ := e
      refine ⟨(t / Nat.gcd o t) * q, ?_⟩
      calc t * (o / Nat.gcd o t * q) = (Nat.gcd o t * (t / Nat.gcd o t)) * (o / Nat.gcd o t * q) := by rw [← htt]
        _ = (Nat.gcd o t * (o / Nat.gcd o t)) * ((t / Nat.gcd o t) * q) := by
          simp only [Nat.mul_assoc, Nat.mul_left_comm, Nat.mul_comm]
        _ = o * (t / Nat.gcd o t * q) := by rw [← ho]
  have hp : 1 ≤ o / Nat.gcd o t := Nat.div_pos (Nat.le_of_dvd h.pos (Nat.gcd_dvd_left o t)) hg
  refine ⟨hp, (key _).mpr (Nat.dvd_refl _), fun j h1 h2 h3 => ?_⟩
  have := Nat.le_of_dvd h1 ((key j).mp h3)
  omega
theorem ord_one {m : Nat} : IsOrd (1 % m) m 1 := ⟨Nat.le_refl 1, by rw [Nat.pow_one, Nat.mod_mod], fun j h1 h2 => by omega⟩
/-! ### primes divide products -/
theorem Prm.gcd {p a : Nat} (h : Prm p) (hn : ¬ p ∣ a) : Nat.gcd p a = 1 := by
  have hg := Nat.gcd_dvd_left p a
  have hle := Nat.le_of_dvd (by have := h.1; omega) hg
  have hpos : 0 < Nat.gcd p a := Nat.gcd_pos_of_pos_left _ (by have := h.1; omega)
  apply Classical.byContradiction
  intro z
  by_cases hp : Nat.gcd p a = p
  · exact hn (hp ▸ Nat.gcd_dvd_right p a)
  · exact h.2 _ (by omega) (by omega) hg
theorem Prm.mul {p a b : Nat} (h : Prm p) (hd : p ∣ a * b) : p ∣ a ∨ p ∣ b := by
  by_cases ha : p ∣ a
  · exact Or.inl ha
  · exact Or.inr ((show Nat.Coprime p a from h.gcd ha).dvd_of_dvd_mul_left hd)
theorem Prm.pow {p a k : Nat} (h : Prm p) (hd : p ∣ a ^ k) : p ∣ a := by
  induction k with
  | zero =>
    rw [Nat.pow_zero] at hd
    have := Nat.le_of_dvd (by omega) hd
    have := h.1
    omega
  | succ k ih =>
    rw [Nat.pow_succ] at hd
    rcases h.mul hd with h1 | h1
    · exact ih h1
    · exact h1
theorem Prm.eq {p q : Nat} (hp : Prm p) (hq : Prm q) (h : p ∣ q) : p = q := by
  have := Nat.le_of_dvd (by have := hq.1; omega) h
  apply Classical.byContradiction
  intro z
  exact hq.2 p hp.1 (by omega) h
theorem Prm.prod {p : Nat} (h : Prm p) {ps : List (Nat × Nat)} (hd : p ∣ pprod ps) : ∃ q ∈ ps, p ∣ q.1 := by
  induction ps with
  | nil =>
    simp only [pprod, List.map_nil, List.foldr_nil] at hd
    have := Nat.le_of_dvd (by omega) hd
    have := h.1
    omega
  | cons x xs ih =>
    rw [pprod_cons] at hd
    rcases h.mul hd with h1 | h1
    · exact ⟨x, List.mem_cons_self .., h.pow h1⟩
    · obtain ⟨q, h2, h3⟩ := ih h1
      exact ⟨q, List.mem_cons_of_mem _ h2, h3⟩
theorem ld_exists {n : Nat} (h : 2 ≤ n) : ∃ r, LD n r := by
  have key : ∀ m d, n + 1 - d = m → 2 ≤ d → d ≤ n → (∀ e, 2 ≤ e → e < d → ¬ e ∣ n) → ∃ r, LD n r := by
    intro m
    induction m with
    | zero => intro d h1 h2 h3; omega
    | succ m ih =>
      intro d h1 h2 h3 h4
      by_cases hd : d ∣ n
      · exact ⟨d, h2, hd, h4⟩
      · by_cases hdn : d = n
        · subst hdn
          exact absurd (Nat.dvd_refl _) hd
        · exact ih (d + 1) (by omega) (by omega) (by omega) fun e e1 e2 e3 => by
            by_cases he : e = d
            · subst he; exact hd e3
            · exact h4 e e1 (by omega) e3
  exact key _ 2 rfl (by omega) h fun e e1 e2 => by omega
/-- what divides n has one of its primes -/
theorem Parts.hits {n q : Nat} {ps : List (Nat × Nat)} (h : Parts n ps) (h2 : 2 ≤ q) (hq : q ∣ n) : ∃ p ∈ ps, p.1 ∣ q := by
  obtain ⟨r, hr⟩ := ld_exists h2
  obtain ⟨p, h3, h4⟩ := hr.prm.prod (ps := ps) (by rw [h.prod]; exact Nat.dvd_trans hr.dvd hq)
  have := hr.prm.eq (h.prime p h3).1 h4
  exact ⟨p, h3, this ▸ hr.dvd⟩
/-! ### order_in -/
section
variable {P : Nat → Option Fd} {j n m b o : Nat} {a : Int} {t t1 : Bool} (hJ : P j = some F_power_rest) (hm : 1 ≤ m) (hmb : m < 2 ^ 60) (ha : a.fmod (m : Int) = (b : Int)) (ho : IsOrd b m o)
include hJ hm hmb ha ho
theorem ostrip_loop (s4 : Slot) {p : Nat} (hp : 2 ≤ p) (hpb : p < 2 ^ 60) : ∀ (f : Nat), 1 ≤ f → f < 2 ^ 60 → o ∣ f →
    ∃ f', whlM (evT (callN P (n + 1)) (order_in_c2 j)) (fun ρ => MP.execs (callN P (n + 1)) order_in_b2 ρ) [.val t (.int m), .val t1 (.int a), .val false (.int f), .val false (.int p), s4] = some (.ok .nxt, [.val t (.int m), .val t1 (.int a), .val false (.int (f' : Nat)), .val false (.int p), s4]) ∧ o ∣ f' ∧ f' ∣ f ∧ 1 ≤ f' ∧ ¬ (p ∣ f' ∧ o ∣ f' / p) := by
  have hp0 : p ≠ 0 := by omega
  have hm0 : m ≠ 0 := by omega
  have b1 := bitsN (a := p) (by omega)
  have b2 : bits (p : Int) < 9000 := by omega
  intro f
  induction f using Nat.strongRecOn with
  | _ f ih =>
    intro h1 h2 h3
    by_cases hd : f % p = 0
    · have hfp := Nat.div_pos (Nat.le_of_dvd h1 (Nat.dvd_of_mod_eq_zero hd)) (show 0 < p by omega)
      have hlt := Nat.div_lt_self (show 0 < f by omega) (show 1 < p by omega)
      have hpw := run_power hJ n false false false (k := f / p) hm hmb ha
      have e1 := one_modN m
      have e2 := fmodN f p
      have e3 := fdivN f p
      by_cases hone : b ^ (f / p) % m = 1 % m
      · obtain ⟨f', e, g1, g2, g3, g4⟩ := ih (f / p) hlt hfp (by omega) (ho.dvd hone)
        rw [hd] at e2
        rw [hone] at hpw
        refine ⟨f', ?_, g1, Nat.dvd_trans g2 (Nat.div_dvd_of_dvd (Nat.dvd_of_mod_eq_zero hd)), g3, g4⟩
        generalize hQ : ((f / p : Nat) : Int) = Q at *
        generalize hO : ((1 % m : Nat) : Int) = O at *
        exact whl_turn (ρ1 := [.val t (.int m), .val t1 (.int a), .val false (.int f), .val false (.int p), s4]) (ρ2 := [.val t (.int m), .val t1 (.int a), .val false (.int Q), .val false (.int p), s4]) (by simp [order_in_c2, runF, MP.execs, ev_cst, ev_glb, ev_var, ev_tup, ev_lst, ev_dis0, ev_dis1, ev_bin, ev_neg, ev_boo, ev_not, ev_cmp, ev_chn, ev_chn3, ev_ite, ev_idx, ev_slc, ev_call, ev_blt, ev_isi, ev_lstI, x_par, x_aug, x_seti, x_app, x_expr, x_ife, x_ret, x_retN, x_pas, x_brk, x_cnt, x_rse0, x_rse1, ev_fnv, ev_callL, ev_met, ev_disO, ev_dget, ev_din, ev_dget2, x_dset, dgetD, dinD, dget2D, isDicM, dsetD, sortedD, min1D, ev_pop, ev_ext, popD, extD, metR, pickH, tells, Pt.tell, showD, x_nm, x_tp, backs_f1, backs_d1, backs_d2, backs_d3, backs_d4, backs_d5, backs_d6, backs_nil, evB, evIf, evO, evAs, evDs, evI, evT, evRs, bnd, ok, op1, op2, view, views, tru, frzM, frz, keepA, unslot, slotOf, putA, putAs, putD, nxtO, augD, setiD, appD, retA, asgT, asgTs, blts, liftO, bltD, absD, maxD, minD, int1D, lenD, gcdD, isiD, blsD, intsD, anyD, allD, sumD, tupleD, listD, strD, reprD, keyB, binD, cmpO, cmpD, datB, negD, idxD, getD, ixD, slcD, tyD, D.isFn, D.truth, shp_non, shp_bl, shp_int, shp_str, shp_tup, shp_lst, shps_nil, shps_cons, D.eqv, D.eqvs, itemsD, rngD, zipO, enumO, intO, isND, doCall, lends, lendA, lentIx, backs, backS, maskS, mask1, e1, e2, e3, b2, hp0, hm0, hpw]) (by simp [order_in_b2, runF, MP.execs, ev_cst, ev_glb, ev_var, ev_tup, ev_lst, ev_dis0, ev_dis1, ev_bin, ev_neg, ev_boo, ev_not, ev_cmp, ev_chn, ev_chn3, ev_ite, ev_idx, ev_slc, ev_call, ev_blt, ev_isi, ev_lstI, x_par, x_aug, x_seti, x_app, x_expr, x_ife, x_ret, x_retN, x_pas, x_brk, x_cnt, x_rse0, x_rse1, ev_fnv, ev_callL, ev_met, ev_disO, ev_dget, ev_din, ev_dget2, x_dset, dgetD, dinD, dget2D, isDicM, dsetD, sortedD, min1D, ev_pop, ev_ext, popD, extD, metR, pickH, tells, Pt.tell, showD, x_nm, x_tp, backs_f1, backs_d1, backs_d2, backs_d3, backs_d4, backs_d5, backs_d6, backs_nil, evB, evIf, evO, evAs, evDs, evI, evT, evRs, bnd, ok, op1, op2, view, views, tru, frzM, frz, keepA, unslot, slotOf, putA, putAs, putD, nxtO, augD, setiD, appD, retA, asgT, asgTs, blts, liftO, bltD, absD, maxD, minD, int1D, lenD, gcdD, isiD, blsD, intsD, anyD, allD, sumD, tupleD, listD, strD, reprD, keyB, binD, cmpO, cmpD, datB, negD, idxD, getD, ixD, slcD, tyD, D.isFn, D.truth, shp_non, shp_bl, shp_int, shp_str, shp_tup, shp_lst, shps_nil, shps_cons, D.eqv, D.eqvs, itemsD, rngD, zipO, enumO, intO, isND, doCall, lends, lendA, lentIx, backs, backS, maskS, mask1, e3, b2, hp0]) e
      · have hone2 : ¬ ((b ^ (f / p) % m : Nat) : Int) = ((1 % m : Nat) : Int) := by omega
        rw [hd] at e2
        refine ⟨f, ?_, h3, Nat.dvd_refl f, h1, fun ⟨z1, z2⟩ => hone (ho.mul z2)⟩
        generalize hQ : ((f / p : Nat) : Int) = Q at *
        generalize hO : ((1 % m : Nat) : Int) = O at *
        generalize hX : ((b ^ (f / p) % m : Nat) : Int) = X at *
        exact whl_stop (by simp [order_in_c2, runF, MP.execs, ev_cst, ev_glb, ev_var, ev_tup, ev_lst, ev_dis0, ev_dis1, ev_bin, ev_neg, ev_boo, ev_not, ev_cmp, ev_chn, ev_chn3, ev_ite, ev_idx, ev_slc, ev_call, ev_blt, ev_isi, ev_lstI, x_par, x_aug, x_seti, x_app, x_expr, x_ife, x_ret, x_retN, x_pas, x_brk, x_cnt, x_rse0, x_rse1, ev_fnv, ev_callL, ev_met, ev_disO, ev_dget, ev_din, ev_dget2, x_dset, dgetD, dinD, dget2D, isDicM, dsetD, sortedD, min1D, ev_pop, ev_ext, popD, extD, metR, pickH, tells, Pt.tell, showD, x_nm, x_tp, backs_f1, backs_d1, backs_d2, backs_d3, backs_d4, backs_d5, backs_d6, backs_nil, evB, evIf, evO, evAs, evDs, evI, evT, evRs, bnd, ok, op1, op2, view, views, tru, frzM, frz, keepA, unslot, slotOf, putA, putAs, putD, nxtO, augD, setiD, appD, retA, asgT, asgTs, blts, liftO, bltD, absD, maxD, minD, int1D, lenD, gcdD, isiD, blsD, intsD, anyD, allD, sumD, tupleD, listD, strD, reprD, keyB, binD, cmpO, cmpD, datB, negD, idxD, getD, ixD, slcD, tyD, D.isFn, D.truth, shp_non, shp_bl, shp_int, shp_str, shp_tup, shp_lst, shps_nil, shps_cons, D.eqv, D.eqvs, itemsD, rngD, zipO, enumO, intO, isND, doCall, lends, lendA, lentIx, backs, backS, maskS, mask1, e1, e2, e3, b2, hp0, hm0, hpw, hone2])
    · have hd2 : ¬ ((f % p : Nat) : Int) = 0 := by omega
      have e2 := fmodN f p
      refine ⟨f, ?_, h3, Nat.dvd_refl f, h1, fun ⟨z1, z2⟩ => hd (Nat.mod_eq_zero_of_dvd z1)⟩
      generalize hX : ((f % p : Nat) : Int) = X at *
      exact whl_stop (by simp [order_in_c2, runF, MP.execs, ev_cst, ev_glb, ev_var, ev_tup, ev_lst, ev_dis0, ev_dis1, ev_bin, ev_neg, ev_boo, ev_not, ev_cmp, ev_chn, ev_chn3, ev_ite, ev_idx, ev_slc, ev_call, ev_blt, ev_isi, ev_lstI, x_par, x_aug, x_seti, x_app, x_expr, x_ife, x_ret, x_retN, x_pas, x_brk, x_cnt, x_rse0, x_rse1, ev_fnv, ev_callL, ev_met, ev_disO, ev_dget, ev_din, ev_dget2, x_dset, dgetD, dinD, dget2D, isDicM, dsetD, sortedD, min1D, ev_pop, ev_ext, popD, extD, metR, pickH, tells, Pt.tell, showD, x_nm, x_tp, backs_f1, backs_d1, backs_d2, backs_d3, backs_d4, backs_d5, backs_d6, backs_nil, evB, evIf, evO, evAs, evDs, evI, evT, evRs, bnd, ok, op1, op2, view, views, tru, frzM, frz, keepA, unslot, slotOf, putA, putAs, putD, nxtO, augD, setiD, appD, retA, asgT, asgTs, blts, liftO, bltD, absD, maxD, minD, int1D, lenD, gcdD, isiD, blsD, intsD, anyD, allD, sumD, tupleD, listD, strD, reprD, keyB, binD, cmpO, cmpD, datB, negD, idxD, getD, ixD, slcD, tyD, D.isFn, D.truth, shp_non, shp_bl, shp_int, shp_str, shp_tup, shp_lst, shps_nil, shps_cons, D.eqv, D.eqvs, itemsD, rngD, zipO, enumO, intO, isND, doCall, lends, lendA, lentIx, backs, backS, maskS, mask1, e2, hp0, hd2])
theorem oparts_loop : ∀ (ps : List (Nat × Nat)) (f : Nat) (s3 s4 : Slot), (∀ p ∈ ps, 2 ≤ p.1 ∧ p.1 < 2 ^ 60) → 1 ≤ f → f < 2 ^ 60 → o ∣ f →
    ∃ f' x y, forL (Tg.tp (Tgs.cons (Tg.nm 3) (Tgs.cons (Tg.nm 4) Tgs.nil))) (fun ρ => MP.execs (callN P (n + 1)) (order_in_b1 j) ρ) (ps.map pairD) [.val t (.int m), .val t1 (.int a), .val false (.int f), s3, s4] = some (.ok .nxt, [.val t (.int m), .val t1 (.int a), .val false (.int (f' : Nat)), x, y]) ∧ o ∣ f' ∧ f' ∣ f ∧ 1 ≤ f' ∧ ∀ p ∈ ps, ¬ (p.1 ∣ f' ∧ o ∣ f' / p.1) := by
  intro ps
  induction ps with
  | nil => intro f s3 s4 h0 h1 h2 h3; exact ⟨f, _, _, rfl, h3, Nat.dvd_refl f, h1, by simp⟩
  | cons p ps ih =>
    intro f s3 s4 h0 h1 h2 h3
    obtain ⟨hp, hpb⟩ := h0 p (List.mem_cons_self ..)
    obtain ⟨p, k⟩ := p
    dsimp only at hp hpb
    obtain ⟨f1, e1, g1, g2, g3, g4⟩ := ostrip_loop (n := n) (t := t) (t1 := t1) hJ hm hmb ha ho (.val false (.int k)) hp hpb f h1 h2 h3
    have hle := Nat.le_of_dvd h1 g2
    obtain ⟨f', x, y, e2, r1, r2, r3, r4⟩ := ih f1 (.val false (.int p)) (.val false (.int k)) (fun q hq => h0 q (List.mem_cons_of_mem _ hq)) g3 (by omega) g1
    have hw : MP.exec (callN P (n + 1)) (S.whl (order_in_c2 j) order_in_b2) [.val t (.int m), .val t1 (.int a), .val false (.int f), .val false (.int p), .val false (.int k)] = some (.ok .nxt, [.val t (.int m), .val t1 (.int a), .val false (.int (f1 : Nat)), .val false (.int p), .val false (.int k)]) := by rw [x_whl]; exact e1
    refine ⟨f', x, y, ?_, r1, Nat.dvd_trans r2 g2, r3, fun q hq => ?_⟩
    · rw [List.map_cons, for_next (ρ1 := [.val t (.int m), .val t1 (.int a), .val false (.int f), .val false (.int p), .val false (.int k)]) (ρ2 := [.val t (.int m), .val t1 (.int a), .val false (.int (f1 : Nat)), .val false (.int p), .val false (.int k)]) (by simp [asgT, asgTs, putD, pairD]) (by simp [order_in_b1, runF, MP.execs, ev_cst, ev_glb, ev_var, ev_tup, ev_lst, ev_dis0, ev_dis1, ev_bin, ev_neg, ev_boo, ev_not, ev_cmp, ev_chn, ev_chn3, ev_ite, ev_idx, ev_slc, ev_call, ev_blt, ev_isi, ev_lstI, x_par, x_aug, x_seti, x_app, x_expr, x_ife, x_ret, x_retN, x_pas, x_brk, x_cnt, x_rse0, x_rse1, ev_fnv, ev_callL, ev_met, ev_disO, ev_dget, ev_din, ev_dget2, x_dset, dgetD, dinD, dget2D, isDicM, dsetD, sortedD, min1D, ev_pop, ev_ext, popD, extD, metR, pickH, tells, Pt.tell, showD, x_nm, x_tp, backs_f1, backs_d1, backs_d2, backs_d3, backs_d4, backs_d5, backs_d6, backs_nil, evB, evIf, evO, evAs, evDs, evI, evT, evRs, bnd, ok, op1, op2, view, views, tru, frzM, frz, keepA, unslot, slotOf, putA, putAs, putD, nxtO, augD, setiD, appD, retA, asgT, asgTs, blts, liftO, bltD, absD, maxD, minD, int1D, lenD, gcdD, isiD, blsD, intsD, anyD, allD, sumD, tupleD, listD, strD, reprD, keyB, binD, cmpO, cmpD, datB, negD, idxD, getD, ixD, slcD, tyD, D.isFn, D.truth, shp_non, shp_bl, shp_int, shp_str, shp_tup, shp_lst, shps_nil, shps_cons, D.eqv, D.eqvs, itemsD, rngD, zipO, enumO, intO, isND, doCall, lends, lendA, lentIx, backs, backS, maskS, mask1, hw])]
      exact e2
    · rcases List.mem_cons.mp hq with rfl | hq
      · intro ⟨z1, z2⟩
        dsimp only at z1 z2
        apply g4
        refine ⟨Nat.dvd_trans z1 r2, ?_⟩
        obtain ⟨u, hu⟩ := r2
        obtain ⟨v, hv⟩ := z1
        have : f1 / p = f' / p * u := by
          rw [hu, hv, Nat.mul_assoc, Nat.mul_div_cancel_left _ (by omega), Nat.mul_div_cancel_left _ (by omega)]
        rw [this]
        exact Nat.dvd_trans z2 (Nat.dvd_mul_right _ _)
      · exact r4 q hq
end
theorem run_order {P : Nat → Option Fd} {i j1 j2 j3 : Nat} (hP : P i = some (F_order_in j1 j2 j3)) (h1 : P j1 = some F_parts_in) (h2 : P j2 = some F_power_rest) (h3 : P j3 = some (F_units_in j1)) (n : Nat) (t t1 : Bool) {w m b o : Nat} {a : Int} {ps qs : List (Nat × Nat)}
    (hm : 1 ≤ m) (hmb : m < 2 ^ 60) (hw : w < 15000000) (hps : partsN w m = some ps) (hqs : partsN w (unitsN ps 1) = some qs) (ha : a.fmod (m : Int) = (b : Int)) (ho : IsOrd b m o) (hf : b ^ unitsN ps 1 % m = 1 % m) :
    callN P (n + 3) i [.val t (.int m), .val t1 (.int a)] = some (.ok (.dat (.int (o : Nat))), [.non, .non]) := by
  obtain ⟨eu, u1, u2⟩ := run_units h3 h1 n false hm hmb hw hps
  have ep := run_parts h1 (n + 1) false u1 (by omega) hw hqs
  have sp := partsN_spec u1 (by omega) hqs
  have hle : ∀ p ∈ qs, p.1 ≤ unitsN ps 1 := fun p hp => by
    have hd : p.1 ∣ unitsN ps 1 := by
      rw [← sp.prod]
      have := (sp.prime p hp).2
      have hz : ∀ l : List (Nat × Nat), p ∈ l → p.1 ∣ pprod l := by
        intro l
        induction l with
        | nil => intro z; cases z
        | cons x xs ih =>
          intro z
          rw [pprod_cons]
          rcases List.mem_cons.mp z with z | z
          · subst z
            exact Nat.dvd_trans (by rw [show p.2 = (p.2 - 1) + 1 by omega, Nat.pow_succ]; exact Nat.dvd_mul_left _ _) (Nat.dvd_mul_right _ _)
          · exact Nat.dvd_trans (ih z) (Nat.dvd_mul_left _ _)
      exact hz qs hp
    exact Nat.le_of_dvd u1 hd
  obtain ⟨f', x, y, e, r1, r2, r3, r4⟩ := oparts_loop (n := n + 1) (t := t) (t1 := t1) h2 hm hmb ha ho qs (unitsN ps 1) .non .non (fun p hp => ⟨(sp.prime p hp).1.1, by have := hle p hp; omega⟩) u1 (by omega) (ho.dvd hf)
  have hfo : f' = o := by
    obtain ⟨q, hq⟩ := r1
    by_cases hq1 : q = 1
    · rw [hq, hq1, Nat.mul_one]
    · have hq0 : q ≠ 0 := by
        intro z
        rw [z] at hq
        omega
      obtain ⟨p, hp, hpq⟩ := sp.hits (q := q) (by omega) (Nat.dvd_trans ⟨o, by rw [hq, Nat.mul_comm]⟩ r2)
      exfalso
      apply r4 p hp
      obtain ⟨u, hu⟩ := hpq
      have hp1 := (sp.prime p hp).1.1
      refine ⟨⟨o * u, by rw [hq, hu, Nat.mul_left_comm]⟩, ⟨u, ?_⟩⟩
      rw [hq, hu, Nat.mul_left_comm, Nat.mul_div_cancel_left _ (by omega)]
  subst hfo
  simp only [partsD] at ep
  have hx : MP.exec (callN P (n + 2)) (S.for_ (Tg.tp (Tgs.cons (Tg.nm 3) (Tgs.cons (Tg.nm 4) Tgs.nil))) (I.seq (C.call j1 [false] (Cs.cons (C.var 2) Cs.nil))) (order_in_b1 j2)) [.val t (.int m), .val t1 (.int a), .val false (.int (unitsN ps 1 : Nat)), .non, .non] = some (.ok .nxt, [.val t (.int m), .val t1 (.int a), .val false (.int (f' : Nat)), x, y]) := by
    rw [x_for]
    have hi : evI (callN P (n + 2)) (I.seq (C.call j1 [false] (Cs.cons (C.var 2) Cs.nil))) [.val t (.int m), .val t1 (.int a), .val false (.int (unitsN ps 1 : Nat)), .non, .non] = some (.ok (qs.map pairD), [.val t (.int m), .val t1 (.int a), .val false (.int (unitsN ps 1 : Nat)), .non, .non]) := by simp [runF, MP.execs, ev_cst, ev_glb, ev_var, ev_tup, ev_lst, ev_dis0, ev_dis1, ev_bin, ev_neg, ev_boo, ev_not, ev_cmp, ev_chn, ev_chn3, ev_ite, ev_idx, ev_slc, ev_call, ev_blt, ev_isi, ev_lstI, x_par, x_aug, x_seti, x_app, x_expr, x_ife, x_ret, x_retN, x_pas, x_brk, x_cnt, x_rse0, x_rse1, ev_fnv, ev_callL, ev_met, ev_disO, ev_dget, ev_din, ev_dget2, x_dset, dgetD, dinD, dget2D, isDicM, dsetD, sortedD, min1D, ev_pop, ev_ext, popD, extD, metR, pickH, tells, Pt.tell, showD, x_nm, x_tp, backs_f1, backs_d1, backs_d2, backs_d3, backs_d4, backs_d5, backs_d6, backs_nil, evB, evIf, evO, evAs, evDs, evI, evT, evRs, bnd, ok, op1, op2, view, views, tru, frzM, frz, keepA, unslot, slotOf, putA, putAs, putD, nxtO, augD, setiD, appD, retA, asgT, asgTs, blts, liftO, bltD, absD, maxD, minD, int1D, lenD, gcdD, isiD, blsD, intsD, anyD, allD, sumD, tupleD, listD, strD, reprD, keyB, binD, cmpO, cmpD, datB, negD, idxD, getD, ixD, slcD, tyD, D.isFn, D.truth, shp_non, shp_bl, shp_int, shp_str, shp_tup, shp_lst, shps_nil, shps_cons, D.eqv, D.eqvs, itemsD, rngD, zipO, enumO, intO, isND, doCall, lends, lendA, lentIx, backs, backS, maskS, mask1, ep]
    rw [hi]
    exact e
  rw [callN, hP]
  simp [F_order_in, runF, MP.execs, ev_cst, ev_glb, ev_var, ev_tup, ev_lst, ev_dis0, ev_dis1, ev_bin, ev_neg, ev_boo, ev_not, ev_cmp, ev_chn, ev_chn3, ev_ite, ev_idx, ev_slc, ev_call, ev_blt, ev_isi, ev_lstI, x_par, x_aug, x_seti, x_app, x_expr, x_ife, x_ret, x_retN, x_pas, x_brk, x_cnt, x_rse0, x_rse1, ev_fnv, ev_callL, ev_met, ev_disO, ev_dget, ev_din, ev_dget2, x_dset, dgetD, dinD, dget2D, isDicM, dsetD, sortedD, min1D, ev_pop, ev_ext, popD, extD, metR, pickH, tells, Pt.tell, showD, x_nm, x_tp, backs_f1, backs_d1, backs_d2, backs_d3, backs_d4, backs_d5, backs_d6, backs_nil, evB, evIf, evO, evAs, evDs, evI, evT, evRs, bnd, ok, op1, op2, view, views, tru, frzM, frz, keepA, unslot, slotOf, putA, putAs, putD, nxtO, augD, setiD, appD, retA, asgT, asgTs, blts, liftO, bltD, absD, maxD, minD, int1D, lenD, gcdD, isiD, blsD, intsD, anyD, allD, sumD, tupleD, listD, strD, reprD, keyB, binD, cmpO, cmpD, datB, negD, idxD, getD, ixD, slcD, tyD, D.isFn, D.truth, shp_non, shp_bl, shp_int, shp_str, shp_tup, shp_lst, shps_nil, shps_cons, D.eqv, D.eqvs, itemsD, rngD, zipO, enumO, intO, isND, doCall, lends, lendA, lentIx, backs, backS, maskS, mask1, eu, hx]
/-! ### the law's order -/
theorem mul_fmod {a : Int} {b m x : Nat} (ha : a.fmod (m : Int) = (b : Int)) : ((x : Int) * a).fmod (m : Int) = ((x * b % m : Nat) : Int) := by
  rw [← fmodN, Int.natCast_mul, ← ha]
  rw [Int.fmod_eq_emod_of_nonneg _ (by omega), Int.fmod_eq_emod_of_nonneg _ (by omega), Int.fmod_eq_emod_of_nonneg _ (by omega)]
  rw [Int.mul_emod, Int.mul_emod (x : Int) (a % (m : Int)), Int.emod_emod_of_dvd _ (Int.dvd_refl _)]
theorem lorder_loop (call : Nat → List Slot → Out) (t t1 : Bool) {m b o : Nat} {a : Int} (hm : 1 ≤ m) (hmb : m < 2 ^ 60) (hab : bits a < 900000) (ha : a.fmod (m : Int) = (b : Int)) (ho : IsOrd b m o) :
    ∀ (r k : Nat), 1 ≤ k → k + r = o → whlM (evT call law_order_c1) (fun ρ => MP.execs call law_order_b1 ρ) [.val t (.int m), .val t1 (.int a), .val false (.int (b ^ k % m : Nat)), .val false (.int k)] = some (.ok .nxt, [.val t (.int m), .val t1 (.int a), .val false (.int (1 % m : Nat)), .val false (.int o)]) := by
  have hm0 : m ≠ 0 := by omega
  have e1 := one_modN m
  intro r
  induction r with
  | zero =>
    intro k h1 h2
    have : k = o := by omega
    subst this
    rw [ho.one]
    generalize hO : ((1 % m : Nat) : Int) = O at *
    exact whl_stop (by simp [law_order_c1, runF, MP.execs, ev_cst, ev_glb, ev_var, ev_tup, ev_lst, ev_dis0, ev_dis1, ev_bin, ev_neg, ev_boo, ev_not, ev_cmp, ev_chn, ev_chn3, ev_ite, ev_idx, ev_slc, ev_call, ev_blt, ev_isi, ev_lstI, x_par, x_aug, x_seti, x_app, x_expr, x_ife, x_ret, x_retN, x_pas, x_brk, x_cnt, x_rse0, x_rse1, ev_fnv, ev_callL, ev_met, ev_disO, ev_dget, ev_din, ev_dget2, x_dset, dgetD, dinD, dget2D, isDicM, dsetD, sortedD, min1D, ev_pop, ev_ext, popD, extD, metR, pickH, tells, Pt.tell, showD, x_nm, x_tp, backs_f1, backs_d1, backs_d2, backs_d3, backs_d4, backs_d5, backs_d6, backs_nil, evB, evIf, evO, evAs, evDs, evI, evT, evRs, bnd, ok, op1, op2, view, views, tru, frzM, frz, keepA, unslot, slotOf, putA, putAs, putD, nxtO, augD, setiD, appD, retA, asgT, asgTs, blts, liftO, bltD, absD, maxD, minD, int1D, lenD, gcdD, isiD, blsD, intsD, anyD, allD, sumD, tupleD, listD, strD, reprD, keyB, binD, cmpO, cmpD, datB, negD, idxD, getD, ixD, slcD, tyD, D.isFn, D.truth, shp_non, shp_bl, shp_int, shp_str, shp_tup, shp_lst, shps_nil, shps_cons, D.eqv, D.eqvs, itemsD, rngD, zipO, enumO, intO, isND, doCall, lends, lendA, lentIx, backs, backS, maskS, mask1, hm0, e1])
  | succ r ih =>
    intro k h1 h2
    have hne : ¬ ((b ^ k % m : Nat) : Int) = ((1 % m : Nat) : Int) := by
      have := ho.least k h1 (by omega)
      omega
    have e := ih (k + 1) (by omega) (by omega)
    have hx : b ^ k % m < m := Nat.mod_lt _ (by omega)
    have b1 := bitsN (a := b ^ k % m) (by omega)
    have b2 : bits ((b ^ k % m : Nat) : Int) + bits a < 1000000 := by omega
    have e2 : (((b ^ k % m : Nat) : Int) * a).fmod (m : Int) = ((b ^ (k + 1) % m : Nat) : Int) := by
      rw [mul_fmod ha, Nat.mod_mul_mod, Nat.pow_succ]
    generalize hO : ((1 % m : Nat) : Int) = O at *
    generalize hX : ((b ^ k % m : Nat) : Int) = X at *
    generalize hY : ((b ^ (k + 1) % m : Nat) : Int) = Y at *
    exact whl_turn (ρ1 := [.val t (.int m), .val t1 (.int a), .val false (.int X), .val false (.int k)]) (ρ2 := [.val t (.int m), .val t1 (.int a), .val false (.int Y), .val false (.int (k + 1 : Nat))]) (by simp [law_order_c1, runF, MP.execs, ev_cst, ev_glb, ev_var, ev_tup, ev_lst, ev_dis0, ev_dis1, ev_bin, ev_neg, ev_boo, ev_not, ev_cmp, ev_chn, ev_chn3, ev_ite, ev_idx, ev_slc, ev_call, ev_blt, ev_isi, ev_lstI, x_par, x_aug, x_seti, x_app, x_expr, x_ife, x_ret, x_retN, x_pas, x_brk, x_cnt, x_rse0, x_rse1, ev_fnv, ev_callL, ev_met, ev_disO, ev_dget, ev_din, ev_dget2, x_dset, dgetD, dinD, dget2D, isDicM, dsetD, sortedD, min1D, ev_pop, ev_ext, popD, extD, metR, pickH, tells, Pt.tell, showD, x_nm, x_tp, backs_f1, backs_d1, backs_d2, backs_d3, backs_d4, backs_d5, backs_d6, backs_nil, evB, evIf, evO, evAs, evDs, evI, evT, evRs, bnd, ok, op1, op2, view, views, tru, frzM, frz, keepA, unslot, slotOf, putA, putAs, putD, nxtO, augD, setiD, appD, retA, asgT, asgTs, blts, liftO, bltD, absD, maxD, minD, int1D, lenD, gcdD, isiD, blsD, intsD, anyD, allD, sumD, tupleD, listD, strD, reprD, keyB, binD, cmpO, cmpD, datB, negD, idxD, getD, ixD, slcD, tyD, D.isFn, D.truth, shp_non, shp_bl, shp_int, shp_str, shp_tup, shp_lst, shps_nil, shps_cons, D.eqv, D.eqvs, itemsD, rngD, zipO, enumO, intO, isND, doCall, lends, lendA, lentIx, backs, backS, maskS, mask1, hm0, e1, hne]) (by simp [law_order_b1, runF, MP.execs, ev_cst, ev_glb, ev_var, ev_tup, ev_lst, ev_dis0, ev_dis1, ev_bin, ev_neg, ev_boo, ev_not, ev_cmp, ev_chn, ev_chn3, ev_ite, ev_idx, ev_slc, ev_call, ev_blt, ev_isi, ev_lstI, x_par, x_aug, x_seti, x_app, x_expr, x_ife, x_ret, x_retN, x_pas, x_brk, x_cnt, x_rse0, x_rse1, ev_fnv, ev_callL, ev_met, ev_disO, ev_dget, ev_din, ev_dget2, x_dset, dgetD, dinD, dget2D, isDicM, dsetD, sortedD, min1D, ev_pop, ev_ext, popD, extD, metR, pickH, tells, Pt.tell, showD, x_nm, x_tp, backs_f1, backs_d1, backs_d2, backs_d3, backs_d4, backs_d5, backs_d6, backs_nil, evB, evIf, evO, evAs, evDs, evI, evT, evRs, bnd, ok, op1, op2, view, views, tru, frzM, frz, keepA, unslot, slotOf, putA, putAs, putD, nxtO, augD, setiD, appD, retA, asgT, asgTs, blts, liftO, bltD, absD, maxD, minD, int1D, lenD, gcdD, isiD, blsD, intsD, anyD, allD, sumD, tupleD, listD, strD, reprD, keyB, binD, cmpO, cmpD, datB, negD, idxD, getD, ixD, slcD, tyD, D.isFn, D.truth, shp_non, shp_bl, shp_int, shp_str, shp_tup, shp_lst, shps_nil, shps_cons, D.eqv, D.eqvs, itemsD, rngD, zipO, enumO, intO, isND, doCall, lends, lendA, lentIx, backs, backS, maskS, mask1, hm0, e2, b2]) e
theorem run_law_order {P : Nat → Option Fd} {i : Nat} (hP : P i = some F_law_order) (n : Nat) (t t1 : Bool) {m b o : Nat} {a : Int} (hm : 1 ≤ m) (hmb : m < 2 ^ 60) (hab : bits a < 900000) (ha : a.fmod (m : Int) = (b : Int)) (ho : IsOrd b m o) :
    callN P (n + 1) i [.val t (.int m), .val t1 (.int a)] = some (.ok (.dat (.int (o : Nat))), [.non, .non]) := by
  have hm0 : m ≠ 0 := by omega
  have hbm : b < m := by
    have := (fmod_pos a (m := (m : Int)) (by omega)).2
    omega
  have e := lorder_loop (callN P n) t t1 hm hmb hab ha ho (o - 1) 1 (Nat.le_refl 1) (by have := ho.pos; omega)
  rw [Nat.pow_one, Nat.mod_eq_of_lt hbm] at e
  generalize hO : ((1 % m : Nat) : Int) = O at *
  have hx : MP.exec (callN P n) (S.whl law_order_c1 law_order_b1) [.val t (.int m), .val t1 (.int a), .val false (.int b), .val false (.int 1)] = some (.ok .nxt, [.val t (.int m), .val t1 (.int a), .val false (.int O), .val false (.int o)]) := by rw [x_whl]; exact e
  rw [callN, hP]
  simp [F_law_order, runF, MP.execs, ev_cst, ev_glb, ev_var, ev_tup, ev_lst, ev_dis0, ev_dis1, ev_bin, ev_neg, ev_boo, ev_not, ev_cmp, ev_chn, ev_chn3, ev_ite, ev_idx, ev_slc, ev_call, ev_blt, ev_isi, ev_lstI, x_par, x_aug, x_seti, x_app, x_expr, x_ife, x_ret, x_retN, x_pas, x_brk, x_cnt, x_rse0, x_rse1, ev_fnv, ev_callL, ev_met, ev_disO, ev_dget, ev_din, ev_dget2, x_dset, dgetD, dinD, dget2D, isDicM, dsetD, sortedD, min1D, ev_pop, ev_ext, popD, extD, metR, pickH, tells, Pt.tell, showD, x_nm, x_tp, backs_f1, backs_d1, backs_d2, backs_d3, backs_d4, backs_d5, backs_d6, backs_nil, evB, evIf, evO, evAs, evDs, evI, evT, evRs, bnd, ok, op1, op2, view, views, tru, frzM, frz, keepA, unslot, slotOf, putA, putAs, putD, nxtO, augD, setiD, appD, retA, asgT, asgTs, blts, liftO, bltD, absD, maxD, minD, int1D, lenD, gcdD, isiD, blsD, intsD, anyD, allD, sumD, tupleD, listD, strD, reprD, keyB, binD, cmpO, cmpD, datB, negD, idxD, getD, ixD, slcD, tyD, D.isFn, D.truth, shp_non, shp_bl, shp_int, shp_str, shp_tup, shp_lst, shps_nil, shps_cons, D.eqv, D.eqvs, itemsD, rngD, zipO, enumO, intO, isND, doCall, lends, lendA, lentIx, backs, backS, maskS, mask1, ha, hm0, hx]
theorem prt_loop (call : Nat → List Slot → Out) (s1 : Slot) (t : Bool) {a : Int} (hab : a.natAbs < 2 ^ 10) : ∀ (k j : Nat) (lo : Int) (s3 : Slot), j + k ≤ 20 →
    ∃ s, forL (.nm 3) (fun ρ => MP.execs call law_pr_times_b1 ρ) (intsL lo k) [.val t (.int a), s1, .val false (.int (a ^ j)), s3] = some (.ok .nxt, [.val t (.int a), s1, .val false (.int (a ^ (j + k))), s]) := by
  intro k
  induction k with
  | zero => intro j lo s3 h; exact ⟨s3, rfl⟩
  | succ k ih =>
    intro j lo s3 h
    obtain ⟨s, e⟩ := ih (j + 1) (lo + 1) (.val false (.int lo)) (by omega)
    have b1 : bits a < 64 := bits_small (by omega) (by omega)
    have b2 : bits (a ^ j) < 201 := bits_small (by
      rw [Int.natAbs_pow]
      exact Nat.lt_of_le_of_lt (Nat.pow_le_pow_left (Nat.le_of_lt hab) j) (Nat.lt_of_le_of_lt (Nat.pow_le_pow_right (by decide) (show j ≤ 20 by omega)) (by decide +kernel))) (by decide)
    have b3 : bits (a ^ j) + bits a < 1000000 := by omega
    have hp : a ^ j * a = a ^ (j + 1) := (Int.pow_succ a j).symm
    rw [show j + (k + 1) = j + 1 + k by omega]
    generalize hZ : a ^ (j + 1) = Z at *
    refine ⟨s, ?_⟩
    rw [intsL, for_next (ρ1 := [.val t (.int a), s1, .val false (.int (a ^ j)), .val false (.int lo)]) (ρ2 := [.val t (.int a), s1, .val false (.int Z), .val false (.int lo)]) (by simp [asgT, putD]) (by simp [law_pr_times_b1, runF, MP.execs, ev_cst, ev_glb, ev_var, ev_tup, ev_lst, ev_dis0, ev_dis1, ev_bin, ev_neg, ev_boo, ev_not, ev_cmp, ev_chn, ev_chn3, ev_ite, ev_idx, ev_slc, ev_call, ev_blt, ev_isi, ev_lstI, x_par, x_aug, x_seti, x_app, x_expr, x_ife, x_ret, x_retN, x_pas, x_brk, x_cnt, x_rse0, x_rse1, ev_fnv, ev_callL, ev_met, ev_disO, ev_dget, ev_din, ev_dget2, x_dset, dgetD, dinD, dget2D, isDicM, dsetD, sortedD, min1D, ev_pop, ev_ext, popD, extD, metR, pickH, tells, Pt.tell, showD, x_nm, x_tp, backs_f1, backs_d1, backs_d2, backs_d3, backs_d4, backs_d5, backs_d6, backs_nil, evB, evIf, evO, evAs, evDs, evI, evT, evRs, bnd, ok, op1, op2, view, views, tru, frzM, frz, keepA, unslot, slotOf, putA, putAs, putD, nxtO, augD, setiD, appD, retA, asgT, asgTs, blts, liftO, bltD, absD, maxD, minD, int1D, lenD, gcdD, isiD, blsD, intsD, anyD, allD, sumD, tupleD, listD, strD, reprD, keyB, binD, cmpO, cmpD, datB, negD, idxD, getD, ixD, slcD, tyD, D.isFn, D.truth, shp_non, shp_bl, shp_int, shp_str, shp_tup, shp_lst, shps_nil, shps_cons, D.eqv, D.eqvs, itemsD, rngD, zipO, enumO, intO, isND, doCall, lends, lendA, lentIx, backs, backS, maskS, mask1, b3, hp])]
    exact e
theorem ev_rng1v (call : Nat → List Slot → Out) (j : Nat) (ρ : Env) {t : Bool} {K : Int} (h : ρ[j]? = some (.val t (.int K))) (hs : smallI K = true) : evI call (I.rng1 (C.var j)) ρ = some (.ok (intsL 0 K.toNat), ρ) := by
  have hs0 : smallI 0 = true := by decide
  rw [evI, ev_var, h]
  simp [runF, MP.execs, ev_cst, ev_glb, ev_var, ev_tup, ev_lst, ev_dis0, ev_dis1, ev_bin, ev_neg, ev_boo, ev_not, ev_cmp, ev_chn, ev_chn3, ev_ite, ev_idx, ev_slc, ev_call, ev_blt, ev_isi, ev_lstI, x_par, x_aug, x_seti, x_app, x_expr, x_ife, x_ret, x_retN, x_pas, x_brk, x_cnt, x_rse0, x_rse1, ev_fnv, ev_callL, ev_met, ev_disO, ev_dget, ev_din, ev_dget2, x_dset, dgetD, dinD, dget2D, isDicM, dsetD, sortedD, min1D, ev_pop, ev_ext, popD, extD, metR, pickH, tells, Pt.tell, showD, x_nm, x_tp, backs_f1, backs_d1, backs_d2, backs_d3, backs_d4, backs_d5, backs_d6, backs_nil, evB, evIf, evO, evAs, evDs, evI, evT, evRs, bnd, ok, op1, op2, view, views, tru, frzM, frz, keepA, unslot, slotOf, putA, putAs, putD, nxtO, augD, setiD, appD, retA, asgT, asgTs, blts, liftO, bltD, absD, maxD, minD, int1D, lenD, gcdD, isiD, blsD, intsD, anyD, allD, sumD, tupleD, listD, strD, reprD, keyB, binD, cmpO, cmpD, datB, negD, idxD, getD, ixD, slcD, tyD, D.isFn, D.truth, shp_non, shp_bl, shp_int, shp_str, shp_tup, shp_lst, shps_nil, shps_cons, D.eqv, D.eqvs, itemsD, rngD, zipO, enumO, intO, isND, doCall, lends, lendA, lentIx, backs, backS, maskS, mask1, hs, hs0]
theorem for_rng1v (call : Nat → List Slot → Out) (j : Nat) (ρ : Env) {tg : Tg} {b : Ss} {t : Bool} {K : Int} (h : ρ[j]? = some (.val t (.int K))) (hs : smallI K = true) : MP.exec call (S.for_ tg (I.rng1 (C.var j)) b) ρ = forL tg (fun ρ => MP.execs call b ρ) (intsL 0 K.toNat) ρ := by
  rw [x_for, ev_rng1v call j ρ h hs]
  rfl
theorem smallN {k : Nat} (h : k < 2 ^ 60) : smallI (k : Int) = true := small_i (by omega)
theorem run_pr_times {P : Nat → Option Fd} {i : Nat} (hP : P i = some F_law_pr_times) (n : Nat) (t t1 : Bool) {a : Int} (hab : a.natAbs < 2 ^ 10) {k : Nat} (hk : k ≤ 20) : callN P (n + 1) i [.val t (.int a), .val t1 (.int k)] = some (.ok (.dat (.int (a ^ k))), [.non, .non]) := by
  obtain ⟨s, e⟩ := prt_loop (callN P n) (.val t1 (.int k)) t hab k 0 0 .non (by omega)
  rw [Int.pow_zero, Nat.zero_add] at e
  have hs1 : smallI (k : Int) = true := smallN (by omega)
  have hs0 : smallI 0 = true := by decide
  have hx : MP.exec (callN P n) (S.for_ (Tg.nm 3) (I.rng1 (C.var 1)) law_pr_times_b1) [.val t (.int a), .val t1 (.int k), .val false (.int 1), .non] = some (.ok .nxt, [.val t (.int a), .val t1 (.int k), .val false (.int (a ^ k)), s]) := by
    exact (for_rng1v (callN P n) 1 _ (K := (k : Int)) rfl hs1).trans e
  refine (ran (P := P) (n := n) hP rfl (ρ' := [.val t (.int a), .val t1 (.int k), .val false (.int (a ^ k)), s]) (d := .int (a ^ k)) ?_).trans rfl
  show MP.execs (callN P n) (Ss.cons (S.asg (Tg.nm 2) (C.cst (D.int 1))) (Ss.cons (S.for_ (Tg.nm 3) (I.rng1 (C.var 1)) law_pr_times_b1) (Ss.cons (S.ret (C.var 2)) Ss.nil))) [.val t (.int a), .val t1 (.int k), .non, .non] = _
  refine step (ρ1 := [.val t (.int a), .val t1 (.int k), .val false (.int 1), .non]) (by simp [runF, MP.execs, ev_cst, ev_glb, ev_var, ev_tup, ev_lst, ev_dis0, ev_dis1, ev_bin, ev_neg, ev_boo, ev_not, ev_cmp, ev_chn, ev_chn3, ev_ite, ev_idx, ev_slc, ev_call, ev_blt, ev_isi, ev_lstI, x_par, x_aug, x_seti, x_app, x_expr, x_ife, x_ret, x_retN, x_pas, x_brk, x_cnt, x_rse0, x_rse1, ev_fnv, ev_callL, ev_met, ev_disO, ev_dget, ev_din, ev_dget2, x_dset, dgetD, dinD, dget2D, isDicM, dsetD, sortedD, min1D, ev_pop, ev_ext, popD, extD, metR, pickH, tells, Pt.tell, showD, x_nm, x_tp, backs_f1, backs_d1, backs_d2, backs_d3, backs_d4, backs_d5, backs_d6, backs_nil, evB, evIf, evO, evAs, evDs, evI, evT, evRs, bnd, ok, op1, op2, view, views, tru, frzM, frz, keepA, unslot, slotOf, putA, putAs, putD, nxtO, augD, setiD, appD, retA, asgT, asgTs, blts, liftO, bltD, absD, maxD, minD, int1D, lenD, gcdD, isiD, blsD, intsD, anyD, allD, sumD, tupleD, listD, strD, reprD, keyB, binD, cmpO, cmpD, datB, negD, idxD, getD, ixD, slcD, tyD, D.isFn, D.truth, shp_non, shp_bl, shp_int, shp_str, shp_tup, shp_lst, shps_nil, shps_cons, D.eqv, D.eqvs, itemsD, rngD, zipO, enumO, intO, isND, doCall, lends, lendA, lentIx, backs, backS, maskS, mask1]) (step hx (last ?_))
  generalize a ^ k = Z
  simp [runF, MP.execs, ev_cst, ev_glb, ev_var, ev_tup, ev_lst, ev_dis0, ev_dis1, ev_bin, ev_neg, ev_boo, ev_not, ev_cmp, ev_chn, ev_chn3, ev_ite, ev_idx, ev_slc, ev_call, ev_blt, ev_isi, ev_lstI, x_par, x_aug, x_seti, x_app, x_expr, x_ife, x_ret, x_retN, x_pas, x_brk, x_cnt, x_rse0, x_rse1, ev_fnv, ev_callL, ev_met, ev_disO, ev_dget, ev_din, ev_dget2, x_dset, dgetD, dinD, dget2D, isDicM, dsetD, sortedD, min1D, ev_pop, ev_ext, popD, extD, metR, pickH, tells, Pt.tell, showD, x_nm, x_tp, backs_f1, backs_d1, backs_d2, backs_d3, backs_d4, backs_d5, backs_d6, backs_nil, evB, evIf, evO, evAs, evDs, evI, evT, evRs, bnd, ok, op1, op2, view, views, tru, frzM, frz, keepA, unslot, slotOf, putA, putAs, putD, nxtO, augD, setiD, appD, retA, asgT, asgTs, blts, liftO, bltD, absD, maxD, minD, int1D, lenD, gcdD, isiD, blsD, intsD, anyD, allD, sumD, tupleD, listD, strD, reprD, keyB, binD, cmpO, cmpD, datB, negD, idxD, getD, ixD, slcD, tyD, D.isFn, D.truth, shp_non, shp_bl, shp_int, shp_str, shp_tup, shp_lst, shps_nil, shps_cons, D.eqv, D.eqvs, itemsD, rngD, zipO, enumO, intO, isND, doCall, lends, lendA, lentIx, backs, backS, maskS, mask1]
end MP
set_option Elab.async false
set_option linter.all false
set_option maxRecDepth 100000
set_option maxHeartbeats 2000000
/-! MP: makers modulo a prime exist (no program here) -/
namespace MP
open PySem
/-! ### roots of polys modulo p -/
def evp : List Int → Int → Int
  | [], _ => 0
  | c :: cs, x => c + x * evp cs x
/-- divided by x - a: quotient, rest -/
def dvp (a : Int) : List Int → List Int × Int
  | [] => ([], 0)
  | [c] => ([], c)
  | c :: cs => ((dvp a cs).2 :: (dvp a cs).1, c + (dvp a cs).2 * a)
theorem dvp_cons (a c d : Int) (cs : List Int) : dvp a (c :: d :: cs) = ((dvp a (d :: cs)).2 :: (dvp a (d :: cs)).1, c + (dvp a (d :: cs)).2 * a) := by rw [dvp]; simp
theorem dvp_spec (a x : Int) : ∀ cs : List Int, evp cs x = (x - a) * evp (dvp a cs).1 x + (dvp a cs).2
  | [] => by simp [evp, dvp]
  | [c] => by simp [evp, dvp]
  | c :: d :: cs => by
    have ih := dvp_spec a x (d :: cs)
    rw [dvp_cons, evp, ih]
    simp only [evp]
    generalize (dvp a (d :: cs)).2 = r
    generalize evp (dvp a (d :: cs)).1 x = e
    have h1 : x * ((x - a) * e + r) = x * ((x - a) * e) + x * r := Int.mul_add _ _ _
    have h2 : (x - a) * (r + x * e) = (x - a) * r + (x - a) * (x * e) := Int.mul_add _ _ _
    have h3 : (x - a) * r = x * r - a * r := Int.sub_mul _ _ _
    have h4 : x * ((x - a) * e) = (x - a) * (x * e) := Int.mul_left_comm _ _ _
    have h5 : r * a = a * r := Int.mul_comm _ _
    omega
theorem dvp_len (a : Int) : ∀ (cs : List Int) (n : Nat), cs.length = n + 2 → (dvp a cs).1.length = n + 1 ∧ (dvp a cs).1.getLast? = cs.getLast?
  | [], n, h => by simp at h
  | [c], n, h => by simp at h
  | [c, d], n, h => by
    have : n = 0 := by simpa using h.symm
    subst this
    simp [dvp]
  | c :: d :: e :: cs, n, h => by
    cases n with
    | zero => simp at h
    | succ n =>
      have ih := dvp_len a (d :: e :: cs) n (by simpa using h)
      rw [dvp_cons]
      refine ⟨by simp [ih.1], ?_⟩
      have hne : (dvp a (d :: e :: cs)).1 ≠ [] := by
        intro z
        rw [z] at ih
        simp at ih
      obtain ⟨y, ys, hy⟩ : ∃ y ys, (dvp a (d :: e :: cs)).1 = y :: ys := by
        cases hq : (dvp a (d :: e :: cs)).1 with
        | nil => exact absurd hq hne
        | cons y ys => exact ⟨y, ys, rfl⟩
      have i2 := ih.2
      rw [hy] at i2 ⊢
      simpa [List.getLast?_cons_cons] using i2
theorem Prm.dvdI {p : Nat} (h : Prm p) {a b : Int} (hd : (p : Int) ∣ a * b) : (p : Int) ∣ a ∨ (p : Int) ∣ b := by
  have h1 : p ∣ a.natAbs * b.natAbs := by
    have := Int.natAbs_dvd_natAbs.mpr hd
    rwa [Int.natAbs_natCast, Int.natAbs_mul] at this
  rcases h.mul h1 with h2 | h2
  · exact Or.inl (Int.natAbs_dvd_natAbs.mp (by rwa [Int.natAbs_natCast]))
  · exact Or.inr (Int.natAbs_dvd_natAbs.mp (by rwa [Int.natAbs_natCast]))
theorem roots_le {p : Nat} (h : Prm p) : ∀ (n : Nat) (cs : List Int) (l : Int), cs.length = n + 1 → cs.getLast? = some l → ¬ (p : Int) ∣ l → ∀ L : List Int, (L.Pairwise fun a b => ¬ (p : Int) ∣ b - a) → (∀ x ∈ L, (p : Int) ∣ evp cs x) → L.length ≤ n := by
  intro n
  induction n with
  | zero =>
    intro cs l h1 h2 h3 L h4 h5
    cases L with
    | nil => simp
    | cons a L =>
      have h6 := h5 a (List.mem_cons_self ..)
      match cs, h1 with
      | [c], _ =>
        simp at h2
        subst h2
        simp [evp] at h6
        exact absurd h6 h3
  | succ n ih =>
    intro cs l h1 h2 h3 L h4 h5
    cases L with
    | nil => simp
    | cons a L =>
      have hs := dvp_spec a
      obtain ⟨q1, q2⟩ := dvp_len a cs n h1
      have hr : (p : Int) ∣ (dvp a cs).2 := by
        have := h5 a (List.mem_cons_self ..)
        rw [hs a cs] at this
        simpa using this
      have := ih (dvp a cs).1 l q1 (q2.trans h2) h3 L (List.Pairwise.of_cons h4) fun x hx => by
        have h6 := h5 x (List.mem_cons_of_mem _ hx)
        rw [hs x cs] at h6
        have h7 := Int.dvd_sub h6 hr
        rw [Int.add_sub_cancel] at h7
        rcases h.dvdI h7 with h8 | h8
        · exact absurd h8 (List.rel_of_pairwise_cons h4 hx)
        · exact h8
      simpa using this
def xd1 (d : Nat) : List Int := -1 :: (List.replicate d 0 ++ [1])
theorem ev_rep (x : Int) : ∀ d : Nat, evp (List.replicate d 0 ++ [1]) x = x ^ d
  | 0 => by simp [evp]
  | d + 1 => by
    rw [List.replicate_succ, List.cons_append, evp, ev_rep x d, Int.pow_succ, Int.mul_comm]
    omega
theorem ev_xd1 (x : Int) (d : Nat) : evp (xd1 d) x = x ^ (d + 1) - 1 := by
  rw [xd1, evp, ev_rep, Int.pow_succ, Int.mul_comm]
  omega
theorem pow_one_dvd {p x d : Nat} (hp : 2 ≤ p) (h : x ^ d % p = 1) : (p : Int) ∣ (x : Int) ^ d - 1 := by
  have h1 : ((x ^ d : Nat) : Int) % (p : Int) = 1 := by
    rw [← Int.natCast_emod, h]; rfl
  rw [Int.natCast_pow] at h1
  apply Int.dvd_of_emod_eq_zero
  rw [Int.sub_emod, h1]
  have : (1 : Int) % (p : Int) = 1 := Int.emod_eq_of_lt (by omega) (by omega)
  rw [this]
  simp
/-- not all are roots -/
theorem not_all {p d : Nat} (h : Prm p) (hd : d + 1 < p - 1) : ∃ x, 1 ≤ x ∧ x < p ∧ x ^ (d + 1) % p ≠ 1 := by
  apply Classical.byContradiction
  intro hno
  have hall : ∀ x, 1 ≤ x → x < p → x ^ (d + 1) % p = 1 := fun x h1 h2 => by
    apply Classical.byContradiction
    intro z
    exact hno ⟨x, h1, h2, z⟩
  have hp := h.1
  have := roots_le h (d + 1) (xd1 d) 1 (by simp [xd1]) (by simp [xd1, List.getLast?_cons]) (fun z => by
      have := Int.le_of_dvd (by omega) z
      omega) ((List.range (p - 1)).map fun i => ((i + 1 : Nat) : Int)) (by
      rw [List.pairwise_map]
      refine List.Pairwise.imp_of_mem (R := (· < ·)) (fun {a b} ha hb hab z => ?_) (List.pairwise_lt_range)
      rw [List.mem_range] at ha hb
      have := Int.le_of_dvd (by omega) z
      omega) (fun x hx => by
      obtain ⟨i, hi, rfl⟩ := List.mem_map.mp hx
      rw [List.mem_range] at hi
      rw [ev_xd1]
      exact pow_one_dvd (by omega) (hall (i + 1) (by omega) (by omega)))
  simp at this
  omega
/-! ### x ^ (p - 1) is 1 -/
def prodL (L : List Nat) : Nat := L.foldr (· * ·) 1
theorem prodL_perm {L M : List Nat} (h : L.Perm M) : prodL L = prodL M := by
  induction h with
  | nil => rfl
  | cons x _ ih => simp [prodL] at ih ⊢; rw [ih]
  | swap x y l => simp [prodL, Nat.mul_left_comm]
  | trans _ _ i1 i2 => rw [i1, i2]
theorem prodL_app (a b : List Nat) : prodL (a ++ b) = prodL a * prodL b := by
  induction a with
  | nil => simp [prodL]
  | cons x a ih => simp only [prodL, List.cons_append, List.foldr_cons] at ih ⊢; rw [ih, Nat.mul_assoc]
def fac : Nat → Nat
  | 0 => 1
  | n + 1 => (n + 1) * fac n
theorem nodup_len : ∀ (n : Nat) (L : List Nat), L.Nodup → (∀ x ∈ L, 1 ≤ x ∧ x ≤ n) → L.length ≤ n
  | 0, L, h1, h2 => by
    cases L with
    | nil => simp
    | cons x xs => have := h2 x (List.mem_cons_self ..); omega
  | n + 1, L, h1, h2 => by
    by_cases hm : n + 1 ∈ L
    · have h3 := nodup_len n (L.erase (n + 1)) (h1.erase _) fun x hx => by
        have := (List.Nodup.mem_erase_iff h1).mp hx
        have := h2 x this.2
        omega
      rw [List.length_erase_of_mem hm] at h3
      omega
    · have h3 := nodup_len n L h1 fun x hx => by
        have h4 := h2 x hx
        have : x ≠ n + 1 := fun z => hm (z ▸ hx)
        omega
      omega
theorem nodup_prod : ∀ (n : Nat) (L : List Nat), L.Nodup → (∀ x ∈ L, 1 ≤ x ∧ x ≤ n) → L.length = n → prodL L = fac n
  | 0, L, h1, h2, h3 => by
    cases L with
    | nil => rfl
    | cons x xs => simp at h3
  | n + 1, L, h1, h2, h3 => by
    have hm : n + 1 ∈ L := by
      apply Classical.byContradiction
      intro hm
      have := nodup_len n L h1 fun x hx => by
        have h4 := h2 x hx
        have : x ≠ n + 1 := fun z => hm (z ▸ hx)
        omega
      omega
    have h4 := nodup_prod n (L.erase (n + 1)) (h1.erase _) (fun x hx => by
        have := (List.Nodup.mem_erase_iff h1).mp hx
        have := h2 x this.2
        omega) (by rw [List.length_erase_of_mem hm]; omega)
    rw [prodL_perm (List.perm_cons_erase hm), fac, ← h4]
    rfl
theorem prod_map (p x : Nat) : ∀ n : Nat, prodL ((List.range n).map fun i => x * (i + 1) % p) % p = x ^ n * fac n % p
  | 0 => by simp [prodL, fac]
  | n + 1 => by
    rw [List.range_succ, List.map_append, prodL_app]
    have h1 : prodL (List.map (fun i => x * (i + 1) % p) [n]) = x * (n + 1) % p := by simp [prodL]
    rw [h1, Nat.mul_mod, prod_map p x n, Nat.mod_mod, ← Nat.mul_mod, fac, Nat.pow_succ]
    congr 1
    simp only [Nat.mul_assoc, Nat.mul_left_comm, Nat.mul_comm]
theorem Prm.fac {p : Nat} (h : Prm p) : ∀ n, n < p → ¬ p ∣ MP.fac n
  | 0, _ => fun z => by
    have := Nat.le_of_dvd (by decide) z
    have := h.1
    simp [MP.fac] at *
    omega
  | n + 1, hn => fun z => by
    rcases h.mul z with z | z
    · have := Nat.le_of_dvd (by omega) z
      omega
    · exact Prm.fac h n (by omega) z
theorem fermat {p x : Nat} (h : Prm p) (h1 : 1 ≤ x) (h2 : x < p) : x ^ (p - 1) % p = 1 := by
  have hp := h.1
  have hx : ¬ p ∣ x := fun z => by have := Nat.le_of_dvd h1 z; omega
  have hprod := nodup_prod (p - 1) ((List.range (p - 1)).map fun i => x * (i + 1) % p) (by
      unfold List.Nodup
      rw [List.pairwise_map]
      refine List.Pairwise.imp_of_mem (R := (· < ·)) (fun {a b} ha hb hab z => ?_) (List.pairwise_lt_range)
      rw [List.mem_range] at ha hb
      have hz : (p : Int) ∣ (x : Int) * (((b : Int) + 1) - ((a : Int) + 1)) := by
        have e : ((x * (b + 1) : Nat) : Int) % (p : Int) = ((x * (a + 1) : Nat) : Int) % (p : Int) := by
          rw [← Int.natCast_emod, ← Int.natCast_emod, z]
        have := Int.dvd_of_emod_eq_zero ((Int.emod_eq_emod_iff_emod_sub_eq_zero).mp e)
        rw [Int.natCast_mul, Int.natCast_mul, ← Int.mul_sub] at this
        simpa using this
      rcases h.dvdI hz with hz | hz
      · exact hx (Int.natCast_dvd_natCast.mp hz)
      · have := Int.le_of_dvd (by omega) hz
        omega) (fun y hy => by
      obtain ⟨i, hi, rfl⟩ := List.mem_map.mp hy
      rw [List.mem_range] at hi
      have hlt := Nat.mod_lt (x * (i + 1)) (show p > 0 by omega)
      have hne : x * (i + 1) % p ≠ 0 := fun z => by
        rcases h.mul (Nat.dvd_of_mod_eq_zero z) with z | z
        · exact hx z
        · have := Nat.le_of_dvd (by omega) z
          omega
      omega) (by simp)
  have hm := prod_map p x (p - 1)
  rw [hprod] at hm
  have hF := Prm.fac h (p - 1) (by omega)
  have hd : (p : Int) ∣ (MP.fac (p - 1) : Int) * ((x : Int) ^ (p - 1) - 1) := by
    have e : ((x ^ (p - 1) * MP.fac (p - 1) : Nat) : Int) % (p : Int) = ((MP.fac (p - 1) : Nat) : Int) % (p : Int) := by
      rw [← Int.natCast_emod, ← Int.natCast_emod, ← hm]
    have := Int.dvd_of_emod_eq_zero ((Int.emod_eq_emod_iff_emod_sub_eq_zero).mp e)
    rw [Int.natCast_mul, Int.natCast_pow] at this
    rwa [Int.mul_sub, Int.mul_one, Int.mul_comm (MP.fac (p - 1) : Int)]
  rcases h.dvdI hd with hd | hd
  · exact absurd (Int.natCast_dvd_natCast.mp hd) hF
  · have h3 : ((x ^ (p - 1) : Nat) : Int) % (p : Int) = 1 := by
      obtain ⟨q, hq⟩ := hd
      rw [Int.natCast_pow, show (x : Int) ^ (p - 1) = 1 + (p : Int) * q by omega, Int.add_mul_emod_self_left]
      exact Int.emod_eq_of_lt (by omega) (by omega)
    rw [← Int.natCast_emod] at h3
    exact_mod_cast h3
/-! ### an element of order p - 1 -/
theorem one_mod {p : Nat} (h : Prm p) : 1 % p = 1 := Nat.mod_eq_of_lt (by have := h.1; omega)
theorem pow_dvd_prime {q o : Nat} (h : Prm q) : ∀ k, o ∣ q ^ (k + 1) → ¬ o ∣ q ^ k → o = q ^ (k + 1) := fun k h1 h2 => by
  obtain ⟨m, hm⟩ := h1
  have hq := h.1
  have hpos : 0 < q ^ (k + 1) := Nat.pow_pos (by omega)
  by_cases hd : q ∣ m
  · obtain ⟨u, rfl⟩ := hd
    exfalso
    apply h2
    refine ⟨u, ?_⟩
    rw [Nat.pow_succ] at hm
    have : q * q ^ k = q * (o * u) := by rw [Nat.mul_comm q (q ^ k), hm, Nat.mul_left_comm]
    exact Nat.eq_of_mul_eq_mul_left (by omega) this
  · have hc : Nat.Coprime m q := by
      have := h.gcd hd
      rwa [Nat.gcd_comm] at this
    have hm1 : m ∣ q ^ (k + 1) := ⟨o, by rw [hm, Nat.mul_comm]⟩
    have h1 : m ∣ 1 := by
      have hc2 : Nat.Coprime m (q ^ (k + 1)) := Nat.Coprime.pow_right _ hc
      have := Nat.dvd_gcd (Nat.dvd_refl m) hm1
      rwa [show Nat.gcd m (q ^ (k + 1)) = 1 from hc2] at this
    have : m = 1 := Nat.eq_one_of_dvd_one h1
    rw [this, Nat.mul_one] at hm
    exact hm.symm
theorem pow_mod_one {y p n : Nat} (h : Prm p) : (y % p) ^ n % p = 1 ↔ y ^ n % p = 1 := by rw [← Nat.pow_mod]
/-- an element of order q ^ k -/
theorem ord_part {p q k c : Nat} (h : Prm p) (hq : Prm q) (hk : 1 ≤ k) (he : q ^ k * c = p - 1) : ∃ y, 1 ≤ y ∧ y < p ∧ IsOrd y p (q ^ k) := by
  have hp := h.1
  have hq1 := hq.1
  obtain ⟨j, rfl⟩ : ∃ j, k = j + 1 := ⟨k - 1, by omega⟩
  have hc : 1 ≤ c := by
    apply Classical.byContradiction
    intro z
    have : c = 0 := by omega
    subst this
    omega
  have hj : 1 ≤ q ^ j := Nat.pow_pos (by omega)
  have hd1 : 1 ≤ q ^ j * c := Nat.mul_pos hj hc
  have hd2 : q ^ j * c < p - 1 := by
    rw [← he, Nat.pow_succ, Nat.mul_right_comm]
    have := Nat.mul_le_mul_left (q ^ j * c) hq1
    omega
  obtain ⟨d, hd⟩ : ∃ d, q ^ j * c = d + 1 := ⟨q ^ j * c - 1, by omega⟩
  obtain ⟨x, x1, x2, x3⟩ := not_all h (d := d) (by omega)
  rw [← hd] at x3
  have hf := fermat h x1 x2
  have hy : ∀ n, (x ^ c % p) ^ n % p = x ^ (c * n) % p := fun n => by rw [← Nat.pow_mod, ← Nat.pow_mul]
  have hone : (x ^ c % p) ^ (q ^ (j + 1)) % p = 1 % p := by rw [hy, Nat.mul_comm, he, hf, one_mod h]
  have hnot : (x ^ c % p) ^ (q ^ j) % p ≠ 1 % p := by rw [hy, Nat.mul_comm, one_mod h]; exact x3
  obtain ⟨o, ho⟩ := ord_exists (b := x ^ c % p) (m := p) (f := q ^ (j + 1)) (Nat.pow_pos (by omega)) hone
  have ho2 := pow_dvd_prime hq j (ho.dvd hone) (fun z => hnot (ho.mul z))
  rw [ho2] at ho
  have hlt := Nat.mod_lt (x ^ c) (show p > 0 by omega)
  refine ⟨x ^ c % p, ?_, hlt, ho⟩
  apply Classical.byContradiction
  intro z
  have hz : x ^ c % p = 0 := by omega
  rw [hz, Nat.zero_pow (Nat.pow_pos (by omega)), Nat.zero_mod, one_mod h] at hone
  omega
/-- orders without a common divisor -/
theorem IsOrd.times {p a b m n : Nat} (hp : Prm p) (ha : IsOrd a p m) (hb : IsOrd b p n) (hc : Nat.gcd m n = 1) : IsOrd (a * b % p) p (m * n) := by
  have hpw : ∀ e, (a * b % p) ^ e % p = a ^ e * b ^ e % p := fun e => by rw [← Nat.pow_mod, Nat.mul_pow]
  have key : ∀ e, (a * b % p) ^ e % p = 1 % p → m * n ∣ e := fun e he => by
    rw [hpw] at he
    have h1 : n ∣ e * m := by
      apply hb.dvd
      have h2 : (a ^ e * b ^ e) ^ m % p = 1 % p := one_pow_mod he
      have h3 : (a ^ e * b ^ e) ^ m = (a ^ m) ^ e * b ^ (e * m) := by rw [Nat.mul_pow, ← Nat.pow_mul, ← Nat.pow_mul, ← Nat.pow_mul, Nat.mul_comm m e]
      rw [h3, Nat.mul_mod, one_pow_mod ha.one, ← Nat.mul_mod, Nat.one_mul] at h2
      exact h2
    have h4 : m ∣ e * n := by
      apply ha.dvd
      have h2 : (a ^ e * b ^ e) ^ n % p = 1 % p := one_pow_mod he
      have h3 : (a ^ e * b ^ e) ^ n = a ^ (e * n) * (b ^ n) ^ e := by rw [Nat.mul_pow, ← Nat.pow_mul, ← Nat.pow_mul, ← Nat.pow_mul, Nat.mul_comm n e]
      rw [h3, Nat.mul_mod, one_pow_mod hb.one, ← Nat.mul_mod, Nat.mul_one] at h2
      exact h2
    have hn : n ∣ e := (show Nat.Coprime n m by rw [Nat.coprime_comm]; exact hc).dvd_of_dvd_mul_right h1
    have hm : m ∣ e := (show Nat.Coprime m n from hc).dvd_of_dvd_mul_right h4
    exact Nat.Coprime.mul_dvd_of_dvd_of_dvd hc hm hn
  refine ⟨Nat.mul_pos ha.pos hb.pos, ?_, fun j h1 h2 h3 => ?_⟩
  · rw [hpw, Nat.mul_mod, ha.mul (Nat.dvd_mul_right _ _), hb.mul (Nat.dvd_mul_left _ _), ← Nat.mul_mod]
  · have := Nat.le_of_dvd h1 (key j h3)
    omega
theorem cop_prod {q k : Nat} (hq : Prm q) : ∀ ps : List (Nat × Nat), (∀ r ∈ ps, Prm r.1 ∧ q < r.1) → Nat.gcd (q ^ k) (pprod ps) = 1
  | [], _ => by simp [pprod]
  | r :: ps, h => by
    rw [pprod_cons]
    obtain ⟨h1, h2⟩ := h r (List.mem_cons_self ..)
    have ih := cop_prod (k := k) hq ps fun x hx => h x (List.mem_cons_of_mem _ hx)
    have hnd : ¬ q ∣ r.1 := fun z => by
      have := hq.eq h1 z
      omega
    have hc : Nat.Coprime q r.1 := hq.gcd hnd
    exact Nat.Coprime.mul_right (Nat.Coprime.pow k r.2 hc) ih
theorem ord_all {p : Nat} (h : Prm p) : ∀ (ps : List (Nat × Nat)) (c : Nat), (∀ r ∈ ps, Prm r.1 ∧ 1 ≤ r.2) → (ps.Pairwise fun a b => a.1 < b.1) → pprod ps * c = p - 1 → ∃ g, 1 ≤ g ∧ g < p ∧ IsOrd g p (pprod ps)
  | [], c, h1, h2, h3 => ⟨1, Nat.le_refl 1, by have := h.1; omega, by
    have := ord_one (m := p)
    rw [one_mod h] at this
    exact this⟩
  | r :: ps, c, h1, h2, h3 => by
    obtain ⟨hr, hk⟩ := h1 r (List.mem_cons_self ..)
    obtain ⟨g, g1, g2, g3⟩ := ord_all h ps (r.1 ^ r.2 * c) (fun x hx => h1 x (List.mem_cons_of_mem _ hx)) (List.Pairwise.of_cons h2) (by rw [← h3, pprod_cons]; simp only [Nat.mul_assoc, Nat.mul_left_comm])
    obtain ⟨y, y1, y2, y3⟩ := ord_part h hr hk (c := pprod ps * c) (by rw [← h3, pprod_cons, Nat.mul_assoc])
    have hc := cop_prod (k := r.2) hr ps fun x hx => ⟨(h1 x (List.mem_cons_of_mem _ hx)).1, List.rel_of_pairwise_cons h2 hx⟩
    have ho := y3.times h g3 hc
    have hlt := Nat.mod_lt (y * g) (show p > 0 by have := h.1; omega)
    rw [pprod_cons]
    refine ⟨y * g % p, ?_, hlt, ho⟩
    apply Classical.byContradiction
    intro z
    have hz : y * g % p = 0 := by omega
    have := ho.one
    rw [hz, Nat.zero_pow ho.pos, Nat.zero_mod, one_mod h] at this
    omega
/-- a maker of p -/
theorem maker_exists {p : Nat} (h : Prm p) {ps : List (Nat × Nat)} (hps : Parts (p - 1) ps) : ∃ g, 1 ≤ g ∧ g < p ∧ IsOrd g p (p - 1) := by
  have := ord_all h ps 1 hps.prime hps.asc (by rw [hps.prod, Nat.mul_one])
  rwa [hps.prod] at this
theorem maker_is {p g : Nat} (h : Prm p) (ho : IsOrd g p (p - 1)) {q k : Nat} {ps : List (Nat × Nat)} (hps : Parts (p - 1) ps) (hq : (q, k) ∈ ps) : g ^ ((p - 1) / q) % p ≠ 1 := by
  have hp := h.1
  have hq1 := (hps.prime _ hq).1.1
  have hk := (hps.prime _ hq).2
  dsimp only at hq1 hk
  have hd : q ∣ p - 1 := by
    rw [← hps.prod]
    have hz : ∀ l : List (Nat × Nat), (q, k) ∈ l → q ∣ pprod l := by
      intro l
      induction l with
      | nil => intro z; cases z
      | cons x xs ih =>
        intro z
        rw [pprod_cons]
        rcases List.mem_cons.mp z with z | z
        · subst z
          exact Nat.dvd_trans (by dsimp only; rw [show k = (k - 1) + 1 by omega, Nat.pow_succ]; exact Nat.dvd_mul_left _ _) (Nat.dvd_mul_right _ _)
        · exact Nat.dvd_trans (ih z) (Nat.dvd_mul_left _ _)
    exact hz ps hq
  have hpos : 0 < p - 1 := by
    apply Classical.byContradiction
    intro z
    have hz := ho.pos
    omega
  have hlt := Nat.div_lt_self hpos (show 1 < q by omega)
  have hge := Nat.div_pos (Nat.le_of_dvd hpos hd) (show 0 < q by omega)
  have := ho.least _ hge hlt
  rwa [one_mod h] at this
end MP
set_option Elab.async false
set_option linter.all false
set_option maxRecDepth 100000
set_option maxHeartbeats 4000000
/-! MP: makers of primes and papers of primes, for any law -/
namespace MP
open PySem
def is_maker_of_e1 (i_power_rest : Nat) : C := (C.cmp .ne (C.call i_power_rest [false, false, false] (Cs.cons (C.var 1) (Cs.cons (C.bin .fdiv (C.bin .sub (C.var 0) (C.cst (D.int 1))) (C.var 3)) (Cs.cons (C.var 0) Cs.nil)))) (C.cst (D.int 1)))
def F_is_maker_of (i_power_rest : Nat) : Fd := ⟨"is_maker_of", 3, ["prime", "number", "parts", "part", "many"], (Ss.cons (S.ret (C.blt .all (Cs.cons (C.cmpr (is_maker_of_e1 i_power_rest) (Tg.tp (Tgs.cons (Tg.nm 3) (Tgs.cons (Tg.nm 4) Tgs.nil))) (I.seq (C.var 2)) CO.none [3, 4]) Cs.nil))) Ss.nil)⟩
def least_maker_in_c1 (i_is_maker_of : Nat) : C := (C.not_ (C.call i_is_maker_of [false, false, false] (Cs.cons (C.var 0) (Cs.cons (C.var 2) (Cs.cons (C.var 1) Cs.nil)))))
def least_maker_in_b1 : Ss := (Ss.cons (S.aug 2 .add (C.cst (D.int 1))) Ss.nil)
def F_least_maker_in (i_is_maker_of : Nat) (i_parts_in : Nat) : Fd := ⟨"least_maker_in", 1, ["prime", "parts", "found"], (Ss.cons (S.par [1, 2] (Cs.cons (C.call i_parts_in [false] (Cs.cons (C.bin .sub (C.var 0) (C.cst (D.int 1))) Cs.nil)) (Cs.cons (C.cst (D.int 1)) Cs.nil))) (Ss.cons (S.whl (least_maker_in_c1 i_is_maker_of) least_maker_in_b1) (Ss.cons (S.ret (C.var 2)) Ss.nil)))⟩
def prime_paper_e2 : C := (C.var 5)
def prime_paper_c1 : C := (C.cmp .ne (C.var 2) (C.lst Cs.nil))
def prime_paper_b1 (i_least_maker_in : Nat) (i_parts_in : Nat) : Ss := (Ss.cons (S.asg (Tg.nm 3) (C.pop 2)) (Ss.cons (S.ife (C.boo true (Cs.cons (C.cmp .ne (C.var 3) (C.glb "LEAST_PRIME" (D.int 2))) (Cs.cons (C.din false (C.var 3) (C.var 1)) Cs.nil))) (Ss.cons (S.asg (Tg.nm 4) (C.blt .tuple (Cs.cons (C.call i_parts_in [false] (Cs.cons (C.bin .sub (C.var 3) (C.cst (D.int 1))) Cs.nil)) Cs.nil))) (Ss.cons (S.dset 1 (C.var 3) (C.tup (Cs.cons (C.var 3) (Cs.cons (C.call i_least_maker_in [false] (Cs.cons (C.var 3) Cs.nil)) (Cs.cons (C.var 4) Cs.nil))))) (Ss.cons (S.expr (C.ext 2 (C.cmpr prime_paper_e2 (Tg.tp (Tgs.cons (Tg.nm 5) (Tgs.cons (Tg.nm 6) Tgs.nil))) (I.seq (C.var 4)) CO.none [5, 6]))) Ss.nil))) Ss.nil) Ss.nil))
def prime_paper_e3 : C := (C.dget (C.var 1) (C.var 3))
def F_prime_paper (i_least_maker_in : Nat) (i_parts_in : Nat) : Fd := ⟨"prime_paper", 1, ["prime", "rows", "waiting", "here", "parts", "part", "many"], (Ss.cons (S.par [1, 2] (Cs.cons C.disO (Cs.cons (C.lst (Cs.cons (C.var 0) Cs.nil)) Cs.nil))) (Ss.cons (S.whl prime_paper_c1 (prime_paper_b1 i_least_maker_in i_parts_in)) (Ss.cons (S.ret (C.blt .tuple (Cs.cons (C.cmpr prime_paper_e3 (Tg.nm 3) (I.seq (C.blt .sorted (Cs.cons (C.var 1) Cs.nil))) CO.none [3]) Cs.nil))) Ss.nil)))⟩
theorem bls_map {α : Type} (f : α → Bool) : ∀ L : List α, blsD (L.map fun x => D.bl (f x)) = some (L.map f)
  | [] => rfl
  | x :: xs => by simp only [List.map_cons, blsD, bls_map f xs, Option.map_some]
/-- g is no power's root: the law's condition of a maker -/
def mkB (p g : Nat) (ps : List (Nat × Nat)) : Bool := ps.all fun q => decide (g ^ ((p - 1) / q.1) % p ≠ 1)
theorem mk_elem {P : Nat → Option Fd} {j n : Nat} {s2 : Slot} {p g q k x e : Int} (hq : ¬ q = 0) (hb : bits q < 9000) (he : (p - 1).fdiv q = e) (h : callN P n j [.val false (.int g), .val false (.int e), .val false (.int p)] = some (.ok (.dat (.int x)), [.non, .non, .non])) (t t1 : Bool) :
    bnd (ev (callN P n) (is_maker_of_e1 j) [.val t (.int p), .val t1 (.int g), s2, .val false (.int q), .val false (.int k)]) frzM = some (.ok (.bl (decide (x ≠ 1))), [.val t (.int p), .val t1 (.int g), s2, .val false (.int q), .val false (.int k)]) := by
  simp [is_maker_of_e1, runF, MP.execs, ev_cst, ev_glb, ev_var, ev_tup, ev_lst, ev_dis0, ev_dis1, ev_bin, ev_neg, ev_boo, ev_not, ev_cmp, ev_chn, ev_chn3, ev_ite, ev_idx, ev_slc, ev_call, ev_blt, ev_isi, ev_lstI, x_par, x_aug, x_seti, x_app, x_expr, x_ife, x_ret, x_retN, x_pas, x_brk, x_cnt, x_rse0, x_rse1, ev_fnv, ev_callL, ev_met, ev_disO, ev_dget, ev_din, ev_dget2, x_dset, dgetD, dinD, dget2D, isDicM, dsetD, sortedD, min1D, ev_pop, ev_ext, popD, extD, metR, pickH, tells, Pt.tell, showD, x_nm, x_tp, backs_f1, backs_d1, backs_d2, backs_d3, backs_d4, backs_d5, backs_d6, backs_nil, evB, evIf, evO, evAs, evDs, evI, evT, evRs, bnd, ok, op1, op2, view, views, tru, frzM, frz, keepA, unslot, slotOf, putA, putAs, putD, nxtO, augD, setiD, appD, retA, asgT, asgTs, blts, liftO, bltD, absD, maxD, minD, int1D, lenD, gcdD, isiD, blsD, intsD, anyD, allD, sumD, tupleD, listD, strD, reprD, keyB, binD, cmpO, cmpD, datB, negD, idxD, getD, ixD, slcD, tyD, D.isFn, D.truth, shp_non, shp_bl, shp_int, shp_str, shp_tup, shp_lst, shps_nil, shps_cons, D.eqv, D.eqvs, itemsD, rngD, zipO, enumO, intO, isND, doCall, lends, lendA, lentIx, backs, backS, maskS, mask1, hq, hb, he, h]
  rw [Bool.eq_iff_iff]
  simp
theorem mk_fin {P : Nat → Option Fd} {i j n : Nat} (hP : P i = some (F_is_maker_of j)) {t t1 t2 : Bool} {p g : Int} {L : D} {bs : List Bool} {M : List D}
    (h : ev (callN P n) (C.cmpr (is_maker_of_e1 j) (Tg.tp (Tgs.cons (Tg.nm 3) (Tgs.cons (Tg.nm 4) Tgs.nil))) (I.seq (C.var 2)) CO.none [3, 4]) [.val t (.int p), .val t1 (.int g), .val t2 L, .non, .non] = some (.ok (.frs (.lst M)), [.val t (.int p), .val t1 (.int g), .val t2 L, .non, .non])) (hM : blsD M = some bs) :
    callN P (n + 1) i [.val t (.int p), .val t1 (.int g), .val t2 L] = some (.ok (.dat (.bl (bs.all id))), [.non, .non, .non]) := by
  rw [callN, hP]
  simp [F_is_maker_of, runF, MP.execs, ev_cst, ev_glb, ev_var, ev_tup, ev_lst, ev_dis0, ev_dis1, ev_bin, ev_neg, ev_boo, ev_not, ev_cmp, ev_chn, ev_chn3, ev_ite, ev_idx, ev_slc, ev_call, ev_blt, ev_isi, ev_lstI, x_par, x_aug, x_seti, x_app, x_expr, x_ife, x_ret, x_retN, x_pas, x_brk, x_cnt, x_rse0, x_rse1, ev_fnv, ev_callL, ev_met, ev_disO, ev_dget, ev_din, ev_dget2, x_dset, dgetD, dinD, dget2D, isDicM, dsetD, sortedD, min1D, ev_pop, ev_ext, popD, extD, metR, pickH, tells, Pt.tell, showD, x_nm, x_tp, backs_f1, backs_d1, backs_d2, backs_d3, backs_d4, backs_d5, backs_d6, backs_nil, evB, evIf, evO, evAs, evDs, evI, evT, evRs, bnd, ok, op1, op2, view, views, tru, frzM, frz, keepA, unslot, slotOf, putA, putAs, putD, nxtO, augD, setiD, appD, retA, asgT, asgTs, blts, liftO, bltD, absD, maxD, minD, int1D, lenD, gcdD, isiD, blsD, intsD, anyD, allD, sumD, tupleD, listD, strD, reprD, keyB, binD, cmpO, cmpD, datB, negD, idxD, getD, ixD, slcD, tyD, D.isFn, D.truth, shp_non, shp_bl, shp_int, shp_str, shp_tup, shp_lst, shps_nil, shps_cons, D.eqv, D.eqvs, itemsD, rngD, zipO, enumO, intO, isND, doCall, lends, lendA, lentIx, backs, backS, maskS, mask1, h, hM]
theorem run_maker_of {P : Nat → Option Fd} {i j : Nat} (hP : P i = some (F_is_maker_of j)) (hJ : P j = some F_power_rest) (n : Nat) (t t1 t2 : Bool) {p g : Nat} {ps : List (Nat × Nat)} (hp : 2 ≤ p) (hpb : p < 2 ^ 60) (hg : g < p) (hps : ∀ q ∈ ps, 1 ≤ q.1 ∧ q.1 < 2 ^ 60) (hl : ps.length < 1000) :
    callN P (n + 2) i [.val t (.int p), .val t1 (.int g), .val t2 (partsD ps)] = some (.ok (.dat (.bl (mkB p g ps))), [.non, .non, .non]) := by
  have c := ev_comp (call := callN P (n + 1)) (elt := is_maker_of_e1 j) (tg := Tg.tp (Tgs.cons (Tg.nm 3) (Tgs.cons (Tg.nm 4) Tgs.nil))) (it := I.seq (C.var 2)) (ifs := CO.none) (own := [3, 4]) (ρ := [.val t (.int p), .val t1 (.int g), .val t2 (partsD ps), .non, .non]) (ρ1 := [.val t (.int p), .val t1 (.int g), .val t2 (partsD ps), .non, .non]) (ds := ps.map pairD) (fun _ => true)
    (fun d => match d with | .tup [.int q, _] => .bl (decide (g ^ ((p - 1) / q.toNat) % p ≠ 1)) | _ => .non) (by simp [runF, MP.execs, ev_cst, ev_glb, ev_var, ev_tup, ev_lst, ev_dis0, ev_dis1, ev_bin, ev_neg, ev_boo, ev_not, ev_cmp, ev_chn, ev_chn3, ev_ite, ev_idx, ev_slc, ev_call, ev_blt, ev_isi, ev_lstI, x_par, x_aug, x_seti, x_app, x_expr, x_ife, x_ret, x_retN, x_pas, x_brk, x_cnt, x_rse0, x_rse1, ev_fnv, ev_callL, ev_met, ev_disO, ev_dget, ev_din, ev_dget2, x_dset, dgetD, dinD, dget2D, isDicM, dsetD, sortedD, min1D, ev_pop, ev_ext, popD, extD, metR, pickH, tells, Pt.tell, showD, x_nm, x_tp, backs_f1, backs_d1, backs_d2, backs_d3, backs_d4, backs_d5, backs_d6, backs_nil, evB, evIf, evO, evAs, evDs, evI, evT, evRs, bnd, ok, op1, op2, view, views, tru, frzM, frz, keepA, unslot, slotOf, putA, putAs, putD, nxtO, augD, setiD, appD, retA, asgT, asgTs, blts, liftO, bltD, absD, maxD, minD, int1D, lenD, gcdD, isiD, blsD, intsD, anyD, allD, sumD, tupleD, listD, strD, reprD, keyB, binD, cmpO, cmpD, datB, negD, idxD, getD, ixD, slcD, tyD, D.isFn, D.truth, shp_non, shp_bl, shp_int, shp_str, shp_tup, shp_lst, shps_nil, shps_cons, D.eqv, D.eqvs, itemsD, rngD, zipO, enumO, intO, isND, doCall, lends, lendA, lentIx, backs, backS, maskS, mask1, partsD]) (by rw [List.length_map]; omega) (fun d hd => by
    obtain ⟨q, hq, rfl⟩ := List.mem_map.mp hd
    obtain ⟨q1, q2⟩ := hps q hq
    have hpw := run_power hJ n false false false (a := (g : Int)) (b := g) (k := (p - 1) / q.1) (m := p) (by omega) hpb (by rw [fmodN, Nat.mod_eq_of_lt hg])
    have he : ((p : Int) - 1).fdiv (q.1 : Int) = (((p - 1) / q.1 : Nat) : Int) := by rw [← fdivN]; congr 1; omega
    have hb := bitsN (a := q.1) (by omega)
    refine ⟨[.val t (.int p), .val t1 (.int g), .val t2 (partsD ps), .val false (.int q.1), .val false (.int q.2)], by simp [asgT, asgTs, putD, wipeR, pairD], _, rfl, ?_⟩
    rw [if_pos rfl]
    have hx : decide (((g ^ ((p - 1) / q.1) % p : Nat) : Int) ≠ 1) = decide (g ^ ((p - 1) / q.1) % p ≠ 1) := by
      rw [decide_eq_decide]; omega
    have hm := mk_elem (s2 := .val t2 (partsD ps)) (k := (q.2 : Int)) (by omega) (by omega) he hpw t t1
    rw [hx] at hm
    refine ⟨_, hm, by simp [wipeR]⟩)
  rw [show (ps.map pairD).filter (fun _ => true) = ps.map pairD by simp, List.map_map] at c
  have hM : blsD (ps.map fun q => D.bl (decide (g ^ ((p - 1) / q.1) % p ≠ 1))) = some _ := bls_map _ ps
  have := mk_fin hP (n := n + 1) (M := ps.map fun q => D.bl (decide (g ^ ((p - 1) / q.1) % p ≠ 1))) c hM
  rw [this]
  congr 5
  unfold mkB
  rw [List.all_map]
  rfl
/-! ### the least maker -/
theorem lm_cond {P : Nat → Option Fd} {i n : Nat} {t : Bool} {p g : Int} {L : D} {b : Bool} (h : callN P n i [.val false (.int p), .val false (.int g), .val false L] = some (.ok (.dat (.bl b)), [.non, .non, .non])) :
    evT (callN P n) (least_maker_in_c1 i) [.val t (.int p), .own false L, .val false (.int g)] = some (.ok (!b), [.val t (.int p), .val false L, .val false (.int g)]) ∧
    evT (callN P n) (least_maker_in_c1 i) [.val t (.int p), .val false L, .val false (.int g)] = some (.ok (!b), [.val t (.int p), .val false L, .val false (.int g)]) := by
  constructor <;> simp [least_maker_in_c1, runF, MP.execs, ev_cst, ev_glb, ev_var, ev_tup, ev_lst, ev_dis0, ev_dis1, ev_bin, ev_neg, ev_boo, ev_not, ev_cmp, ev_chn, ev_chn3, ev_ite, ev_idx, ev_slc, ev_call, ev_blt, ev_isi, ev_lstI, x_par, x_aug, x_seti, x_app, x_expr, x_ife, x_ret, x_retN, x_pas, x_brk, x_cnt, x_rse0, x_rse1, ev_fnv, ev_callL, ev_met, ev_disO, ev_dget, ev_din, ev_dget2, x_dset, dgetD, dinD, dget2D, isDicM, dsetD, sortedD, min1D, ev_pop, ev_ext, popD, extD, metR, pickH, tells, Pt.tell, showD, x_nm, x_tp, backs_f1, backs_d1, backs_d2, backs_d3, backs_d4, backs_d5, backs_d6, backs_nil, evB, evIf, evO, evAs, evDs, evI, evT, evRs, bnd, ok, op1, op2, view, views, tru, frzM, frz, keepA, unslot, slotOf, putA, putAs, putD, nxtO, augD, setiD, appD, retA, asgT, asgTs, blts, liftO, bltD, absD, maxD, minD, int1D, lenD, gcdD, isiD, blsD, intsD, anyD, allD, sumD, tupleD, listD, strD, reprD, keyB, binD, cmpO, cmpD, datB, negD, idxD, getD, ixD, slcD, tyD, D.isFn, D.truth, shp_non, shp_bl, shp_int, shp_str, shp_tup, shp_lst, shps_nil, shps_cons, D.eqv, D.eqvs, itemsD, rngD, zipO, enumO, intO, isND, doCall, lends, lendA, lentIx, backs, backS, maskS, mask1, h]
theorem lm_loop {P : Nat → Option Fd} {i j n : Nat} (hP : P i = some (F_is_maker_of j)) (hJ : P j = some F_power_rest) (t : Bool) {p g0 : Nat} {ps : List (Nat × Nat)} (hp : 2 ≤ p) (hpb : p < 2 ^ 60) (hps : ∀ q ∈ ps, 1 ≤ q.1 ∧ q.1 < 2 ^ 60) (hl : ps.length < 1000) (h0 : mkB p g0 ps = true) (hg0 : g0 < p) :
    ∀ (r g : Nat), g + r = g0 → ∃ g', g ≤ g' ∧ g' < p ∧ mkB p g' ps = true ∧ ∀ s, s = .own false (partsD ps) ∨ s = .val false (partsD ps) → whlM (evT (callN P (n + 2)) (least_maker_in_c1 i)) (fun ρ => MP.execs (callN P (n + 2)) least_maker_in_b1 ρ) [.val t (.int p), s, .val false (.int g)] = some (.ok .nxt, [.val t (.int p), .val false (partsD ps), .val false (.int (g' : Nat))]) := by
  intro r
  induction r with
  | zero =>
    intro g hg
    have : g = g0 := by omega
    subst this
    obtain ⟨c1, c2⟩ := lm_cond (t := t) (run_maker_of hP hJ n false false false hp hpb hg0 hps hl)
    rw [h0] at c1 c2
    exact ⟨g, Nat.le_refl _, hg0, h0, fun s hs => by rcases hs with rfl | rfl <;> exact whl_stop (by assumption)⟩
  | succ r ih =>
    intro g hg
    obtain ⟨c1, c2⟩ := lm_cond (t := t) (run_maker_of hP hJ n false false false hp hpb (g := g) (by omega) hps hl)
    by_cases hb : mkB p g ps = true
    · rw [hb] at c1 c2
      exact ⟨g, Nat.le_refl _, by omega, hb, fun s hs => by rcases hs with rfl | rfl <;> exact whl_stop (by assumption)⟩
    · have hb2 : mkB p g ps = false := by simpa using hb
      rw [hb2] at c1 c2
      obtain ⟨g', g1, g2, g3, g4⟩ := ih (g + 1) (by omega)
      have hbody : MP.execs (callN P (n + 2)) least_maker_in_b1 [.val t (.int p), .val false (partsD ps), .val false (.int g)] = some (.ok .nxt, [.val t (.int p), .val false (partsD ps), .val false (.int (g + 1 : Nat))]) := by simp [least_maker_in_b1, runF, MP.execs, ev_cst, ev_glb, ev_var, ev_tup, ev_lst, ev_dis0, ev_dis1, ev_bin, ev_neg, ev_boo, ev_not, ev_cmp, ev_chn, ev_chn3, ev_ite, ev_idx, ev_slc, ev_call, ev_blt, ev_isi, ev_lstI, x_par, x_aug, x_seti, x_app, x_expr, x_ife, x_ret, x_retN, x_pas, x_brk, x_cnt, x_rse0, x_rse1, ev_fnv, ev_callL, ev_met, ev_disO, ev_dget, ev_din, ev_dget2, x_dset, dgetD, dinD, dget2D, isDicM, dsetD, sortedD, min1D, ev_pop, ev_ext, popD, extD, metR, pickH, tells, Pt.tell, showD, x_nm, x_tp, backs_f1, backs_d1, backs_d2, backs_d3, backs_d4, backs_d5, backs_d6, backs_nil, evB, evIf, evO, evAs, evDs, evI, evT, evRs, bnd, ok, op1, op2, view, views, tru, frzM, frz, keepA, unslot, slotOf, putA, putAs, putD, nxtO, augD, setiD, appD, retA, asgT, asgTs, blts, liftO, bltD, absD, maxD, minD, int1D, lenD, gcdD, isiD, blsD, intsD, anyD, allD, sumD, tupleD, listD, strD, reprD, keyB, binD, cmpO, cmpD, datB, negD, idxD, getD, ixD, slcD, tyD, D.isFn, D.truth, shp_non, shp_bl, shp_int, shp_str, shp_tup, shp_lst, shps_nil, shps_cons, D.eqv, D.eqvs, itemsD, rngD, zipO, enumO, intO, isND, doCall, lends, lendA, lentIx, backs, backS, maskS, mask1]
      exact ⟨g', by omega, g2, g3, fun s hs => by rcases hs with rfl | rfl <;> exact whl_turn (by assumption) hbody (g4 _ (Or.inr rfl))⟩
theorem lm_fin {P : Nat → Option Fd} {i jp n : Nat} {k : Nat} (hP : P i = some (F_least_maker_in k jp)) {t : Bool} {p q g : Int} {L : D} (hq : p - 1 = q) (h1 : callN P n jp [.val false (.int q)] = some (.ok (.frs L), [.non]))
    (h2 : MP.exec (callN P n) (S.whl (least_maker_in_c1 k) least_maker_in_b1) [.val t (.int p), .own false L, .val false (.int 1)] = some (.ok .nxt, [.val t (.int p), .val false L, .val false (.int g)])) : callN P (n + 1) i [.val t (.int p)] = some (.ok (.dat (.int g)), [.non]) := by
  rw [callN, hP]
  simp [F_least_maker_in, runF, MP.execs, ev_cst, ev_glb, ev_var, ev_tup, ev_lst, ev_dis0, ev_dis1, ev_bin, ev_neg, ev_boo, ev_not, ev_cmp, ev_chn, ev_chn3, ev_ite, ev_idx, ev_slc, ev_call, ev_blt, ev_isi, ev_lstI, x_par, x_aug, x_seti, x_app, x_expr, x_ife, x_ret, x_retN, x_pas, x_brk, x_cnt, x_rse0, x_rse1, ev_fnv, ev_callL, ev_met, ev_disO, ev_dget, ev_din, ev_dget2, x_dset, dgetD, dinD, dget2D, isDicM, dsetD, sortedD, min1D, ev_pop, ev_ext, popD, extD, metR, pickH, tells, Pt.tell, showD, x_nm, x_tp, backs_f1, backs_d1, backs_d2, backs_d3, backs_d4, backs_d5, backs_d6, backs_nil, evB, evIf, evO, evAs, evDs, evI, evT, evRs, bnd, ok, op1, op2, view, views, tru, frzM, frz, keepA, unslot, slotOf, putA, putAs, putD, nxtO, augD, setiD, appD, retA, asgT, asgTs, blts, liftO, bltD, absD, maxD, minD, int1D, lenD, gcdD, isiD, blsD, intsD, anyD, allD, sumD, tupleD, listD, strD, reprD, keyB, binD, cmpO, cmpD, datB, negD, idxD, getD, ixD, slcD, tyD, D.isFn, D.truth, shp_non, shp_bl, shp_int, shp_str, shp_tup, shp_lst, shps_nil, shps_cons, D.eqv, D.eqvs, itemsD, rngD, zipO, enumO, intO, isND, doCall, lends, lendA, lentIx, backs, backS, maskS, mask1, hq, h1, h2]
theorem len_parts {n : Nat} {ps : List (Nat × Nat)} (h : ∀ q ∈ ps, 2 ≤ q.1 ∧ 1 ≤ q.2) : 2 ^ ps.length ≤ pprod ps := by
  induction ps with
  | nil => simp [pprod]
  | cons q ps ih =>
    rw [pprod_cons, List.length_cons, Nat.pow_succ, Nat.mul_comm]
    obtain ⟨h1, h2⟩ := h q (List.mem_cons_self ..)
    refine Nat.mul_le_mul ?_ (ih fun x hx => h x (List.mem_cons_of_mem _ hx))
    calc 2 ≤ q.1 := h1
      _ = q.1 ^ 1 := (Nat.pow_one _).symm
      _ ≤ q.1 ^ q.2 := Nat.pow_le_pow_right (by omega) h2
theorem Parts.small {n : Nat} {ps : List (Nat × Nat)} (h : Parts n ps) (hn : n < 2 ^ 60) : ps.length < 60 ∧ ∀ q ∈ ps, 2 ≤ q.1 ∧ q.1 < 2 ^ 60 ∧ q.1 ∣ n := by
  have h2 : ∀ q ∈ ps, 2 ≤ q.1 ∧ 1 ≤ q.2 := fun q hq => ⟨(h.prime q hq).1.1, (h.prime q hq).2⟩
  constructor
  · have h1 := len_parts (n := n) h2
    rw [h.prod] at h1
    exact (Nat.pow_lt_pow_iff_right (by omega)).mp (Nat.lt_of_le_of_lt h1 hn)
  · intro q hq
    have hd : q.1 ∣ n := by
      rw [← h.prod]
      have hz : ∀ l : List (Nat × Nat), q ∈ l → q.1 ∣ pprod l := by
        intro l
        induction l with
        | nil => intro z; cases z
        | cons x xs ih =>
          intro z
          rw [pprod_cons]
          rcases List.mem_cons.mp z with z | z
          · subst z
            exact Nat.dvd_trans (by rw [show q.2 = (q.2 - 1) + 1 by have := (h2 q hq).2; omega, Nat.pow_succ]; exact Nat.dvd_mul_left _ _) (Nat.dvd_mul_right _ _)
          · exact Nat.dvd_trans (ih z) (Nat.dvd_mul_left _ _)
      exact hz ps hq
    have hn0 : 0 < n := by
      rw [← h.prod]
      exact pprod_pos fun x hx => by have := (h2 x hx).1; omega
    exact ⟨(h2 q hq).1, Nat.lt_of_le_of_lt (Nat.le_of_dvd hn0 hd) hn, hd⟩
/-- the least maker of a prime -/
theorem run_least_maker {P : Nat → Option Fd} {i jp j jm : Nat} (hP : P i = some (F_least_maker_in jm jp)) (h1 : P jp = some F_parts_in) (h2 : P jm = some (F_is_maker_of j)) (hJ : P j = some F_power_rest) (n : Nat) (t : Bool) {w p : Nat} {ps : List (Nat × Nat)} (hp : Prm p) (hpb : p < 2 ^ 60) (hw : w < 15000000) (hps : partsN w (p - 1) = some ps) :
    ∃ g : Nat, 1 ≤ g ∧ g < p ∧ mkB p g ps = true ∧ callN P (n + 3) i [.val t (.int p)] = some (.ok (.dat (.int g)), [.non]) := by
  have hp2 := hp.1
  have hpar := partsN_spec (by omega) (by omega) hps
  obtain ⟨hlen, hall⟩ := hpar.small (by omega)
  obtain ⟨g0, g1, g2, g3⟩ := maker_exists hp hpar
  have h0 : mkB p g0 ps = true := by
    unfold mkB
    rw [List.all_eq_true]
    intro q hq
    exact decide_eq_true (maker_is hp g3 hpar (q := q.1) (k := q.2) hq)
  obtain ⟨g, k1, k2, k3, k4⟩ := lm_loop (n := n) h2 hJ t hp2 hpb (fun q hq => ⟨by have := (hall q hq).1; omega, (hall q hq).2.1⟩) (by omega) h0 g2 (g0 - 1) 1 (by omega)
  refine ⟨g, k1, k2, k3, ?_⟩
  have ep := run_parts h1 (n + 1) false (by omega) (by omega) hw hps
  refine lm_fin hP (q := ((p - 1 : Nat) : Int)) (by omega) ep ?_
  rw [x_whl]
  exact k4 _ (Or.inl rfl)
/-! ### papers of primes -/
def natsD (W : List Nat) : List D := W.map fun (w : Nat) => D.int (w : Int)
def keysD (rs : List (Nat × D)) : List D := rs.map fun r => D.int (r.1 : Int)
def valsD (rs : List (Nat × D)) : List D := rs.map fun r => r.2
theorem same_nat (a b : Nat) : (D.int (a : Int)).same (.int (b : Int)) = decide (a = b) := by
  show ((a : Int) == (b : Int)) = _
  rw [Bool.eq_iff_iff]
  simp
  omega
theorem look_none {h : Nat} : ∀ {rs : List (Nat × D)}, h ∉ rs.map (·.1) → lookK (keysD rs) (valsD rs) (.int h) = none
  | [], _ => rfl
  | r :: rs, hn => by
    simp only [List.map_cons, List.mem_cons, not_or] at hn
    show (if (D.int (r.1 : Int)).same (.int (h : Int)) = true then some r.2 else lookK (keysD rs) (valsD rs) (.int h)) = none
    rw [same_nat, if_neg (by simp; exact fun z => hn.1 z.symm)]
    exact look_none hn.2
theorem look_some {r : Nat × D} : ∀ {rs : List (Nat × D)}, (rs.map (·.1)).Nodup → r ∈ rs → lookK (keysD rs) (valsD rs) (.int r.1) = some r.2
  | [], _, h => by cases h
  | x :: rs, hn, h => by
    show (if (D.int (x.1 : Int)).same (.int (r.1 : Int)) = true then some x.2 else lookK (keysD rs) (valsD rs) (.int r.1)) = some r.2
    rw [same_nat]
    rw [List.map_cons, List.nodup_cons] at hn
    rcases List.mem_cons.mp h with rfl | h
    · rw [if_pos (by simp)]
    · have : x.1 ≠ r.1 := fun z => hn.1 (z ▸ List.mem_map.mpr ⟨r, h, rfl⟩)
      rw [if_neg (by simpa using this)]
      exact look_some hn.2 h
theorem any_none {h : Nat} : ∀ {rs : List (Nat × D)}, h ∉ rs.map (·.1) → ((keysD rs).any fun x => x.same (.int h)) = false
  | [], _ => rfl
  | r :: rs, hn => by
    simp only [List.map_cons, List.mem_cons, not_or] at hn
    show ((D.int (r.1 : Int)).same (.int (h : Int)) || (keysD rs).any fun x => x.same (.int h)) = false
    rw [same_nat, any_none hn.2]
    simp
    exact fun z => hn.1 z.symm
theorem put_new {h : Nat} {d : D} {rs : List (Nat × D)} (hn : h ∉ rs.map (·.1)) : putDic (keysD rs) (valsD rs) (.int h) d = .dic (keysD (rs ++ [(h, d)])) (valsD (rs ++ [(h, d)])) := by
  unfold putDic
  rw [any_none hn]
  simp [keysD, valsD]
theorem shps_nats (k : Nat) : ∀ W : List Nat, D.shps k (natsD W) = true
  | [] => shps_nil _
  | w :: W => by
    show D.shps k (D.int w :: natsD W) = true
    rw [shps_cons, shp_int, shps_nats k W]; rfl
def oddp (W : List Nat) : Nat := (W.map fun w => if w = 2 then 1 else w).foldr (· * ·) 1
theorem oddp_app (a b : List Nat) : oddp (a ++ b) = oddp a * oddp b := by
  induction a with
  | nil => simp [oddp]
  | cons x a ih =>
    simp only [oddp, List.cons_append, List.map_cons, List.foldr_cons] at ih ⊢
    rw [ih, Nat.mul_assoc]
theorem oddp_le : ∀ {ps : List (Nat × Nat)}, (∀ q ∈ ps, 2 ≤ q.1 ∧ 1 ≤ q.2) → oddp (ps.map (·.1)) ≤ pprod ps ∧ (2 ∈ ps.map (·.1) → 2 * oddp (ps.map (·.1)) ≤ pprod ps)
  | [], _ => ⟨by simp [oddp, pprod], fun z => (by simp at z)⟩
  | q :: ps, h => by
    obtain ⟨h1, h2⟩ := h q (List.mem_cons_self ..)
    obtain ⟨i1, i2⟩ := oddp_le (ps := ps) fun x hx => h x (List.mem_cons_of_mem _ hx)
    have hq : q.1 ≤ q.1 ^ q.2 := by
      calc q.1 = q.1 ^ 1 := (Nat.pow_one _).symm
        _ ≤ q.1 ^ q.2 := Nat.pow_le_pow_right (by omega) h2
    have e : oddp ((q :: ps).map (·.1)) = (if q.1 = 2 then 1 else q.1) * oddp (ps.map (·.1)) := rfl
    rw [e, pprod_cons]
    have hle : (if q.1 = 2 then 1 else q.1) ≤ q.1 ^ q.2 := by split <;> omega
    refine ⟨Nat.mul_le_mul hle i1, fun z => ?_⟩
    by_cases h3 : q.1 = 2
    · rw [if_pos h3, Nat.one_mul]
      exact Nat.mul_le_mul (by omega) i1
    · rw [if_neg h3]
      have hz : 2 ∈ ps.map (·.1) := by
        rcases List.mem_cons.mp z with z | z
        · exact absurd z.symm h3
        · exact z
      have := Nat.mul_le_mul hq (i2 hz)
      rwa [Nat.mul_left_comm] at this
def Row (h : Nat) (d : D) : Prop := ∃ g ps, d = .tup [.int h, .int (g : Nat), .tup (ps.map pairD)] ∧ Parts (h - 1) ps ∧ 1 ≤ g ∧ g < h ∧ mkB h g ps = true
structure PInv (p : Nat) (rs : List (Nat × D)) (W : List Nat) : Prop where
  nodup : (rs.map (·.1)).Nodup
  rows : ∀ r ∈ rs, Prm r.1 ∧ 3 ≤ r.1 ∧ r.1 ≤ p ∧ Row r.1 r.2
  wait : ∀ w ∈ W, Prm w ∧ w ≤ p
  clo : ∀ r ∈ rs, ∀ q, Prm q → q ∣ r.1 - 1 → q = 2 ∨ q ∈ rs.map (·.1) ∨ q ∈ W
  top : p = 2 ∨ p ∈ rs.map (·.1) ∨ p ∈ W
  pot : 2 ^ rs.length * oddp W ≤ p
theorem oddp_pos {W : List Nat} (h : ∀ w ∈ W, 2 ≤ w) : 1 ≤ oddp W := by
  induction W with
  | nil => simp [oddp]
  | cons w W ih =>
    have e : oddp (w :: W) = (if w = 2 then 1 else w) * oddp W := rfl
    rw [e]
    have := h w (List.mem_cons_self ..)
    exact Nat.mul_pos (by split <;> omega) (ih fun x hx => h x (List.mem_cons_of_mem _ hx))
theorem PInv.few {p : Nat} {rs : List (Nat × D)} {W : List Nat} (h : PInv p rs W) (hp : p ≤ 100000000) : rs.length < 27 := by
  have h1 := oddp_pos fun w hw => (h.wait w hw).1.1
  have h2 := Nat.le_mul_of_pos_right (2 ^ rs.length) (show 0 < oddp W by omega)
  have h3 := h.pot
  exact (Nat.pow_lt_pow_iff_right (a := 2) (by omega)).mp (show 2 ^ rs.length < 2 ^ 27 by omega)
theorem PInv.skip {p h : Nat} {rs : List (Nat × D)} {W : List Nat} (i : PInv p rs (W ++ [h])) (hs : h = 2 ∨ h ∈ rs.map (·.1)) : PInv p rs W := by
  have sp : ∀ {q}, q ∈ W ++ [h] → q = 2 ∨ q ∈ rs.map (·.1) ∨ q ∈ W := fun {q} hq => by
    rcases List.mem_append.mp hq with hq | hq
    · exact Or.inr (Or.inr hq)
    · rw [List.mem_singleton] at hq
      subst hq
      rcases hs with hs | hs
      · exact Or.inl hs
      · exact Or.inr (Or.inl hs)
  refine ⟨i.nodup, i.rows, fun w hw => i.wait w (List.mem_append_left _ hw), fun r hr q h1 h2 => ?_, ?_, ?_⟩
  · rcases i.clo r hr q h1 h2 with h | h | h
    · exact Or.inl h
    · exact Or.inr (Or.inl h)
    · exact sp h
  · rcases i.top with h | h | h
    · exact Or.inl h
    · exact Or.inr (Or.inl h)
    · exact sp h
  · have h1 := i.pot
    rw [oddp_app] at h1
    have h2 : 1 ≤ oddp [h] := oddp_pos fun w hw => (i.wait w (List.mem_append_right _ hw)).1.1
    exact Nat.le_trans (Nat.mul_le_mul_left _ (Nat.le_mul_of_pos_right _ h2)) h1
theorem PInv.add {p h : Nat} {d : D} {rs : List (Nat × D)} {W : List Nat} {ps : List (Nat × Nat)} (i : PInv p rs (W ++ [h])) (h2 : h ≠ 2) (hn : h ∉ rs.map (·.1)) (hps : Parts (h - 1) ps) (hd : Row h d) : PInv p (rs ++ [(h, d)]) (W ++ ps.map (·.1)) := by
  obtain ⟨hp, hle⟩ := i.wait h (List.mem_append_right _ (List.mem_singleton.mpr rfl))
  have h3 : 3 ≤ h := by have := hp.1; omega
  have hin : ∀ {q}, Prm q → q ∣ h - 1 → q ∈ ps.map (·.1) := fun {q} hq hd => by
    obtain ⟨x, hx, hxq⟩ := hps.hits hq.1 hd
    have := (hps.prime x hx).1.eq hq hxq
    exact List.mem_map.mpr ⟨x, hx, this⟩
  have sp : ∀ {q}, q ∈ W ++ [h] → q ∈ (rs ++ [(h, d)]).map (·.1) ∨ q ∈ W ++ ps.map (·.1) := fun {q} hq => by
    rcases List.mem_append.mp hq with hq | hq
    · exact Or.inr (List.mem_append_left _ hq)
    · rw [List.mem_singleton] at hq
      subst hq
      exact Or.inl (by simp)
  refine ⟨?_, fun r hr => ?_, fun w hw => ?_, fun r hr q g1 g2 => ?_, ?_, ?_⟩
  · rw [List.map_append, List.nodup_append]
    refine ⟨i.nodup, by simp, fun a ha b hb => ?_⟩
    simp at hb
    subst hb
    exact fun z => hn (z ▸ ha)
  · rcases List.mem_append.mp hr with hr | hr
    · exact i.rows r hr
    · rw [List.mem_singleton] at hr
      subst hr
      exact ⟨hp, h3, hle, hd⟩
  · rcases List.mem_append.mp hw with hw | hw
    · exact i.wait w (List.mem_append_left _ hw)
    · obtain ⟨x, hx, rfl⟩ := List.mem_map.mp hw
      have hxd : x.1 ∣ h - 1 := by
        rw [← hps.prod]
        have hz : ∀ l : List (Nat × Nat), x ∈ l → x.1 ∣ pprod l := by
          intro l
          induction l with
          | nil => intro z; cases z
          | cons y ys ih =>
            intro z
            rw [pprod_cons]
            rcases List.mem_cons.mp z with z | z
            · subst z
              exact Nat.dvd_trans (by rw [show x.2 = (x.2 - 1) + 1 by have := (hps.prime x hx).2; omega, Nat.pow_succ]; exact Nat.dvd_mul_left _ _) (Nat.dvd_mul_right _ _)
            · exact Nat.dvd_trans (ih z) (Nat.dvd_mul_left _ _)
        exact hz ps hx
      have := Nat.le_of_dvd (by omega) hxd
      exact ⟨(hps.prime x hx).1, by omega⟩
  · rcases List.mem_append.mp hr with hr | hr
    · rcases i.clo r hr q g1 g2 with h | h | h
      · exact Or.inl h
      · exact Or.inr (Or.inl (by rw [List.map_append]; exact List.mem_append_left _ h))
      · exact Or.inr (sp h)
    · rw [List.mem_singleton] at hr
      subst hr
      exact Or.inr (Or.inr (List.mem_append_right _ (hin g1 g2)))
  · rcases i.top with h | h | h
    · exact Or.inl h
    · exact Or.inr (Or.inl (by rw [List.map_append]; exact List.mem_append_left _ h))
    · exact Or.inr (sp h)
  · have h1 := i.pot
    have h2' : 2 ∈ ps.map (·.1) := hin ⟨by omega, fun e e1 e2 => by omega⟩ (by
      have ho : ¬ 2 ∣ h := hp.2 2 (by omega) (by omega)
      omega)
    have h4 := (oddp_le (ps := ps) fun q hq => ⟨(hps.prime q hq).1.1, (hps.prime q hq).2⟩).2 h2'
    rw [hps.prod] at h4
    rw [oddp_app] at h1 ⊢
    have e1 : oddp [h] = h := by simp [oddp, h2]
    rw [e1] at h1
    rw [List.length_append, List.length_singleton, Nat.pow_succ]
    calc 2 ^ rs.length * 2 * (oddp W * oddp (ps.map (·.1))) = 2 ^ rs.length * oddp W * (2 * oddp (ps.map (·.1))) := by simp only [Nat.mul_assoc, Nat.mul_left_comm, Nat.mul_comm]
      _ ≤ 2 ^ rs.length * oddp W * h := Nat.mul_le_mul_left _ (by omega)
      _ ≤ p := by rw [Nat.mul_assoc]; exact h1
/-! ### the loop -/
section
variable {P : Nat → Option Fd} {jp jl n : Nat}
theorem pc_cond (t : Bool) {x0 K : D} {ws : List D} {s3 s4 s5 s6 : Slot} (hs : D.shps 11 ws = true) (b : Bool) (hb : D.eqvs ws [] = !b) :
    evT (callN P n) prime_paper_c1 [.val t x0, .own false K, .own false (.lst ws), s3, s4, s5, s6] = some (.ok b, [.val t x0, .own false K, .own false (.lst ws), s3, s4, s5, s6]) := by
  simp [prime_paper_c1, runF, MP.execs, ev_cst, ev_glb, ev_var, ev_tup, ev_lst, ev_dis0, ev_dis1, ev_bin, ev_neg, ev_boo, ev_not, ev_cmp, ev_chn, ev_chn3, ev_ite, ev_idx, ev_slc, ev_call, ev_blt, ev_isi, ev_lstI, x_par, x_aug, x_seti, x_app, x_expr, x_ife, x_ret, x_retN, x_pas, x_brk, x_cnt, x_rse0, x_rse1, ev_fnv, ev_callL, ev_met, ev_disO, ev_dget, ev_din, ev_dget2, x_dset, dgetD, dinD, dget2D, isDicM, dsetD, sortedD, min1D, ev_pop, ev_ext, popD, extD, metR, pickH, tells, Pt.tell, showD, x_nm, x_tp, backs_f1, backs_d1, backs_d2, backs_d3, backs_d4, backs_d5, backs_d6, backs_nil, evB, evIf, evO, evAs, evDs, evI, evT, evRs, bnd, ok, op1, op2, view, views, tru, frzM, frz, keepA, unslot, slotOf, putA, putAs, putD, nxtO, augD, setiD, appD, retA, asgT, asgTs, blts, liftO, bltD, absD, maxD, minD, int1D, lenD, gcdD, isiD, blsD, intsD, anyD, allD, sumD, tupleD, listD, strD, reprD, keyB, binD, cmpO, cmpD, datB, negD, idxD, getD, ixD, slcD, tyD, D.isFn, D.truth, shp_non, shp_bl, shp_int, shp_str, shp_tup, shp_lst, shps_nil, shps_cons, D.eqv, D.eqvs, itemsD, rngD, zipO, enumO, intO, isND, doCall, lends, lendA, lentIx, backs, backS, maskS, mask1, hs, hb]
theorem pc_ext (call : Nat → List Slot → Out) (ps : List (Nat × Nat)) (s0 s1 s2 s3 s5 s6 : Slot) (t : Bool) (hl : ps.length < 1000) :
    ev call (.cmpr prime_paper_e2 (Tg.tp (Tgs.cons (Tg.nm 5) (Tgs.cons (Tg.nm 6) Tgs.nil))) (I.seq (C.var 4)) CO.none [5, 6]) [s0, s1, s2, s3, .val t (.tup (ps.map pairD)), s5, s6] = some (.ok (.frs (.lst (natsD (ps.map (·.1))))), [s0, s1, s2, s3, .val t (.tup (ps.map pairD)), s5, s6]) := by
  have c := ev_comp (call := call) (elt := prime_paper_e2) (tg := Tg.tp (Tgs.cons (Tg.nm 5) (Tgs.cons (Tg.nm 6) Tgs.nil))) (it := I.seq (C.var 4)) (ifs := CO.none) (own := [5, 6]) (ρ := [s0, s1, s2, s3, .val t (.tup (ps.map pairD)), s5, s6]) (ρ1 := [s0, s1, s2, s3, .val t (.tup (ps.map pairD)), s5, s6]) (ds := ps.map pairD) (fun _ => true) (fun d => match d with | .tup [q, _] => q | _ => .non) (by simp [runF, MP.execs, ev_cst, ev_glb, ev_var, ev_tup, ev_lst, ev_dis0, ev_dis1, ev_bin, ev_neg, ev_boo, ev_not, ev_cmp, ev_chn, ev_chn3, ev_ite, ev_idx, ev_slc, ev_call, ev_blt, ev_isi, ev_lstI, x_par, x_aug, x_seti, x_app, x_expr, x_ife, x_ret, x_retN, x_pas, x_brk, x_cnt, x_rse0, x_rse1, ev_fnv, ev_callL, ev_met, ev_disO, ev_dget, ev_din, ev_dget2, x_dset, dgetD, dinD, dget2D, isDicM, dsetD, sortedD, min1D, ev_pop, ev_ext, popD, extD, metR, pickH, tells, Pt.tell, showD, x_nm, x_tp, backs_f1, backs_d1, backs_d2, backs_d3, backs_d4, backs_d5, backs_d6, backs_nil, evB, evIf, evO, evAs, evDs, evI, evT, evRs, bnd, ok, op1, op2, view, views, tru, frzM, frz, keepA, unslot, slotOf, putA, putAs, putD, nxtO, augD, setiD, appD, retA, asgT, asgTs, blts, liftO, bltD, absD, maxD, minD, int1D, lenD, gcdD, isiD, blsD, intsD, anyD, allD, sumD, tupleD, listD, strD, reprD, keyB, binD, cmpO, cmpD, datB, negD, idxD, getD, ixD, slcD, tyD, D.isFn, D.truth, shp_non, shp_bl, shp_int, shp_str, shp_tup, shp_lst, shps_nil, shps_cons, D.eqv, D.eqvs, itemsD, rngD, zipO, enumO, intO, isND, doCall, lends, lendA, lentIx, backs, backS, maskS, mask1]) (by rw [List.length_map]; omega) (fun d hd => by
    obtain ⟨q, hq, rfl⟩ := List.mem_map.mp hd
    refine ⟨[s0, s1, s2, s3, .val t (.tup (ps.map pairD)), .val false (.int q.1), .val false (.int q.2)], by simp [asgT, asgTs, putD, wipeR, pairD], _, rfl, ?_⟩
    rw [if_pos rfl]
    exact ⟨[s0, s1, s2, s3, .val t (.tup (ps.map pairD)), .val false (.int q.1), .val false (.int q.2)], by simp [prime_paper_e2, runF, MP.execs, ev_cst, ev_glb, ev_var, ev_tup, ev_lst, ev_dis0, ev_dis1, ev_bin, ev_neg, ev_boo, ev_not, ev_cmp, ev_chn, ev_chn3, ev_ite, ev_idx, ev_slc, ev_call, ev_blt, ev_isi, ev_lstI, x_par, x_aug, x_seti, x_app, x_expr, x_ife, x_ret, x_retN, x_pas, x_brk, x_cnt, x_rse0, x_rse1, ev_fnv, ev_callL, ev_met, ev_disO, ev_dget, ev_din, ev_dget2, x_dset, dgetD, dinD, dget2D, isDicM, dsetD, sortedD, min1D, ev_pop, ev_ext, popD, extD, metR, pickH, tells, Pt.tell, showD, x_nm, x_tp, backs_f1, backs_d1, backs_d2, backs_d3, backs_d4, backs_d5, backs_d6, backs_nil, evB, evIf, evO, evAs, evDs, evI, evT, evRs, bnd, ok, op1, op2, view, views, tru, frzM, frz, keepA, unslot, slotOf, putA, putAs, putD, nxtO, augD, setiD, appD, retA, asgT, asgTs, blts, liftO, bltD, absD, maxD, minD, int1D, lenD, gcdD, isiD, blsD, intsD, anyD, allD, sumD, tupleD, listD, strD, reprD, keyB, binD, cmpO, cmpD, datB, negD, idxD, getD, ixD, slcD, tyD, D.isFn, D.truth, shp_non, shp_bl, shp_int, shp_str, shp_tup, shp_lst, shps_nil, shps_cons, D.eqv, D.eqvs, itemsD, rngD, zipO, enumO, intO, isND, doCall, lends, lendA, lentIx, backs, backS, maskS, mask1, pairD], by simp [wipeR]⟩)
  rw [show (ps.map pairD).filter (fun _ => true) = ps.map pairD by simp, List.map_map] at c
  unfold natsD
  rw [List.map_map]
  exact c
/-- one turn: skipped -/
theorem pc_skip (t : Bool) {x0 : D} {h : Int} {ks vs ws : List D} {s3 s4 s5 s6 : Slot} {o : Option D} (ho : h ≠ 2 → lookK ks vs (.int h) = o) (hs : h = 2 ∨ o.isSome = true) :
    MP.execs (callN P n) (prime_paper_b1 jl jp) [.val t x0, .own false (.dic ks vs), .own false (.lst (ws ++ [.int h])), s3, s4, s5, s6] = some (.ok .nxt, [.val t x0, .own false (.dic ks vs), .own false (.lst ws), .val false (.int h), s4, s5, s6]) := by
  by_cases h2 : h = 2
  · subst h2
    simp [prime_paper_b1, runF, MP.execs, ev_cst, ev_glb, ev_var, ev_tup, ev_lst, ev_dis0, ev_dis1, ev_bin, ev_neg, ev_boo, ev_not, ev_cmp, ev_chn, ev_chn3, ev_ite, ev_idx, ev_slc, ev_call, ev_blt, ev_isi, ev_lstI, x_par, x_aug, x_seti, x_app, x_expr, x_ife, x_ret, x_retN, x_pas, x_brk, x_cnt, x_rse0, x_rse1, ev_fnv, ev_callL, ev_met, ev_disO, ev_dget, ev_din, ev_dget2, x_dset, dgetD, dinD, dget2D, isDicM, dsetD, sortedD, min1D, ev_pop, ev_ext, popD, extD, metR, pickH, tells, Pt.tell, showD, x_nm, x_tp, backs_f1, backs_d1, backs_d2, backs_d3, backs_d4, backs_d5, backs_d6, backs_nil, evB, evIf, evO, evAs, evDs, evI, evT, evRs, bnd, ok, op1, op2, view, views, tru, frzM, frz, keepA, unslot, slotOf, putA, putAs, putD, nxtO, augD, setiD, appD, retA, asgT, asgTs, blts, liftO, bltD, absD, maxD, minD, int1D, lenD, gcdD, isiD, blsD, intsD, anyD, allD, sumD, tupleD, listD, strD, reprD, keyB, binD, cmpO, cmpD, datB, negD, idxD, getD, ixD, slcD, tyD, D.isFn, D.truth, shp_non, shp_bl, shp_int, shp_str, shp_tup, shp_lst, shps_nil, shps_cons, D.eqv, D.eqvs, itemsD, rngD, zipO, enumO, intO, isND, doCall, lends, lendA, lentIx, backs, backS, maskS, mask1]
  · have h3 := ho h2
    have h4 : o.isSome = true := hs.resolve_left h2
    simp [prime_paper_b1, runF, MP.execs, ev_cst, ev_glb, ev_var, ev_tup, ev_lst, ev_dis0, ev_dis1, ev_bin, ev_neg, ev_boo, ev_not, ev_cmp, ev_chn, ev_chn3, ev_ite, ev_idx, ev_slc, ev_call, ev_blt, ev_isi, ev_lstI, x_par, x_aug, x_seti, x_app, x_expr, x_ife, x_ret, x_retN, x_pas, x_brk, x_cnt, x_rse0, x_rse1, ev_fnv, ev_callL, ev_met, ev_disO, ev_dget, ev_din, ev_dget2, x_dset, dgetD, dinD, dget2D, isDicM, dsetD, sortedD, min1D, ev_pop, ev_ext, popD, extD, metR, pickH, tells, Pt.tell, showD, x_nm, x_tp, backs_f1, backs_d1, backs_d2, backs_d3, backs_d4, backs_d5, backs_d6, backs_nil, evB, evIf, evO, evAs, evDs, evI, evT, evRs, bnd, ok, op1, op2, view, views, tru, frzM, frz, keepA, unslot, slotOf, putA, putAs, putD, nxtO, augD, setiD, appD, retA, asgT, asgTs, blts, liftO, bltD, absD, maxD, minD, int1D, lenD, gcdD, isiD, blsD, intsD, anyD, allD, sumD, tupleD, listD, strD, reprD, keyB, binD, cmpO, cmpD, datB, negD, idxD, getD, ixD, slcD, tyD, D.isFn, D.truth, shp_non, shp_bl, shp_int, shp_str, shp_tup, shp_lst, shps_nil, shps_cons, D.eqv, D.eqvs, itemsD, rngD, zipO, enumO, intO, isND, doCall, lends, lendA, lentIx, backs, backS, maskS, mask1, h2, h3, h4]
/-- one turn: a row more -/
theorem pc_add (t : Bool) {x0 : D} {h h1 g : Int} {ks vs ws ys ps : List D} {K' : D} {s3 s4 s5 s6 : Slot} (h2 : ¬ h = 2) (hl : lookK ks vs (.int h) = none) (e1 : h - 1 = h1) (ep : callN P n jp [.val false (.int h1)] = some (.ok (.frs (.lst ps)), [.non])) (em : callN P n jl [.val false (.int h)] = some (.ok (.dat (.int g)), [.non]))
    (hk : ks.length < 16777216) (hK : putDic ks vs (.int h) (.tup [.int h, .int g, .tup ps]) = K')
    (hc : ∀ s0 s1 s2 s3 s5 s6, ev (callN P n) (.cmpr prime_paper_e2 (Tg.tp (Tgs.cons (Tg.nm 5) (Tgs.cons (Tg.nm 6) Tgs.nil))) (I.seq (C.var 4)) CO.none [5, 6]) [s0, s1, s2, s3, .val false (.tup ps), s5, s6] = some (.ok (.frs (.lst ys)), [s0, s1, s2, s3, .val false (.tup ps), s5, s6])) (hy : ws.length + ys.length ≤ 16777216) :
    MP.execs (callN P n) (prime_paper_b1 jl jp) [.val t x0, .own false (.dic ks vs), .own false (.lst (ws ++ [.int h])), s3, s4, s5, s6] = some (.ok .nxt, [.val t x0, .own false K', .own false (.lst (ws ++ ys)), .val false (.int h), .val false (.tup ps), s5, s6]) := by
  simp [prime_paper_b1, runF, MP.execs, ev_cst, ev_glb, ev_var, ev_tup, ev_lst, ev_dis0, ev_dis1, ev_bin, ev_neg, ev_boo, ev_not, ev_cmp, ev_chn, ev_chn3, ev_ite, ev_idx, ev_slc, ev_call, ev_blt, ev_isi, ev_lstI, x_par, x_aug, x_seti, x_app, x_expr, x_ife, x_ret, x_retN, x_pas, x_brk, x_cnt, x_rse0, x_rse1, ev_fnv, ev_callL, ev_met, ev_disO, ev_dget, ev_din, ev_dget2, x_dset, dgetD, dinD, dget2D, isDicM, dsetD, sortedD, min1D, ev_pop, ev_ext, popD, extD, metR, pickH, tells, Pt.tell, showD, x_nm, x_tp, backs_f1, backs_d1, backs_d2, backs_d3, backs_d4, backs_d5, backs_d6, backs_nil, evB, evIf, evO, evAs, evDs, evI, evT, evRs, bnd, ok, op1, op2, view, views, tru, frzM, frz, keepA, unslot, slotOf, putA, putAs, putD, nxtO, augD, setiD, appD, retA, asgT, asgTs, blts, liftO, bltD, absD, maxD, minD, int1D, lenD, gcdD, isiD, blsD, intsD, anyD, allD, sumD, tupleD, listD, strD, reprD, keyB, binD, cmpO, cmpD, datB, negD, idxD, getD, ixD, slcD, tyD, D.isFn, D.truth, shp_non, shp_bl, shp_int, shp_str, shp_tup, shp_lst, shps_nil, shps_cons, D.eqv, D.eqvs, itemsD, rngD, zipO, enumO, intO, isND, doCall, lends, lendA, lentIx, backs, backS, maskS, mask1, h2, hl, e1, ep, em, hk, hK, hc, hy]
theorem pp_loop {j jm : Nat} (hP1 : P jp = some F_parts_in) (hPl : P jl = some (F_least_maker_in jm jp)) (hPm : P jm = some (F_is_maker_of j)) (hPj : P j = some F_power_rest) (t : Bool) {p : Nat} (hp : p ≤ 100000000) :
    ∀ (M : Nat) (rs : List (Nat × D)) (W : List Nat) (s3 s4 s5 s6 : Slot), PInv p rs W → (64 - rs.length) * 64 + W.length = M → M < 10000 →
    ∃ (rs' : List (Nat × D)) (a b c d : Slot), PInv p rs' [] ∧ whlM (evT (callN P (n + 3)) prime_paper_c1) (fun ρ => MP.execs (callN P (n + 3)) (prime_paper_b1 jl jp) ρ) [.val t (.int p), .own false (.dic (keysD rs) (valsD rs)), .own false (.lst (natsD W)), s3, s4, s5, s6] = some (.ok .nxt, [.val t (.int p), .own false (.dic (keysD rs') (valsD rs')), .own false (.lst []), a, b, c, d]) := by
  intro M
  induction M using Nat.strongRecOn with
  | _ M ih =>
    intro rs W s3 s4 s5 s6 hi hM hW
    have hfew := hi.few hp
    rcases List.eq_nil_or_concat W with rfl | ⟨W, h, rfl⟩
    · exact ⟨rs, s3, s4, s5, s6, hi, whl_stop (pc_cond t (ws := []) (shps_nil _) false rfl)⟩
    · simp only [List.concat_eq_append] at hi hM hW ⊢
      have hcond : evT (callN P (n + 3)) prime_paper_c1 [.val t (.int p), .own false (.dic (keysD rs) (valsD rs)), .own false (.lst (natsD (W ++ [h]))), s3, s4, s5, s6] = some (.ok true, [.val t (.int p), .own false (.dic (keysD rs) (valsD rs)), .own false (.lst (natsD (W ++ [h]))), s3, s4, s5, s6]) :=
        pc_cond t (shps_nats 11 _) true (by cases W <;> rfl)
      rw [List.length_append, List.length_singleton] at hM
      have hnat : natsD (W ++ [h]) = natsD W ++ [.int h] := by simp [natsD]
      rw [hnat] at hcond ⊢
      obtain ⟨hpr, hle⟩ := hi.wait h (List.mem_append_right _ (List.mem_singleton.mpr rfl))
      by_cases hs : h = 2 ∨ h ∈ rs.map (·.1)
      · obtain ⟨rs', a, b, c, d, g1, g2⟩ := ih ((64 - rs.length) * 64 + W.length) (by omega) rs W (.val false (.int h)) s4 s5 s6 (hi.skip hs) rfl (by omega)
        refine ⟨rs', a, b, c, d, g1, whl_turn hcond (pc_skip t (o := lookK (keysD rs) (valsD rs) (.int h)) (fun _ => rfl) ?_) g2⟩
        rcases hs with hs | hs
        · exact Or.inl (by omega)
        · obtain ⟨r, hr, rfl⟩ := List.mem_map.mp hs
          rw [look_some hi.nodup hr]
          exact Or.inr rfl
      · have h2 : h ≠ 2 := fun z => hs (Or.inl z)
        have hn : h ∉ rs.map (·.1) := fun z => hs (Or.inr z)
        have h3 : 3 ≤ h := by have := hpr.1; omega
        obtain ⟨ps, hps⟩ := partsN_some (n := h - 1) (by omega) (by omega)
        have hpar := partsN_spec (by omega) (by omega) hps
        obtain ⟨hlen, _⟩ := hpar.small (by omega)
        obtain ⟨g, k1, k2, k3, em⟩ := run_least_maker hPl hP1 hPm hPj n false hpr (by omega) (w := 10001) (by omega) hps
        have ep := run_parts hP1 (n + 2) false (by omega) (by omega) (by omega) hps
        have hadd := hi.add h2 hn hpar (d := .tup [.int h, .int g, .tup (ps.map pairD)]) ⟨g, ps, rfl, hpar, k1, k2, k3⟩
        obtain ⟨rs', a, b, c, d, g1, g2⟩ := ih ((64 - (rs.length + 1)) * 64 + (W.length + ps.length)) (by omega) (rs ++ [(h, .tup [.int h, .int g, .tup (ps.map pairD)])]) (W ++ ps.map (·.1)) (.val false (.int h)) (.val false (.tup (ps.map pairD))) s5 s6 hadd (by rw [List.length_append, List.length_append, List.length_singleton, List.length_map]) (by omega)
        refine ⟨rs', a, b, c, d, g1, whl_turn hcond ?_ g2⟩
        have hnat2 : natsD (W ++ ps.map (·.1)) = natsD W ++ natsD (ps.map (·.1)) := by simp [natsD]
        rw [hnat2]
        have hkl : (keysD rs).length < 16777216 := by unfold keysD; rw [List.length_map]; omega
        exact pc_add t (h := (h : Int)) (h1 := ((h - 1 : Nat) : Int)) (g := (g : Int)) (by omega) (look_none hn) (by omega) ep em hkl (put_new hn) (fun s0 s1 s2 s3 s5 s6 => pc_ext _ ps s0 s1 s2 s3 s5 s6 false (by omega)) (by unfold natsD; rw [List.length_map, List.length_map, List.length_map]; omega)
end
/-! ### rows in order -/
def insR (x : Nat × D) : List (Nat × D) → List (Nat × D)
  | [] => [x]
  | y :: ys => if x.1 ≤ y.1 then x :: y :: ys else y :: insR x ys
def sortR : List (Nat × D) → List (Nat × D)
  | [] => []
  | x :: xs => insR x (sortR xs)
theorem insR_keys (x : Nat × D) : ∀ l : List (Nat × D), (insR x l).map (fun r => (r.1 : Int)) = insI x.1 (l.map fun r => (r.1 : Int))
  | [] => rfl
  | y :: ys => by
    rw [insR]
    simp only [List.map_cons, insI]
    by_cases h : x.1 ≤ y.1
    · rw [if_pos h, if_pos (by omega)]; rfl
    · rw [if_neg h, if_neg (by omega), List.map_cons, insR_keys x ys]
theorem sortR_keys : ∀ l : List (Nat × D), (sortR l).map (fun r => (r.1 : Int)) = sortI (l.map fun r => (r.1 : Int))
  | [] => rfl
  | x :: xs => by rw [sortR, insR_keys, sortR_keys xs]; rfl
theorem insR_perm (x : Nat × D) : ∀ l : List (Nat × D), (insR x l).Perm (x :: l)
  | [] => .refl _
  | y :: ys => by
    rw [insR]
    split
    · exact .refl _
    · exact ((insR_perm x ys).cons y).trans (.swap x y ys)
theorem sortR_perm : ∀ l : List (Nat × D), (sortR l).Perm l
  | [] => .refl _
  | x :: xs => (insR_perm x _).trans ((sortR_perm xs).cons x)
theorem insR_sorted (x : Nat × D) : ∀ l : List (Nat × D), l.Pairwise (fun a b => a.1 ≤ b.1) → (insR x l).Pairwise (fun a b => a.1 ≤ b.1)
  | [], _ => List.pairwise_singleton _ _
  | y :: ys, h => by
    rw [insR]
    split
    · rename_i hxy
      refine List.Pairwise.cons (fun z hz => ?_) h
      rcases List.mem_cons.mp hz with rfl | hz
      · exact hxy
      · exact Nat.le_trans hxy (List.rel_of_pairwise_cons h hz)
    · rename_i hxy
      refine List.Pairwise.cons (fun z hz => ?_) (insR_sorted x ys (List.Pairwise.of_cons h))
      rcases List.mem_cons.mp ((insR_perm x ys).mem_iff.mp hz) with rfl | hz
      · omega
      · exact List.rel_of_pairwise_cons h hz
theorem sortR_sorted : ∀ l : List (Nat × D), (sortR l).Pairwise (fun a b => a.1 ≤ b.1)
  | [] => .nil
  | x :: xs => insR_sorted x _ (sortR_sorted xs)
/-- what a paper of a prime is -/
structure Paper (p : Nat) (L : List (Nat × D)) : Prop where
  asc : L.Pairwise fun a b => a.1 < b.1
  rows : ∀ r ∈ L, Prm r.1 ∧ 3 ≤ r.1 ∧ r.1 ≤ p ∧ Row r.1 r.2
  clo : ∀ r ∈ L, ∀ q, Prm q → q ∣ r.1 - 1 → q = 2 ∨ q ∈ L.map (·.1)
  top : p = 2 ∨ p ∈ L.map (·.1)
  few : L.length < 27
theorem PInv.paper {p : Nat} {rs : List (Nat × D)} (h : PInv p rs []) (hp : p ≤ 100000000) : Paper p (sortR rs) := by
  have pm := sortR_perm rs
  have hk : ∀ q, q ∈ rs.map (·.1) → q ∈ (sortR rs).map (·.1) := fun q hq => (pm.map (·.1)).mem_iff.mpr hq
  refine ⟨?_, fun r hr => h.rows r (pm.mem_iff.mp hr), fun r hr q h1 h2 => ?_, ?_, by rw [pm.length_eq]; exact h.few hp⟩
  · have h1 := sortR_sorted rs
    have h2 : ((sortR rs).map (·.1)).Nodup := (pm.map (·.1)).nodup_iff.mpr h.nodup
    unfold List.Nodup at h2
    rw [List.pairwise_map] at h2
    exact (h1.and h2).imp fun {a b} ⟨x, y⟩ => by omega
  · rcases h.clo r (pm.mem_iff.mp hr) q h1 h2 with h | h | h
    · exact Or.inl h
    · exact Or.inr (hk q h)
    · cases h
  · rcases h.top with h | h | h
    · exact Or.inl h
    · exact Or.inr (hk p h)
    · cases h
theorem ints_keys : ∀ rs : List (Nat × D), intsD (keysD rs) = some (rs.map fun r => (r.1 : Int))
  | [] => rfl
  | r :: rs => by
    show (intsD (keysD rs)).map ((r.1 : Int) :: ·) = _
    rw [ints_keys rs]; rfl
theorem pp_fin {P : Nat → Option Fd} {i jp jl n : Nat} (hP : P i = some (F_prime_paper jl jp)) {t : Bool} {p : D} {K : D} {a b c d : Slot} {M : List D} (h1 : MP.exec (callN P n) (S.whl prime_paper_c1 (prime_paper_b1 jl jp)) [.val t p, .own false (.dic [] []), .own false (.lst [p]), .non, .non, .non, .non] = some (.ok .nxt, [.val t p, .own false K, .own false (.lst []), a, b, c, d]))
    (h2 : ev (callN P n) (.cmpr prime_paper_e3 (Tg.nm 3) (I.seq (C.blt .sorted (Cs.cons (C.var 1) Cs.nil))) CO.none [3]) [.val t p, .own false K, .own false (.lst []), a, b, c, d] = some (.ok (.frs (.lst M)), [.val t p, .own false K, .own false (.lst []), a, b, c, d])) :
    callN P (n + 1) i [.val t p] = some (.ok (.dat (.tup M)), [.non]) := by
  rw [callN, hP]
  simp [F_prime_paper, runF, MP.execs, ev_cst, ev_glb, ev_var, ev_tup, ev_lst, ev_dis0, ev_dis1, ev_bin, ev_neg, ev_boo, ev_not, ev_cmp, ev_chn, ev_chn3, ev_ite, ev_idx, ev_slc, ev_call, ev_blt, ev_isi, ev_lstI, x_par, x_aug, x_seti, x_app, x_expr, x_ife, x_ret, x_retN, x_pas, x_brk, x_cnt, x_rse0, x_rse1, ev_fnv, ev_callL, ev_met, ev_disO, ev_dget, ev_din, ev_dget2, x_dset, dgetD, dinD, dget2D, isDicM, dsetD, sortedD, min1D, ev_pop, ev_ext, popD, extD, metR, pickH, tells, Pt.tell, showD, x_nm, x_tp, backs_f1, backs_d1, backs_d2, backs_d3, backs_d4, backs_d5, backs_d6, backs_nil, evB, evIf, evO, evAs, evDs, evI, evT, evRs, bnd, ok, op1, op2, view, views, tru, frzM, frz, keepA, unslot, slotOf, putA, putAs, putD, nxtO, augD, setiD, appD, retA, asgT, asgTs, blts, liftO, bltD, absD, maxD, minD, int1D, lenD, gcdD, isiD, blsD, intsD, anyD, allD, sumD, tupleD, listD, strD, reprD, keyB, binD, cmpO, cmpD, datB, negD, idxD, getD, ixD, slcD, tyD, D.isFn, D.truth, shp_non, shp_bl, shp_int, shp_str, shp_tup, shp_lst, shps_nil, shps_cons, D.eqv, D.eqvs, itemsD, rngD, zipO, enumO, intO, isND, doCall, lends, lendA, lentIx, backs, backS, maskS, mask1, h1, h2]
theorem pp_comp {P : Nat → Option Fd} {n : Nat} {rs : List (Nat × D)} (hn : (rs.map (·.1)).Nodup) (hl : rs.length < 27) (s0 s2 a b c d : Slot) :
    ev (callN P n) (.cmpr prime_paper_e3 (Tg.nm 3) (I.seq (C.blt .sorted (Cs.cons (C.var 1) Cs.nil))) CO.none [3]) [s0, .own false (.dic (keysD rs) (valsD rs)), s2, a, b, c, d] = some (.ok (.frs (.lst ((sortR rs).map (·.2)))), [s0, .own false (.dic (keysD rs) (valsD rs)), s2, a, b, c, d]) := by
  have hi : evI (callN P n) (I.seq (C.blt .sorted (Cs.cons (C.var 1) Cs.nil))) [s0, .own false (.dic (keysD rs) (valsD rs)), s2, a, b, c, d] = some (.ok ((sortI (rs.map fun r => (r.1 : Int))).map .int), [s0, .own false (.dic (keysD rs) (valsD rs)), s2, a, b, c, d]) := by
    have hk := ints_keys rs
    have hl2 : rs.length < 64 := by omega
    simp [runF, MP.execs, ev_cst, ev_glb, ev_var, ev_tup, ev_lst, ev_dis0, ev_dis1, ev_bin, ev_neg, ev_boo, ev_not, ev_cmp, ev_chn, ev_chn3, ev_ite, ev_idx, ev_slc, ev_call, ev_blt, ev_isi, ev_lstI, x_par, x_aug, x_seti, x_app, x_expr, x_ife, x_ret, x_retN, x_pas, x_brk, x_cnt, x_rse0, x_rse1, ev_fnv, ev_callL, ev_met, ev_disO, ev_dget, ev_din, ev_dget2, x_dset, dgetD, dinD, dget2D, isDicM, dsetD, sortedD, min1D, ev_pop, ev_ext, popD, extD, metR, pickH, tells, Pt.tell, showD, x_nm, x_tp, backs_f1, backs_d1, backs_d2, backs_d3, backs_d4, backs_d5, backs_d6, backs_nil, evB, evIf, evO, evAs, evDs, evI, evT, evRs, bnd, ok, op1, op2, view, views, tru, frzM, frz, keepA, unslot, slotOf, putA, putAs, putD, nxtO, augD, setiD, appD, retA, asgT, asgTs, blts, liftO, bltD, absD, maxD, minD, int1D, lenD, gcdD, isiD, blsD, intsD, anyD, allD, sumD, tupleD, listD, strD, reprD, keyB, binD, cmpO, cmpD, datB, negD, idxD, getD, ixD, slcD, tyD, D.isFn, D.truth, shp_non, shp_bl, shp_int, shp_str, shp_tup, shp_lst, shps_nil, shps_cons, D.eqv, D.eqvs, itemsD, rngD, zipO, enumO, intO, isND, doCall, lends, lendA, lentIx, backs, backS, maskS, mask1, hk, hl2]
  rw [← sortR_keys, List.map_map] at hi
  have cc := ev_comp (call := callN P n) (elt := prime_paper_e3) (tg := Tg.nm 3) (ifs := CO.none) (own := [3]) (fun _ => true) (fun d => (lookK (keysD rs) (valsD rs) d).getD .non) hi (by rw [List.length_map, (sortR_perm rs).length_eq]; omega) (fun x hx => by
    obtain ⟨r, hr, rfl⟩ := List.mem_map.mp hx
    have hlk := look_some hn ((sortR_perm rs).mem_iff.mp hr)
    refine ⟨[s0, .own false (.dic (keysD rs) (valsD rs)), s2, .val false (.int r.1), b, c, d], by simp [asgT, putD, wipeR], _, rfl, ?_⟩
    rw [if_pos rfl]
    refine ⟨[s0, .own false (.dic (keysD rs) (valsD rs)), s2, .val false (.int r.1), b, c, d], ?_, by simp [wipeR]⟩
    show bnd (ev (callN P n) prime_paper_e3 _) frzM = some (.ok ((lookK (keysD rs) (valsD rs) (.int r.1)).getD .non), _)
    rw [hlk]
    simp [prime_paper_e3, runF, MP.execs, ev_cst, ev_glb, ev_var, ev_tup, ev_lst, ev_dis0, ev_dis1, ev_bin, ev_neg, ev_boo, ev_not, ev_cmp, ev_chn, ev_chn3, ev_ite, ev_idx, ev_slc, ev_call, ev_blt, ev_isi, ev_lstI, x_par, x_aug, x_seti, x_app, x_expr, x_ife, x_ret, x_retN, x_pas, x_brk, x_cnt, x_rse0, x_rse1, ev_fnv, ev_callL, ev_met, ev_disO, ev_dget, ev_din, ev_dget2, x_dset, dgetD, dinD, dget2D, isDicM, dsetD, sortedD, min1D, ev_pop, ev_ext, popD, extD, metR, pickH, tells, Pt.tell, showD, x_nm, x_tp, backs_f1, backs_d1, backs_d2, backs_d3, backs_d4, backs_d5, backs_d6, backs_nil, evB, evIf, evO, evAs, evDs, evI, evT, evRs, bnd, ok, op1, op2, view, views, tru, frzM, frz, keepA, unslot, slotOf, putA, putAs, putD, nxtO, augD, setiD, appD, retA, asgT, asgTs, blts, liftO, bltD, absD, maxD, minD, int1D, lenD, gcdD, isiD, blsD, intsD, anyD, allD, sumD, tupleD, listD, strD, reprD, keyB, binD, cmpO, cmpD, datB, negD, idxD, getD, ixD, slcD, tyD, D.isFn, D.truth, shp_non, shp_bl, shp_int, shp_str, shp_tup, shp_lst, shps_nil, shps_cons, D.eqv, D.eqvs, itemsD, rngD, zipO, enumO, intO, isND, doCall, lends, lendA, lentIx, backs, backS, maskS, mask1, hlk])
  rw [show ∀ l : List D, l.filter (fun _ => true) = l from fun l => by simp, List.map_map] at cc
  rw [cc]
  congr 5
  refine List.map_congr_left fun r hr => ?_
  show (lookK (keysD rs) (valsD rs) (.int r.1)).getD .non = r.2
  rw [look_some hn ((sortR_perm rs).mem_iff.mp hr)]
  rfl
/-- prime_paper: the paper of a prime -/
theorem run_paper {P : Nat → Option Fd} {i jp jl j jm : Nat} (hP : P i = some (F_prime_paper jl jp)) (hP1 : P jp = some F_parts_in) (hPl : P jl = some (F_least_maker_in jm jp)) (hPm : P jm = some (F_is_maker_of j)) (hPj : P j = some F_power_rest) (n : Nat) (t : Bool) {p : Nat} (hpr : Prm p) (hp : p ≤ 100000000) :
    ∃ L, Paper p L ∧ callN P (n + 4) i [.val t (.int p)] = some (.ok (.dat (.tup (L.map (·.2)))), [.non]) := by
  have hp2 := hpr.1
  have h0 : PInv p [] [p] := ⟨List.nodup_nil, fun r hr => (by cases hr), fun w hw => (by rw [List.mem_singleton] at hw; subst hw; exact ⟨hpr, Nat.le_refl _⟩), fun r hr => (by cases hr), Or.inr (Or.inr (List.mem_singleton.mpr rfl)), by
    simp only [oddp, List.length_nil, Nat.pow_zero, List.map_cons, List.map_nil, List.foldr_cons, List.foldr_nil]
    split <;> omega⟩
  obtain ⟨rs, a, b, c, d, hi, e⟩ := pp_loop (n := n) hP1 hPl hPm hPj t hp _ [] [p] .non .non .non .non h0 rfl (by simp)
  refine ⟨sortR rs, hi.paper hp, ?_⟩
  refine pp_fin hP (K := .dic (keysD rs) (valsD rs)) (a := a) (b := b) (c := c) (d := d) ?_ (pp_comp hi.nodup (hi.few hp) _ _ a b c d)
  rw [x_whl]
  exact e
end MP
set_option Elab.async false
set_option linter.all false
set_option maxRecDepth 100000
set_option maxHeartbeats 4000000
/-! MP: the law's own primes, and its judge of papers -/
namespace MP
open PySem
def law_pr_least_b1 : Ss := (Ss.cons (S.ife (C.cmp .gt (C.bin .mul (C.var 1) (C.var 1)) (C.var 0)) (Ss.cons (S.ret (C.var 0)) Ss.nil) Ss.nil) (Ss.cons (S.ife (C.cmp .eq (C.bin .mod (C.var 0) (C.var 1)) (C.cst (D.int 0))) (Ss.cons (S.ret (C.var 1)) Ss.nil) Ss.nil) Ss.nil))
def F_law_pr_least : Fd := ⟨"_law_pr_least", 1, ["_law_number", "_law_divisor"], (Ss.cons (S.for_ (Tg.nm 1) (I.rng2 (C.cst (D.int 2)) (C.cst (D.int 10003))) law_pr_least_b1) (Ss.cons (S.ret (C.var 0)) Ss.nil))⟩
def F_law_pr_is (i_law_pr_least : Nat) : Fd := ⟨"_law_pr_is", 1, ["_law_number"], (Ss.cons (S.ret (C.boo true (Cs.cons (C.cmp .ge (C.var 0) (C.cst (D.int 2))) (Cs.cons (C.cmp .eq (C.call i_law_pr_least [false] (Cs.cons (C.var 0) Cs.nil)) (C.var 0)) Cs.nil)))) Ss.nil)⟩
def law_pr_power_c1 : C := (C.cmp .gt (C.var 5) (C.cst (D.int 0)))
def law_pr_power_b1 : Ss := (Ss.cons (S.ife (C.cmp .eq (C.bin .mod (C.var 5) (C.cst (D.int 2))) (C.cst (D.int 1))) (Ss.cons (S.asg (Tg.nm 3) (C.bin .mod (C.blt .int1 (Cs.cons (C.bin .mul (C.var 3) (C.var 4)) Cs.nil)) (C.var 2))) Ss.nil) Ss.nil) (Ss.cons (S.par [4, 5] (Cs.cons (C.bin .mod (C.blt .int1 (Cs.cons (C.bin .mul (C.var 4) (C.var 4)) Cs.nil)) (C.var 2)) (Cs.cons (C.bin .fdiv (C.var 5) (C.cst (D.int 2))) Cs.nil))) Ss.nil))
def F_law_pr_power : Fd := ⟨"_law_pr_power", 3, ["_law_base", "_law_exponent", "_law_modulus", "_law_found", "_law_square", "_law_left"], (Ss.cons (S.par [3, 4, 5] (Cs.cons (C.bin .mod (C.cst (D.int 1)) (C.var 2)) (Cs.cons (C.bin .mod (C.blt .int1 (Cs.cons (C.var 0) Cs.nil)) (C.var 2)) (Cs.cons (C.var 1) Cs.nil)))) (Ss.cons (S.whl law_pr_power_c1 law_pr_power_b1) (Ss.cons (S.ret (C.var 3)) Ss.nil)))⟩
def F_law_pr_is_whole : Fd := ⟨"_law_pr_is_whole", 1, ["_law_value"], (Ss.cons (S.ret (C.boo true (Cs.cons (C.isi [.int] (C.var 0)) (Cs.cons (C.not_ (C.isi [.bool] (C.var 0))) Cs.nil)))) Ss.nil)⟩
def law_pr_is_row_b1 (i_law_pr_power : Nat) (i_law_pr_times : Nat) (i_law_pr_is_whole : Nat) : Ss := (Ss.cons (S.ife (C.boo false (Cs.cons (C.not_ (C.isi [.tuple] (C.var 7))) (Cs.cons (C.cmp .ne (C.blt .len (Cs.cons (C.var 7) Cs.nil)) (C.cst (D.int 2))) (Cs.cons (C.not_ (C.call i_law_pr_is_whole [false] (Cs.cons (C.idx (C.var 7) (C.cst (D.int 0))) Cs.nil))) (Cs.cons (C.not_ (C.call i_law_pr_is_whole [false] (Cs.cons (C.idx (C.var 7) (C.cst (D.int 1))) Cs.nil))) Cs.nil))))) (Ss.cons (S.ret (C.cst (D.bl false))) Ss.nil) Ss.nil) (Ss.cons (S.ife (C.boo false (Cs.cons (C.cmp .le (C.idx (C.var 7) (C.cst (D.int 0))) (C.var 6)) (Cs.cons (C.cmp .notIn (C.idx (C.var 7) (C.cst (D.int 0))) (C.var 0)) (Cs.cons (C.not_ (C.chn .le .le (C.cst (D.int 1)) (C.idx (C.var 7) (C.cst (D.int 1))) (C.cst (D.int 400)))) Cs.nil)))) (Ss.cons (S.ret (C.cst (D.bl false))) Ss.nil) Ss.nil) (Ss.cons (S.par [5, 6] (Cs.cons (C.bin .mul (C.var 5) (C.call i_law_pr_times [false, false] (Cs.cons (C.idx (C.var 7) (C.cst (D.int 0))) (Cs.cons (C.idx (C.var 7) (C.cst (D.int 1))) Cs.nil)))) (Cs.cons (C.idx (C.var 7) (C.cst (D.int 0))) Cs.nil))) (Ss.cons (S.ife (C.cmp .eq (C.call i_law_pr_power [false, false, false] (Cs.cons (C.var 3) (Cs.cons (C.bin .fdiv (C.bin .sub (C.var 2) (C.cst (D.int 1))) (C.idx (C.var 7) (C.cst (D.int 0)))) (Cs.cons (C.var 2) Cs.nil)))) (C.cst (D.int 1))) (Ss.cons (S.ret (C.cst (D.bl false))) Ss.nil) Ss.nil) Ss.nil))))
def F_law_pr_is_row (i_law_pr_power : Nat) (i_law_pr_times : Nat) (i_law_pr_is_whole : Nat) : Fd := ⟨"_law_pr_is_row", 2, ["_law_known", "_law_value", "_law_prime", "_law_maker", "_law_parts", "_law_whole", "_law_last", "_law_part"], (Ss.cons (S.ife (C.boo false (Cs.cons (C.not_ (C.isi [.tuple] (C.var 1))) (Cs.cons (C.cmp .ne (C.blt .len (Cs.cons (C.var 1) Cs.nil)) (C.cst (D.int 3))) (Cs.cons (C.not_ (C.call i_law_pr_is_whole [false] (Cs.cons (C.idx (C.var 1) (C.cst (D.int 0))) Cs.nil))) (Cs.cons (C.not_ (C.call i_law_pr_is_whole [false] (Cs.cons (C.idx (C.var 1) (C.cst (D.int 1))) Cs.nil))) Cs.nil))))) (Ss.cons (S.ret (C.cst (D.bl false))) Ss.nil) Ss.nil) (Ss.cons (S.asg (Tg.tp (Tgs.cons (Tg.nm 2) (Tgs.cons (Tg.nm 3) (Tgs.cons (Tg.nm 4) Tgs.nil)))) (C.var 1)) (Ss.cons (S.ife (C.boo false (Cs.cons (C.cmp .le (C.var 2) (C.idx (C.var 0) (C.neg (C.cst (D.int 1))))) (Cs.cons (C.not_ (C.chn .le .lt (C.cst (D.int 1)) (C.var 3) (C.var 2))) (Cs.cons (C.not_ (C.isi [.tuple] (C.var 4))) Cs.nil)))) (Ss.cons (S.ret (C.cst (D.bl false))) Ss.nil) Ss.nil) (Ss.cons (S.asg (Tg.tp (Tgs.cons (Tg.nm 5) (Tgs.cons (Tg.nm 6) Tgs.nil))) (C.tup (Cs.cons (C.cst (D.int 1)) (Cs.cons (C.cst (D.int 0)) Cs.nil)))) (Ss.cons (S.for_ (Tg.nm 7) (I.seq (C.var 4)) (law_pr_is_row_b1 i_law_pr_power i_law_pr_times i_law_pr_is_whole)) (Ss.cons (S.ret (C.boo true (Cs.cons (C.cmp .eq (C.var 5) (C.bin .sub (C.var 2) (C.cst (D.int 1)))) (Cs.cons (C.cmp .eq (C.call i_law_pr_power [false, false, false] (Cs.cons (C.var 3) (Cs.cons (C.bin .sub (C.var 2) (C.cst (D.int 1))) (Cs.cons (C.var 2) Cs.nil)))) (C.cst (D.int 1))) Cs.nil)))) Ss.nil))))))⟩
def law_pr_is_paper_b1 (i_law_pr_is_row : Nat) : Ss := (Ss.cons (S.ife (C.not_ (C.call i_law_pr_is_row [true, false] (Cs.cons (C.var 2) (Cs.cons (C.var 3) Cs.nil)))) (Ss.cons (S.ret (C.cst (D.bl false))) Ss.nil) Ss.nil) (Ss.cons (S.app 2 (C.idx (C.var 3) (C.cst (D.int 0)))) Ss.nil))
def F_law_pr_is_paper (i_law_pr_is_row : Nat) : Fd := ⟨"_law_pr_is_paper", 2, ["_law_number", "_law_value", "_law_known", "_law_row"], (Ss.cons (S.ife (C.boo false (Cs.cons (C.not_ (C.isi [.tuple] (C.var 1))) (Cs.cons (C.cmp .ne (C.cmp .eq (C.var 1) (C.tup Cs.nil)) (C.cmp .eq (C.var 0) (C.cst (D.int 2)))) Cs.nil))) (Ss.cons (S.ret (C.cst (D.bl false))) Ss.nil) Ss.nil) (Ss.cons (S.asg (Tg.nm 2) (C.lst (Cs.cons (C.cst (D.int 2)) Cs.nil))) (Ss.cons (S.for_ (Tg.nm 3) (I.seq (C.var 1)) (law_pr_is_paper_b1 i_law_pr_is_row)) (Ss.cons (S.ret (C.cmp .eq (C.idx (C.var 2) (C.neg (C.cst (D.int 1)))) (C.var 0))) Ss.nil))))⟩
/-! ### the least divisor by trying -/
theorem prl_loop (call : Nat → List Slot → Out) (t : Bool) {n : Nat} (h2 : 2 ≤ n) (hn : n ≤ 100000000) : ∀ (k d : Nat) (s : Slot), d + k = 10003 → 2 ≤ d → (∀ e, 2 ≤ e → e < d → ¬ e ∣ n) → (d ≤ n) → (k = 0 → False) →
    ∃ r ρ', LD n r ∧ forL (.nm 1) (fun ρ => MP.execs call law_pr_least_b1 ρ) (intsL d k) [.val t (.int n), s] = some (.ok (.ret (.dat (.int (r : Nat)))), ρ') := by
  intro k
  induction k with
  | zero => intro d s h1 h3 h4 h5 h6; exact (h6 rfl).elim
  | succ k ih =>
    intro d s h1 h3 h4 h5 h6
    have b1 := bitsN (a := d) (by omega)
    have b2 : bits (d : Int) + bits (d : Int) < 1000000 := by omega
    have hd0 : d ≠ 0 := by omega
    have e2 := fmodN n d
    rw [intsL]
    by_cases hq : n < d * d
    · have hqi : (n : Int) < (d : Int) * (d : Int) := by exact_mod_cast hq
      refine ⟨n, _, ⟨h2, Nat.dvd_refl n, no_small h2 h3 h4 hq⟩, for_ret (ρ1 := [.val t (.int n), .val false (.int d)]) (ρ2 := [.val t (.int n), .val false (.int d)]) (by simp [asgT, putD]) (by simp [law_pr_least_b1, runF, MP.execs, ev_cst, ev_glb, ev_var, ev_tup, ev_lst, ev_dis0, ev_dis1, ev_bin, ev_neg, ev_boo, ev_not, ev_cmp, ev_chn, ev_chn3, ev_ite, ev_idx, ev_slc, ev_call, ev_blt, ev_isi, ev_lstI, x_par, x_aug, x_seti, x_app, x_expr, x_ife, x_ret, x_retN, x_pas, x_brk, x_cnt, x_rse0, x_rse1, ev_fnv, ev_callL, ev_met, ev_disO, ev_dget, ev_din, ev_dget2, x_dset, dgetD, dinD, dget2D, isDicM, dsetD, sortedD, min1D, ev_pop, ev_ext, popD, extD, metR, pickH, tells, Pt.tell, showD, x_nm, x_tp, backs_f1, backs_d1, backs_d2, backs_d3, backs_d4, backs_d5, backs_d6, backs_nil, evB, evIf, evO, evAs, evDs, evI, evT, evRs, bnd, ok, op1, op2, view, views, tru, frzM, frz, keepA, unslot, slotOf, putA, putAs, putD, nxtO, augD, setiD, appD, retA, asgT, asgTs, blts, liftO, bltD, absD, maxD, minD, int1D, lenD, gcdD, isiD, blsD, intsD, anyD, allD, sumD, tupleD, listD, strD, reprD, keyB, binD, cmpO, cmpD, datB, negD, idxD, getD, ixD, slcD, tyD, D.isFn, D.truth, shp_non, shp_bl, shp_int, shp_str, shp_tup, shp_lst, shps_nil, shps_cons, D.eqv, D.eqvs, itemsD, rngD, zipO, enumO, intO, isND, doCall, lends, lendA, lentIx, backs, backS, maskS, mask1, b2, hqi])⟩
    · have hqi : ¬ (n : Int) < (d : Int) * (d : Int) := by
        intro z
        exact hq (by exact_mod_cast z)
      by_cases hm : n % d = 0
      · rw [hm] at e2
        refine ⟨d, _, ⟨h3, Nat.dvd_of_mod_eq_zero hm, h4⟩, for_ret (ρ1 := [.val t (.int n), .val false (.int d)]) (ρ2 := [.val t (.int n), .val false (.int d)]) (by simp [asgT, putD]) (by simp [law_pr_least_b1, runF, MP.execs, ev_cst, ev_glb, ev_var, ev_tup, ev_lst, ev_dis0, ev_dis1, ev_bin, ev_neg, ev_boo, ev_not, ev_cmp, ev_chn, ev_chn3, ev_ite, ev_idx, ev_slc, ev_call, ev_blt, ev_isi, ev_lstI, x_par, x_aug, x_seti, x_app, x_expr, x_ife, x_ret, x_retN, x_pas, x_brk, x_cnt, x_rse0, x_rse1, ev_fnv, ev_callL, ev_met, ev_disO, ev_dget, ev_din, ev_dget2, x_dset, dgetD, dinD, dget2D, isDicM, dsetD, sortedD, min1D, ev_pop, ev_ext, popD, extD, metR, pickH, tells, Pt.tell, showD, x_nm, x_tp, backs_f1, backs_d1, backs_d2, backs_d3, backs_d4, backs_d5, backs_d6, backs_nil, evB, evIf, evO, evAs, evDs, evI, evT, evRs, bnd, ok, op1, op2, view, views, tru, frzM, frz, keepA, unslot, slotOf, putA, putAs, putD, nxtO, augD, setiD, appD, retA, asgT, asgTs, blts, liftO, bltD, absD, maxD, minD, int1D, lenD, gcdD, isiD, blsD, intsD, anyD, allD, sumD, tupleD, listD, strD, reprD, keyB, binD, cmpO, cmpD, datB, negD, idxD, getD, ixD, slcD, tyD, D.isFn, D.truth, shp_non, shp_bl, shp_int, shp_str, shp_tup, shp_lst, shps_nil, shps_cons, D.eqv, D.eqvs, itemsD, rngD, zipO, enumO, intO, isND, doCall, lends, lendA, lentIx, backs, backS, maskS, mask1, b2, hqi, e2, hd0])⟩
      · have hm2 : ¬ ((n % d : Nat) : Int) = 0 := by omega
        have hdd : d < n := by
          have := Nat.mul_le_mul_right d h3
          omega
        have hd4 : d ≤ 10000 := by
          apply Classical.byContradiction
          intro z
          have := Nat.mul_le_mul (show 10001 ≤ d by omega) (show 10001 ≤ d by omega)
          omega
        obtain ⟨r, ρ', hr, e⟩ := ih (d + 1) (.val false (.int d)) (by omega) (by omega) (fun e e1 e3 e4 => by
          by_cases he : e = d
          · subst he; exact hm (Nat.mod_eq_zero_of_dvd e4)
          · exact h4 e e1 (by omega) e4) (by omega) (by omega)
        refine ⟨r, ρ', hr, ?_⟩
        generalize hR : ((n % d : Nat) : Int) = R at *
        rw [for_next (ρ1 := [.val t (.int n), .val false (.int d)]) (ρ2 := [.val t (.int n), .val false (.int d)]) (by simp [asgT, putD]) (by simp [law_pr_least_b1, runF, MP.execs, ev_cst, ev_glb, ev_var, ev_tup, ev_lst, ev_dis0, ev_dis1, ev_bin, ev_neg, ev_boo, ev_not, ev_cmp, ev_chn, ev_chn3, ev_ite, ev_idx, ev_slc, ev_call, ev_blt, ev_isi, ev_lstI, x_par, x_aug, x_seti, x_app, x_expr, x_ife, x_ret, x_retN, x_pas, x_brk, x_cnt, x_rse0, x_rse1, ev_fnv, ev_callL, ev_met, ev_disO, ev_dget, ev_din, ev_dget2, x_dset, dgetD, dinD, dget2D, isDicM, dsetD, sortedD, min1D, ev_pop, ev_ext, popD, extD, metR, pickH, tells, Pt.tell, showD, x_nm, x_tp, backs_f1, backs_d1, backs_d2, backs_d3, backs_d4, backs_d5, backs_d6, backs_nil, evB, evIf, evO, evAs, evDs, evI, evT, evRs, bnd, ok, op1, op2, view, views, tru, frzM, frz, keepA, unslot, slotOf, putA, putAs, putD, nxtO, augD, setiD, appD, retA, asgT, asgTs, blts, liftO, bltD, absD, maxD, minD, int1D, lenD, gcdD, isiD, blsD, intsD, anyD, allD, sumD, tupleD, listD, strD, reprD, keyB, binD, cmpO, cmpD, datB, negD, idxD, getD, ixD, slcD, tyD, D.isFn, D.truth, shp_non, shp_bl, shp_int, shp_str, shp_tup, shp_lst, shps_nil, shps_cons, D.eqv, D.eqvs, itemsD, rngD, zipO, enumO, intO, isND, doCall, lends, lendA, lentIx, backs, backS, maskS, mask1, b2, hqi, e2, hd0, hm2])]
        exact e
theorem run_pr_least {P : Nat → Option Fd} {i : Nat} (hP : P i = some F_law_pr_least) (m : Nat) (t : Bool) {n : Nat} (h2 : 2 ≤ n) (hn : n ≤ 100000000) : ∃ r : Nat, LD n r ∧ callN P (m + 1) i [.val t (.int n)] = some (.ok (.dat (.int r)), [.non]) := by
  obtain ⟨r, ρ', hr, e⟩ := prl_loop (callN P m) t h2 hn 10001 2 .non (by omega) (by omega) (fun e e1 e2 => by omega) h2 (by omega)
  refine ⟨r, hr, ?_⟩
  have hi : evI (callN P m) (I.rng2 (C.cst (D.int 2)) (C.cst (D.int 10003))) [.val t (.int n), .non] = some (.ok (intsL 2 10001), [.val t (.int n), .non]) := by
    have s1 : smallI 2 = true := by decide
    have s2 : smallI 10003 = true := by decide
    simp only [evI, ev_cst, bnd, ok, rngD, view, s1, s2]
    rfl
  have hx : MP.exec (callN P m) (S.for_ (Tg.nm 1) (I.rng2 (C.cst (D.int 2)) (C.cst (D.int 10003))) law_pr_least_b1) [.val t (.int n), .non] = some (.ok (.ret (.dat (.int r))), ρ') := by
    rw [x_for, hi]
    exact e
  rw [callN, hP]
  simp [F_law_pr_least, runF, MP.execs, ev_cst, ev_glb, ev_var, ev_tup, ev_lst, ev_dis0, ev_dis1, ev_bin, ev_neg, ev_boo, ev_not, ev_cmp, ev_chn, ev_chn3, ev_ite, ev_idx, ev_slc, ev_call, ev_blt, ev_isi, ev_lstI, x_par, x_aug, x_seti, x_app, x_expr, x_ife, x_ret, x_retN, x_pas, x_brk, x_cnt, x_rse0, x_rse1, ev_fnv, ev_callL, ev_met, ev_disO, ev_dget, ev_din, ev_dget2, x_dset, dgetD, dinD, dget2D, isDicM, dsetD, sortedD, min1D, ev_pop, ev_ext, popD, extD, metR, pickH, tells, Pt.tell, showD, x_nm, x_tp, backs_f1, backs_d1, backs_d2, backs_d3, backs_d4, backs_d5, backs_d6, backs_nil, evB, evIf, evO, evAs, evDs, evI, evT, evRs, bnd, ok, op1, op2, view, views, tru, frzM, frz, keepA, unslot, slotOf, putA, putAs, putD, nxtO, augD, setiD, appD, retA, asgT, asgTs, blts, liftO, bltD, absD, maxD, minD, int1D, lenD, gcdD, isiD, blsD, intsD, anyD, allD, sumD, tupleD, listD, strD, reprD, keyB, binD, cmpO, cmpD, datB, negD, idxD, getD, ixD, slcD, tyD, D.isFn, D.truth, shp_non, shp_bl, shp_int, shp_str, shp_tup, shp_lst, shps_nil, shps_cons, D.eqv, D.eqvs, itemsD, rngD, zipO, enumO, intO, isND, doCall, lends, lendA, lentIx, backs, backS, maskS, mask1, hx]
theorem run_pr_is {P : Nat → Option Fd} {i j : Nat} (hP : P i = some (F_law_pr_is j)) (hJ : P j = some F_law_pr_least) (m : Nat) (t : Bool) {n : Nat} (hn : n ≤ 100000000) : ∃ b : Bool, (b = true ↔ Prm n) ∧ callN P (m + 2) i [.val t (.int n)] = some (.ok (.dat (.bl b)), [.non]) := by
  by_cases h2 : 2 ≤ n
  · obtain ⟨r, hr, e⟩ := run_pr_least hJ m false h2 hn
    have h2i : (2 : Int) ≤ (n : Int) := by omega
    refine ⟨decide (r = n), ?_, ?_⟩
    · rw [decide_eq_true_eq]
      refine ⟨fun h => h ▸ hr.prm, fun h => ?_⟩
      apply Classical.byContradiction
      intro z
      have := Nat.le_of_dvd (by omega) hr.dvd
      exact h.2 r hr.ge (by omega) hr.dvd
    · rw [callN, hP]
      by_cases hrn : r = n
      · subst hrn
        simp [F_law_pr_is, runF, MP.execs, ev_cst, ev_glb, ev_var, ev_tup, ev_lst, ev_dis0, ev_dis1, ev_bin, ev_neg, ev_boo, ev_not, ev_cmp, ev_chn, ev_chn3, ev_ite, ev_idx, ev_slc, ev_call, ev_blt, ev_isi, ev_lstI, x_par, x_aug, x_seti, x_app, x_expr, x_ife, x_ret, x_retN, x_pas, x_brk, x_cnt, x_rse0, x_rse1, ev_fnv, ev_callL, ev_met, ev_disO, ev_dget, ev_din, ev_dget2, x_dset, dgetD, dinD, dget2D, isDicM, dsetD, sortedD, min1D, ev_pop, ev_ext, popD, extD, metR, pickH, tells, Pt.tell, showD, x_nm, x_tp, backs_f1, backs_d1, backs_d2, backs_d3, backs_d4, backs_d5, backs_d6, backs_nil, evB, evIf, evO, evAs, evDs, evI, evT, evRs, bnd, ok, op1, op2, view, views, tru, frzM, frz, keepA, unslot, slotOf, putA, putAs, putD, nxtO, augD, setiD, appD, retA, asgT, asgTs, blts, liftO, bltD, absD, maxD, minD, int1D, lenD, gcdD, isiD, blsD, intsD, anyD, allD, sumD, tupleD, listD, strD, reprD, keyB, binD, cmpO, cmpD, datB, negD, idxD, getD, ixD, slcD, tyD, D.isFn, D.truth, shp_non, shp_bl, shp_int, shp_str, shp_tup, shp_lst, shps_nil, shps_cons, D.eqv, D.eqvs, itemsD, rngD, zipO, enumO, intO, isND, doCall, lends, lendA, lentIx, backs, backS, maskS, mask1, e, h2, h2i]
      · have : ¬ (r : Int) = (n : Int) := by omega
        simp [F_law_pr_is, runF, MP.execs, ev_cst, ev_glb, ev_var, ev_tup, ev_lst, ev_dis0, ev_dis1, ev_bin, ev_neg, ev_boo, ev_not, ev_cmp, ev_chn, ev_chn3, ev_ite, ev_idx, ev_slc, ev_call, ev_blt, ev_isi, ev_lstI, x_par, x_aug, x_seti, x_app, x_expr, x_ife, x_ret, x_retN, x_pas, x_brk, x_cnt, x_rse0, x_rse1, ev_fnv, ev_callL, ev_met, ev_disO, ev_dget, ev_din, ev_dget2, x_dset, dgetD, dinD, dget2D, isDicM, dsetD, sortedD, min1D, ev_pop, ev_ext, popD, extD, metR, pickH, tells, Pt.tell, showD, x_nm, x_tp, backs_f1, backs_d1, backs_d2, backs_d3, backs_d4, backs_d5, backs_d6, backs_nil, evB, evIf, evO, evAs, evDs, evI, evT, evRs, bnd, ok, op1, op2, view, views, tru, frzM, frz, keepA, unslot, slotOf, putA, putAs, putD, nxtO, augD, setiD, appD, retA, asgT, asgTs, blts, liftO, bltD, absD, maxD, minD, int1D, lenD, gcdD, isiD, blsD, intsD, anyD, allD, sumD, tupleD, listD, strD, reprD, keyB, binD, cmpO, cmpD, datB, negD, idxD, getD, ixD, slcD, tyD, D.isFn, D.truth, shp_non, shp_bl, shp_int, shp_str, shp_tup, shp_lst, shps_nil, shps_cons, D.eqv, D.eqvs, itemsD, rngD, zipO, enumO, intO, isND, doCall, lends, lendA, lentIx, backs, backS, maskS, mask1, e, h2, h2i, hrn]
        exact this
  · have h2i : ¬ (2 : Int) ≤ (n : Int) := by omega
    refine ⟨false, ⟨(fun h => nomatch h), fun h => absurd h.1 h2⟩, ?_⟩
    rw [callN, hP]
    simp [F_law_pr_is, runF, MP.execs, ev_cst, ev_glb, ev_var, ev_tup, ev_lst, ev_dis0, ev_dis1, ev_bin, ev_neg, ev_boo, ev_not, ev_cmp, ev_chn, ev_chn3, ev_ite, ev_idx, ev_slc, ev_call, ev_blt, ev_isi, ev_lstI, x_par, x_aug, x_seti, x_app, x_expr, x_ife, x_ret, x_retN, x_pas, x_brk, x_cnt, x_rse0, x_rse1, ev_fnv, ev_callL, ev_met, ev_disO, ev_dget, ev_din, ev_dget2, x_dset, dgetD, dinD, dget2D, isDicM, dsetD, sortedD, min1D, ev_pop, ev_ext, popD, extD, metR, pickH, tells, Pt.tell, showD, x_nm, x_tp, backs_f1, backs_d1, backs_d2, backs_d3, backs_d4, backs_d5, backs_d6, backs_nil, evB, evIf, evO, evAs, evDs, evI, evT, evRs, bnd, ok, op1, op2, view, views, tru, frzM, frz, keepA, unslot, slotOf, putA, putAs, putD, nxtO, augD, setiD, appD, retA, asgT, asgTs, blts, liftO, bltD, absD, maxD, minD, int1D, lenD, gcdD, isiD, blsD, intsD, anyD, allD, sumD, tupleD, listD, strD, reprD, keyB, binD, cmpO, cmpD, datB, negD, idxD, getD, ixD, slcD, tyD, D.isFn, D.truth, shp_non, shp_bl, shp_int, shp_str, shp_tup, shp_lst, shps_nil, shps_cons, D.eqv, D.eqvs, itemsD, rngD, zipO, enumO, intO, isND, doCall, lends, lendA, lentIx, backs, backS, maskS, mask1, h2, h2i]
/-! ### powers -/
theorem prp_loop (call : Nat → List Slot → Out) (s0 s1 : Slot) (t : Bool) {m : Nat} (hm : 1 ≤ m) (hb : m < 2 ^ 60) : ∀ (k x y : Nat), x < m → y < m →
    ∃ s, whlM (evT call law_pr_power_c1) (fun ρ => MP.execs call law_pr_power_b1 ρ) [s0, s1, .val t (.int m), .val false (.int x), .val false (.int y), .val false (.int k)] = some (.ok .nxt, [s0, s1, .val t (.int m), .val false (.int (x * y ^ k % m : Nat)), s, .val false (.int 0)]) := by
  have hm0 : m ≠ 0 := by omega
  have b2 : bits 2 < 9000 := by decide +kernel
  intro k
  induction k using Nat.strongRecOn with
  | _ k ih =>
    intro x y hx hy
    by_cases hk : k = 0
    · subst hk
      refine ⟨.val false (.int y), ?_⟩
      rw [Nat.pow_zero, Nat.mul_one, Nat.mod_eq_of_lt hx]
      exact whl_stop (ρ1 := [s0, s1, .val t (.int m), .val false (.int x), .val false (.int y), .val false (.int 0)]) (by simp [law_pr_power_c1, runF, MP.execs, ev_cst, ev_glb, ev_var, ev_tup, ev_lst, ev_dis0, ev_dis1, ev_bin, ev_neg, ev_boo, ev_not, ev_cmp, ev_chn, ev_chn3, ev_ite, ev_idx, ev_slc, ev_call, ev_blt, ev_isi, ev_lstI, x_par, x_aug, x_seti, x_app, x_expr, x_ife, x_ret, x_retN, x_pas, x_brk, x_cnt, x_rse0, x_rse1, ev_fnv, ev_callL, ev_met, ev_disO, ev_dget, ev_din, ev_dget2, x_dset, dgetD, dinD, dget2D, isDicM, dsetD, sortedD, min1D, ev_pop, ev_ext, popD, extD, metR, pickH, tells, Pt.tell, showD, x_nm, x_tp, backs_f1, backs_d1, backs_d2, backs_d3, backs_d4, backs_d5, backs_d6, backs_nil, evB, evIf, evO, evAs, evDs, evI, evT, evRs, bnd, ok, op1, op2, view, views, tru, frzM, frz, keepA, unslot, slotOf, putA, putAs, putD, nxtO, augD, setiD, appD, retA, asgT, asgTs, blts, liftO, bltD, absD, maxD, minD, int1D, lenD, gcdD, isiD, blsD, intsD, anyD, allD, sumD, tupleD, listD, strD, reprD, keyB, binD, cmpO, cmpD, datB, negD, idxD, getD, ixD, slcD, tyD, D.isFn, D.truth, shp_non, shp_bl, shp_int, shp_str, shp_tup, shp_lst, shps_nil, shps_cons, D.eqv, D.eqvs, itemsD, rngD, zipO, enumO, intO, isND, doCall, lends, lendA, lentIx, backs, backS, maskS, mask1])
    · have hkp : (0 : Int) < (k : Int) := by omega
      have hy2 : y * y % m < m := Nat.mod_lt _ (by omega)
      have hc : evT call law_pr_power_c1 [s0, s1, .val t (.int m), .val false (.int x), .val false (.int y), .val false (.int k)] = some (.ok true, [s0, s1, .val t (.int m), .val false (.int x), .val false (.int y), .val false (.int k)]) := by simp [law_pr_power_c1, runF, MP.execs, ev_cst, ev_glb, ev_var, ev_tup, ev_lst, ev_dis0, ev_dis1, ev_bin, ev_neg, ev_boo, ev_not, ev_cmp, ev_chn, ev_chn3, ev_ite, ev_idx, ev_slc, ev_call, ev_blt, ev_isi, ev_lstI, x_par, x_aug, x_seti, x_app, x_expr, x_ife, x_ret, x_retN, x_pas, x_brk, x_cnt, x_rse0, x_rse1, ev_fnv, ev_callL, ev_met, ev_disO, ev_dget, ev_din, ev_dget2, x_dset, dgetD, dinD, dget2D, isDicM, dsetD, sortedD, min1D, ev_pop, ev_ext, popD, extD, metR, pickH, tells, Pt.tell, showD, x_nm, x_tp, backs_f1, backs_d1, backs_d2, backs_d3, backs_d4, backs_d5, backs_d6, backs_nil, evB, evIf, evO, evAs, evDs, evI, evT, evRs, bnd, ok, op1, op2, view, views, tru, frzM, frz, keepA, unslot, slotOf, putA, putAs, putD, nxtO, augD, setiD, appD, retA, asgT, asgTs, blts, liftO, bltD, absD, maxD, minD, int1D, lenD, gcdD, isiD, blsD, intsD, anyD, allD, sumD, tupleD, listD, strD, reprD, keyB, binD, cmpO, cmpD, datB, negD, idxD, getD, ixD, slcD, tyD, D.isFn, D.truth, shp_non, shp_bl, shp_int, shp_str, shp_tup, shp_lst, shps_nil, shps_cons, D.eqv, D.eqvs, itemsD, rngD, zipO, enumO, intO, isND, doCall, lends, lendA, lentIx, backs, backS, maskS, mask1, hkp]; omega
      have hbx := bitsN (a := x) (by omega)
      have hby := bitsN (a := y) (by omega)
      have g1 : bits (x : Int) + bits (y : Int) < 1000000 := by omega
      have g2 : bits (y : Int) + bits (y : Int) < 1000000 := by omega
      have e2 : (k : Int).fdiv 2 = ((k / 2 : Nat) : Int) := fdivN k 2
      have em : (k : Int).fmod 2 = ((k % 2 : Nat) : Int) := fmodN k 2
      have ey : ((y : Int) * (y : Int)).fmod (m : Int) = ((y * y % m : Nat) : Int) := by rw [← Int.natCast_mul]; exact fmodN _ _
      have ex : ((x : Int) * (y : Int)).fmod (m : Int) = ((x * y % m : Nat) : Int) := by rw [← Int.natCast_mul]; exact fmodN _ _
      have hp := pw_step (x := x) (y := y) (m := m) (show 1 ≤ k by omega)
      by_cases ho : k % 2 = 1
      · rw [if_pos ho] at hp
        obtain ⟨s, e⟩ := ih (k / 2) (by omega) (x * y % m) (y * y % m) (Nat.mod_lt _ (by omega)) hy2
        rw [hp] at e
        refine ⟨s, ?_⟩
        rw [ho] at em
        generalize hK : ((k / 2 : Nat) : Int) = K at *
        generalize hX : ((x * y % m : Nat) : Int) = X at *
        generalize hY : ((y * y % m : Nat) : Int) = Y at *
        exact whl_turn hc (ρ2 := [s0, s1, .val t (.int m), .val false (.int X), .val false (.int Y), .val false (.int K)]) (by simp [law_pr_power_b1, runF, MP.execs, ev_cst, ev_glb, ev_var, ev_tup, ev_lst, ev_dis0, ev_dis1, ev_bin, ev_neg, ev_boo, ev_not, ev_cmp, ev_chn, ev_chn3, ev_ite, ev_idx, ev_slc, ev_call, ev_blt, ev_isi, ev_lstI, x_par, x_aug, x_seti, x_app, x_expr, x_ife, x_ret, x_retN, x_pas, x_brk, x_cnt, x_rse0, x_rse1, ev_fnv, ev_callL, ev_met, ev_disO, ev_dget, ev_din, ev_dget2, x_dset, dgetD, dinD, dget2D, isDicM, dsetD, sortedD, min1D, ev_pop, ev_ext, popD, extD, metR, pickH, tells, Pt.tell, showD, x_nm, x_tp, backs_f1, backs_d1, backs_d2, backs_d3, backs_d4, backs_d5, backs_d6, backs_nil, evB, evIf, evO, evAs, evDs, evI, evT, evRs, bnd, ok, op1, op2, view, views, tru, frzM, frz, keepA, unslot, slotOf, putA, putAs, putD, nxtO, augD, setiD, appD, retA, asgT, asgTs, blts, liftO, bltD, absD, maxD, minD, int1D, lenD, gcdD, isiD, blsD, intsD, anyD, allD, sumD, tupleD, listD, strD, reprD, keyB, binD, cmpO, cmpD, datB, negD, idxD, getD, ixD, slcD, tyD, D.isFn, D.truth, shp_non, shp_bl, shp_int, shp_str, shp_tup, shp_lst, shps_nil, shps_cons, D.eqv, D.eqvs, itemsD, rngD, zipO, enumO, intO, isND, doCall, lends, lendA, lentIx, backs, backS, maskS, mask1, em, ex, ey, e2, g1, g2, b2, hm0]) e
      · rw [if_neg ho] at hp
        have ho2 : k % 2 = 0 := by omega
        obtain ⟨s, e⟩ := ih (k / 2) (by omega) x (y * y % m) hx hy2
        rw [hp] at e
        refine ⟨s, ?_⟩
        rw [ho2] at em
        generalize hK : ((k / 2 : Nat) : Int) = K at *
        generalize hY : ((y * y % m : Nat) : Int) = Y at *
        exact whl_turn hc (ρ2 := [s0, s1, .val t (.int m), .val false (.int x), .val false (.int Y), .val false (.int K)]) (by simp [law_pr_power_b1, runF, MP.execs, ev_cst, ev_glb, ev_var, ev_tup, ev_lst, ev_dis0, ev_dis1, ev_bin, ev_neg, ev_boo, ev_not, ev_cmp, ev_chn, ev_chn3, ev_ite, ev_idx, ev_slc, ev_call, ev_blt, ev_isi, ev_lstI, x_par, x_aug, x_seti, x_app, x_expr, x_ife, x_ret, x_retN, x_pas, x_brk, x_cnt, x_rse0, x_rse1, ev_fnv, ev_callL, ev_met, ev_disO, ev_dget, ev_din, ev_dget2, x_dset, dgetD, dinD, dget2D, isDicM, dsetD, sortedD, min1D, ev_pop, ev_ext, popD, extD, metR, pickH, tells, Pt.tell, showD, x_nm, x_tp, backs_f1, backs_d1, backs_d2, backs_d3, backs_d4, backs_d5, backs_d6, backs_nil, evB, evIf, evO, evAs, evDs, evI, evT, evRs, bnd, ok, op1, op2, view, views, tru, frzM, frz, keepA, unslot, slotOf, putA, putAs, putD, nxtO, augD, setiD, appD, retA, asgT, asgTs, blts, liftO, bltD, absD, maxD, minD, int1D, lenD, gcdD, isiD, blsD, intsD, anyD, allD, sumD, tupleD, listD, strD, reprD, keyB, binD, cmpO, cmpD, datB, negD, idxD, getD, ixD, slcD, tyD, D.isFn, D.truth, shp_non, shp_bl, shp_int, shp_str, shp_tup, shp_lst, shps_nil, shps_cons, D.eqv, D.eqvs, itemsD, rngD, zipO, enumO, intO, isND, doCall, lends, lendA, lentIx, backs, backS, maskS, mask1, em, ey, e2, g2, b2, hm0]) e
theorem run_pr_power {P : Nat → Option Fd} {i : Nat} (hP : P i = some F_law_pr_power) (n : Nat) (t t1 t2 : Bool) {b k m : Nat} (hm : 1 ≤ m) (hb : m < 2 ^ 60) (hbm : b < m) : callN P (n + 1) i [.val t (.int b), .val t1 (.int k), .val t2 (.int m)] = some (.ok (.dat (.int (b ^ k % m : Nat))), [.non, .non, .non]) := by
  have ha : (b : Int).fmod (m : Int) = (b : Int) := by rw [fmodN, Nat.mod_eq_of_lt hbm]
  have hm0 : m ≠ 0 := by omega
  obtain ⟨s, e⟩ := prp_loop (callN P n) (.val t (.int b)) (.val t1 (.int k)) t2 hm hb k (1 % m) b (Nat.mod_lt _ (by omega)) hbm
  have e1 : (1 % m) * b ^ k % m = b ^ k % m := by rw [Nat.mul_mod, Nat.mod_mod, ← Nat.mul_mod, Nat.one_mul]
  rw [e1] at e
  have e2 := one_modN m
  generalize hX : ((b ^ k % m : Nat) : Int) = X at *
  generalize hO : ((1 % m : Nat) : Int) = O at *
  have hw : MP.exec (callN P n) (S.whl law_pr_power_c1 law_pr_power_b1) [.val t (.int b), .val t1 (.int k), .val t2 (.int m), .val false (.int O), .val false (.int b), .val false (.int k)] = some (.ok .nxt, [.val t (.int b), .val t1 (.int k), .val t2 (.int m), .val false (.int X), s, .val false (.int 0)]) := by rw [x_whl]; exact e
  rw [callN, hP]
  simp [F_law_pr_power, runF, MP.execs, ev_cst, ev_glb, ev_var, ev_tup, ev_lst, ev_dis0, ev_dis1, ev_bin, ev_neg, ev_boo, ev_not, ev_cmp, ev_chn, ev_chn3, ev_ite, ev_idx, ev_slc, ev_call, ev_blt, ev_isi, ev_lstI, x_par, x_aug, x_seti, x_app, x_expr, x_ife, x_ret, x_retN, x_pas, x_brk, x_cnt, x_rse0, x_rse1, ev_fnv, ev_callL, ev_met, ev_disO, ev_dget, ev_din, ev_dget2, x_dset, dgetD, dinD, dget2D, isDicM, dsetD, sortedD, min1D, ev_pop, ev_ext, popD, extD, metR, pickH, tells, Pt.tell, showD, x_nm, x_tp, backs_f1, backs_d1, backs_d2, backs_d3, backs_d4, backs_d5, backs_d6, backs_nil, evB, evIf, evO, evAs, evDs, evI, evT, evRs, bnd, ok, op1, op2, view, views, tru, frzM, frz, keepA, unslot, slotOf, putA, putAs, putD, nxtO, augD, setiD, appD, retA, asgT, asgTs, blts, liftO, bltD, absD, maxD, minD, int1D, lenD, gcdD, isiD, blsD, intsD, anyD, allD, sumD, tupleD, listD, strD, reprD, keyB, binD, cmpO, cmpD, datB, negD, idxD, getD, ixD, slcD, tyD, D.isFn, D.truth, shp_non, shp_bl, shp_int, shp_str, shp_tup, shp_lst, shps_nil, shps_cons, D.eqv, D.eqvs, itemsD, rngD, zipO, enumO, intO, isND, doCall, lends, lendA, lentIx, backs, backS, maskS, mask1, hw, ha, e2, hm0]
/-! ### powers by multiplying -/
theorem prtN_loop (call : Nat → List Slot → Out) (s1 : Slot) (t : Bool) {a : Nat} (ha : 1 ≤ a) : ∀ (k j : Nat) (lo : Int) (s3 : Slot), a ^ (j + k) < 2 ^ 60 → a < 2 ^ 60 →
    ∃ s, forL (.nm 3) (fun ρ => MP.execs call law_pr_times_b1 ρ) (intsL lo k) [.val t (.int a), s1, .val false (.int (a ^ j : Nat)), s3] = some (.ok .nxt, [.val t (.int a), s1, .val false (.int (a ^ (j + k) : Nat)), s]) := by
  intro k
  induction k with
  | zero => intro j lo s3 h h2; exact ⟨s3, rfl⟩
  | succ k ih =>
    intro j lo s3 h h2
    obtain ⟨s, e⟩ := ih (j + 1) (lo + 1) (.val false (.int lo)) (by rw [show j + 1 + k = j + (k + 1) by omega]; exact h) h2
    have hj : a ^ j < 2 ^ 60 := Nat.lt_of_le_of_lt (Nat.pow_le_pow_right ha (by omega)) h
    have b1 := bitsN (a := a) (by omega)
    have b2 := bitsN (a := a ^ j) (by omega)
    have b3 : bits ((a ^ j : Nat) : Int) + bits (a : Int) < 1000000 := by omega
    have hp : ((a ^ j : Nat) : Int) * (a : Int) = ((a ^ (j + 1) : Nat) : Int) := by rw [← Int.natCast_mul, Nat.pow_succ]
    rw [show j + (k + 1) = j + 1 + k by omega]
    refine ⟨s, ?_⟩
    generalize hX : ((a ^ j : Nat) : Int) = X at *
    generalize hY : ((a ^ (j + 1) : Nat) : Int) = Y at *
    rw [intsL, for_next (ρ1 := [.val t (.int a), s1, .val false (.int X), .val false (.int lo)]) (ρ2 := [.val t (.int a), s1, .val false (.int Y), .val false (.int lo)]) (by simp [asgT, putD]) (by simp [law_pr_times_b1, runF, MP.execs, ev_cst, ev_glb, ev_var, ev_tup, ev_lst, ev_dis0, ev_dis1, ev_bin, ev_neg, ev_boo, ev_not, ev_cmp, ev_chn, ev_chn3, ev_ite, ev_idx, ev_slc, ev_call, ev_blt, ev_isi, ev_lstI, x_par, x_aug, x_seti, x_app, x_expr, x_ife, x_ret, x_retN, x_pas, x_brk, x_cnt, x_rse0, x_rse1, ev_fnv, ev_callL, ev_met, ev_disO, ev_dget, ev_din, ev_dget2, x_dset, dgetD, dinD, dget2D, isDicM, dsetD, sortedD, min1D, ev_pop, ev_ext, popD, extD, metR, pickH, tells, Pt.tell, showD, x_nm, x_tp, backs_f1, backs_d1, backs_d2, backs_d3, backs_d4, backs_d5, backs_d6, backs_nil, evB, evIf, evO, evAs, evDs, evI, evT, evRs, bnd, ok, op1, op2, view, views, tru, frzM, frz, keepA, unslot, slotOf, putA, putAs, putD, nxtO, augD, setiD, appD, retA, asgT, asgTs, blts, liftO, bltD, absD, maxD, minD, int1D, lenD, gcdD, isiD, blsD, intsD, anyD, allD, sumD, tupleD, listD, strD, reprD, keyB, binD, cmpO, cmpD, datB, negD, idxD, getD, ixD, slcD, tyD, D.isFn, D.truth, shp_non, shp_bl, shp_int, shp_str, shp_tup, shp_lst, shps_nil, shps_cons, D.eqv, D.eqvs, itemsD, rngD, zipO, enumO, intO, isND, doCall, lends, lendA, lentIx, backs, backS, maskS, mask1, b3, hp])]
    exact e
theorem prt_fin {P : Nat → Option Fd} {i n : Nat} (hP : P i = some F_law_pr_times) {t t1 : Bool} {a k x : Int} {s : Slot} (hk : smallI k = true) (e : forL (.nm 3) (fun ρ => MP.execs (callN P n) law_pr_times_b1 ρ) (intsL 0 k.toNat) [.val t (.int a), .val t1 (.int k), .val false (.int 1), .non] = some (.ok .nxt, [.val t (.int a), .val t1 (.int k), .val false (.int x), s])) :
    callN P (n + 1) i [.val t (.int a), .val t1 (.int k)] = some (.ok (.dat (.int x)), [.non, .non]) := by
  have hx := (for_rng1v (callN P n) 1 [.val t (.int a), .val t1 (.int k), .val false (.int 1), .non] (tg := Tg.nm 3) (b := law_pr_times_b1) (K := k) rfl hk).trans e
  rw [callN, hP]
  simp [F_law_pr_times, runF, MP.execs, ev_cst, ev_glb, ev_var, ev_tup, ev_lst, ev_dis0, ev_dis1, ev_bin, ev_neg, ev_boo, ev_not, ev_cmp, ev_chn, ev_chn3, ev_ite, ev_idx, ev_slc, ev_call, ev_blt, ev_isi, ev_lstI, x_par, x_aug, x_seti, x_app, x_expr, x_ife, x_ret, x_retN, x_pas, x_brk, x_cnt, x_rse0, x_rse1, ev_fnv, ev_callL, ev_met, ev_disO, ev_dget, ev_din, ev_dget2, x_dset, dgetD, dinD, dget2D, isDicM, dsetD, sortedD, min1D, ev_pop, ev_ext, popD, extD, metR, pickH, tells, Pt.tell, showD, x_nm, x_tp, backs_f1, backs_d1, backs_d2, backs_d3, backs_d4, backs_d5, backs_d6, backs_nil, evB, evIf, evO, evAs, evDs, evI, evT, evRs, bnd, ok, op1, op2, view, views, tru, frzM, frz, keepA, unslot, slotOf, putA, putAs, putD, nxtO, augD, setiD, appD, retA, asgT, asgTs, blts, liftO, bltD, absD, maxD, minD, int1D, lenD, gcdD, isiD, blsD, intsD, anyD, allD, sumD, tupleD, listD, strD, reprD, keyB, binD, cmpO, cmpD, datB, negD, idxD, getD, ixD, slcD, tyD, D.isFn, D.truth, shp_non, shp_bl, shp_int, shp_str, shp_tup, shp_lst, shps_nil, shps_cons, D.eqv, D.eqvs, itemsD, rngD, zipO, enumO, intO, isND, doCall, lends, lendA, lentIx, backs, backS, maskS, mask1, hx]
theorem run_pr_timesN {P : Nat → Option Fd} {i : Nat} (hP : P i = some F_law_pr_times) (n : Nat) (t t1 : Bool) {a k : Nat} (ha : 1 ≤ a) (ha2 : a < 2 ^ 60) (h : a ^ k < 2 ^ 60) (hk : k < 2 ^ 60) : callN P (n + 1) i [.val t (.int a), .val t1 (.int k)] = some (.ok (.dat (.int (a ^ k : Nat))), [.non, .non]) := by
  obtain ⟨s, e⟩ := prtN_loop (callN P n) (.val t1 (.int k)) t ha k 0 0 .non (by rw [Nat.zero_add]; exact h) ha2
  rw [Nat.zero_add, Nat.pow_zero] at e
  exact prt_fin hP (k := (k : Int)) (small_i (by omega)) e
/-! ### the judge of a row -/
theorem run_whole {P : Nat → Option Fd} {i : Nat} (hP : P i = some F_law_pr_is_whole) (n : Nat) (t : Bool) (a : Int) : callN P (n + 1) i [.val t (.int a)] = some (.ok (.dat (.bl true)), [.non]) := by
  rw [callN, hP]; simp [F_law_pr_is_whole, runF, MP.execs, ev_cst, ev_glb, ev_var, ev_tup, ev_lst, ev_dis0, ev_dis1, ev_bin, ev_neg, ev_boo, ev_not, ev_cmp, ev_chn, ev_chn3, ev_ite, ev_idx, ev_slc, ev_call, ev_blt, ev_isi, ev_lstI, x_par, x_aug, x_seti, x_app, x_expr, x_ife, x_ret, x_retN, x_pas, x_brk, x_cnt, x_rse0, x_rse1, ev_fnv, ev_callL, ev_met, ev_disO, ev_dget, ev_din, ev_dget2, x_dset, dgetD, dinD, dget2D, isDicM, dsetD, sortedD, min1D, ev_pop, ev_ext, popD, extD, metR, pickH, tells, Pt.tell, showD, x_nm, x_tp, backs_f1, backs_d1, backs_d2, backs_d3, backs_d4, backs_d5, backs_d6, backs_nil, evB, evIf, evO, evAs, evDs, evI, evT, evRs, bnd, ok, op1, op2, view, views, tru, frzM, frz, keepA, unslot, slotOf, putA, putAs, putD, nxtO, augD, setiD, appD, retA, asgT, asgTs, blts, liftO, bltD, absD, maxD, minD, int1D, lenD, gcdD, isiD, blsD, intsD, anyD, allD, sumD, tupleD, listD, strD, reprD, keyB, binD, cmpO, cmpD, datB, negD, idxD, getD, ixD, slcD, tyD, D.isFn, D.truth, shp_non, shp_bl, shp_int, shp_str, shp_tup, shp_lst, shps_nil, shps_cons, D.eqv, D.eqvs, itemsD, rngD, zipO, enumO, intO, isND, doCall, lends, lendA, lentIx, backs, backS, maskS, mask1]
theorem row_body {P : Nat → Option Fd} {n jpw jtm jw : Nat} {q k h g w last x e pv : Int} {K : List D} {s1 s4 s7 : Slot} (hw : ∀ z : Int, callN P n jw [.val false (.int z)] = some (.ok (.dat (.bl true)), [.non])) (h1 : ¬ q ≤ last) (hin : inD (.int q) (.lst K) = some true) (h3 : 1 ≤ k) (h4 : k ≤ 400)
    (et : callN P n jtm [.val false (.int q), .val false (.int k)] = some (.ok (.dat (.int x)), [.non, .non])) (hb : bits w + bits x < 1000000) (hq : ¬ q = 0) (hqb : bits q < 9000) (he : (h - 1).fdiv q = e) (ep : callN P n jpw [.val false (.int g), .val false (.int e), .val false (.int h)] = some (.ok (.dat (.int pv)), [.non, .non, .non])) (hpv : ¬ pv = 1) :
    MP.execs (callN P n) (law_pr_is_row_b1 jpw jtm jw) [.own true (.lst K), s1, .val false (.int h), .val false (.int g), s4, .val false (.int w), .val false (.int last), .val false (.tup [.int q, .int k])] = some (.ok .nxt, [.own true (.lst K), s1, .val false (.int h), .val false (.int g), s4, .val false (.int (w * x)), .val false (.int q), .val false (.tup [.int q, .int k])]) := by
  simp [law_pr_is_row_b1, runF, MP.execs, ev_cst, ev_glb, ev_var, ev_tup, ev_lst, ev_dis0, ev_dis1, ev_bin, ev_neg, ev_boo, ev_not, ev_cmp, ev_chn, ev_chn3, ev_ite, ev_idx, ev_slc, ev_call, ev_blt, ev_isi, ev_lstI, x_par, x_aug, x_seti, x_app, x_expr, x_ife, x_ret, x_retN, x_pas, x_brk, x_cnt, x_rse0, x_rse1, ev_fnv, ev_callL, ev_met, ev_disO, ev_dget, ev_din, ev_dget2, x_dset, dgetD, dinD, dget2D, isDicM, dsetD, sortedD, min1D, ev_pop, ev_ext, popD, extD, metR, pickH, tells, Pt.tell, showD, x_nm, x_tp, backs_f1, backs_d1, backs_d2, backs_d3, backs_d4, backs_d5, backs_d6, backs_nil, evB, evIf, evO, evAs, evDs, evI, evT, evRs, bnd, ok, op1, op2, view, views, tru, frzM, frz, keepA, unslot, slotOf, putA, putAs, putD, nxtO, augD, setiD, appD, retA, asgT, asgTs, blts, liftO, bltD, absD, maxD, minD, int1D, lenD, gcdD, isiD, blsD, intsD, anyD, allD, sumD, tupleD, listD, strD, reprD, keyB, binD, cmpO, cmpD, datB, negD, idxD, getD, ixD, slcD, tyD, D.isFn, D.truth, shp_non, shp_bl, shp_int, shp_str, shp_tup, shp_lst, shps_nil, shps_cons, D.eqv, D.eqvs, itemsD, rngD, zipO, enumO, intO, isND, doCall, lends, lendA, lentIx, backs, backS, maskS, mask1, hw, h1, hin, h3, h4, et, hb, hq, hqb, he, ep, hpv]
theorem in_nats {q : Nat} {K : List Nat} (h : q ∈ K) : inD (.int q) (.lst (natsD K)) = some true := by
  have h1 : (natsD K).all D.flat = true := by
    rw [List.all_eq_true]
    intro x hx
    obtain ⟨w, _, rfl⟩ := List.mem_map.mp hx
    rfl
  have h2 : ((natsD K).any fun y => y.eqv (.int q)) = true := by
    rw [List.any_eq_true]
    exact ⟨.int q, List.mem_map.mpr ⟨q, h, rfl⟩, by simp [D.eqv]⟩
  simp [inD, D.flat, h1, h2]
theorem row_loop {P : Nat → Option Fd} {n jpw jtm jw : Nat} (hW : P jw = some F_law_pr_is_whole) (hT : P jtm = some F_law_pr_times) (hPw : P jpw = some F_law_pr_power) {h g : Nat} {K : List Nat} (h3 : 3 ≤ h) (hle : h < 2 ^ 59) (hg : g < h) (s1 s4 : Slot) :
    ∀ (ps : List (Nat × Nat)) (w last : Nat) (s7 : Slot), (∀ q ∈ ps, 2 ≤ q.1 ∧ 1 ≤ q.2 ∧ last < q.1 ∧ q.1 ∈ K ∧ g ^ ((h - 1) / q.1) % h ≠ 1) → (ps.Pairwise fun a b => a.1 < b.1) → 1 ≤ w → w * pprod ps ≤ h →
    ∃ a b, forL (.nm 7) (fun ρ => MP.execs (callN P (n + 1)) (law_pr_is_row_b1 jpw jtm jw) ρ) (ps.map pairD) [.own true (.lst (natsD K)), s1, .val false (.int h), .val false (.int g), s4, .val false (.int w), .val false (.int last), s7] = some (.ok .nxt, [.own true (.lst (natsD K)), s1, .val false (.int h), .val false (.int g), s4, .val false (.int (w * pprod ps : Nat)), a, b]) := by
  intro ps
  induction ps with
  | nil => intro w last s7 h1 h2 hw1 h4; exact ⟨_, _, by simp [pprod]; rfl⟩
  | cons q ps ih =>
    intro w last s7 h1 h2 hw1 h4
    obtain ⟨q1, k1, l1, m1, n1⟩ := h1 q (List.mem_cons_self ..)
    have hall : ∀ x ∈ ps, 2 ≤ x.1 ∧ 1 ≤ x.2 ∧ q.1 < x.1 ∧ x.1 ∈ K ∧ g ^ ((h - 1) / x.1) % h ≠ 1 := fun x hx => by
      obtain ⟨a, b, c, d, e⟩ := h1 x (List.mem_cons_of_mem _ hx)
      exact ⟨a, b, List.rel_of_pairwise_cons h2 hx, d, e⟩
    have hpp := pprod_pos (ps := ps) fun x hx => by have := (hall x hx).1; omega
    rw [pprod_cons, ← Nat.mul_assoc] at h4 ⊢
    have hwq : w * q.1 ^ q.2 ≤ h := Nat.le_trans (Nat.le_mul_of_pos_right _ hpp) h4
    have hqk : q.1 ^ q.2 ≤ h := Nat.le_trans (Nat.le_mul_of_pos_left _ hw1) hwq
    have hpos : 1 ≤ q.1 ^ q.2 := Nat.pow_pos (by omega)
    have hwle : w ≤ h := Nat.le_trans (Nat.le_mul_of_pos_right _ hpos) hwq
    have hq1k : q.1 ≤ q.1 ^ q.2 := by
      calc q.1 = q.1 ^ 1 := (Nat.pow_one _).symm
        _ ≤ q.1 ^ q.2 := Nat.pow_le_pow_right (by omega) k1
    have hk60 : q.2 < 60 := by
      have h5 : 2 ^ q.2 ≤ q.1 ^ q.2 := Nat.pow_le_pow_left q1 _
      exact (Nat.pow_lt_pow_iff_right (a := 2) (by omega)).mp (show 2 ^ q.2 < 2 ^ 60 by omega)
    have et := run_pr_timesN hT n false false (a := q.1) (k := q.2) (by omega) (by omega) (by omega) (by omega)
    have ep := run_pr_power hPw n false false false (b := g) (k := (h - 1) / q.1) (m := h) (by omega) (by omega) hg
    have b1 := bitsN (a := w) (by omega)
    have b2 := bitsN (a := q.1 ^ q.2) (by omega)
    have b3 := bitsN (a := q.1) (by omega)
    have he : ((h : Int) - 1).fdiv (q.1 : Int) = (((h - 1) / q.1 : Nat) : Int) := by rw [← fdivN]; congr 1; omega
    have hb := row_body (P := P) (n := n + 1) (jpw := jpw) (jtm := jtm) (jw := jw) (q := (q.1 : Int)) (k := (q.2 : Int)) (h := (h : Int)) (g := (g : Int)) (w := (w : Int)) (last := (last : Int)) (K := natsD K) (s1 := s1) (s4 := s4) (s7 := s7) (fun z => run_whole hW n false z) (by omega) (in_nats m1) (by omega) (by omega) et (by omega) (by omega) (by omega) he ep (by omega)
    rw [← Int.natCast_mul] at hb
    obtain ⟨a, b, e⟩ := ih (w * q.1 ^ q.2) q.1 (.val false (pairD q)) hall (List.Pairwise.of_cons h2) (Nat.mul_pos hw1 hpos) h4
    refine ⟨a, b, ?_⟩
    rw [List.map_cons, for_next (ρ1 := [.own true (.lst (natsD K)), s1, .val false (.int h), .val false (.int g), s4, .val false (.int w), .val false (.int last), .val false (pairD q)]) (by simp [asgT, putD]) hb]
    exact e
theorem row_fin {P : Nat → Option Fd} {i n jpw jtm jw : Nat} (hP : P i = some (F_law_pr_is_row jpw jtm jw)) {t : Bool} {h g h1 l w : Int} {K ps : List D} {a b : Slot} (hw : ∀ z : Int, callN P n jw [.val false (.int z)] = some (.ok (.dat (.bl true)), [.non]))
    (hl : getD (.lst K) (-1) = some (.int l)) (hlt : ¬ h ≤ l) (hg1 : 1 ≤ g) (hg2 : g < h) (hh : h - 1 = h1) (hwh : w = h1)
    (hx : MP.exec (callN P n) (S.for_ (Tg.nm 7) (I.seq (C.var 4)) (law_pr_is_row_b1 jpw jtm jw)) [.own true (.lst K), .val t (.tup [.int h, .int g, .tup ps]), .val false (.int h), .val false (.int g), .val false (.tup ps), .val false (.int 1), .val false (.int 0), .non] = some (.ok .nxt, [.own true (.lst K), .val t (.tup [.int h, .int g, .tup ps]), .val false (.int h), .val false (.int g), .val false (.tup ps), .val false (.int w), a, b]))
    (ep : callN P n jpw [.val false (.int g), .val false (.int h1), .val false (.int h)] = some (.ok (.dat (.int 1)), [.non, .non, .non])) :
    callN P (n + 1) i [.own true (.lst K), .val t (.tup [.int h, .int g, .tup ps])] = some (.ok (.dat (.bl true)), [.own true (.lst K), .non]) := by
  subst hwh
  have hl2 : idxD (.lst K) (.int (-1)) = some (.dat (.int l)) := by
    show (getD (.lst K) (-1)).map A.dat = _
    rw [hl]; rfl
  rw [callN, hP]
  simp [F_law_pr_is_row, runF, MP.execs, ev_cst, ev_glb, ev_var, ev_tup, ev_lst, ev_dis0, ev_dis1, ev_bin, ev_neg, ev_boo, ev_not, ev_cmp, ev_chn, ev_chn3, ev_ite, ev_idx, ev_slc, ev_call, ev_blt, ev_isi, ev_lstI, x_par, x_aug, x_seti, x_app, x_expr, x_ife, x_ret, x_retN, x_pas, x_brk, x_cnt, x_rse0, x_rse1, ev_fnv, ev_callL, ev_met, ev_disO, ev_dget, ev_din, ev_dget2, x_dset, dgetD, dinD, dget2D, isDicM, dsetD, sortedD, min1D, ev_pop, ev_ext, popD, extD, metR, pickH, tells, Pt.tell, showD, x_nm, x_tp, backs_f1, backs_d1, backs_d2, backs_d3, backs_d4, backs_d5, backs_d6, backs_nil, evB, evIf, evO, evAs, evDs, evI, evT, evRs, bnd, ok, op1, op2, view, views, tru, frzM, frz, keepA, unslot, slotOf, putA, putAs, putD, nxtO, augD, setiD, appD, retA, asgT, asgTs, blts, liftO, bltD, absD, maxD, minD, int1D, lenD, gcdD, isiD, blsD, intsD, anyD, allD, sumD, tupleD, listD, strD, reprD, keyB, binD, cmpO, cmpD, datB, negD, idxD, getD, ixD, slcD, tyD, D.isFn, D.truth, shp_non, shp_bl, shp_int, shp_str, shp_tup, shp_lst, shps_nil, shps_cons, D.eqv, D.eqvs, itemsD, rngD, zipO, enumO, intO, isND, doCall, lends, lendA, lentIx, backs, backS, maskS, mask1, -idxD, -getD, hw, hl2, hlt, hg1, hg2, hh, hx, ep]
theorem getD_last (K : List Nat) (l : Nat) : getD (.lst (natsD (K ++ [l]))) (-1) = some (.int l) := by
  have hl : (natsD (K ++ [l])).length = K.length + 1 := by simp [natsD]
  have h1 : ixD (natsD (K ++ [l])).length (-1) = some K.length := by
    rw [hl]
    unfold ixD
    rw [if_neg (by omega), if_pos (by omega)]
    congr 1
    omega
  show (ixD (natsD (K ++ [l])).length (-1)).bind _ = _
  rw [h1]
  show (natsD (K ++ [l]))[K.length]? = _
  simp [natsD]
/-- a row that is one is taken -/
theorem run_row {P : Nat → Option Fd} {i jpw jtm jw : Nat} (hP : P i = some (F_law_pr_is_row jpw jtm jw)) (hW : P jw = some F_law_pr_is_whole) (hT : P jtm = some F_law_pr_times) (hPw : P jpw = some F_law_pr_power) (n : Nat) (t : Bool) {h l : Nat} {d : D} {K : List Nat} (hp : Prm h) (h3 : 3 ≤ h) (hle : h < 2 ^ 59) (hr : Row h d) (hl : l < h) (hin : ∀ q, Prm q → q ∣ h - 1 → q ∈ K ++ [l]) :
    callN P (n + 2) i [.own true (.lst (natsD (K ++ [l]))), .val t d] = some (.ok (.dat (.bl true)), [.own true (.lst (natsD (K ++ [l]))), .non]) := by
  obtain ⟨g, ps, rfl, hps, g1, g2, hm⟩ := hr
  obtain ⟨hlen, hsm⟩ := hps.small (by omega)
  have hmk : ∀ q ∈ ps, g ^ ((h - 1) / q.1) % h ≠ 1 := fun q hq => by
    have := List.all_eq_true.mp hm q hq
    simpa using this
  obtain ⟨a, b, e⟩ := row_loop (n := n) hW hT hPw (K := K ++ [l]) h3 hle g2 (.val t (.tup [.int h, .int g, .tup (ps.map pairD)])) (.val false (.tup (ps.map pairD))) ps 1 0 .non (fun q hq => ⟨(hsm q hq).1, (hps.prime q hq).2, by have := (hsm q hq).1; omega, hin q.1 (hps.prime q hq).1 (hsm q hq).2.2, hmk q hq⟩) hps.asc (Nat.le_refl 1) (by rw [hps.prod]; omega)
  rw [hps.prod, Nat.one_mul] at e
  have ep := run_pr_power hPw n false false false (b := g) (k := h - 1) (m := h) (by omega) (by omega) g2
  rw [fermat hp g1 g2] at ep
  refine row_fin hP (l := (l : Int)) (w := ((h - 1 : Nat) : Int)) (h1 := ((h - 1 : Nat) : Int)) (a := a) (b := b) (fun z => run_whole hW n false z) (getD_last K l) (by omega) (by omega) (by omega) (by omega) rfl ?_ ep
  rw [x_for]
  have hi : evI (callN P (n + 1)) (I.seq (C.var 4)) [.own true (.lst (natsD (K ++ [l]))), .val t (.tup [.int h, .int g, .tup (ps.map pairD)]), .val false (.int h), .val false (.int g), .val false (.tup (ps.map pairD)), .val false (.int 1), .val false (.int 0), .non] = some (.ok (ps.map pairD), [.own true (.lst (natsD (K ++ [l]))), .val t (.tup [.int h, .int g, .tup (ps.map pairD)]), .val false (.int h), .val false (.int g), .val false (.tup (ps.map pairD)), .val false (.int 1), .val false (.int 0), .non]) := by simp [runF, MP.execs, ev_cst, ev_glb, ev_var, ev_tup, ev_lst, ev_dis0, ev_dis1, ev_bin, ev_neg, ev_boo, ev_not, ev_cmp, ev_chn, ev_chn3, ev_ite, ev_idx, ev_slc, ev_call, ev_blt, ev_isi, ev_lstI, x_par, x_aug, x_seti, x_app, x_expr, x_ife, x_ret, x_retN, x_pas, x_brk, x_cnt, x_rse0, x_rse1, ev_fnv, ev_callL, ev_met, ev_disO, ev_dget, ev_din, ev_dget2, x_dset, dgetD, dinD, dget2D, isDicM, dsetD, sortedD, min1D, ev_pop, ev_ext, popD, extD, metR, pickH, tells, Pt.tell, showD, x_nm, x_tp, backs_f1, backs_d1, backs_d2, backs_d3, backs_d4, backs_d5, backs_d6, backs_nil, evB, evIf, evO, evAs, evDs, evI, evT, evRs, bnd, ok, op1, op2, view, views, tru, frzM, frz, keepA, unslot, slotOf, putA, putAs, putD, nxtO, augD, setiD, appD, retA, asgT, asgTs, blts, liftO, bltD, absD, maxD, minD, int1D, lenD, gcdD, isiD, blsD, intsD, anyD, allD, sumD, tupleD, listD, strD, reprD, keyB, binD, cmpO, cmpD, datB, negD, idxD, getD, ixD, slcD, tyD, D.isFn, D.truth, shp_non, shp_bl, shp_int, shp_str, shp_tup, shp_lst, shps_nil, shps_cons, D.eqv, D.eqvs, itemsD, rngD, zipO, enumO, intO, isND, doCall, lends, lendA, lentIx, backs, backS, maskS, mask1]
  rw [hi]
  exact e
/-! ### the judge of a paper -/
theorem shps_pairs (k : Nat) : ∀ ps : List (Nat × Nat), D.shps (k + 1) (ps.map pairD) = true
  | [] => shps_nil _
  | p :: ps => by rw [List.map_cons, shps_cons, shps_pairs k ps, pairD, shp_tup, shps_cons, shps_cons, shp_int, shp_int, shps_nil]; rfl
theorem shps_rows (k : Nat) : ∀ L : List (Nat × D), (∀ r ∈ L, Row r.1 r.2) → D.shps (k + 3) (L.map (·.2)) = true
  | [], _ => shps_nil _
  | r :: L, h => by
    obtain ⟨g, ps, e, _⟩ := h r (List.mem_cons_self ..)
    rw [List.map_cons, shps_cons, shps_rows k L fun x hx => h x (List.mem_cons_of_mem _ hx), e, shp_tup, shps_cons, shps_cons, shps_cons, shp_int, shp_int, shps_nil, shp_tup, shps_pairs]
    rfl
theorem pb_body {P : Nat → Option Fd} {n ir : Nat} {s0 s1 : Slot} {t : Bool} {h : Int} {x y : D} {K : List D} (e : callN P n ir [.own true (.lst K), .val false (.tup [.int h, x, y])] = some (.ok (.dat (.bl true)), [.own true (.lst K), .non])) (hl : K.length < 16777216) :
    MP.execs (callN P n) (law_pr_is_paper_b1 ir) [s0, s1, .own t (.lst K), .val false (.tup [.int h, x, y])] = some (.ok .nxt, [s0, s1, .own t (.lst (K ++ [.int h])), .val false (.tup [.int h, x, y])]) := by
  simp [law_pr_is_paper_b1, runF, MP.execs, ev_cst, ev_glb, ev_var, ev_tup, ev_lst, ev_dis0, ev_dis1, ev_bin, ev_neg, ev_boo, ev_not, ev_cmp, ev_chn, ev_chn3, ev_ite, ev_idx, ev_slc, ev_call, ev_blt, ev_isi, ev_lstI, x_par, x_aug, x_seti, x_app, x_expr, x_ife, x_ret, x_retN, x_pas, x_brk, x_cnt, x_rse0, x_rse1, ev_fnv, ev_callL, ev_met, ev_disO, ev_dget, ev_din, ev_dget2, x_dset, dgetD, dinD, dget2D, isDicM, dsetD, sortedD, min1D, ev_pop, ev_ext, popD, extD, metR, pickH, tells, Pt.tell, showD, x_nm, x_tp, backs_f1, backs_d1, backs_d2, backs_d3, backs_d4, backs_d5, backs_d6, backs_nil, evB, evIf, evO, evAs, evDs, evI, evT, evRs, bnd, ok, op1, op2, view, views, tru, frzM, frz, keepA, unslot, slotOf, putA, putAs, putD, nxtO, augD, setiD, appD, retA, asgT, asgTs, blts, liftO, bltD, absD, maxD, minD, int1D, lenD, gcdD, isiD, blsD, intsD, anyD, allD, sumD, tupleD, listD, strD, reprD, keyB, binD, cmpO, cmpD, datB, negD, idxD, getD, ixD, slcD, tyD, D.isFn, D.truth, shp_non, shp_bl, shp_int, shp_str, shp_tup, shp_lst, shps_nil, shps_cons, D.eqv, D.eqvs, itemsD, rngD, zipO, enumO, intO, isND, doCall, lends, lendA, lentIx, backs, backS, maskS, mask1, e, hl]
theorem pb_loop {P : Nat → Option Fd} {n ir jpw jtm jw : Nat} (hR : P ir = some (F_law_pr_is_row jpw jtm jw)) (hW : P jw = some F_law_pr_is_whole) (hT : P jtm = some F_law_pr_times) (hPw : P jpw = some F_law_pr_power) {p : Nat} {L : List (Nat × D)} (hL : Paper p L) (hp : p ≤ 100000000) (s0 s1 : Slot) :
    ∀ (suf pre : List (Nat × D)) (K : List Nat) (l : Nat) (s3 : Slot), L = pre ++ suf → K ++ [l] = 2 :: pre.map (·.1) → (∀ r ∈ suf, l < r.1) →
    ∃ (K' : List Nat) (l' : Nat) (s : Slot), K' ++ [l'] = 2 :: L.map (·.1) ∧ forL (.nm 3) (fun ρ => MP.execs (callN P (n + 2)) (law_pr_is_paper_b1 ir) ρ) (suf.map (·.2)) [s0, s1, .own false (.lst (natsD (K ++ [l]))), s3] = some (.ok .nxt, [s0, s1, .own false (.lst (natsD (K' ++ [l']))), s]) := by
  intro suf
  induction suf with
  | nil =>
    intro pre K l s3 h1 h2 h3
    rw [List.append_nil] at h1
    subst h1
    exact ⟨K, l, s3, h2, rfl⟩
  | cons r suf ih =>
    intro pre K l s3 h1 h2 h3
    have hrL : r ∈ L := by rw [h1]; exact List.mem_append_right _ (List.mem_cons_self ..)
    obtain ⟨r1, r2, r3, hrow⟩ := hL.rows r hrL
    have hasc := hL.asc
    rw [h1, List.pairwise_append] at hasc
    obtain ⟨_, hasc2, _⟩ := hasc
    have hin : ∀ q, Prm q → q ∣ r.1 - 1 → q ∈ K ++ [l] := fun q hq hd => by
      rw [h2]
      rcases hL.clo r hrL q hq hd with h | h
      · rw [h]; exact List.mem_cons_self ..
      · apply List.mem_cons_of_mem
        have hqlt := Nat.le_of_dvd (by omega) hd
        rw [h1, List.map_append, List.mem_append] at h
        rcases h with h | h
        · exact h
        · exfalso
          obtain ⟨x, hx, hxq⟩ := List.mem_map.mp h
          rcases List.mem_cons.mp hx with e | hx
          · rw [e] at hxq; omega
          · have := List.rel_of_pairwise_cons hasc2 hx
            omega
    have er := run_row hR hW hT hPw n false r1 r2 (by omega) hrow (h3 r (List.mem_cons_self ..)) hin
    have hKl : (natsD (K ++ [l])).length < 16777216 := by
      have h5 := congrArg List.length h2
      have h6 := hL.few
      rw [h1] at h6
      simp at h5 h6
      simp [natsD]
      omega
    obtain ⟨g, ps, hd, _⟩ := hrow
    rw [hd] at er
    have hb := pb_body (s0 := s0) (s1 := s1) (t := false) er hKl
    obtain ⟨K', l', s, g1, e⟩ := ih (pre ++ [r]) (K ++ [l]) r.1 (.val false (.tup [.int r.1, .int g, .tup (ps.map pairD)])) (by rw [h1]; simp) (by rw [h2]; simp) (fun x hx => List.rel_of_pairwise_cons hasc2 hx)
    refine ⟨K', l', s, g1, ?_⟩
    rw [List.map_cons, hd, for_next (ρ1 := [s0, s1, .own false (.lst (natsD (K ++ [l]))), .val false (.tup [.int r.1, .int g, .tup (ps.map pairD)])]) (by simp [asgT, putD]) hb]
    rw [show natsD (K ++ [l] ++ [r.1]) = natsD (K ++ [l]) ++ [.int r.1] by simp [natsD]] at e
    exact e
theorem pb_fin {P : Nat → Option Fd} {i n ir : Nat} (hP : P i = some (F_law_pr_is_paper ir)) {t t1 : Bool} {p : Int} {xs K : List D} {s : Slot} {b : Bool} (sh : D.shps 11 xs = true) (h1 : D.eqvs xs [] = b) (h2 : decide (p = 2) = b) (hl : getD (.lst K) (-1) = some (.int p))
    (hx : MP.exec (callN P n) (S.for_ (Tg.nm 3) (I.seq (C.var 1)) (law_pr_is_paper_b1 ir)) [.val t (.int p), .val t1 (.tup xs), .own false (.lst [.int 2]), .non] = some (.ok .nxt, [.val t (.int p), .val t1 (.tup xs), .own false (.lst K), s])) :
    callN P (n + 1) i [.val t (.int p), .val t1 (.tup xs)] = some (.ok (.dat (.bl true)), [.non, .non]) := by
  have hl2 : idxD (.lst K) (.int (-1)) = some (.dat (.int p)) := by
    show (getD (.lst K) (-1)).map A.dat = _
    rw [hl]; rfl
  have h3 : (p == 2) = b := by rw [← h2]; rw [Bool.eq_iff_iff]; simp
  rw [callN, hP]
  simp [F_law_pr_is_paper, runF, MP.execs, ev_cst, ev_glb, ev_var, ev_tup, ev_lst, ev_dis0, ev_dis1, ev_bin, ev_neg, ev_boo, ev_not, ev_cmp, ev_chn, ev_chn3, ev_ite, ev_idx, ev_slc, ev_call, ev_blt, ev_isi, ev_lstI, x_par, x_aug, x_seti, x_app, x_expr, x_ife, x_ret, x_retN, x_pas, x_brk, x_cnt, x_rse0, x_rse1, ev_fnv, ev_callL, ev_met, ev_disO, ev_dget, ev_din, ev_dget2, x_dset, dgetD, dinD, dget2D, isDicM, dsetD, sortedD, min1D, ev_pop, ev_ext, popD, extD, metR, pickH, tells, Pt.tell, showD, x_nm, x_tp, backs_f1, backs_d1, backs_d2, backs_d3, backs_d4, backs_d5, backs_d6, backs_nil, evB, evIf, evO, evAs, evDs, evI, evT, evRs, bnd, ok, op1, op2, view, views, tru, frzM, frz, keepA, unslot, slotOf, putA, putAs, putD, nxtO, augD, setiD, appD, retA, asgT, asgTs, blts, liftO, bltD, absD, maxD, minD, int1D, lenD, gcdD, isiD, blsD, intsD, anyD, allD, sumD, tupleD, listD, strD, reprD, keyB, binD, cmpO, cmpD, datB, negD, idxD, getD, ixD, slcD, tyD, D.isFn, D.truth, shp_non, shp_bl, shp_int, shp_str, shp_tup, shp_lst, shps_nil, shps_cons, D.eqv, D.eqvs, itemsD, rngD, zipO, enumO, intO, isND, doCall, lends, lendA, lentIx, backs, backS, maskS, mask1, -idxD, -getD, sh, h1, h3, hl2, hx]
/-- a paper is taken -/
theorem run_is_paper {P : Nat → Option Fd} {i ir jpw jtm jw : Nat} (hP : P i = some (F_law_pr_is_paper ir)) (hR : P ir = some (F_law_pr_is_row jpw jtm jw)) (hW : P jw = some F_law_pr_is_whole) (hT : P jtm = some F_law_pr_times) (hPw : P jpw = some F_law_pr_power) (n : Nat) (t t1 : Bool) {p : Nat} {L : List (Nat × D)} (hL : Paper p L) (hp : p ≤ 100000000) :
    callN P (n + 3) i [.val t (.int p), .val t1 (.tup (L.map (·.2)))] = some (.ok (.dat (.bl true)), [.non, .non]) := by
  obtain ⟨K, l, s, h1, e⟩ := pb_loop (n := n) hR hW hT hPw hL hp (.val t (.int p)) (.val t1 (.tup (L.map (·.2)))) L [] [] 2 .non rfl rfl (fun r hr => by have := (hL.rows r hr).2.1; omega)
  have hpl : p = l := by
    rcases List.eq_nil_or_concat L with rfl | ⟨L', x, hx⟩
    · rcases hL.top with h | h
      · have : [l] = [2] ∧ K = [] := by
          have h2 := congrArg List.length h1
          simp at h2
          subst h2
          simpa using h1
        have h2 := this.1
        simp at h2
        omega
      · simp at h
    · rw [List.concat_eq_append] at hx
      subst hx
      have hxl : l = x.1 := by
        have h2 : (K ++ [l]).getLast? = (2 :: (L' ++ [x]).map (·.1)).getLast? := by rw [h1]
        simp [List.getLast?_cons] at h2
        exact h2
      have hxm : x ∈ L' ++ [x] := List.mem_append_right _ (List.mem_singleton.mpr rfl)
      have hxp := (hL.rows x hxm).2.2.1
      rcases hL.top with h | h
      · have := (hL.rows x hxm).2.1
        omega
      · obtain ⟨y, hy, hyp⟩ := List.mem_map.mp h
        rcases List.mem_append.mp hy with hy | hy
        · have hasc := hL.asc
          rw [List.pairwise_append] at hasc
          have := hasc.2.2 y hy x (List.mem_singleton.mpr rfl)
          omega
        · rw [List.mem_singleton] at hy
          subst hy
          omega
  have h2 : D.eqvs (L.map (·.2)) [] = decide ((p : Int) = 2) := by
    cases L with
    | nil =>
      rcases hL.top with h | h
      · rw [decide_eq_true (by omega)]; rfl
      · simp at h
    | cons x L =>
      have h3 := hL.rows x (List.mem_cons_self ..)
      rw [decide_eq_false (by omega)]; rfl
  refine pb_fin hP (K := natsD (K ++ [l])) (s := s) (b := decide ((p : Int) = 2)) (shps_rows 8 L fun r hr => (hL.rows r hr).2.2.2) h2 rfl (by rw [hpl]; exact getD_last K l) ?_
  rw [x_for]
  have hi : evI (callN P (n + 2)) (I.seq (C.var 1)) [.val t (.int p), .val t1 (.tup (L.map (·.2))), .own false (.lst [.int 2]), .non] = some (.ok (L.map (·.2)), [.val t (.int p), .val t1 (.tup (L.map (·.2))), .own false (.lst [.int 2]), .non]) := by simp [runF, MP.execs, ev_cst, ev_glb, ev_var, ev_tup, ev_lst, ev_dis0, ev_dis1, ev_bin, ev_neg, ev_boo, ev_not, ev_cmp, ev_chn, ev_chn3, ev_ite, ev_idx, ev_slc, ev_call, ev_blt, ev_isi, ev_lstI, x_par, x_aug, x_seti, x_app, x_expr, x_ife, x_ret, x_retN, x_pas, x_brk, x_cnt, x_rse0, x_rse1, ev_fnv, ev_callL, ev_met, ev_disO, ev_dget, ev_din, ev_dget2, x_dset, dgetD, dinD, dget2D, isDicM, dsetD, sortedD, min1D, ev_pop, ev_ext, popD, extD, metR, pickH, tells, Pt.tell, showD, x_nm, x_tp, backs_f1, backs_d1, backs_d2, backs_d3, backs_d4, backs_d5, backs_d6, backs_nil, evB, evIf, evO, evAs, evDs, evI, evT, evRs, bnd, ok, op1, op2, view, views, tru, frzM, frz, keepA, unslot, slotOf, putA, putAs, putD, nxtO, augD, setiD, appD, retA, asgT, asgTs, blts, liftO, bltD, absD, maxD, minD, int1D, lenD, gcdD, isiD, blsD, intsD, anyD, allD, sumD, tupleD, listD, strD, reprD, keyB, binD, cmpO, cmpD, datB, negD, idxD, getD, ixD, slcD, tyD, D.isFn, D.truth, shp_non, shp_bl, shp_int, shp_str, shp_tup, shp_lst, shps_nil, shps_cons, D.eqv, D.eqvs, itemsD, rngD, zipO, enumO, intO, isND, doCall, lends, lendA, lentIx, backs, backS, maskS, mask1]
  rw [hi]
  exact e
end MP
set_option Elab.async false
set_option linter.all false
set_option maxRecDepth 100000
set_option maxHeartbeats 4000000
namespace K04
open PySem MP
theorem e_whole (n : Nat) (t : Bool) (a : Int) : callN fns (n + 1) 0 [.val t (.int a)] = some (.ok (.dat (.bl true)), [.non]) := by
  rw [callN]; simp [fns, d_is_whole, runF, MP.execs, ev_cst, ev_glb, ev_var, ev_tup, ev_lst, ev_dis0, ev_dis1, ev_bin, ev_neg, ev_boo, ev_not, ev_cmp, ev_chn, ev_chn3, ev_ite, ev_idx, ev_slc, ev_call, ev_blt, ev_isi, ev_lstI, x_par, x_aug, x_seti, x_app, x_expr, x_ife, x_ret, x_retN, x_pas, x_brk, x_cnt, x_rse0, x_rse1, ev_fnv, ev_callL, ev_met, ev_disO, ev_dget, ev_din, ev_dget2, x_dset, dgetD, dinD, dget2D, isDicM, dsetD, sortedD, min1D, ev_pop, ev_ext, popD, extD, metR, pickH, tells, Pt.tell, showD, x_nm, x_tp, backs_f1, backs_d1, backs_d2, backs_d3, backs_d4, backs_d5, backs_d6, backs_nil, evB, evIf, evO, evAs, evDs, evI, evT, evRs, bnd, ok, op1, op2, view, views, tru, frzM, frz, keepA, unslot, slotOf, putA, putAs, putD, nxtO, augD, setiD, appD, retA, asgT, asgTs, blts, liftO, bltD, absD, maxD, minD, int1D, lenD, gcdD, isiD, blsD, intsD, anyD, allD, sumD, tupleD, listD, strD, reprD, keyB, binD, cmpO, cmpD, datB, negD, idxD, getD, ixD, slcD, tyD, D.isFn, D.truth, shp_non, shp_bl, shp_int, shp_str, shp_tup, shp_lst, shps_nil, shps_cons, D.eqv, D.eqvs, itemsD, rngD, zipO, enumO, intO, isND, doCall, lends, lendA, lentIx, backs, backS, maskS, mask1]
theorem e_reqw (n : Nat) {a lo hi : Int} (h1 : lo ≤ a) (h2 : a ≤ hi) : callN fns (n + 3) 2 [.val false (.int a), .val false (.int lo), .val false (.int hi)] = some (.ok (.dat .non), [.non, .non, .non]) := by
  have w0 := e_whole n false a
  have w2 : callN fns (n + 2) 1 [.val false (.int a), .val false (.int lo), .val false (.int hi)] = some (.ok (.dat (.bl true)), [.non, .non, .non]) := by
    rw [callN]; simp [fns, d_is_within, runF, MP.execs, ev_cst, ev_glb, ev_var, ev_tup, ev_lst, ev_dis0, ev_dis1, ev_bin, ev_neg, ev_boo, ev_not, ev_cmp, ev_chn, ev_chn3, ev_ite, ev_idx, ev_slc, ev_call, ev_blt, ev_isi, ev_lstI, x_par, x_aug, x_seti, x_app, x_expr, x_ife, x_ret, x_retN, x_pas, x_brk, x_cnt, x_rse0, x_rse1, ev_fnv, ev_callL, ev_met, ev_disO, ev_dget, ev_din, ev_dget2, x_dset, dgetD, dinD, dget2D, isDicM, dsetD, sortedD, min1D, ev_pop, ev_ext, popD, extD, metR, pickH, tells, Pt.tell, showD, x_nm, x_tp, backs_f1, backs_d1, backs_d2, backs_d3, backs_d4, backs_d5, backs_d6, backs_nil, evB, evIf, evO, evAs, evDs, evI, evT, evRs, bnd, ok, op1, op2, view, views, tru, frzM, frz, keepA, unslot, slotOf, putA, putAs, putD, nxtO, augD, setiD, appD, retA, asgT, asgTs, blts, liftO, bltD, absD, maxD, minD, int1D, lenD, gcdD, isiD, blsD, intsD, anyD, allD, sumD, tupleD, listD, strD, reprD, keyB, binD, cmpO, cmpD, datB, negD, idxD, getD, ixD, slcD, tyD, D.isFn, D.truth, shp_non, shp_bl, shp_int, shp_str, shp_tup, shp_lst, shps_nil, shps_cons, D.eqv, D.eqvs, itemsD, rngD, zipO, enumO, intO, isND, doCall, lends, lendA, lentIx, backs, backS, maskS, mask1, w0, h1, h2]
  rw [callN]; simp [fns, d_require_within, runF, MP.execs, ev_cst, ev_glb, ev_var, ev_tup, ev_lst, ev_dis0, ev_dis1, ev_bin, ev_neg, ev_boo, ev_not, ev_cmp, ev_chn, ev_chn3, ev_ite, ev_idx, ev_slc, ev_call, ev_blt, ev_isi, ev_lstI, x_par, x_aug, x_seti, x_app, x_expr, x_ife, x_ret, x_retN, x_pas, x_brk, x_cnt, x_rse0, x_rse1, ev_fnv, ev_callL, ev_met, ev_disO, ev_dget, ev_din, ev_dget2, x_dset, dgetD, dinD, dget2D, isDicM, dsetD, sortedD, min1D, ev_pop, ev_ext, popD, extD, metR, pickH, tells, Pt.tell, showD, x_nm, x_tp, backs_f1, backs_d1, backs_d2, backs_d3, backs_d4, backs_d5, backs_d6, backs_nil, evB, evIf, evO, evAs, evDs, evI, evT, evRs, bnd, ok, op1, op2, view, views, tru, frzM, frz, keepA, unslot, slotOf, putA, putAs, putD, nxtO, augD, setiD, appD, retA, asgT, asgTs, blts, liftO, bltD, absD, maxD, minD, int1D, lenD, gcdD, isiD, blsD, intsD, anyD, allD, sumD, tupleD, listD, strD, reprD, keyB, binD, cmpO, cmpD, datB, negD, idxD, getD, ixD, slcD, tyD, D.isFn, D.truth, shp_non, shp_bl, shp_int, shp_str, shp_tup, shp_lst, shps_nil, shps_cons, D.eqv, D.eqvs, itemsD, rngD, zipO, enumO, intO, isND, doCall, lends, lendA, lentIx, backs, backS, maskS, mask1, w2]
theorem fin_isprime {t : Bool} {a : Int} {b : Bool} (h1 : 0 ≤ a) (h2 : a ≤ 100000000) (e : callN fns 4 4 [.val false (.int a)] = some (.ok (.dat (.bl b)), [.non])) : callN fns 5 10 [.val t (.int a)] = some (.ok (.dat (.bl b)), [.non]) := by
  have w := e_reqw 1 h1 h2
  rw [callN]; simp [fns, d_is_prime, runF, MP.execs, ev_cst, ev_glb, ev_var, ev_tup, ev_lst, ev_dis0, ev_dis1, ev_bin, ev_neg, ev_boo, ev_not, ev_cmp, ev_chn, ev_chn3, ev_ite, ev_idx, ev_slc, ev_call, ev_blt, ev_isi, ev_lstI, x_par, x_aug, x_seti, x_app, x_expr, x_ife, x_ret, x_retN, x_pas, x_brk, x_cnt, x_rse0, x_rse1, ev_fnv, ev_callL, ev_met, ev_disO, ev_dget, ev_din, ev_dget2, x_dset, dgetD, dinD, dget2D, isDicM, dsetD, sortedD, min1D, ev_pop, ev_ext, popD, extD, metR, pickH, tells, Pt.tell, showD, x_nm, x_tp, backs_f1, backs_d1, backs_d2, backs_d3, backs_d4, backs_d5, backs_d6, backs_nil, evB, evIf, evO, evAs, evDs, evI, evT, evRs, bnd, ok, op1, op2, view, views, tru, frzM, frz, keepA, unslot, slotOf, putA, putAs, putD, nxtO, augD, setiD, appD, retA, asgT, asgTs, blts, liftO, bltD, absD, maxD, minD, int1D, lenD, gcdD, isiD, blsD, intsD, anyD, allD, sumD, tupleD, listD, strD, reprD, keyB, binD, cmpO, cmpD, datB, negD, idxD, getD, ixD, slcD, tyD, D.isFn, D.truth, shp_non, shp_bl, shp_int, shp_str, shp_tup, shp_lst, shps_nil, shps_cons, D.eqv, D.eqvs, itemsD, rngD, zipO, enumO, intO, isND, doCall, lends, lendA, lentIx, backs, backS, maskS, mask1, w, e]
theorem e_isprime (t : Bool) {N : Nat} (hN : N ≤ 100000000) : ∃ b : Bool, (b = true ↔ Prm N) ∧ callN fns 5 10 [.val t (.int N)] = some (.ok (.dat (.bl b)), [.non]) := by
  obtain ⟨b, hb, e⟩ := run_ip (P := fns) (i := 4) (j := 3) rfl rfl 2 false (n := N) (by omega)
  exact ⟨b, hb, fin_isprime (by omega) (by omega) e⟩
theorem fin_prime {t : Bool} {a : Int} {p : D} (h1 : 2 ≤ a) (h2 : a ≤ 100000000) (e : callN fns 4 3 [.val false (.int a)] = some (.ok (.dat (.int a)), [.non])) (e2 : callN fns 4 9 [.val false (.int a)] = some (.ok (.dat p), [.non])) : callN fns 5 12 [.val t (.int a)] = some (.ok (.dat (.tup [.tup [.str "prime", .int a], p])), [.non]) := by
  have w := e_reqw 1 h1 h2
  rw [callN]; simp [fns, d_prime_answer, runF, MP.execs, ev_cst, ev_glb, ev_var, ev_tup, ev_lst, ev_dis0, ev_dis1, ev_bin, ev_neg, ev_boo, ev_not, ev_cmp, ev_chn, ev_chn3, ev_ite, ev_idx, ev_slc, ev_call, ev_blt, ev_isi, ev_lstI, x_par, x_aug, x_seti, x_app, x_expr, x_ife, x_ret, x_retN, x_pas, x_brk, x_cnt, x_rse0, x_rse1, ev_fnv, ev_callL, ev_met, ev_disO, ev_dget, ev_din, ev_dget2, x_dset, dgetD, dinD, dget2D, isDicM, dsetD, sortedD, min1D, ev_pop, ev_ext, popD, extD, metR, pickH, tells, Pt.tell, showD, x_nm, x_tp, backs_f1, backs_d1, backs_d2, backs_d3, backs_d4, backs_d5, backs_d6, backs_nil, evB, evIf, evO, evAs, evDs, evI, evT, evRs, bnd, ok, op1, op2, view, views, tru, frzM, frz, keepA, unslot, slotOf, putA, putAs, putD, nxtO, augD, setiD, appD, retA, asgT, asgTs, blts, liftO, bltD, absD, maxD, minD, int1D, lenD, gcdD, isiD, blsD, intsD, anyD, allD, sumD, tupleD, listD, strD, reprD, keyB, binD, cmpO, cmpD, datB, negD, idxD, getD, ixD, slcD, tyD, D.isFn, D.truth, shp_non, shp_bl, shp_int, shp_str, shp_tup, shp_lst, shps_nil, shps_cons, D.eqv, D.eqvs, itemsD, rngD, zipO, enumO, intO, isND, doCall, lends, lendA, lentIx, backs, backS, maskS, mask1, w, e, e2]
theorem fin_split {t : Bool} {a d q : Int} (h1 : 2 ≤ a) (h2 : a ≤ 100000000) (e : callN fns 4 3 [.val false (.int a)] = some (.ok (.dat (.int d)), [.non])) (hd : d < a) (h0 : ¬ d = 0) (hb : bits d < 9000) (hq : a.fdiv d = q) : callN fns 5 12 [.val t (.int a)] = some (.ok (.dat (.tup [.tup [.str "split", .int a], .tup [.int d, .int q]])), [.non]) := by
  have w := e_reqw 1 h1 h2
  rw [callN]; simp [fns, d_prime_answer, runF, MP.execs, ev_cst, ev_glb, ev_var, ev_tup, ev_lst, ev_dis0, ev_dis1, ev_bin, ev_neg, ev_boo, ev_not, ev_cmp, ev_chn, ev_chn3, ev_ite, ev_idx, ev_slc, ev_call, ev_blt, ev_isi, ev_lstI, x_par, x_aug, x_seti, x_app, x_expr, x_ife, x_ret, x_retN, x_pas, x_brk, x_cnt, x_rse0, x_rse1, ev_fnv, ev_callL, ev_met, ev_disO, ev_dget, ev_din, ev_dget2, x_dset, dgetD, dinD, dget2D, isDicM, dsetD, sortedD, min1D, ev_pop, ev_ext, popD, extD, metR, pickH, tells, Pt.tell, showD, x_nm, x_tp, backs_f1, backs_d1, backs_d2, backs_d3, backs_d4, backs_d5, backs_d6, backs_nil, evB, evIf, evO, evAs, evDs, evI, evT, evRs, bnd, ok, op1, op2, view, views, tru, frzM, frz, keepA, unslot, slotOf, putA, putAs, putD, nxtO, augD, setiD, appD, retA, asgT, asgTs, blts, liftO, bltD, absD, maxD, minD, int1D, lenD, gcdD, isiD, blsD, intsD, anyD, allD, sumD, tupleD, listD, strD, reprD, keyB, binD, cmpO, cmpD, datB, negD, idxD, getD, ixD, slcD, tyD, D.isFn, D.truth, shp_non, shp_bl, shp_int, shp_str, shp_tup, shp_lst, shps_nil, shps_cons, D.eqv, D.eqvs, itemsD, rngD, zipO, enumO, intO, isND, doCall, lends, lendA, lentIx, backs, backS, maskS, mask1, w, e, hd, h0, hb, hq]
theorem e_answer (t : Bool) {N : Nat} (h1 : 2 ≤ N) (h2 : N ≤ 100000000) : (Prm N ∧ ∃ Ls, Paper N Ls ∧ callN fns 5 12 [.val t (.int N)] = some (.ok (.dat (.tup [.tup [.str "prime", .int N], .tup (Ls.map (·.2))])), [.non])) ∨
    (¬ Prm N ∧ ∃ d q : Int, 2 ≤ d ∧ 2 ≤ q ∧ d * q = N ∧ bits d < 64 ∧ bits q < 64 ∧ callN fns 5 12 [.val t (.int N)] = some (.ok (.dat (.tup [.tup [.str "split", .int N], .tup [.int d, .int q]])), [.non])) := by
  obtain ⟨r, hr, e⟩ := run_ld (P := fns) (i := 3) rfl 3 false h1 (by omega)
  have hle := Nat.le_of_dvd (by omega) hr.dvd
  by_cases hrn : r = N
  · subst hrn
    obtain ⟨Ls, hL, e2⟩ := run_paper (P := fns) (i := 9) (jp := 5) (jl := 8) (j := 6) (jm := 7) rfl rfl rfl rfl rfl 0 false hr.prm h2
    exact Or.inl ⟨hr.prm, Ls, hL, fin_prime (by omega) (by omega) e e2⟩
  · obtain ⟨q, hq⟩ := hr.dvd
    have h3 := hr.ge
    have hq2 : 2 ≤ q := by
      apply Classical.byContradiction
      intro z
      have : q = 0 ∨ q = 1 := by omega
      rcases this with rfl | rfl
      · omega
      · omega
    have hqN : q ≤ N := by
      have := Nat.le_mul_of_pos_left q (show 0 < r by omega)
      omega
    have hfd : (N : Int).fdiv (r : Int) = (q : Int) := by rw [fdivN, hq, Nat.mul_div_cancel_left _ (by omega)]
    have b1 := bitsN (a := r) (by omega)
    refine Or.inr ⟨fun hp => hp.2 r h3 (by omega) hr.dvd, (r : Int), (q : Int), by omega, by omega, by rw [← Int.natCast_mul, ← hq], b1, bitsN (by omega), fin_split (by omega) (by omega) e (by omega) (by omega) (by omega) hfd⟩
theorem e_split (t t1 : Bool) {a d q : Int} (h1 : 2 ≤ d) (h2 : 2 ≤ q) (h : d * q = a) (b1 : bits d < 64) (b2 : bits q < 64) : callN fns 5 25 [.val t (.int a), .val t1 (.tup [.int d, .int q])] = some (.ok (.dat (.bl true)), [.non, .non]) := by
  have w : ∀ z : Int, callN fns 4 20 [.val false (.int z)] = some (.ok (.dat (.bl true)), [.non]) := fun z => by
    rw [callN]; simp [fns, d_law_pr_is_whole, runF, MP.execs, ev_cst, ev_glb, ev_var, ev_tup, ev_lst, ev_dis0, ev_dis1, ev_bin, ev_neg, ev_boo, ev_not, ev_cmp, ev_chn, ev_chn3, ev_ite, ev_idx, ev_slc, ev_call, ev_blt, ev_isi, ev_lstI, x_par, x_aug, x_seti, x_app, x_expr, x_ife, x_ret, x_retN, x_pas, x_brk, x_cnt, x_rse0, x_rse1, ev_fnv, ev_callL, ev_met, ev_disO, ev_dget, ev_din, ev_dget2, x_dset, dgetD, dinD, dget2D, isDicM, dsetD, sortedD, min1D, ev_pop, ev_ext, popD, extD, metR, pickH, tells, Pt.tell, showD, x_nm, x_tp, backs_f1, backs_d1, backs_d2, backs_d3, backs_d4, backs_d5, backs_d6, backs_nil, evB, evIf, evO, evAs, evDs, evI, evT, evRs, bnd, ok, op1, op2, view, views, tru, frzM, frz, keepA, unslot, slotOf, putA, putAs, putD, nxtO, augD, setiD, appD, retA, asgT, asgTs, blts, liftO, bltD, absD, maxD, minD, int1D, lenD, gcdD, isiD, blsD, intsD, anyD, allD, sumD, tupleD, listD, strD, reprD, keyB, binD, cmpO, cmpD, datB, negD, idxD, getD, ixD, slcD, tyD, D.isFn, D.truth, shp_non, shp_bl, shp_int, shp_str, shp_tup, shp_lst, shps_nil, shps_cons, D.eqv, D.eqvs, itemsD, rngD, zipO, enumO, intO, isND, doCall, lends, lendA, lentIx, backs, backS, maskS, mask1]
  have hm : 2 ≤ (if q < d then q else d) := by split <;> omega
  have b3 : bits d + bits q < 1000000 := by omega
  rw [callN]
  simp [fns, d_law_is_split, runF, MP.execs, ev_cst, ev_glb, ev_var, ev_tup, ev_lst, ev_dis0, ev_dis1, ev_bin, ev_neg, ev_boo, ev_not, ev_cmp, ev_chn, ev_chn3, ev_ite, ev_idx, ev_slc, ev_call, ev_blt, ev_isi, ev_lstI, x_par, x_aug, x_seti, x_app, x_expr, x_ife, x_ret, x_retN, x_pas, x_brk, x_cnt, x_rse0, x_rse1, ev_fnv, ev_callL, ev_met, ev_disO, ev_dget, ev_din, ev_dget2, x_dset, dgetD, dinD, dget2D, isDicM, dsetD, sortedD, min1D, ev_pop, ev_ext, popD, extD, metR, pickH, tells, Pt.tell, showD, x_nm, x_tp, backs_f1, backs_d1, backs_d2, backs_d3, backs_d4, backs_d5, backs_d6, backs_nil, evB, evIf, evO, evAs, evDs, evI, evT, evRs, bnd, ok, op1, op2, view, views, tru, frzM, frz, keepA, unslot, slotOf, putA, putAs, putD, nxtO, augD, setiD, appD, retA, asgT, asgTs, blts, liftO, bltD, absD, maxD, minD, int1D, lenD, gcdD, isiD, blsD, intsD, anyD, allD, sumD, tupleD, listD, strD, reprD, keyB, binD, cmpO, cmpD, datB, negD, idxD, getD, ixD, slcD, tyD, D.isFn, D.truth, shp_non, shp_bl, shp_int, shp_str, shp_tup, shp_lst, shps_nil, shps_cons, D.eqv, D.eqvs, itemsD, rngD, zipO, enumO, intO, isND, doCall, lends, lendA, lentIx, backs, backS, maskS, mask1, ev_cmpr, compL, calm, wipeR, unwipe, w, hm, b3, h]
/-! ### the next prime -/
theorem p1000003 : Prm 1000003 := ((partsN_spec (w := 10001) (n := 1000003) (ps := [(1000003, 1)]) (by omega) (by omega) (by decide +kernel)).prime (1000003, 1) (List.mem_cons_self ..)).1
theorem np_cond {f : Int} {s0 : MP.Slot} {b : Bool} (e : callN fns 4 4 [.val false (.int f)] = some (.ok (.dat (.bl b)), [.non])) : evT (callN fns 4) (C.not_ (C.call 4 [false] (Cs.cons (C.var 1) Cs.nil))) [s0, .val false (.int f)] = some (.ok (!b), [s0, .val false (.int f)]) := by
  simp [runF, MP.execs, ev_cst, ev_glb, ev_var, ev_tup, ev_lst, ev_dis0, ev_dis1, ev_bin, ev_neg, ev_boo, ev_not, ev_cmp, ev_chn, ev_chn3, ev_ite, ev_idx, ev_slc, ev_call, ev_blt, ev_isi, ev_lstI, x_par, x_aug, x_seti, x_app, x_expr, x_ife, x_ret, x_retN, x_pas, x_brk, x_cnt, x_rse0, x_rse1, ev_fnv, ev_callL, ev_met, ev_disO, ev_dget, ev_din, ev_dget2, x_dset, dgetD, dinD, dget2D, isDicM, dsetD, sortedD, min1D, ev_pop, ev_ext, popD, extD, metR, pickH, tells, Pt.tell, showD, x_nm, x_tp, backs_f1, backs_d1, backs_d2, backs_d3, backs_d4, backs_d5, backs_d6, backs_nil, evB, evIf, evO, evAs, evDs, evI, evT, evRs, bnd, ok, op1, op2, view, views, tru, frzM, frz, keepA, unslot, slotOf, putA, putAs, putD, nxtO, augD, setiD, appD, retA, asgT, asgTs, blts, liftO, bltD, absD, maxD, minD, int1D, lenD, gcdD, isiD, blsD, intsD, anyD, allD, sumD, tupleD, listD, strD, reprD, keyB, binD, cmpO, cmpD, datB, negD, idxD, getD, ixD, slcD, tyD, D.isFn, D.truth, shp_non, shp_bl, shp_int, shp_str, shp_tup, shp_lst, shps_nil, shps_cons, D.eqv, D.eqvs, itemsD, rngD, zipO, enumO, intO, isND, doCall, lends, lendA, lentIx, backs, backS, maskS, mask1, e]
theorem np_body {f g : Int} {s0 : MP.Slot} (h : f + 1 = g) : MP.execs (callN fns 4) (Ss.cons (S.aug 1 .add (C.cst (D.int 1))) Ss.nil) [s0, .val false (.int f)] = some (.ok .nxt, [s0, .val false (.int g)]) := by
  simp [runF, MP.execs, ev_cst, ev_glb, ev_var, ev_tup, ev_lst, ev_dis0, ev_dis1, ev_bin, ev_neg, ev_boo, ev_not, ev_cmp, ev_chn, ev_chn3, ev_ite, ev_idx, ev_slc, ev_call, ev_blt, ev_isi, ev_lstI, x_par, x_aug, x_seti, x_app, x_expr, x_ife, x_ret, x_retN, x_pas, x_brk, x_cnt, x_rse0, x_rse1, ev_fnv, ev_callL, ev_met, ev_disO, ev_dget, ev_din, ev_dget2, x_dset, dgetD, dinD, dget2D, isDicM, dsetD, sortedD, min1D, ev_pop, ev_ext, popD, extD, metR, pickH, tells, Pt.tell, showD, x_nm, x_tp, backs_f1, backs_d1, backs_d2, backs_d3, backs_d4, backs_d5, backs_d6, backs_nil, evB, evIf, evO, evAs, evDs, evI, evT, evRs, bnd, ok, op1, op2, view, views, tru, frzM, frz, keepA, unslot, slotOf, putA, putAs, putD, nxtO, augD, setiD, appD, retA, asgT, asgTs, blts, liftO, bltD, absD, maxD, minD, int1D, lenD, gcdD, isiD, blsD, intsD, anyD, allD, sumD, tupleD, listD, strD, reprD, keyB, binD, cmpO, cmpD, datB, negD, idxD, getD, ixD, slcD, tyD, D.isFn, D.truth, shp_non, shp_bl, shp_int, shp_str, shp_tup, shp_lst, shps_nil, shps_cons, D.eqv, D.eqvs, itemsD, rngD, zipO, enumO, intO, isND, doCall, lends, lendA, lentIx, backs, backS, maskS, mask1, h]
theorem np_loop (s0 : MP.Slot) : ∀ (r f : Nat), f + r = 1000003 → ∃ q, f ≤ q ∧ q ≤ 1000003 ∧ Prm q ∧ (∀ x, f ≤ x → x < q → ¬ Prm x) ∧ whlM (evT (callN fns 4) (C.not_ (C.call 4 [false] (Cs.cons (C.var 1) Cs.nil)))) (fun ρ => MP.execs (callN fns 4) (Ss.cons (S.aug 1 .add (C.cst (D.int 1))) Ss.nil) ρ) [s0, .val false (.int f)] = some (.ok .nxt, [s0, .val false (.int (q : Nat))]) := by
  intro r
  induction r with
  | zero =>
    intro f h
    have : f = 1000003 := by omega
    subst this
    obtain ⟨b, hb, e⟩ := run_ip (P := fns) (i := 4) (j := 3) rfl rfl 2 false (n := 1000003) (by omega)
    have c := np_cond (s0 := s0) e
    rw [hb.mpr p1000003] at c
    exact ⟨1000003, Nat.le_refl _, Nat.le_refl _, p1000003, fun x h1 h2 => by omega, whl_stop c⟩
  | succ r ih =>
    intro f h
    obtain ⟨b, hb, e⟩ := run_ip (P := fns) (i := 4) (j := 3) rfl rfl 2 false (n := f) (by omega)
    have c := np_cond (s0 := s0) e
    by_cases hp : Prm f
    · rw [hb.mpr hp] at c
      exact ⟨f, Nat.le_refl _, by omega, hp, fun x h1 h2 => by omega, whl_stop c⟩
    · have hb2 : b = false := by
        cases b with
        | true => exact absurd (hb.mp rfl) hp
        | false => rfl
      rw [hb2] at c
      obtain ⟨q, q1, q2, q3, q4, q5⟩ := ih (f + 1) (by omega)
      refine ⟨q, by omega, q2, q3, fun x h1 h2 => ?_, whl_turn c (np_body (g := ((f + 1 : Nat) : Int)) (by omega)) q5⟩
      by_cases hx : x = f
      · subst hx; exact hp
      · exact q4 x (by omega) h2
theorem np_fin {t : Bool} {a f q : Int} (h1 : 0 ≤ a) (h2 : a ≤ 100000000) (hf : a + 1 = f) (hx : MP.exec (callN fns 4) (S.whl (C.not_ (C.call 4 [false] (Cs.cons (C.var 1) Cs.nil))) (Ss.cons (S.aug 1 .add (C.cst (D.int 1))) Ss.nil)) [.val t (.int a), .val false (.int f)] = some (.ok .nxt, [.val t (.int a), .val false (.int q)])) : callN fns 5 11 [.val t (.int a)] = some (.ok (.dat (.int q)), [.non]) := by
  have w := e_reqw 1 h1 h2
  rw [callN]; simp [fns, d_next_prime, runF, MP.execs, ev_cst, ev_glb, ev_var, ev_tup, ev_lst, ev_dis0, ev_dis1, ev_bin, ev_neg, ev_boo, ev_not, ev_cmp, ev_chn, ev_chn3, ev_ite, ev_idx, ev_slc, ev_call, ev_blt, ev_isi, ev_lstI, x_par, x_aug, x_seti, x_app, x_expr, x_ife, x_ret, x_retN, x_pas, x_brk, x_cnt, x_rse0, x_rse1, ev_fnv, ev_callL, ev_met, ev_disO, ev_dget, ev_din, ev_dget2, x_dset, dgetD, dinD, dget2D, isDicM, dsetD, sortedD, min1D, ev_pop, ev_ext, popD, extD, metR, pickH, tells, Pt.tell, showD, x_nm, x_tp, backs_f1, backs_d1, backs_d2, backs_d3, backs_d4, backs_d5, backs_d6, backs_nil, evB, evIf, evO, evAs, evDs, evI, evT, evRs, bnd, ok, op1, op2, view, views, tru, frzM, frz, keepA, unslot, slotOf, putA, putAs, putD, nxtO, augD, setiD, appD, retA, asgT, asgTs, blts, liftO, bltD, absD, maxD, minD, int1D, lenD, gcdD, isiD, blsD, intsD, anyD, allD, sumD, tupleD, listD, strD, reprD, keyB, binD, cmpO, cmpD, datB, negD, idxD, getD, ixD, slcD, tyD, D.isFn, D.truth, shp_non, shp_bl, shp_int, shp_str, shp_tup, shp_lst, shps_nil, shps_cons, D.eqv, D.eqvs, itemsD, rngD, zipO, enumO, intO, isND, doCall, lends, lendA, lentIx, backs, backS, maskS, mask1, w, hf, hx]
theorem e_next (t : Bool) {N : Nat} (hN : N ≤ 1000000) : ∃ q, N < q ∧ q ≤ 1000003 ∧ Prm q ∧ (∀ x, N < x → x < q → ¬ Prm x) ∧ callN fns 5 11 [.val t (.int N)] = some (.ok (.dat (.int (q : Nat))), [.non]) := by
  obtain ⟨q, q1, q2, q3, q4, q5⟩ := np_loop (.val t (.int N)) (1000003 - (N + 1)) (N + 1) (by omega)
  exact ⟨q, by omega, q2, q3, fun x h1 h2 => q4 x (by omega) h2, np_fin (f := ((N + 1 : Nat) : Int)) (by omega) (by omega) (by omega) (by rw [x_whl]; exact q5)⟩
/-! ### what is drawn -/
def someL : List D := [.int 2, .int 3, .int 5, .int 7, .int 11, .int 13, .int 17, .int 19, .int 23, .int 29, .int 31, .int 37, .int 41, .int 43, .int 47, .int 53, .int 59, .int 61, .int 67, .int 71, .int 73, .int 79, .int 83, .int 89, .int 97, .int 101, .int 251, .int 991]
def sixL : List D := [.int 2, .int 3, .int 5, .int 7, .int 11, .int 13]
def f14L : List D := [.int 2, .int 3, .int 5, .int 7, .int 11, .int 13, .int 17, .int 19, .int 23, .int 29, .int 31, .int 37, .int 41, .int 43]
def fourL : List D := [.int 341, .int 561, .int 1105, .int 2047, .int 6601, .int 65537, .int 99460729, .int 99999989, .int 99999990, .int 100000000, .int 16785407, .int 30030]
def tenL : List D := [.int 10000, .int 100000, .int 1000000, .int 10000000, .int 100000000]
/-- pick of a new list -/
theorem run_pick2 {P : Nat → Option Fd} {f r : Nat} (hP : P f = some (pickFd r)) (hR : P r = some rollFd) (n : Nat) {d : D} {L : Int} (hd : Dice L d) (hL : L < 2 ^ 60) (t : Bool) {xs : List D} (h0 : 0 < xs.length) (hl : xs.length < 2 ^ 60) :
    ∃ x d', x ∈ xs ∧ callN P (n + 2) f [.own true d, .val t (.lst xs)] = some (.ok (.dat x), [.own true d', .non]) ∧ Dice (L + 1) d' := run_pick hP hR n hd hL t h0 hl
theorem mem_int {L : List D} {B : Int} (h : (L.all fun d => match d with | .int i => decide (1 ≤ i) && decide (i ≤ B) | _ => false) = true) {x : D} (hx : x ∈ L) : ∃ i : Int, x = .int i ∧ 1 ≤ i ∧ i ≤ B := by
  have := List.all_eq_true.mp h x hx
  cases x <;> simp at this
  exact ⟨_, rfl, this.1, this.2⟩
theorem Dice.up {L M : Int} {d : D} (h : Dice L d) (hl : L ≤ M) : Dice M d := by
  obtain ⟨x, y, z, e, z1, z2⟩ := h
  exact ⟨x, y, z, e, z1, by omega⟩
theorem sml {z : Int} (h1 : 0 ≤ z) (h2 : z ≤ 100000001) : bits z < 64 := bits_small (by omega) (by omega)
theorem e_pdrawn {d : D} {L : Int} (hd : Dice L d) (hL : L < 90000) : ∃ (N : Nat) (d' : D), N ≤ 100000000 ∧ Dice (L + 4) d' ∧ callN fns 5 23 [.own true d] = some (.ok (.dat (.int N)), [.own true d']) := by
  obtain ⟨w, d1, e1, w1, w2, hd1⟩ := run_roll (P := fns) (f := 14) rfl 3 hd (by omega) false (m := 8) (by omega) (by decide +kernel)
  replace e1 : callN fns 4 14 _ = _ := e1
  have key : ∃ (z : Int) (d' : D), 0 ≤ z ∧ z ≤ 100000000 ∧ Dice (L + 4) d' ∧ callN fns 5 23 [.own true d] = some (.ok (.dat (.int z)), [.own true d']) := by
    have hw : w = 0 ∨ w = 1 ∨ w = 2 ∨ w = 3 ∨ w = 4 ∨ w = 5 ∨ w = 6 ∨ w = 7 := by omega
    rcases hw with rfl | rfl | rfl | rfl | rfl | rfl | hw
    · obtain ⟨r, d2, e2, r1, r2, hd2⟩ := run_roll (P := fns) (f := 14) rfl 3 hd1 (by omega) false (m := 90) (by omega) (by decide +kernel)
      replace e2 : callN fns 4 14 _ = _ := e2
      refine ⟨r, d2, r1, by omega, Dice.up hd2 (by omega), ?_⟩
      rw [callN]; simp [fns, d_law_pr_drawn, runF, MP.execs, ev_cst, ev_glb, ev_var, ev_tup, ev_lst, ev_dis0, ev_dis1, ev_bin, ev_neg, ev_boo, ev_not, ev_cmp, ev_chn, ev_chn3, ev_ite, ev_idx, ev_slc, ev_call, ev_blt, ev_isi, ev_lstI, x_par, x_aug, x_seti, x_app, x_expr, x_ife, x_ret, x_retN, x_pas, x_brk, x_cnt, x_rse0, x_rse1, ev_fnv, ev_callL, ev_met, ev_disO, ev_dget, ev_din, ev_dget2, x_dset, dgetD, dinD, dget2D, isDicM, dsetD, sortedD, min1D, ev_pop, ev_ext, popD, extD, metR, pickH, tells, Pt.tell, showD, x_nm, x_tp, backs_f1, backs_d1, backs_d2, backs_d3, backs_d4, backs_d5, backs_d6, backs_nil, evB, evIf, evO, evAs, evDs, evI, evT, evRs, bnd, ok, op1, op2, view, views, tru, frzM, frz, keepA, unslot, slotOf, putA, putAs, putD, nxtO, augD, setiD, appD, retA, asgT, asgTs, blts, liftO, bltD, absD, maxD, minD, int1D, lenD, gcdD, isiD, blsD, intsD, anyD, allD, sumD, tupleD, listD, strD, reprD, keyB, binD, cmpO, cmpD, datB, negD, idxD, getD, ixD, slcD, tyD, D.isFn, D.truth, shp_non, shp_bl, shp_int, shp_str, shp_tup, shp_lst, shps_nil, shps_cons, D.eqv, D.eqvs, itemsD, rngD, zipO, enumO, intO, isND, doCall, lends, lendA, lentIx, backs, backS, maskS, mask1, e1, e2]
    · obtain ⟨r, d2, e2, r1, r2, hd2⟩ := run_roll (P := fns) (f := 14) rfl 3 hd1 (by omega) false (m := 4000) (by omega) (by decide +kernel)
      replace e2 : callN fns 4 14 _ = _ := e2
      refine ⟨r, d2, r1, by omega, Dice.up hd2 (by omega), ?_⟩
      rw [callN]; simp [fns, d_law_pr_drawn, runF, MP.execs, ev_cst, ev_glb, ev_var, ev_tup, ev_lst, ev_dis0, ev_dis1, ev_bin, ev_neg, ev_boo, ev_not, ev_cmp, ev_chn, ev_chn3, ev_ite, ev_idx, ev_slc, ev_call, ev_blt, ev_isi, ev_lstI, x_par, x_aug, x_seti, x_app, x_expr, x_ife, x_ret, x_retN, x_pas, x_brk, x_cnt, x_rse0, x_rse1, ev_fnv, ev_callL, ev_met, ev_disO, ev_dget, ev_din, ev_dget2, x_dset, dgetD, dinD, dget2D, isDicM, dsetD, sortedD, min1D, ev_pop, ev_ext, popD, extD, metR, pickH, tells, Pt.tell, showD, x_nm, x_tp, backs_f1, backs_d1, backs_d2, backs_d3, backs_d4, backs_d5, backs_d6, backs_nil, evB, evIf, evO, evAs, evDs, evI, evT, evRs, bnd, ok, op1, op2, view, views, tru, frzM, frz, keepA, unslot, slotOf, putA, putAs, putD, nxtO, augD, setiD, appD, retA, asgT, asgTs, blts, liftO, bltD, absD, maxD, minD, int1D, lenD, gcdD, isiD, blsD, intsD, anyD, allD, sumD, tupleD, listD, strD, reprD, keyB, binD, cmpO, cmpD, datB, negD, idxD, getD, ixD, slcD, tyD, D.isFn, D.truth, shp_non, shp_bl, shp_int, shp_str, shp_tup, shp_lst, shps_nil, shps_cons, D.eqv, D.eqvs, itemsD, rngD, zipO, enumO, intO, isND, doCall, lends, lendA, lentIx, backs, backS, maskS, mask1, e1, e2]
    · obtain ⟨x, d2, m2, e2, hd2⟩ := run_pick (P := fns) (f := 15) (r := 14) rfl rfl 2 hd1 (by omega) false (xs := someL) (by decide) (by decide)
      obtain ⟨y, d3, m3, e3, hd3⟩ := run_pick (P := fns) (f := 15) (r := 14) rfl rfl 2 hd2 (by omega) false (xs := someL) (by decide) (by decide)
      replace e2 : callN fns 4 15 _ = _ := e2
      replace e3 : callN fns 4 15 _ = _ := e3
      obtain ⟨i, rfl, i1, i2⟩ := mem_int (B := 991) (by decide +kernel) m2
      obtain ⟨j, rfl, j1, j2⟩ := mem_int (B := 991) (by decide +kernel) m3
      have hb : bits i + bits j < 1000000 := by have := sml (z := i) (by omega) (by omega); have := sml (z := j) (by omega) (by omega); omega
      have hm := Int.mul_le_mul i2 j2 (by omega) (by omega)
      refine ⟨i * j, d3, Int.mul_nonneg (by omega) (by omega), by omega, Dice.up hd3 (by omega), ?_⟩
      simp only [someL] at e2 e3
      rw [callN]; simp [fns, d_law_pr_drawn, runF, MP.execs, ev_cst, ev_glb, ev_var, ev_tup, ev_lst, ev_dis0, ev_dis1, ev_bin, ev_neg, ev_boo, ev_not, ev_cmp, ev_chn, ev_chn3, ev_ite, ev_idx, ev_slc, ev_call, ev_blt, ev_isi, ev_lstI, x_par, x_aug, x_seti, x_app, x_expr, x_ife, x_ret, x_retN, x_pas, x_brk, x_cnt, x_rse0, x_rse1, ev_fnv, ev_callL, ev_met, ev_disO, ev_dget, ev_din, ev_dget2, x_dset, dgetD, dinD, dget2D, isDicM, dsetD, sortedD, min1D, ev_pop, ev_ext, popD, extD, metR, pickH, tells, Pt.tell, showD, x_nm, x_tp, backs_f1, backs_d1, backs_d2, backs_d3, backs_d4, backs_d5, backs_d6, backs_nil, evB, evIf, evO, evAs, evDs, evI, evT, evRs, bnd, ok, op1, op2, view, views, tru, frzM, frz, keepA, unslot, slotOf, putA, putAs, putD, nxtO, augD, setiD, appD, retA, asgT, asgTs, blts, liftO, bltD, absD, maxD, minD, int1D, lenD, gcdD, isiD, blsD, intsD, anyD, allD, sumD, tupleD, listD, strD, reprD, keyB, binD, cmpO, cmpD, datB, negD, idxD, getD, ixD, slcD, tyD, D.isFn, D.truth, shp_non, shp_bl, shp_int, shp_str, shp_tup, shp_lst, shps_nil, shps_cons, D.eqv, D.eqvs, itemsD, rngD, zipO, enumO, intO, isND, doCall, lends, lendA, lentIx, backs, backS, maskS, mask1, e1, e2, e3, hb]
    · obtain ⟨x, d2, m2, e2, hd2⟩ := run_pick2 (P := fns) (f := 15) (r := 14) rfl rfl 2 hd1 (by omega) false (xs := sixL) (by decide) (by decide)
      obtain ⟨r, d3, e3, r1, r2, hd3⟩ := run_roll (P := fns) (f := 14) rfl 3 hd2 (by omega) false (m := 7) (by omega) (by decide +kernel)
      replace e2 : callN fns 4 15 _ = _ := e2
      replace e3 : callN fns 4 14 _ = _ := e3
      obtain ⟨i, rfl, i1, i2⟩ := mem_int (B := 13) (by decide +kernel) m2
      obtain ⟨a, rfl⟩ : ∃ a : Nat, i = (a : Int) := ⟨i.toNat, by omega⟩
      obtain ⟨k, hk⟩ : ∃ k : Nat, 1 + r = (k : Int) := ⟨(1 + r).toNat, by omega⟩
      have hpw : a ^ k ≤ 62748517 := Nat.le_trans (Nat.pow_le_pow_left (show a ≤ 13 by omega) k) (Nat.le_trans (Nat.pow_le_pow_right (by omega) (show k ≤ 7 by omega)) (by decide +kernel))
      have et := run_pr_timesN (P := fns) (i := 19) rfl 3 false false (a := a) (k := k) (by omega) (by omega) (by omega) (by omega)
      replace et : callN fns 4 19 _ = _ := et
      refine ⟨((a ^ k : Nat) : Int), d3, by omega, by omega, Dice.up hd3 (by omega), ?_⟩
      obtain ⟨A, hA⟩ : ∃ A : Int, A = (a : Int) := ⟨_, rfl⟩
      obtain ⟨Kk, hK⟩ : ∃ A : Int, A = (k : Int) := ⟨_, rfl⟩
      obtain ⟨Z, hZ⟩ : ∃ A : Int, A = ((a ^ k : Nat) : Int) := ⟨_, rfl⟩
      rw [← hZ, ← hA, ← hK] at et
      rw [← hA] at e2
      rw [← hK] at hk
      rw [← hZ]
      have h6 : cutD someL none (some 6) = sixL := by rfl
      simp only [someL, sixL] at h6 e2
      rw [callN]; simp [fns, d_law_pr_drawn, runF, MP.execs, ev_cst, ev_glb, ev_var, ev_tup, ev_lst, ev_dis0, ev_dis1, ev_bin, ev_neg, ev_boo, ev_not, ev_cmp, ev_chn, ev_chn3, ev_ite, ev_idx, ev_slc, ev_call, ev_blt, ev_isi, ev_lstI, x_par, x_aug, x_seti, x_app, x_expr, x_ife, x_ret, x_retN, x_pas, x_brk, x_cnt, x_rse0, x_rse1, ev_fnv, ev_callL, ev_met, ev_disO, ev_dget, ev_din, ev_dget2, x_dset, dgetD, dinD, dget2D, isDicM, dsetD, sortedD, min1D, ev_pop, ev_ext, popD, extD, metR, pickH, tells, Pt.tell, showD, x_nm, x_tp, backs_f1, backs_d1, backs_d2, backs_d3, backs_d4, backs_d5, backs_d6, backs_nil, evB, evIf, evO, evAs, evDs, evI, evT, evRs, bnd, ok, op1, op2, view, views, tru, frzM, frz, keepA, unslot, slotOf, putA, putAs, putD, nxtO, augD, setiD, appD, retA, asgT, asgTs, blts, liftO, bltD, absD, maxD, minD, int1D, lenD, gcdD, isiD, blsD, intsD, anyD, allD, sumD, tupleD, listD, strD, reprD, keyB, binD, cmpO, cmpD, datB, negD, idxD, getD, ixD, slcD, tyD, D.isFn, D.truth, shp_non, shp_bl, shp_int, shp_str, shp_tup, shp_lst, shps_nil, shps_cons, D.eqv, D.eqvs, itemsD, rngD, zipO, enumO, intO, isND, doCall, lends, lendA, lentIx, backs, backS, maskS, mask1, e1, e2, e3, hk, et, h6]
    · obtain ⟨x, d2, m2, e2, hd2⟩ := run_pick (P := fns) (f := 15) (r := 14) rfl rfl 2 hd1 (by omega) false (xs := fourL) (by decide) (by decide)
      replace e2 : callN fns 4 15 _ = _ := e2
      obtain ⟨i, rfl, i1, i2⟩ := mem_int (B := 100000000) (by decide +kernel) m2
      refine ⟨i, d2, by omega, i2, Dice.up hd2 (by omega), ?_⟩
      simp only [fourL] at e2
      rw [callN]; simp [fns, d_law_pr_drawn, runF, MP.execs, ev_cst, ev_glb, ev_var, ev_tup, ev_lst, ev_dis0, ev_dis1, ev_bin, ev_neg, ev_boo, ev_not, ev_cmp, ev_chn, ev_chn3, ev_ite, ev_idx, ev_slc, ev_call, ev_blt, ev_isi, ev_lstI, x_par, x_aug, x_seti, x_app, x_expr, x_ife, x_ret, x_retN, x_pas, x_brk, x_cnt, x_rse0, x_rse1, ev_fnv, ev_callL, ev_met, ev_disO, ev_dget, ev_din, ev_dget2, x_dset, dgetD, dinD, dget2D, isDicM, dsetD, sortedD, min1D, ev_pop, ev_ext, popD, extD, metR, pickH, tells, Pt.tell, showD, x_nm, x_tp, backs_f1, backs_d1, backs_d2, backs_d3, backs_d4, backs_d5, backs_d6, backs_nil, evB, evIf, evO, evAs, evDs, evI, evT, evRs, bnd, ok, op1, op2, view, views, tru, frzM, frz, keepA, unslot, slotOf, putA, putAs, putD, nxtO, augD, setiD, appD, retA, asgT, asgTs, blts, liftO, bltD, absD, maxD, minD, int1D, lenD, gcdD, isiD, blsD, intsD, anyD, allD, sumD, tupleD, listD, strD, reprD, keyB, binD, cmpO, cmpD, datB, negD, idxD, getD, ixD, slcD, tyD, D.isFn, D.truth, shp_non, shp_bl, shp_int, shp_str, shp_tup, shp_lst, shps_nil, shps_cons, D.eqv, D.eqvs, itemsD, rngD, zipO, enumO, intO, isND, doCall, lends, lendA, lentIx, backs, backS, maskS, mask1, e1, e2]
    · obtain ⟨x, d2, m2, e2, hd2⟩ := run_pick (P := fns) (f := 15) (r := 14) rfl rfl 2 hd1 (by omega) false (xs := someL) (by decide) (by decide)
      obtain ⟨y, d3, m3, e3, hd3⟩ := run_pick (P := fns) (f := 15) (r := 14) rfl rfl 2 hd2 (by omega) false (xs := someL) (by decide) (by decide)
      obtain ⟨z, d4, m4, e4, hd4⟩ := run_pick2 (P := fns) (f := 15) (r := 14) rfl rfl 2 hd3 (by omega) false (xs := f14L) (by decide) (by decide)
      replace e2 : callN fns 4 15 _ = _ := e2
      replace e3 : callN fns 4 15 _ = _ := e3
      replace e4 : callN fns 4 15 _ = _ := e4
      obtain ⟨i, rfl, i1, i2⟩ := mem_int (B := 991) (by decide +kernel) m2
      obtain ⟨j, rfl, j1, j2⟩ := mem_int (B := 991) (by decide +kernel) m3
      obtain ⟨k, rfl, k1, k2⟩ := mem_int (B := 43) (by decide +kernel) m4
      have hm := Int.mul_le_mul i2 j2 (by omega) (by omega)
      have hm0 : 0 ≤ i * j := Int.mul_nonneg (by omega) (by omega)
      have hm2 := Int.mul_le_mul hm k2 (by omega) (by omega)
      have hb : bits i + bits j < 1000000 := by have := sml (z := i) (by omega) (by omega); have := sml (z := j) (by omega) (by omega); omega
      have hb2 : bits (i * j) + bits k < 1000000 := by have := sml (z := i * j) hm0 (by omega); have := sml (z := k) (by omega) (by omega); omega
      refine ⟨i * j * k, d4, Int.mul_nonneg hm0 (by omega), by omega, Dice.up hd4 (by omega), ?_⟩
      have h6 : cutD someL none (some 14) = f14L := by rfl
      simp only [someL, f14L] at h6 e2 e3 e4
      rw [callN]; simp [fns, d_law_pr_drawn, runF, MP.execs, ev_cst, ev_glb, ev_var, ev_tup, ev_lst, ev_dis0, ev_dis1, ev_bin, ev_neg, ev_boo, ev_not, ev_cmp, ev_chn, ev_chn3, ev_ite, ev_idx, ev_slc, ev_call, ev_blt, ev_isi, ev_lstI, x_par, x_aug, x_seti, x_app, x_expr, x_ife, x_ret, x_retN, x_pas, x_brk, x_cnt, x_rse0, x_rse1, ev_fnv, ev_callL, ev_met, ev_disO, ev_dget, ev_din, ev_dget2, x_dset, dgetD, dinD, dget2D, isDicM, dsetD, sortedD, min1D, ev_pop, ev_ext, popD, extD, metR, pickH, tells, Pt.tell, showD, x_nm, x_tp, backs_f1, backs_d1, backs_d2, backs_d3, backs_d4, backs_d5, backs_d6, backs_nil, evB, evIf, evO, evAs, evDs, evI, evT, evRs, bnd, ok, op1, op2, view, views, tru, frzM, frz, keepA, unslot, slotOf, putA, putAs, putD, nxtO, augD, setiD, appD, retA, asgT, asgTs, blts, liftO, bltD, absD, maxD, minD, int1D, lenD, gcdD, isiD, blsD, intsD, anyD, allD, sumD, tupleD, listD, strD, reprD, keyB, binD, cmpO, cmpD, datB, negD, idxD, getD, ixD, slcD, tyD, D.isFn, D.truth, shp_non, shp_bl, shp_int, shp_str, shp_tup, shp_lst, shps_nil, shps_cons, D.eqv, D.eqvs, itemsD, rngD, zipO, enumO, intO, isND, doCall, lends, lendA, lentIx, backs, backS, maskS, mask1, e1, e2, e3, e4, hb, hb2, h6]
    · obtain ⟨x, d2, m2, e2, hd2⟩ := run_pick (P := fns) (f := 15) (r := 14) rfl rfl 2 hd1 (by omega) false (xs := tenL) (by decide) (by decide)
      replace e2 : callN fns 4 15 _ = _ := e2
      obtain ⟨i, rfl, i1, i2⟩ := mem_int (B := 100000000) (by decide +kernel) m2
      obtain ⟨r, d3, e3, r1, r2, hd3⟩ := run_roll (P := fns) (f := 14) rfl 3 hd2 (by omega) false (m := i + 1) (by omega) (by have := sml (z := i + 1) (by omega) (by omega); omega)
      replace e3 : callN fns 4 14 _ = _ := e3
      refine ⟨r, d3, r1, by omega, Dice.up hd3 (by omega), ?_⟩
      simp only [tenL] at e2
      rcases hw with rfl | rfl
      · rw [callN]; simp [fns, d_law_pr_drawn, runF, MP.execs, ev_cst, ev_glb, ev_var, ev_tup, ev_lst, ev_dis0, ev_dis1, ev_bin, ev_neg, ev_boo, ev_not, ev_cmp, ev_chn, ev_chn3, ev_ite, ev_idx, ev_slc, ev_call, ev_blt, ev_isi, ev_lstI, x_par, x_aug, x_seti, x_app, x_expr, x_ife, x_ret, x_retN, x_pas, x_brk, x_cnt, x_rse0, x_rse1, ev_fnv, ev_callL, ev_met, ev_disO, ev_dget, ev_din, ev_dget2, x_dset, dgetD, dinD, dget2D, isDicM, dsetD, sortedD, min1D, ev_pop, ev_ext, popD, extD, metR, pickH, tells, Pt.tell, showD, x_nm, x_tp, backs_f1, backs_d1, backs_d2, backs_d3, backs_d4, backs_d5, backs_d6, backs_nil, evB, evIf, evO, evAs, evDs, evI, evT, evRs, bnd, ok, op1, op2, view, views, tru, frzM, frz, keepA, unslot, slotOf, putA, putAs, putD, nxtO, augD, setiD, appD, retA, asgT, asgTs, blts, liftO, bltD, absD, maxD, minD, int1D, lenD, gcdD, isiD, blsD, intsD, anyD, allD, sumD, tupleD, listD, strD, reprD, keyB, binD, cmpO, cmpD, datB, negD, idxD, getD, ixD, slcD, tyD, D.isFn, D.truth, shp_non, shp_bl, shp_int, shp_str, shp_tup, shp_lst, shps_nil, shps_cons, D.eqv, D.eqvs, itemsD, rngD, zipO, enumO, intO, isND, doCall, lends, lendA, lentIx, backs, backS, maskS, mask1, e1, e2, e3]
      · rw [callN]; simp [fns, d_law_pr_drawn, runF, MP.execs, ev_cst, ev_glb, ev_var, ev_tup, ev_lst, ev_dis0, ev_dis1, ev_bin, ev_neg, ev_boo, ev_not, ev_cmp, ev_chn, ev_chn3, ev_ite, ev_idx, ev_slc, ev_call, ev_blt, ev_isi, ev_lstI, x_par, x_aug, x_seti, x_app, x_expr, x_ife, x_ret, x_retN, x_pas, x_brk, x_cnt, x_rse0, x_rse1, ev_fnv, ev_callL, ev_met, ev_disO, ev_dget, ev_din, ev_dget2, x_dset, dgetD, dinD, dget2D, isDicM, dsetD, sortedD, min1D, ev_pop, ev_ext, popD, extD, metR, pickH, tells, Pt.tell, showD, x_nm, x_tp, backs_f1, backs_d1, backs_d2, backs_d3, backs_d4, backs_d5, backs_d6, backs_nil, evB, evIf, evO, evAs, evDs, evI, evT, evRs, bnd, ok, op1, op2, view, views, tru, frzM, frz, keepA, unslot, slotOf, putA, putAs, putD, nxtO, augD, setiD, appD, retA, asgT, asgTs, blts, liftO, bltD, absD, maxD, minD, int1D, lenD, gcdD, isiD, blsD, intsD, anyD, allD, sumD, tupleD, listD, strD, reprD, keyB, binD, cmpO, cmpD, datB, negD, idxD, getD, ixD, slcD, tyD, D.isFn, D.truth, shp_non, shp_bl, shp_int, shp_str, shp_tup, shp_lst, shps_nil, shps_cons, D.eqv, D.eqvs, itemsD, rngD, zipO, enumO, intO, isND, doCall, lends, lendA, lentIx, backs, backS, maskS, mask1, e1, e2, e3]
  obtain ⟨z, d', z1, z2, hd', e⟩ := key
  exact ⟨z.toNat, d', by omega, hd', by rw [show ((z.toNat : Nat) : Int) = z by omega]; exact e⟩
end K04
set_option Elab.async false
set_option linter.all false
set_option maxRecDepth 100000
set_option maxHeartbeats 4000000
namespace K04
open PySem MP
def isQ (q : Int) : D → Bool
  | .int i => decide (i = q)
  | _ => false
theorem filt_one : ∀ (k : Nat) (lo q : Int), lo + k = q → ((intsL lo (k + 1)).filter (isQ q)).map id = [.int q]
  | 0, lo, q, h => by
    have : lo = q := by omega
    subst this
    simp [intsL, isQ]
  | k + 1, lo, q, h => by
    have hne : ¬ lo = q := by omega
    rw [intsL, List.filter_cons]
    have : isQ q (.int lo) = false := by simp [isQ, hne]
    rw [this]
    exact filt_one k (lo + 1) q (by omega)
theorem mem_ints : ∀ {n : Nat} {lo : Int} {d : D}, d ∈ intsL lo n → ∃ i : Int, d = .int i ∧ lo ≤ i ∧ i < lo + n
  | 0, lo, d, h => by cases h
  | n + 1, lo, d, h => by
    rw [intsL] at h
    rcases List.mem_cons.mp h with h | h
    · exact ⟨lo, h, by omega, by omega⟩
    · obtain ⟨i, h1, h2, h3⟩ := mem_ints h
      exact ⟨i, h1, by omega, by omega⟩
theorem len_ints : ∀ (n : Nat) (lo : Int), (intsL lo n).length = n
  | 0, lo => rfl
  | n + 1, lo => by rw [intsL, List.length_cons, len_ints n]
def cmpC : C := C.cmpr (C.var 6) (Tg.nm 6) (I.rng2 (C.bin .add (C.var 2) (C.cst (D.int 1))) (C.bin .add (C.var 3) (C.cst (D.int 1)))) (CO.some (C.call 17 [false] (Cs.cons (C.var 6) Cs.nil))) [6]
theorem cc_if {s0 s1 s2 s3 s4 s5 : MP.Slot} {i : Int} {b : Bool} (e : callN fns 5 17 [.val false (.int i)] = some (.ok (.dat (.bl b)), [.non])) : evIf (callN fns 5) (CO.some (C.call 17 [false] (Cs.cons (C.var 6) Cs.nil))) [s0, s1, s2, s3, s4, s5, .val false (.int i)] = some (.ok b, [s0, s1, s2, s3, s4, s5, .val false (.int i)]) := by
  simp [evIf, runF, MP.execs, ev_cst, ev_glb, ev_var, ev_tup, ev_lst, ev_dis0, ev_dis1, ev_bin, ev_neg, ev_boo, ev_not, ev_cmp, ev_chn, ev_chn3, ev_ite, ev_idx, ev_slc, ev_call, ev_blt, ev_isi, ev_lstI, x_par, x_aug, x_seti, x_app, x_expr, x_ife, x_ret, x_retN, x_pas, x_brk, x_cnt, x_rse0, x_rse1, ev_fnv, ev_callL, ev_met, ev_disO, ev_dget, ev_din, ev_dget2, x_dset, dgetD, dinD, dget2D, isDicM, dsetD, sortedD, min1D, ev_pop, ev_ext, popD, extD, metR, pickH, tells, Pt.tell, showD, x_nm, x_tp, backs_f1, backs_d1, backs_d2, backs_d3, backs_d4, backs_d5, backs_d6, backs_nil, evB, evIf, evO, evAs, evDs, evI, evT, evRs, bnd, ok, op1, op2, view, views, tru, frzM, frz, keepA, unslot, slotOf, putA, putAs, putD, nxtO, augD, setiD, appD, retA, asgT, asgTs, blts, liftO, bltD, absD, maxD, minD, int1D, lenD, gcdD, isiD, blsD, intsD, anyD, allD, sumD, tupleD, listD, strD, reprD, keyB, binD, cmpO, cmpD, datB, negD, idxD, getD, ixD, slcD, tyD, D.isFn, D.truth, shp_non, shp_bl, shp_int, shp_str, shp_tup, shp_lst, shps_nil, shps_cons, D.eqv, D.eqvs, itemsD, rngD, zipO, enumO, intO, isND, doCall, lends, lendA, lentIx, backs, backS, maskS, mask1, e]
theorem cc_rng {s0 s1 s4 s5 s6 : MP.Slot} {a q : Int} (h1 : smallI (a + 1) = true) (h2 : smallI (q + 1) = true) : evI (callN fns 5) (I.rng2 (C.bin .add (C.var 2) (C.cst (D.int 1))) (C.bin .add (C.var 3) (C.cst (D.int 1)))) [s0, s1, .val false (.int a), .val false (.int q), s4, s5, s6] = some (.ok (intsL (a + 1) (q + 1 - (a + 1)).toNat), [s0, s1, .val false (.int a), .val false (.int q), s4, s5, s6]) := by
  simp [runF, MP.execs, ev_cst, ev_glb, ev_var, ev_tup, ev_lst, ev_dis0, ev_dis1, ev_bin, ev_neg, ev_boo, ev_not, ev_cmp, ev_chn, ev_chn3, ev_ite, ev_idx, ev_slc, ev_call, ev_blt, ev_isi, ev_lstI, x_par, x_aug, x_seti, x_app, x_expr, x_ife, x_ret, x_retN, x_pas, x_brk, x_cnt, x_rse0, x_rse1, ev_fnv, ev_callL, ev_met, ev_disO, ev_dget, ev_din, ev_dget2, x_dset, dgetD, dinD, dget2D, isDicM, dsetD, sortedD, min1D, ev_pop, ev_ext, popD, extD, metR, pickH, tells, Pt.tell, showD, x_nm, x_tp, backs_f1, backs_d1, backs_d2, backs_d3, backs_d4, backs_d5, backs_d6, backs_nil, evB, evIf, evO, evAs, evDs, evI, evT, evRs, bnd, ok, op1, op2, view, views, tru, frzM, frz, keepA, unslot, slotOf, putA, putAs, putD, nxtO, augD, setiD, appD, retA, asgT, asgTs, blts, liftO, bltD, absD, maxD, minD, int1D, lenD, gcdD, isiD, blsD, intsD, anyD, allD, sumD, tupleD, listD, strD, reprD, keyB, binD, cmpO, cmpD, datB, negD, idxD, getD, ixD, slcD, tyD, D.isFn, D.truth, shp_non, shp_bl, shp_int, shp_str, shp_tup, shp_lst, shps_nil, shps_cons, D.eqv, D.eqvs, itemsD, rngD, zipO, enumO, intO, isND, doCall, lends, lendA, lentIx, backs, backS, maskS, mask1, rngD, h1, h2]
theorem cc {a q : Nat} (ha : a ≤ 1000000) (h1 : a < q) (h2 : q ≤ 1000003) (hp : Prm q) (hn : ∀ x, a < x → x < q → ¬ Prm x) (s0 s1 s4 s5 s6 : MP.Slot) : ev (callN fns 5) cmpC [s0, s1, .val false (.int a), .val false (.int q), s4, s5, s6] = some (.ok (.frs (.lst [.int q])), [s0, s1, .val false (.int a), .val false (.int q), s4, s5, s6]) := by
  have hi := cc_rng (s0 := s0) (s1 := s1) (s4 := s4) (s5 := s5) (s6 := s6) (a := (a : Int)) (q := (q : Int)) (small_i (by omega)) (small_i (by omega))
  have hk : ((q : Int) + 1 - ((a : Int) + 1)).toNat = (q - a - 1) + 1 := by omega
  rw [hk] at hi
  have c := ev_comp (call := callN fns 5) (elt := C.var 6) (tg := Tg.nm 6) (ifs := CO.some (C.call 17 [false] (Cs.cons (C.var 6) Cs.nil))) (own := [6]) (isQ q) id hi (by rw [len_ints]; omega) (fun d hd => by
    obtain ⟨i, rfl, i1, i2⟩ := mem_ints hd
    obtain ⟨x, rfl⟩ : ∃ x : Nat, i = (x : Int) := ⟨i.toNat, by omega⟩
    obtain ⟨b, hb, e⟩ := run_pr_is (P := fns) (i := 17) (j := 16) rfl rfl 3 false (n := x) (by omega)
    replace e : callN fns 5 17 _ = _ := e
    have hbq : b = isQ q (.int x) := by
      by_cases hx : x = q
      · subst hx
        rw [hb.mpr hp]
        simp [isQ]
      · have h3 : ¬ Prm x := hn x (by omega) (by omega)
        have : b = false := by
          cases b with
          | true => exact absurd (hb.mp rfl) h3
          | false => rfl
        rw [this]
        have hx2 : ¬ (x : Int) = (q : Int) := by omega
        simp [isQ]
        omega
    rw [hbq] at e
    refine ⟨[s0, s1, .val false (.int a), .val false (.int q), s4, s5, .val false (.int x)], by simp [asgT, putD, wipeR], [s0, s1, .val false (.int a), .val false (.int q), s4, s5, .val false (.int x)], cc_if e, ?_⟩
    split
    · exact ⟨[s0, s1, .val false (.int a), .val false (.int q), s4, s5, .val false (.int x)], by simp [runF, MP.execs, ev_cst, ev_glb, ev_var, ev_tup, ev_lst, ev_dis0, ev_dis1, ev_bin, ev_neg, ev_boo, ev_not, ev_cmp, ev_chn, ev_chn3, ev_ite, ev_idx, ev_slc, ev_call, ev_blt, ev_isi, ev_lstI, x_par, x_aug, x_seti, x_app, x_expr, x_ife, x_ret, x_retN, x_pas, x_brk, x_cnt, x_rse0, x_rse1, ev_fnv, ev_callL, ev_met, ev_disO, ev_dget, ev_din, ev_dget2, x_dset, dgetD, dinD, dget2D, isDicM, dsetD, sortedD, min1D, ev_pop, ev_ext, popD, extD, metR, pickH, tells, Pt.tell, showD, x_nm, x_tp, backs_f1, backs_d1, backs_d2, backs_d3, backs_d4, backs_d5, backs_d6, backs_nil, evB, evIf, evO, evAs, evDs, evI, evT, evRs, bnd, ok, op1, op2, view, views, tru, frzM, frz, keepA, unslot, slotOf, putA, putAs, putD, nxtO, augD, setiD, appD, retA, asgT, asgTs, blts, liftO, bltD, absD, maxD, minD, int1D, lenD, gcdD, isiD, blsD, intsD, anyD, allD, sumD, tupleD, listD, strD, reprD, keyB, binD, cmpO, cmpD, datB, negD, idxD, getD, ixD, slcD, tyD, D.isFn, D.truth, shp_non, shp_bl, shp_int, shp_str, shp_tup, shp_lst, shps_nil, shps_cons, D.eqv, D.eqvs, itemsD, rngD, zipO, enumO, intO, isND, doCall, lends, lendA, lentIx, backs, backS, maskS, mask1], by simp [wipeR]⟩
    · simp [wipeR])
  rw [filt_one (q - a - 1) ((a : Int) + 1) (q : Int) (by omega)] at c
  exact c
/-! ### right -/
def tailR : Ss := match d_law_right.body with
  | .cons _ (.cons _ (.cons _ r)) => r
  | _ => .nil
theorem t_tail {s0 s4 s5 : MP.Slot} {z a q : Int} (hz : (if 1000000 < z then 1000000 else z) = a) (e : callN fns 5 11 [.val false (.int a)] = some (.ok (.dat (.int q)), [.non])) (hq : a < q) (hc : ev (callN fns 5) cmpC [s0, .val false (.int z), .val false (.int a), .val false (.int q), s4, s5, .non] = some (.ok (.frs (.lst [.int q])), [s0, .val false (.int z), .val false (.int a), .val false (.int q), s4, s5, .non])) :
    MP.execs (callN fns 5) tailR [s0, .val false (.int z), .non, .non, s4, s5, .non] = some (.ok (.ret (.dat (.bl true))), [s0, .val false (.int z), .val false (.int a), .val false (.int q), s4, s5, .non]) := by
  unfold cmpC at hc
  simp [tailR, d_law_right, runF, MP.execs, ev_cst, ev_glb, ev_var, ev_tup, ev_lst, ev_dis0, ev_dis1, ev_bin, ev_neg, ev_boo, ev_not, ev_cmp, ev_chn, ev_chn3, ev_ite, ev_idx, ev_slc, ev_call, ev_blt, ev_isi, ev_lstI, x_par, x_aug, x_seti, x_app, x_expr, x_ife, x_ret, x_retN, x_pas, x_brk, x_cnt, x_rse0, x_rse1, ev_fnv, ev_callL, ev_met, ev_disO, ev_dget, ev_din, ev_dget2, x_dset, dgetD, dinD, dget2D, isDicM, dsetD, sortedD, min1D, ev_pop, ev_ext, popD, extD, metR, pickH, tells, Pt.tell, showD, x_nm, x_tp, backs_f1, backs_d1, backs_d2, backs_d3, backs_d4, backs_d5, backs_d6, backs_nil, evB, evIf, evO, evAs, evDs, evI, evT, evRs, bnd, ok, op1, op2, view, views, tru, frzM, frz, keepA, unslot, slotOf, putA, putAs, putD, nxtO, augD, setiD, appD, retA, asgT, asgTs, blts, liftO, bltD, absD, maxD, minD, int1D, lenD, gcdD, isiD, blsD, intsD, anyD, allD, sumD, tupleD, listD, strD, reprD, keyB, binD, cmpO, cmpD, datB, negD, idxD, getD, ixD, slcD, tyD, D.isFn, D.truth, shp_non, shp_bl, shp_int, shp_str, shp_tup, shp_lst, shps_nil, shps_cons, D.eqv, D.eqvs, itemsD, rngD, zipO, enumO, intO, isND, doCall, lends, lendA, lentIx, backs, backS, maskS, mask1, hz, e, hq, hc]
theorem e_tail {z : Nat} (hz : z ≤ 100000000) (s0 s4 s5 : MP.Slot) : ∃ ρ', MP.execs (callN fns 5) tailR [s0, .val false (.int z), .non, .non, s4, s5, .non] = some (.ok (.ret (.dat (.bl true))), s0 :: ρ') := by
  obtain ⟨a, ha, hza⟩ : ∃ a : Nat, a ≤ 1000000 ∧ (if 1000000 < (z : Int) then 1000000 else (z : Int)) = (a : Int) := by
    by_cases h : 1000000 < (z : Int)
    · exact ⟨1000000, by omega, by rw [if_pos h]; rfl⟩
    · exact ⟨z, by omega, by rw [if_neg h]⟩
  obtain ⟨q, q1, q2, q3, q4, e⟩ := e_next false ha
  exact ⟨_, t_tail hza e (by omega) (cc ha q1 q2 q3 q4 s0 _ s4 s5 .non)⟩
theorem r_small {d d1 : D} {z : Int} {b : Bool} {ρ' : List MP.Slot} (hz : ¬ 2 ≤ z) (e1 : callN fns 5 23 [.own true d] = some (.ok (.dat (.int z)), [.own true d1])) (e2 : callN fns 5 10 [.val false (.int z)] = some (.ok (.dat (.bl b)), [.non])) (e3 : callN fns 5 17 [.val false (.int z)] = some (.ok (.dat (.bl b)), [.non]))
    (ht : MP.execs (callN fns 5) tailR [.own true d1, .val false (.int z), .non, .non, .non, .non, .non] = some (.ok (.ret (.dat (.bl true))), .own true d1 :: ρ')) : MP.execs (callN fns 5) d_law_right.body [.own true d, .non, .non, .non, .non, .non, .non] = some (.ok (.ret (.dat (.bl true))), .own true d1 :: ρ') := by
  obtain ⟨p1, p2, p3⟩ : RepOk (.bl b) := rep_ok (by cases b <;> decide +kernel)
  refine step (ρ1 := [.own true d1, .val false (.int z), .non, .non, .non, .non, .non]) (by simp [runF, MP.execs, ev_cst, ev_glb, ev_var, ev_tup, ev_lst, ev_dis0, ev_dis1, ev_bin, ev_neg, ev_boo, ev_not, ev_cmp, ev_chn, ev_chn3, ev_ite, ev_idx, ev_slc, ev_call, ev_blt, ev_isi, ev_lstI, x_par, x_aug, x_seti, x_app, x_expr, x_ife, x_ret, x_retN, x_pas, x_brk, x_cnt, x_rse0, x_rse1, ev_fnv, ev_callL, ev_met, ev_disO, ev_dget, ev_din, ev_dget2, x_dset, dgetD, dinD, dget2D, isDicM, dsetD, sortedD, min1D, ev_pop, ev_ext, popD, extD, metR, pickH, tells, Pt.tell, showD, x_nm, x_tp, backs_f1, backs_d1, backs_d2, backs_d3, backs_d4, backs_d5, backs_d6, backs_nil, evB, evIf, evO, evAs, evDs, evI, evT, evRs, bnd, ok, op1, op2, view, views, tru, frzM, frz, keepA, unslot, slotOf, putA, putAs, putD, nxtO, augD, setiD, appD, retA, asgT, asgTs, blts, liftO, bltD, absD, maxD, minD, int1D, lenD, gcdD, isiD, blsD, intsD, anyD, allD, sumD, tupleD, listD, strD, reprD, keyB, binD, cmpO, cmpD, datB, negD, idxD, getD, ixD, slcD, tyD, D.isFn, D.truth, shp_non, shp_bl, shp_int, shp_str, shp_tup, shp_lst, shps_nil, shps_cons, D.eqv, D.eqvs, itemsD, rngD, zipO, enumO, intO, isND, doCall, lends, lendA, lentIx, backs, backS, maskS, mask1, e1]) (step (ρ1 := [.own true d1, .val false (.int z), .non, .non, .non, .non, .non]) (by simp [runF, MP.execs, ev_cst, ev_glb, ev_var, ev_tup, ev_lst, ev_dis0, ev_dis1, ev_bin, ev_neg, ev_boo, ev_not, ev_cmp, ev_chn, ev_chn3, ev_ite, ev_idx, ev_slc, ev_call, ev_blt, ev_isi, ev_lstI, x_par, x_aug, x_seti, x_app, x_expr, x_ife, x_ret, x_retN, x_pas, x_brk, x_cnt, x_rse0, x_rse1, ev_fnv, ev_callL, ev_met, ev_disO, ev_dget, ev_din, ev_dget2, x_dset, dgetD, dinD, dget2D, isDicM, dsetD, sortedD, min1D, ev_pop, ev_ext, popD, extD, metR, pickH, tells, Pt.tell, showD, x_nm, x_tp, backs_f1, backs_d1, backs_d2, backs_d3, backs_d4, backs_d5, backs_d6, backs_nil, evB, evIf, evO, evAs, evDs, evI, evT, evRs, bnd, ok, op1, op2, view, views, tru, frzM, frz, keepA, unslot, slotOf, putA, putAs, putD, nxtO, augD, setiD, appD, retA, asgT, asgTs, blts, liftO, bltD, absD, maxD, minD, int1D, lenD, gcdD, isiD, blsD, intsD, anyD, allD, sumD, tupleD, listD, strD, reprD, keyB, binD, cmpO, cmpD, datB, negD, idxD, getD, ixD, slcD, tyD, D.isFn, D.truth, shp_non, shp_bl, shp_int, shp_str, shp_tup, shp_lst, shps_nil, shps_cons, D.eqv, D.eqvs, itemsD, rngD, zipO, enumO, intO, isND, doCall, lends, lendA, lentIx, backs, backS, maskS, mask1, e2, e3, p1, p2]) (step (ρ1 := [.own true d1, .val false (.int z), .non, .non, .non, .non, .non]) (by simp [runF, MP.execs, ev_cst, ev_glb, ev_var, ev_tup, ev_lst, ev_dis0, ev_dis1, ev_bin, ev_neg, ev_boo, ev_not, ev_cmp, ev_chn, ev_chn3, ev_ite, ev_idx, ev_slc, ev_call, ev_blt, ev_isi, ev_lstI, x_par, x_aug, x_seti, x_app, x_expr, x_ife, x_ret, x_retN, x_pas, x_brk, x_cnt, x_rse0, x_rse1, ev_fnv, ev_callL, ev_met, ev_disO, ev_dget, ev_din, ev_dget2, x_dset, dgetD, dinD, dget2D, isDicM, dsetD, sortedD, min1D, ev_pop, ev_ext, popD, extD, metR, pickH, tells, Pt.tell, showD, x_nm, x_tp, backs_f1, backs_d1, backs_d2, backs_d3, backs_d4, backs_d5, backs_d6, backs_nil, evB, evIf, evO, evAs, evDs, evI, evT, evRs, bnd, ok, op1, op2, view, views, tru, frzM, frz, keepA, unslot, slotOf, putA, putAs, putD, nxtO, augD, setiD, appD, retA, asgT, asgTs, blts, liftO, bltD, absD, maxD, minD, int1D, lenD, gcdD, isiD, blsD, intsD, anyD, allD, sumD, tupleD, listD, strD, reprD, keyB, binD, cmpO, cmpD, datB, negD, idxD, getD, ixD, slcD, tyD, D.isFn, D.truth, shp_non, shp_bl, shp_int, shp_str, shp_tup, shp_lst, shps_nil, shps_cons, D.eqv, D.eqvs, itemsD, rngD, zipO, enumO, intO, isND, doCall, lends, lendA, lentIx, backs, backS, maskS, mask1, hz]) ht))
theorem r_prime {d d1 p : D} {z : Int} {ρ' : List MP.Slot} (hz : 2 ≤ z) (e1 : callN fns 5 23 [.own true d] = some (.ok (.dat (.int z)), [.own true d1])) (e2 : callN fns 5 10 [.val false (.int z)] = some (.ok (.dat (.bl true)), [.non])) (e3 : callN fns 5 17 [.val false (.int z)] = some (.ok (.dat (.bl true)), [.non]))
    (e4 : callN fns 5 12 [.val false (.int z)] = some (.ok (.dat (.tup [.tup [.str "prime", .int z], p])), [.non])) (e5 : callN fns 5 22 [.val false (.int z), .val false p] = some (.ok (.dat (.bl true)), [.non, .non]))
    (ht : MP.execs (callN fns 5) tailR [.own true d1, .val false (.int z), .non, .non, .val false (.tup [.str "prime", .int z]), .val false p, .non] = some (.ok (.ret (.dat (.bl true))), .own true d1 :: ρ')) : MP.execs (callN fns 5) d_law_right.body [.own true d, .non, .non, .non, .non, .non, .non] = some (.ok (.ret (.dat (.bl true))), .own true d1 :: ρ') := by
  obtain ⟨p1, p2, p3⟩ : RepOk (.bl true) := rep_ok (by decide +kernel)
  have q1 : plainS "prime" = true := by decide +kernel
  have q2 : plainS "split" = true := by decide +kernel
  have q3 : ¬ ("prime" : Str) = "split" := by decide +kernel
  have q4 : ¬ ("split" : Str) = "prime" := by decide +kernel
  refine step (ρ1 := [.own true d1, .val false (.int z), .non, .non, .non, .non, .non]) (by simp [runF, MP.execs, ev_cst, ev_glb, ev_var, ev_tup, ev_lst, ev_dis0, ev_dis1, ev_bin, ev_neg, ev_boo, ev_not, ev_cmp, ev_chn, ev_chn3, ev_ite, ev_idx, ev_slc, ev_call, ev_blt, ev_isi, ev_lstI, x_par, x_aug, x_seti, x_app, x_expr, x_ife, x_ret, x_retN, x_pas, x_brk, x_cnt, x_rse0, x_rse1, ev_fnv, ev_callL, ev_met, ev_disO, ev_dget, ev_din, ev_dget2, x_dset, dgetD, dinD, dget2D, isDicM, dsetD, sortedD, min1D, ev_pop, ev_ext, popD, extD, metR, pickH, tells, Pt.tell, showD, x_nm, x_tp, backs_f1, backs_d1, backs_d2, backs_d3, backs_d4, backs_d5, backs_d6, backs_nil, evB, evIf, evO, evAs, evDs, evI, evT, evRs, bnd, ok, op1, op2, view, views, tru, frzM, frz, keepA, unslot, slotOf, putA, putAs, putD, nxtO, augD, setiD, appD, retA, asgT, asgTs, blts, liftO, bltD, absD, maxD, minD, int1D, lenD, gcdD, isiD, blsD, intsD, anyD, allD, sumD, tupleD, listD, strD, reprD, keyB, binD, cmpO, cmpD, datB, negD, idxD, getD, ixD, slcD, tyD, D.isFn, D.truth, shp_non, shp_bl, shp_int, shp_str, shp_tup, shp_lst, shps_nil, shps_cons, D.eqv, D.eqvs, itemsD, rngD, zipO, enumO, intO, isND, doCall, lends, lendA, lentIx, backs, backS, maskS, mask1, e1]) (step (ρ1 := [.own true d1, .val false (.int z), .non, .non, .non, .non, .non]) (by simp [runF, MP.execs, ev_cst, ev_glb, ev_var, ev_tup, ev_lst, ev_dis0, ev_dis1, ev_bin, ev_neg, ev_boo, ev_not, ev_cmp, ev_chn, ev_chn3, ev_ite, ev_idx, ev_slc, ev_call, ev_blt, ev_isi, ev_lstI, x_par, x_aug, x_seti, x_app, x_expr, x_ife, x_ret, x_retN, x_pas, x_brk, x_cnt, x_rse0, x_rse1, ev_fnv, ev_callL, ev_met, ev_disO, ev_dget, ev_din, ev_dget2, x_dset, dgetD, dinD, dget2D, isDicM, dsetD, sortedD, min1D, ev_pop, ev_ext, popD, extD, metR, pickH, tells, Pt.tell, showD, x_nm, x_tp, backs_f1, backs_d1, backs_d2, backs_d3, backs_d4, backs_d5, backs_d6, backs_nil, evB, evIf, evO, evAs, evDs, evI, evT, evRs, bnd, ok, op1, op2, view, views, tru, frzM, frz, keepA, unslot, slotOf, putA, putAs, putD, nxtO, augD, setiD, appD, retA, asgT, asgTs, blts, liftO, bltD, absD, maxD, minD, int1D, lenD, gcdD, isiD, blsD, intsD, anyD, allD, sumD, tupleD, listD, strD, reprD, keyB, binD, cmpO, cmpD, datB, negD, idxD, getD, ixD, slcD, tyD, D.isFn, D.truth, shp_non, shp_bl, shp_int, shp_str, shp_tup, shp_lst, shps_nil, shps_cons, D.eqv, D.eqvs, itemsD, rngD, zipO, enumO, intO, isND, doCall, lends, lendA, lentIx, backs, backS, maskS, mask1, e2, e3, p1, p2]) (step (ρ1 := [.own true d1, .val false (.int z), .non, .non, .val false (.tup [.str "prime", .int z]), .val false p, .non]) (by simp [runF, MP.execs, ev_cst, ev_glb, ev_var, ev_tup, ev_lst, ev_dis0, ev_dis1, ev_bin, ev_neg, ev_boo, ev_not, ev_cmp, ev_chn, ev_chn3, ev_ite, ev_idx, ev_slc, ev_call, ev_blt, ev_isi, ev_lstI, x_par, x_aug, x_seti, x_app, x_expr, x_ife, x_ret, x_retN, x_pas, x_brk, x_cnt, x_rse0, x_rse1, ev_fnv, ev_callL, ev_met, ev_disO, ev_dget, ev_din, ev_dget2, x_dset, dgetD, dinD, dget2D, isDicM, dsetD, sortedD, min1D, ev_pop, ev_ext, popD, extD, metR, pickH, tells, Pt.tell, showD, x_nm, x_tp, backs_f1, backs_d1, backs_d2, backs_d3, backs_d4, backs_d5, backs_d6, backs_nil, evB, evIf, evO, evAs, evDs, evI, evT, evRs, bnd, ok, op1, op2, view, views, tru, frzM, frz, keepA, unslot, slotOf, putA, putAs, putD, nxtO, augD, setiD, appD, retA, asgT, asgTs, blts, liftO, bltD, absD, maxD, minD, int1D, lenD, gcdD, isiD, blsD, intsD, anyD, allD, sumD, tupleD, listD, strD, reprD, keyB, binD, cmpO, cmpD, datB, negD, idxD, getD, ixD, slcD, tyD, D.isFn, D.truth, shp_non, shp_bl, shp_int, shp_str, shp_tup, shp_lst, shps_nil, shps_cons, D.eqv, D.eqvs, itemsD, rngD, zipO, enumO, intO, isND, doCall, lends, lendA, lentIx, backs, backS, maskS, mask1, hz, e3, e4, e5, q1, q2, q3, q4]) ht))
theorem r_split {d d1 p : D} {z : Int} {ρ' : List MP.Slot} (hz : 2 ≤ z) (e1 : callN fns 5 23 [.own true d] = some (.ok (.dat (.int z)), [.own true d1])) (e2 : callN fns 5 10 [.val false (.int z)] = some (.ok (.dat (.bl false)), [.non])) (e3 : callN fns 5 17 [.val false (.int z)] = some (.ok (.dat (.bl false)), [.non]))
    (e4 : callN fns 5 12 [.val false (.int z)] = some (.ok (.dat (.tup [.tup [.str "split", .int z], p])), [.non])) (e5 : callN fns 5 25 [.val false (.int z), .val false p] = some (.ok (.dat (.bl true)), [.non, .non]))
    (ht : MP.execs (callN fns 5) tailR [.own true d1, .val false (.int z), .non, .non, .val false (.tup [.str "split", .int z]), .val false p, .non] = some (.ok (.ret (.dat (.bl true))), .own true d1 :: ρ')) : MP.execs (callN fns 5) d_law_right.body [.own true d, .non, .non, .non, .non, .non, .non] = some (.ok (.ret (.dat (.bl true))), .own true d1 :: ρ') := by
  obtain ⟨p1, p2, p3⟩ : RepOk (.bl false) := rep_ok (by decide +kernel)
  have q1 : plainS "prime" = true := by decide +kernel
  have q2 : plainS "split" = true := by decide +kernel
  have q3 : ¬ ("prime" : Str) = "split" := by decide +kernel
  have q4 : ¬ ("split" : Str) = "prime" := by decide +kernel
  refine step (ρ1 := [.own true d1, .val false (.int z), .non, .non, .non, .non, .non]) (by simp [runF, MP.execs, ev_cst, ev_glb, ev_var, ev_tup, ev_lst, ev_dis0, ev_dis1, ev_bin, ev_neg, ev_boo, ev_not, ev_cmp, ev_chn, ev_chn3, ev_ite, ev_idx, ev_slc, ev_call, ev_blt, ev_isi, ev_lstI, x_par, x_aug, x_seti, x_app, x_expr, x_ife, x_ret, x_retN, x_pas, x_brk, x_cnt, x_rse0, x_rse1, ev_fnv, ev_callL, ev_met, ev_disO, ev_dget, ev_din, ev_dget2, x_dset, dgetD, dinD, dget2D, isDicM, dsetD, sortedD, min1D, ev_pop, ev_ext, popD, extD, metR, pickH, tells, Pt.tell, showD, x_nm, x_tp, backs_f1, backs_d1, backs_d2, backs_d3, backs_d4, backs_d5, backs_d6, backs_nil, evB, evIf, evO, evAs, evDs, evI, evT, evRs, bnd, ok, op1, op2, view, views, tru, frzM, frz, keepA, unslot, slotOf, putA, putAs, putD, nxtO, augD, setiD, appD, retA, asgT, asgTs, blts, liftO, bltD, absD, maxD, minD, int1D, lenD, gcdD, isiD, blsD, intsD, anyD, allD, sumD, tupleD, listD, strD, reprD, keyB, binD, cmpO, cmpD, datB, negD, idxD, getD, ixD, slcD, tyD, D.isFn, D.truth, shp_non, shp_bl, shp_int, shp_str, shp_tup, shp_lst, shps_nil, shps_cons, D.eqv, D.eqvs, itemsD, rngD, zipO, enumO, intO, isND, doCall, lends, lendA, lentIx, backs, backS, maskS, mask1, e1]) (step (ρ1 := [.own true d1, .val false (.int z), .non, .non, .non, .non, .non]) (by simp [runF, MP.execs, ev_cst, ev_glb, ev_var, ev_tup, ev_lst, ev_dis0, ev_dis1, ev_bin, ev_neg, ev_boo, ev_not, ev_cmp, ev_chn, ev_chn3, ev_ite, ev_idx, ev_slc, ev_call, ev_blt, ev_isi, ev_lstI, x_par, x_aug, x_seti, x_app, x_expr, x_ife, x_ret, x_retN, x_pas, x_brk, x_cnt, x_rse0, x_rse1, ev_fnv, ev_callL, ev_met, ev_disO, ev_dget, ev_din, ev_dget2, x_dset, dgetD, dinD, dget2D, isDicM, dsetD, sortedD, min1D, ev_pop, ev_ext, popD, extD, metR, pickH, tells, Pt.tell, showD, x_nm, x_tp, backs_f1, backs_d1, backs_d2, backs_d3, backs_d4, backs_d5, backs_d6, backs_nil, evB, evIf, evO, evAs, evDs, evI, evT, evRs, bnd, ok, op1, op2, view, views, tru, frzM, frz, keepA, unslot, slotOf, putA, putAs, putD, nxtO, augD, setiD, appD, retA, asgT, asgTs, blts, liftO, bltD, absD, maxD, minD, int1D, lenD, gcdD, isiD, blsD, intsD, anyD, allD, sumD, tupleD, listD, strD, reprD, keyB, binD, cmpO, cmpD, datB, negD, idxD, getD, ixD, slcD, tyD, D.isFn, D.truth, shp_non, shp_bl, shp_int, shp_str, shp_tup, shp_lst, shps_nil, shps_cons, D.eqv, D.eqvs, itemsD, rngD, zipO, enumO, intO, isND, doCall, lends, lendA, lentIx, backs, backS, maskS, mask1, e2, e3, p1, p2]) (step (ρ1 := [.own true d1, .val false (.int z), .non, .non, .val false (.tup [.str "split", .int z]), .val false p, .non]) (by simp [runF, MP.execs, ev_cst, ev_glb, ev_var, ev_tup, ev_lst, ev_dis0, ev_dis1, ev_bin, ev_neg, ev_boo, ev_not, ev_cmp, ev_chn, ev_chn3, ev_ite, ev_idx, ev_slc, ev_call, ev_blt, ev_isi, ev_lstI, x_par, x_aug, x_seti, x_app, x_expr, x_ife, x_ret, x_retN, x_pas, x_brk, x_cnt, x_rse0, x_rse1, ev_fnv, ev_callL, ev_met, ev_disO, ev_dget, ev_din, ev_dget2, x_dset, dgetD, dinD, dget2D, isDicM, dsetD, sortedD, min1D, ev_pop, ev_ext, popD, extD, metR, pickH, tells, Pt.tell, showD, x_nm, x_tp, backs_f1, backs_d1, backs_d2, backs_d3, backs_d4, backs_d5, backs_d6, backs_nil, evB, evIf, evO, evAs, evDs, evI, evT, evRs, bnd, ok, op1, op2, view, views, tru, frzM, frz, keepA, unslot, slotOf, putA, putAs, putD, nxtO, augD, setiD, appD, retA, asgT, asgTs, blts, liftO, bltD, absD, maxD, minD, int1D, lenD, gcdD, isiD, blsD, intsD, anyD, allD, sumD, tupleD, listD, strD, reprD, keyB, binD, cmpO, cmpD, datB, negD, idxD, getD, ixD, slcD, tyD, D.isFn, D.truth, shp_non, shp_bl, shp_int, shp_str, shp_tup, shp_lst, shps_nil, shps_cons, D.eqv, D.eqvs, itemsD, rngD, zipO, enumO, intO, isND, doCall, lends, lendA, lentIx, backs, backS, maskS, mask1, hz, e3, e4, e5, q1, q2, q3, q4]) ht))
theorem e_right {d : D} {L : Int} (hd : Dice L d) (hL : L < 80000) : ∃ d', callN fns 6 24 [.own true d] = some (.ok (.dat (.bl true)), [.own true d']) ∧ Dice (L + 4) d' := by
  obtain ⟨N, d1, hN, hd1, e1⟩ := e_pdrawn hd (by omega)
  obtain ⟨b2, hb2, e2⟩ := e_isprime false hN
  obtain ⟨b3, hb3, e3⟩ := run_pr_is (P := fns) (i := 17) (j := 16) rfl rfl 3 false hN
  replace e3 : callN fns 5 17 _ = _ := e3
  have hbb : b3 = b2 := by
    rw [Bool.eq_iff_iff, hb2, hb3]
  subst hbb
  have fin : ∀ {ρ' : List MP.Slot}, MP.execs (callN fns 5) d_law_right.body [.own true d, .non, .non, .non, .non, .non, .non] = some (.ok (.ret (.dat (.bl true))), .own true d1 :: ρ') → callN fns 6 24 [.own true d] = some (.ok (.dat (.bl true)), [.own true d1]) := fun {ρ'} h => by
    rw [ran (P := fns) (n := 5) (f := 24) (fd := d_law_right) (args := [.own true d]) (ρ' := .own true d1 :: ρ') rfl rfl h]
    rfl
  refine ⟨d1, ?_, hd1⟩
  by_cases h2 : 2 ≤ N
  · rcases e_answer false h2 hN with ⟨hp, Ls, hL2, e4⟩ | ⟨hp, x, y, x1, y1, hxy, bx, byy, e4⟩
    · have hb : b3 = true := hb3.mpr hp
      subst hb
      have e5 := run_is_paper (P := fns) (i := 22) (ir := 21) (jpw := 18) (jtm := 19) (jw := 20) rfl rfl rfl rfl rfl 2 false false hL2 hN
      replace e5 : callN fns 5 22 _ = _ := e5
      obtain ⟨ρ', ht⟩ := e_tail hN (.own true d1) (.val false (.tup [.str "prime", .int N])) (.val false (.tup (Ls.map (·.2))))
      exact fin (r_prime (by omega) e1 e2 e3 e4 e5 ht)
    · have hb : b3 = false := by
        cases b3 with
        | true => exact absurd (hb3.mp rfl) hp
        | false => rfl
      subst hb
      have e5 := e_split false false x1 y1 hxy bx byy
      obtain ⟨ρ', ht⟩ := e_tail hN (.own true d1) (.val false (.tup [.str "split", .int N])) (.val false (.tup [.int x, .int y]))
      exact fin (r_split (by omega) e1 e2 e3 e4 e5 ht)
  · obtain ⟨ρ', ht⟩ := e_tail hN (.own true d1) .non .non
    exact fin (r_small (by omega) e1 e2 e3 ht)
end K04
set_option Elab.async false
set_option linter.all false
set_option maxRecDepth 100000
set_option maxHeartbeats 4000000
namespace K04
open PySem MP
def law_b2 (i_law_right : Nat) : Ss := (Ss.cons (S.ife (C.not_ (C.call i_law_right [true] (Cs.cons (C.var 3) Cs.nil))) (Ss.cons (S.ret (C.cst (D.bl false))) Ss.nil) Ss.nil) Ss.nil)
def law_b1 (i_law_right : Nat) (i_law_dice : Nat) : Ss := (Ss.cons (S.asg (Tg.nm 3) (C.call i_law_dice [false, false] (Cs.cons (C.var 0) (Cs.cons (C.var 1) Cs.nil)))) (Ss.cons (S.for_ (Tg.nm 4) (I.rng1 (C.cst (D.int 4))) (law_b2 i_law_right)) Ss.nil))
def law_e3 (i_is_prime : Nat) : C := (C.call i_is_prime [false] (Cs.cons (C.var 5) Cs.nil))
def F_law (i_next_prime : Nat) (i_is_prime : Nat) (i_law_pr_is_paper : Nat) (i_prime_answer : Nat) (i_law_right : Nat) (i_law_dice : Nat) : Fd := ⟨"law", 1, ["_law_script", "_law_spot", "_law_told", "_law_dice_here", "_law_turn", "_law_one"], (Ss.cons (S.for_ (Tg.nm 1) (I.rng1 (C.blt .max2 (Cs.cons (C.cst (D.int 1)) (Cs.cons (C.blt .min2 (Cs.cons (C.cst (D.int 3)) (Cs.cons (C.blt .len (Cs.cons (C.var 0) Cs.nil)) Cs.nil))) Cs.nil)))) (law_b1 i_law_right i_law_dice)) (Ss.cons (S.asg (Tg.nm 2) (C.lst (Cs.cons (C.idx (C.call i_prime_answer [false] (Cs.cons (C.cst (D.int 7)) Cs.nil)) (C.cst (D.int 0))) (Cs.cons (C.call i_prime_answer [false] (Cs.cons (C.cst (D.int 2)) Cs.nil)) (Cs.cons (C.idx (C.call i_prime_answer [false] (Cs.cons (C.cst (D.int 91)) Cs.nil)) (C.cst (D.int 0))) (Cs.cons (C.call i_prime_answer [false] (Cs.cons (C.cst (D.int 4)) Cs.nil)) (Cs.cons (C.call i_next_prime [false] (Cs.cons (C.cst (D.int 89)) Cs.nil)) (Cs.cons (C.call i_next_prime [false] (Cs.cons (C.cst (D.int 0)) Cs.nil)) Cs.nil)))))))) (Ss.cons (S.ife (C.cmp .ne (C.var 2) (C.lst (Cs.cons (C.tup (Cs.cons (C.cst (D.str "prime")) (Cs.cons (C.cst (D.int 7)) Cs.nil))) (Cs.cons (C.tup (Cs.cons (C.tup (Cs.cons (C.cst (D.str "prime")) (Cs.cons (C.cst (D.int 2)) Cs.nil))) (Cs.cons (C.tup Cs.nil) Cs.nil))) (Cs.cons (C.tup (Cs.cons (C.cst (D.str "split")) (Cs.cons (C.cst (D.int 91)) Cs.nil))) (Cs.cons (C.tup (Cs.cons (C.tup (Cs.cons (C.cst (D.str "split")) (Cs.cons (C.cst (D.int 4)) Cs.nil))) (Cs.cons (C.tup (Cs.cons (C.cst (D.int 2)) (Cs.cons (C.cst (D.int 2)) Cs.nil))) Cs.nil))) (Cs.cons (C.cst (D.int 97)) (Cs.cons (C.cst (D.int 2)) Cs.nil)))))))) (Ss.cons (S.ret (C.cst (D.bl false))) Ss.nil) Ss.nil) (Ss.cons (S.ife (C.boo false (Cs.cons (C.not_ (C.call i_law_pr_is_paper [false, false] (Cs.cons (C.cst (D.int 7)) (Cs.cons (C.tup (Cs.cons (C.tup (Cs.cons (C.cst (D.int 3)) (Cs.cons (C.cst (D.int 2)) (Cs.cons (C.tup (Cs.cons (C.tup (Cs.cons (C.cst (D.int 2)) (Cs.cons (C.cst (D.int 1)) Cs.nil))) Cs.nil)) Cs.nil)))) (Cs.cons (C.tup (Cs.cons (C.cst (D.int 7)) (Cs.cons (C.cst (D.int 3)) (Cs.cons (C.tup (Cs.cons (C.tup (Cs.cons (C.cst (D.int 2)) (Cs.cons (C.cst (D.int 1)) Cs.nil))) (Cs.cons (C.tup (Cs.cons (C.cst (D.int 3)) (Cs.cons (C.cst (D.int 1)) Cs.nil))) Cs.nil))) Cs.nil)))) Cs.nil))) Cs.nil)))) (Cs.cons (C.call i_law_pr_is_paper [false, false] (Cs.cons (C.cst (D.int 7)) (Cs.cons (C.tup (Cs.cons (C.tup (Cs.cons (C.cst (D.int 7)) (Cs.cons (C.cst (D.int 3)) (Cs.cons (C.tup (Cs.cons (C.tup (Cs.cons (C.cst (D.int 2)) (Cs.cons (C.cst (D.int 1)) Cs.nil))) (Cs.cons (C.tup (Cs.cons (C.cst (D.int 3)) (Cs.cons (C.cst (D.int 1)) Cs.nil))) Cs.nil))) Cs.nil)))) Cs.nil)) Cs.nil))) Cs.nil))) (Ss.cons (S.ret (C.cst (D.bl false))) Ss.nil) Ss.nil) (Ss.cons (S.ret (C.boo true (Cs.cons (C.cmp .eq (C.cmpr (law_e3 i_is_prime) (Tg.nm 5) (I.seq (C.tup (Cs.cons (C.cst (D.int 0)) (Cs.cons (C.cst (D.int 1)) (Cs.cons (C.cst (D.int 2)) (Cs.cons (C.cst (D.int 97)) (Cs.cons (C.cst (D.int 341)) Cs.nil))))))) CO.none [5]) (C.lst (Cs.cons (C.cst (D.bl false)) (Cs.cons (C.cst (D.bl false)) (Cs.cons (C.cst (D.bl true)) (Cs.cons (C.cst (D.bl true)) (Cs.cons (C.cst (D.bl false)) Cs.nil))))))) (Cs.cons (C.cmp .eq (C.call i_next_prime [false] (Cs.cons (C.bin .pow (C.cst (D.int 10)) (C.cst (D.int 8))) Cs.nil)) (C.cst (D.int 100000007))) Cs.nil)))) Ss.nil)))))⟩
theorem val_run {P : Nat → Option Fd} {w n f : Nat} {as : List MP.Slot} {d : D} (h : valB (callR P w n f as) d = true) : ∃ bs, callN P n f as = some (.ok (.dat d), bs) := by
  obtain ⟨bs, e⟩ := val_of h
  exact ⟨bs, callR_le P w n f _ _ e⟩
theorem v_a7 : ∃ bs, callN fns 6 12 [.val false (.int 7)] = some (.ok (.dat (.tup [.tup [.str "prime", .int 7], .tup [.tup [.int 3, .int 2, .tup [.tup [.int 2, .int 1]]], .tup [.int 7, .int 3, .tup [.tup [.int 2, .int 1], .tup [.int 3, .int 1]]]]])), bs) := val_run (w := 300) (by decide +kernel)
theorem v_a2 : ∃ bs, callN fns 6 12 [.val false (.int 2)] = some (.ok (.dat (.tup [.tup [.str "prime", .int 2], .tup []])), bs) := val_run (w := 300) (by decide +kernel)
theorem v_a91 : ∃ bs, callN fns 6 12 [.val false (.int 91)] = some (.ok (.dat (.tup [.tup [.str "split", .int 91], .tup [.int 7, .int 13]])), bs) := val_run (w := 300) (by decide +kernel)
theorem v_a4 : ∃ bs, callN fns 6 12 [.val false (.int 4)] = some (.ok (.dat (.tup [.tup [.str "split", .int 4], .tup [.int 2, .int 2]])), bs) := val_run (w := 300) (by decide +kernel)
theorem v_n89 : ∃ bs, callN fns 6 11 [.val false (.int 89)] = some (.ok (.dat (.int 97)), bs) := val_run (w := 300) (by decide +kernel)
theorem v_n0 : ∃ bs, callN fns 6 11 [.val false (.int 0)] = some (.ok (.dat (.int 2)), bs) := val_run (w := 300) (by decide +kernel)
theorem v_p1 : ∃ bs, callN fns 6 22 [.val false (.int 7), .val false (.tup [.tup [.int 3, .int 2, .tup [.tup [.int 2, .int 1]]], .tup [.int 7, .int 3, .tup [.tup [.int 2, .int 1], .tup [.int 3, .int 1]]]])] = some (.ok (.dat (.bl true)), bs) := val_run (w := 300) (by decide +kernel)
theorem v_p2 : ∃ bs, callN fns 6 22 [.val false (.int 7), .val false (.tup [.tup [.int 7, .int 3, .tup [.tup [.int 2, .int 1], .tup [.int 3, .int 1]]]])] = some (.ok (.dat (.bl false)), bs) := val_run (w := 300) (by decide +kernel)
theorem v_i0 : ∃ bs, callN fns 6 10 [.val false (.int 0)] = some (.ok (.dat (.bl false)), bs) := val_run (w := 300) (by decide +kernel)
theorem v_i1 : ∃ bs, callN fns 6 10 [.val false (.int 1)] = some (.ok (.dat (.bl false)), bs) := val_run (w := 300) (by decide +kernel)
theorem v_i2 : ∃ bs, callN fns 6 10 [.val false (.int 2)] = some (.ok (.dat (.bl true)), bs) := val_run (w := 300) (by decide +kernel)
theorem v_i97 : ∃ bs, callN fns 6 10 [.val false (.int 97)] = some (.ok (.dat (.bl true)), bs) := val_run (w := 300) (by decide +kernel)
theorem v_i341 : ∃ bs, callN fns 6 10 [.val false (.int 341)] = some (.ok (.dat (.bl false)), bs) := val_run (w := 300) (by decide +kernel)
/-! ### the prime behind 10 ** 8 -/
theorem pBig : Prm 100000007 := ((partsN_spec (w := 10001) (n := 100000007) (ps := [(100000007, 1)]) (by omega) (by omega) (by decide +kernel)).prime (100000007, 1) (List.mem_cons_self ..)).1
theorem nb {x e : Nat} (h : 2 ≤ e ∧ e < x ∧ x % e = 0) : ¬ Prm x := fun hp => hp.2 e h.1 h.2.1 (Nat.dvd_of_mod_eq_zero h.2.2)
theorem nc {f : Int} {s0 : MP.Slot} {b : Bool} (e : callN fns 5 4 [.val false (.int f)] = some (.ok (.dat (.bl b)), [.non])) : evT (callN fns 5) (C.not_ (C.call 4 [false] (Cs.cons (C.var 1) Cs.nil))) [s0, .val false (.int f)] = some (.ok (!b), [s0, .val false (.int f)]) := by
  simp [runF, MP.execs, ev_cst, ev_glb, ev_var, ev_tup, ev_lst, ev_dis0, ev_dis1, ev_bin, ev_neg, ev_boo, ev_not, ev_cmp, ev_chn, ev_chn3, ev_ite, ev_idx, ev_slc, ev_call, ev_blt, ev_isi, ev_lstI, x_par, x_aug, x_seti, x_app, x_expr, x_ife, x_ret, x_retN, x_pas, x_brk, x_cnt, x_rse0, x_rse1, ev_fnv, ev_callL, ev_met, ev_disO, ev_dget, ev_din, ev_dget2, x_dset, dgetD, dinD, dget2D, isDicM, dsetD, sortedD, min1D, ev_pop, ev_ext, popD, extD, metR, pickH, tells, Pt.tell, showD, x_nm, x_tp, backs_f1, backs_d1, backs_d2, backs_d3, backs_d4, backs_d5, backs_d6, backs_nil, evB, evIf, evO, evAs, evDs, evI, evT, evRs, bnd, ok, op1, op2, view, views, tru, frzM, frz, keepA, unslot, slotOf, putA, putAs, putD, nxtO, augD, setiD, appD, retA, asgT, asgTs, blts, liftO, bltD, absD, maxD, minD, int1D, lenD, gcdD, isiD, blsD, intsD, anyD, allD, sumD, tupleD, listD, strD, reprD, keyB, binD, cmpO, cmpD, datB, negD, idxD, getD, ixD, slcD, tyD, D.isFn, D.truth, shp_non, shp_bl, shp_int, shp_str, shp_tup, shp_lst, shps_nil, shps_cons, D.eqv, D.eqvs, itemsD, rngD, zipO, enumO, intO, isND, doCall, lends, lendA, lentIx, backs, backS, maskS, mask1, e]
theorem nbod {f g : Int} {s0 : MP.Slot} (h : f + 1 = g) : MP.execs (callN fns 5) (Ss.cons (S.aug 1 .add (C.cst (D.int 1))) Ss.nil) [s0, .val false (.int f)] = some (.ok .nxt, [s0, .val false (.int g)]) := by
  simp [runF, MP.execs, ev_cst, ev_glb, ev_var, ev_tup, ev_lst, ev_dis0, ev_dis1, ev_bin, ev_neg, ev_boo, ev_not, ev_cmp, ev_chn, ev_chn3, ev_ite, ev_idx, ev_slc, ev_call, ev_blt, ev_isi, ev_lstI, x_par, x_aug, x_seti, x_app, x_expr, x_ife, x_ret, x_retN, x_pas, x_brk, x_cnt, x_rse0, x_rse1, ev_fnv, ev_callL, ev_met, ev_disO, ev_dget, ev_din, ev_dget2, x_dset, dgetD, dinD, dget2D, isDicM, dsetD, sortedD, min1D, ev_pop, ev_ext, popD, extD, metR, pickH, tells, Pt.tell, showD, x_nm, x_tp, backs_f1, backs_d1, backs_d2, backs_d3, backs_d4, backs_d5, backs_d6, backs_nil, evB, evIf, evO, evAs, evDs, evI, evT, evRs, bnd, ok, op1, op2, view, views, tru, frzM, frz, keepA, unslot, slotOf, putA, putAs, putD, nxtO, augD, setiD, appD, retA, asgT, asgTs, blts, liftO, bltD, absD, maxD, minD, int1D, lenD, gcdD, isiD, blsD, intsD, anyD, allD, sumD, tupleD, listD, strD, reprD, keyB, binD, cmpO, cmpD, datB, negD, idxD, getD, ixD, slcD, tyD, D.isFn, D.truth, shp_non, shp_bl, shp_int, shp_str, shp_tup, shp_lst, shps_nil, shps_cons, D.eqv, D.eqvs, itemsD, rngD, zipO, enumO, intO, isND, doCall, lends, lendA, lentIx, backs, backS, maskS, mask1, h]
theorem nturn {s0 : MP.Slot} {x : Nat} (hx : x ≤ 100000007) (hn : ¬ Prm x) {r : MP.Flow × List MP.Slot} {g : Int} (hg : ((x : Int) + 1) = g) (t : whlM (evT (callN fns 5) (C.not_ (C.call 4 [false] (Cs.cons (C.var 1) Cs.nil)))) (fun ρ => MP.execs (callN fns 5) (Ss.cons (S.aug 1 .add (C.cst (D.int 1))) Ss.nil) ρ) [s0, .val false (.int g)] = some (.ok r.1, r.2)) :
    whlM (evT (callN fns 5) (C.not_ (C.call 4 [false] (Cs.cons (C.var 1) Cs.nil)))) (fun ρ => MP.execs (callN fns 5) (Ss.cons (S.aug 1 .add (C.cst (D.int 1))) Ss.nil) ρ) [s0, .val false (.int x)] = some (.ok r.1, r.2) := by
  obtain ⟨b, hb, e⟩ := run_ip (P := fns) (i := 4) (j := 3) rfl rfl 3 false (n := x) (by omega)
  have hb2 : b = false := by
    cases b with
    | true => exact absurd (hb.mp rfl) hn
    | false => rfl
  have c := nc (s0 := s0) e
  rw [hb2] at c
  exact whl_turn c (nbod hg) t
theorem nBig (t : Bool) : callN fns 6 11 [.val t (.int 100000000)] = some (.ok (.dat (.int 100000007)), [.non]) := by
  have w := e_reqw 2 (a := 100000000) (lo := 0) (hi := 100000000) (by omega) (by omega)
  obtain ⟨b, hb, e⟩ := run_ip (P := fns) (i := 4) (j := 3) rfl rfl 3 false (n := 100000007) (by omega)
  have c := nc (s0 := .val t (.int 100000000)) e
  rw [hb.mpr pBig] at c
  have h7 : whlM (evT (callN fns 5) (C.not_ (C.call 4 [false] (Cs.cons (C.var 1) Cs.nil)))) (fun ρ => MP.execs (callN fns 5) (Ss.cons (S.aug 1 .add (C.cst (D.int 1))) Ss.nil) ρ) [.val t (.int 100000000), .val false (.int 100000007)] = some (.ok .nxt, [.val t (.int 100000000), .val false (.int 100000007)]) := whl_stop c
  have h1 := nturn (x := 100000001) (by omega) (nb (e := 17) (by omega)) (g := 100000002) (by omega) (nturn (x := 100000002) (by omega) (nb (e := 2) (by omega)) (g := 100000003) (by omega) (nturn (x := 100000003) (by omega) (nb (e := 643) (by omega)) (g := 100000004) (by omega) (nturn (x := 100000004) (by omega) (nb (e := 2) (by omega)) (g := 100000005) (by omega)
    (nturn (x := 100000005) (by omega) (nb (e := 5) (by omega)) (g := 100000006) (by omega) (nturn (x := 100000006) (by omega) (nb (e := 2) (by omega)) (g := 100000007) (by omega) (r := (.nxt, _)) h7)))))
  have hx : MP.exec (callN fns 5) (S.whl (C.not_ (C.call 4 [false] (Cs.cons (C.var 1) Cs.nil))) (Ss.cons (S.aug 1 .add (C.cst (D.int 1))) Ss.nil)) [.val t (.int 100000000), .val false (.int 100000001)] = some (.ok .nxt, [.val t (.int 100000000), .val false (.int 100000007)]) := by rw [x_whl]; exact h1
  rw [callN]; simp [fns, d_next_prime, runF, MP.execs, ev_cst, ev_glb, ev_var, ev_tup, ev_lst, ev_dis0, ev_dis1, ev_bin, ev_neg, ev_boo, ev_not, ev_cmp, ev_chn, ev_chn3, ev_ite, ev_idx, ev_slc, ev_call, ev_blt, ev_isi, ev_lstI, x_par, x_aug, x_seti, x_app, x_expr, x_ife, x_ret, x_retN, x_pas, x_brk, x_cnt, x_rse0, x_rse1, ev_fnv, ev_callL, ev_met, ev_disO, ev_dget, ev_din, ev_dget2, x_dset, dgetD, dinD, dget2D, isDicM, dsetD, sortedD, min1D, ev_pop, ev_ext, popD, extD, metR, pickH, tells, Pt.tell, showD, x_nm, x_tp, backs_f1, backs_d1, backs_d2, backs_d3, backs_d4, backs_d5, backs_d6, backs_nil, evB, evIf, evO, evAs, evDs, evI, evT, evRs, bnd, ok, op1, op2, view, views, tru, frzM, frz, keepA, unslot, slotOf, putA, putAs, putD, nxtO, augD, setiD, appD, retA, asgT, asgTs, blts, liftO, bltD, absD, maxD, minD, int1D, lenD, gcdD, isiD, blsD, intsD, anyD, allD, sumD, tupleD, listD, strD, reprD, keyB, binD, cmpO, cmpD, datB, negD, idxD, getD, ixD, slcD, tyD, D.isFn, D.truth, shp_non, shp_bl, shp_int, shp_str, shp_tup, shp_lst, shps_nil, shps_cons, D.eqv, D.eqvs, itemsD, rngD, zipO, enumO, intO, isND, doCall, lends, lendA, lentIx, backs, backS, maskS, mask1, w, hx]
/-! ### the law -/
theorem e_turns (s0 s1 s2 s5 : MP.Slot) : ∀ (k : Nat) (lo : Int) (d : D) (L : Int) (s4 : MP.Slot), Dice L d → L + 4 * k < 60000 → ∃ d' x, forL (.nm 4) (fun ρ => MP.execs (callN fns 6) (law_b2 24) ρ) (intsL lo k) [s0, s1, s2, .own false d, s4, s5] = some (.ok .nxt, [s0, s1, s2, .own false d', x, s5]) := by
  intro k
  induction k with
  | zero => intro lo d L s4 hd hL; exact ⟨d, _, rfl⟩
  | succ k ih =>
    intro lo d L s4 hd hL
    obtain ⟨d1, e, hd1⟩ := e_right hd (by omega)
    obtain ⟨d', x', e'⟩ := ih (lo + 1) d1 (L + 4) (.val false (.int lo)) hd1 (by omega)
    refine ⟨d', x', ?_⟩
    rw [intsL, for_next (ρ1 := [s0, s1, s2, .own false d, .val false (.int lo), s5]) (ρ2 := [s0, s1, s2, .own false d1, .val false (.int lo), s5]) (by simp [asgT, putD]) (by simp [law_b2, runF, MP.execs, ev_cst, ev_glb, ev_var, ev_tup, ev_lst, ev_dis0, ev_dis1, ev_bin, ev_neg, ev_boo, ev_not, ev_cmp, ev_chn, ev_chn3, ev_ite, ev_idx, ev_slc, ev_call, ev_blt, ev_isi, ev_lstI, x_par, x_aug, x_seti, x_app, x_expr, x_ife, x_ret, x_retN, x_pas, x_brk, x_cnt, x_rse0, x_rse1, ev_fnv, ev_callL, ev_met, ev_disO, ev_dget, ev_din, ev_dget2, x_dset, dgetD, dinD, dget2D, isDicM, dsetD, sortedD, min1D, ev_pop, ev_ext, popD, extD, metR, pickH, tells, Pt.tell, showD, x_nm, x_tp, backs_f1, backs_d1, backs_d2, backs_d3, backs_d4, backs_d5, backs_d6, backs_nil, evB, evIf, evO, evAs, evDs, evI, evT, evRs, bnd, ok, op1, op2, view, views, tru, frzM, frz, keepA, unslot, slotOf, putA, putAs, putD, nxtO, augD, setiD, appD, retA, asgT, asgTs, blts, liftO, bltD, absD, maxD, minD, int1D, lenD, gcdD, isiD, blsD, intsD, anyD, allD, sumD, tupleD, listD, strD, reprD, keyB, binD, cmpO, cmpD, datB, negD, idxD, getD, ixD, slcD, tyD, D.isFn, D.truth, shp_non, shp_bl, shp_int, shp_str, shp_tup, shp_lst, shps_nil, shps_cons, D.eqv, D.eqvs, itemsD, rngD, zipO, enumO, intO, isND, doCall, lends, lendA, lentIx, backs, backS, maskS, mask1, e])]
    exact e'
theorem yes (ns : List Int) (hn : ns.length ≤ 63) : Yes tb 7 26 ns := by
  obtain ⟨ρ', e0, s1, s2, s3, s4, s5, rfl⟩ := spots_loop (callN fns 6) 3 (by omega) (by omega) ns hn 1 (law_b1 24 13)
    (fun ρ => ∃ s1 s2 s3 s4 s5, ρ = [.val false (.lst (ns.map .int)), s1, s2, s3, s4, s5]) (fun ρ ⟨s1, s2, s3, s4, s5, e⟩ => by subst e; exact ⟨by simp, _, rfl⟩)
    (fun k ρ hk ⟨s1, s2, s3, s4, s5, e⟩ => by
      subst e
      obtain ⟨d, e1, hd⟩ := run_dice (P := fns) (f := 13) rfl 5 false false ns k hk
      replace e1 : callN fns 6 13 _ = _ := e1
      obtain ⟨d', x, e2⟩ := e_turns (.val false (.lst (ns.map .int))) (.val false (.int k)) s2 s5 4 0 d 0 s4 hd (by omega)
      have hi : evI (callN fns 6) (I.rng1 (C.cst (D.int 4))) [.val false (.lst (ns.map .int)), .val false (.int k), s2, .own false d, s4, s5] = some (.ok (intsL 0 4), [.val false (.lst (ns.map .int)), .val false (.int k), s2, .own false d, s4, s5]) := by
        have h0 : smallI 0 = true := by decide
        have h4 : smallI 4 = true := by decide
        simp [runF, MP.execs, ev_cst, ev_glb, ev_var, ev_tup, ev_lst, ev_dis0, ev_dis1, ev_bin, ev_neg, ev_boo, ev_not, ev_cmp, ev_chn, ev_chn3, ev_ite, ev_idx, ev_slc, ev_call, ev_blt, ev_isi, ev_lstI, x_par, x_aug, x_seti, x_app, x_expr, x_ife, x_ret, x_retN, x_pas, x_brk, x_cnt, x_rse0, x_rse1, ev_fnv, ev_callL, ev_met, ev_disO, ev_dget, ev_din, ev_dget2, x_dset, dgetD, dinD, dget2D, isDicM, dsetD, sortedD, min1D, ev_pop, ev_ext, popD, extD, metR, pickH, tells, Pt.tell, showD, x_nm, x_tp, backs_f1, backs_d1, backs_d2, backs_d3, backs_d4, backs_d5, backs_d6, backs_nil, evB, evIf, evO, evAs, evDs, evI, evT, evRs, bnd, ok, op1, op2, view, views, tru, frzM, frz, keepA, unslot, slotOf, putA, putAs, putD, nxtO, augD, setiD, appD, retA, asgT, asgTs, blts, liftO, bltD, absD, maxD, minD, int1D, lenD, gcdD, isiD, blsD, intsD, anyD, allD, sumD, tupleD, listD, strD, reprD, keyB, binD, cmpO, cmpD, datB, negD, idxD, getD, ixD, slcD, tyD, D.isFn, D.truth, shp_non, shp_bl, shp_int, shp_str, shp_tup, shp_lst, shps_nil, shps_cons, D.eqv, D.eqvs, itemsD, rngD, zipO, enumO, intO, isND, doCall, lends, lendA, lentIx, backs, backS, maskS, mask1, rngD, h0, h4]
      have hx : MP.exec (callN fns 6) (S.for_ (Tg.nm 4) (I.rng1 (C.cst (D.int 4))) (law_b2 24)) [.val false (.lst (ns.map .int)), .val false (.int k), s2, .own false d, s4, s5] = some (.ok .nxt, [.val false (.lst (ns.map .int)), .val false (.int k), s2, .own false d', x, s5]) := by
        rw [x_for, hi]
        exact e2
      refine ⟨[.val false (.lst (ns.map .int)), .val false (.int k), s2, .own false d', x, s5], ?_, _, _, _, _, _, rfl⟩
      simp [law_b1, runF, MP.execs, ev_cst, ev_glb, ev_var, ev_tup, ev_lst, ev_dis0, ev_dis1, ev_bin, ev_neg, ev_boo, ev_not, ev_cmp, ev_chn, ev_chn3, ev_ite, ev_idx, ev_slc, ev_call, ev_blt, ev_isi, ev_lstI, x_par, x_aug, x_seti, x_app, x_expr, x_ife, x_ret, x_retN, x_pas, x_brk, x_cnt, x_rse0, x_rse1, ev_fnv, ev_callL, ev_met, ev_disO, ev_dget, ev_din, ev_dget2, x_dset, dgetD, dinD, dget2D, isDicM, dsetD, sortedD, min1D, ev_pop, ev_ext, popD, extD, metR, pickH, tells, Pt.tell, showD, x_nm, x_tp, backs_f1, backs_d1, backs_d2, backs_d3, backs_d4, backs_d5, backs_d6, backs_nil, evB, evIf, evO, evAs, evDs, evI, evT, evRs, bnd, ok, op1, op2, view, views, tru, frzM, frz, keepA, unslot, slotOf, putA, putAs, putD, nxtO, augD, setiD, appD, retA, asgT, asgTs, blts, liftO, bltD, absD, maxD, minD, int1D, lenD, gcdD, isiD, blsD, intsD, anyD, allD, sumD, tupleD, listD, strD, reprD, keyB, binD, cmpO, cmpD, datB, negD, idxD, getD, ixD, slcD, tyD, D.isFn, D.truth, shp_non, shp_bl, shp_int, shp_str, shp_tup, shp_lst, shps_nil, shps_cons, D.eqv, D.eqvs, itemsD, rngD, zipO, enumO, intO, isND, doCall, lends, lendA, lentIx, backs, backS, maskS, mask1, e1, hx])
    [.val false (.lst (ns.map .int)), .non, .non, .non, .non, .non] ⟨_, _, _, _, _, rfl⟩
  simp only [spotsI] at e0
  obtain ⟨b0, h0⟩ := v_a7
  obtain ⟨b1, h1⟩ := v_a2
  obtain ⟨b2, h2⟩ := v_a91
  obtain ⟨b3, h3⟩ := v_a4
  obtain ⟨b4, h4⟩ := v_n89
  obtain ⟨b5, h5⟩ := v_n0
  obtain ⟨b6, h6⟩ := v_p1
  obtain ⟨b7, h7⟩ := v_p2
  obtain ⟨b8, h8⟩ := v_i0
  obtain ⟨b9, h9⟩ := v_i1
  obtain ⟨b10, h10⟩ := v_i2
  obtain ⟨b11, h11⟩ := v_i97
  obtain ⟨b12, h12⟩ := v_i341
  have hB := nBig false
  have q1 : plainS "prime" = true := by decide +kernel
  have q2 : plainS "split" = true := by decide +kernel
  refine ⟨[.non], ?_⟩
  show callN fns 7 26 [.val false (.lst (ns.map .int))] = _
  rw [callN, show fns 26 = some (F_law 11 10 22 12 24 13) from rfl]
  simp [F_law, law_e3, runF, MP.execs, ev_cst, ev_glb, ev_var, ev_tup, ev_lst, ev_dis0, ev_dis1, ev_bin, ev_neg, ev_boo, ev_not, ev_cmp, ev_chn, ev_chn3, ev_ite, ev_idx, ev_slc, ev_call, ev_blt, ev_isi, ev_lstI, x_par, x_aug, x_seti, x_app, x_expr, x_ife, x_ret, x_retN, x_pas, x_brk, x_cnt, x_rse0, x_rse1, ev_fnv, ev_callL, ev_met, ev_disO, ev_dget, ev_din, ev_dget2, x_dset, dgetD, dinD, dget2D, isDicM, dsetD, sortedD, min1D, ev_pop, ev_ext, popD, extD, metR, pickH, tells, Pt.tell, showD, x_nm, x_tp, backs_f1, backs_d1, backs_d2, backs_d3, backs_d4, backs_d5, backs_d6, backs_nil, evB, evIf, evO, evAs, evDs, evI, evT, evRs, bnd, ok, op1, op2, view, views, tru, frzM, frz, keepA, unslot, slotOf, putA, putAs, putD, nxtO, augD, setiD, appD, retA, asgT, asgTs, blts, liftO, bltD, absD, maxD, minD, int1D, lenD, gcdD, isiD, blsD, intsD, anyD, allD, sumD, tupleD, listD, strD, reprD, keyB, binD, cmpO, cmpD, datB, negD, idxD, getD, ixD, slcD, tyD, D.isFn, D.truth, shp_non, shp_bl, shp_int, shp_str, shp_tup, shp_lst, shps_nil, shps_cons, D.eqv, D.eqvs, itemsD, rngD, zipO, enumO, intO, isND, doCall, lends, lendA, lentIx, backs, backS, maskS, mask1, ev_cmpr, compL, calm, wipeR, unwipe, e0, h0, h1, h2, h3, h4, h5, h6, h7, h8, h9, h10, h11, h12, hB, q1, q2]
end K04
set_option Elab.async false
set_option linter.all false
set_option maxRecDepth 100000
open PySem PySem.W PyProof.Rows
set_option maxHeartbeats 0 in
theorem PySem.Challenge.cw_zeroorone_k04_whole_primes_and_their_pap_holds : PySem.Challenge.rw_zeroorone_k04_whole_primes_and_their_pap.Holds := by
  w_on; o_law; k_head; (case hw => w_witness2)
  k_fill
  refine' MP.walk_mp (l := PySem.Challenge.rw_zeroorone_k04_whole_primes_and_their_pap) (m := 63) (n := 7) (f := 26) (tb := K04.tb) (lm := K04.lmN) (cs := []) (fd := K04.d_law) (tops := K04.tops) rfl (by decide) rfl ⟨rfl, by decide, by decide⟩ (fun w h Y => PySem.W.kIn_of Y) ?Y rfl rfl rfl ?T (fun ns hn => K04.yes ns hn)
  case T =>
    intro w mg h KX G
    refine' ⟨_, ?hT, K04.txt KX G ?a0 ?l0 ?c0 ?k0 ?a1 ?l1 ?c1 ?k1 ?a2 ?l2 ?c2 ?k2 ?a3 ?l3 ?c3 ?k3 ?a4 ?l4 ?c4 ?k4 ?a5 ?l5 ?c5 ?k5 ?a6 ?l6 ?c6 ?k6 ?a7 ?l7 ?c7 ?k7 ?a8 ?l8 ?c8 ?k8 ?a9 ?l9 ?c9 ?k9 ?a10 ?l10 ?c10 ?k10 ?a11 ?l11 ?c11 ?k11 ?a12 ?l12 ?c12 ?k12 ?a13 ?l13 ?c13 ?k13 ?a14 ?l14 ?c14 ?k14 ?a15 ?l15 ?c15 ?k15 ?a16 ?l16 ?c16 ?k16 ?a17 ?l17 ?c17 ?k17 ?a18 ?l18 ?c18 ?k18 ?a19 ?l19 ?c19 ?k19 ?a20 ?l20 ?c20 ?k20 ?a21 ?l21 ?c21 ?k21 ?a22 ?l22 ?c22 ?k22 ?a23 ?l23 ?c23 ?k23 ?a24 ?l24 ?c24 ?k24 ?a25 ?l25 ?c25 ?k25 ?a26 ?l26 ?c26 ?k26 ?i0 ?i1 ?b0 ?b1 ?b2 ?b3 ?b4 ?b5 ?b6 ?b7 ?b8 ?b9 ?b10 ?b11 ?b12 ?b13 ?b14 ?b15 ?b16 ?b17 ?b18 ?b19 ?x0⟩
    (case a0 => k_is); (case l0 => k_is); (case c0 => k_is); (case k0 => k_is); (case a1 => k_is); (case l1 => k_is); (case c1 => k_is); (case k1 => k_is)
    (case a2 => k_is); (case l2 => k_is); (case c2 => k_is); (case k2 => k_is); (case a3 => k_is); (case l3 => k_is); (case c3 => k_is); (case k3 => k_is)
    (case a4 => k_is); (case l4 => k_is); (case c4 => k_is); (case k4 => k_is); (case a5 => k_is); (case l5 => k_is); (case c5 => k_is); (case k5 => k_is)
    (case a6 => k_is); (case l6 => k_is); (case c6 => k_is); (case k6 => k_is); (case a7 => k_is); (case l7 => k_is); (case c7 => k_is); (case k7 => k_is)
    (case a8 => k_is); (case l8 => k_is); (case c8 => k_is); (case k8 => k_is); (case a9 => k_is); (case l9 => k_is); (case c9 => k_is); (case k9 => k_is)
    (case a10 => k_is); (case l10 => k_is); (case c10 => k_is); (case k10 => k_is); (case a11 => k_is); (case l11 => k_is); (case c11 => k_is); (case k11 => k_is)
    (case a12 => k_is); (case l12 => k_is); (case c12 => k_is); (case k12 => k_is); (case a13 => k_is); (case l13 => k_is); (case c13 => k_is); (case k13 => k_is)
    (case a14 => k_is); (case l14 => k_is); (case c14 => k_is); (case k14 => k_is); (case a15 => k_is); (case l15 => k_is); (case c15 => k_is); (case k15 => k_is)
    (case a16 => k_is); (case l16 => k_is); (case c16 => k_is); (case k16 => k_is); (case a17 => k_is); (case l17 => k_is); (case c17 => k_is); (case k17 => k_is)
    (case a18 => k_is); (case l18 => k_is); (case c18 => k_is); (case k18 => k_is); (case a19 => k_is); (case l19 => k_is); (case c19 => k_is); (case k19 => k_is)
    (case a20 => k_is); (case l20 => k_is); (case c20 => k_is); (case k20 => k_is); (case a21 => k_is); (case l21 => k_is); (case c21 => k_is); (case k21 => k_is)
    (case a22 => k_is); (case l22 => k_is); (case c22 => k_is); (case k22 => k_is); (case a23 => k_is); (case l23 => k_is); (case c23 => k_is); (case k23 => k_is)
    (case a24 => k_is); (case l24 => k_is); (case c24 => k_is); (case k24 => k_is); (case a25 => k_is); (case l25 => k_is); (case c25 => k_is); (case k25 => k_is)
    (case a26 => k_is); (case l26 => k_is); (case c26 => k_is); (case k26 => k_is); (case i0 => k_is); (case i1 => k_is); (case b0 => k_is); (case b1 => k_is)
    (case b2 => k_is); (case b3 => k_is); (case b4 => k_is); (case b5 => k_is); (case b6 => k_is); (case b7 => k_is); (case b8 => k_is); (case b9 => k_is)
    (case b10 => k_is); (case b11 => k_is); (case b12 => k_is); (case b13 => k_is); (case b14 => k_is); (case b15 => k_is); (case b16 => k_is); (case b17 => k_is)
    (case b18 => k_is); (case b19 => k_is)
    case x0 => (refine' MP.cls_init KX G MP.xb_index (by decide) (by decide +kernel) (by decide +kernel) (by decide +kernel) (by decide +kernel) (fun _ _ _ _ _ _ _ _ _ _ _ _ _ _ _ _ _ _ _ _ _ _ _ _ => rfl) (fun _ _ => rfl) (fun _ _ => rfl) (by decide +kernel) ?a ?k ?e ?t ?fi ?ft ?fl ?fc ?lc ?lcc ?vf ?hf ?ln ?xC ?oC ?sa ?xf ?noN ?tk ?sup ?sB ?opq ?sub ?supG; (case a => k_is); (case k => k_is); (case e => k_is); (case t => k_is); (case fi => k_is); (case ft => k_is); (case fl => k_is); (case fc => k_is); (case lc => k_is); (case lcc => k_is); (case vf => exact rfl); (case hf => decide); (case ln => exact rfl); (case xC => kernel_rfl); (case oC => kernel_rfl); (case sa => k_is); (case xf => kernel_rfl); (case noN => k_is); (case tk => k_is); (case sup => kernel_rfl); (case sB => k_is); (case opq => k_is); (case sub => k_is); (case supG => k_is))
    case hT => intro q hq; first | (cases hq; done) | simp at hq
  case Y =>
    intro w h Y
    exact fun p hp => nomatch hp
