import PyProof.Rows.All
import Wide.All
import OpenK.AllK
import Wide.FinOn
import HandS.ForMost
import HandS.ForExc
import HandS.ExcOwn
import HandS.Wide
import HandS.WideMore
import HandS.Gcd
import HandS.IsInst
import HandS.Flow
import HandS.Style
import HandS.TupAny
import HandS.Conv
import HandS.Zip
import HandS.More
import HandS.Dict
import HandS.WordsExc
import HandS.Codes
import PySem.Challenge.RW_zeroorone_k00_whole_numbers_of_a_ground
set_option linter.all false
/-! MP: a small functional Python over data. -/
namespace MP
open PySem

/-- data -/
inductive D where
  | non | bl (b : Bool) | int (i : Int) | str (s : Str)
  | tup (xs : List D) | lst (xs : List D) | dic (ks : List D) (vs : List D)

/-- a name's slot: nothing known; shared data; data that this frame alone holds (a list that may be changed). The flag: it stands since the entry -/
inductive Slot where
  | non | val (t : Bool) (d : D) | own (t : Bool) (d : D)
abbrev Env := List Slot
/-- a result: shared data, a new list that nobody else holds, or the slot of a name whose list is its own -/
inductive A where
  | dat (d : D) | frs (d : D) | slot (i : Nat)
/-- an exception: the class's number, what it keeps -/
structure Ex where
  cls : Nat
  arg : Option D
abbrev Mr (α : Type) := Option (Except Ex α × Env)
def ok {α : Type} (a : α) (ρ : Env) : Mr α := some (.ok a, ρ)
def bnd {α β : Type} (m : Mr α) (f : α → Env → Mr β) : Mr β :=
  match m with
  | none => none
  | some (.error x, ρ) => some (.error x, ρ)
  | some (.ok a, ρ) => f a ρ

/-! ### data -/
mutual
def D.eqv : D → D → Bool
  | .non, .non => true
  | .bl a, .bl b => a == b
  | .bl a, .int j => (if a then 1 else 0) == j
  | .int i, .bl b => i == (if b then 1 else 0)
  | .int i, .int j => i == j
  | .str x, .str y => x == y
  | .lst xs, .lst ys => D.eqvs xs ys
  | .tup xs, .tup ys => D.eqvs xs ys
  | _, _ => false
def D.eqvs : List D → List D → Bool
  | [], [] => true
  | x :: xs, y :: ys => D.eqv x y && D.eqvs xs ys
  | _, _ => false
end
mutual
/-- data that == is told of: no dict within, short texts, not deep -/
def D.shp : Nat → D → Bool
  | _, .non => true
  | _, .bl _ => true
  | _, .int _ => true
  | _, .str x => x.cps.all (· < 1114112)
  | k + 1, .tup xs => D.shps k xs
  | k + 1, .lst xs => D.shps k xs
  | _, _ => false
def D.shps : Nat → List D → Bool
  | _, [] => true
  | k, x :: xs => D.shp k x && D.shps k xs
end
def D.truth : D → Option Bool
  | .non => some false
  | .bl b => some b
  | .int i => some (i != 0)
  | .str x => if x.cps.size ≤ 1000 then some ((x.cps.size : Int) != 0) else none
  | .tup xs => some (!xs.isEmpty)
  | .lst xs => some (!xs.isEmpty)
  | .dic _ _ => none
def D.flat : D → Bool
  | .non => true | .bl _ => true | .int _ => true | .str _ => true | _ => false

inductive BOp where
  | add | sub | mul | fdiv | mod | pow | shl | shr | band
  deriving DecidableEq
inductive COp where
  | eq | ne | lt | le | gt | ge | isN | notN | in_ | notIn
  deriving DecidableEq
inductive Ty where
  | int | bool | str | tuple | list | dict
  deriving DecidableEq
inductive Blt where
  | abs | max2 | min2 | int1 | len | gcd | any | all | sum | tuple | list | str1 | repr1 | bool1
  deriving DecidableEq

def bits (i : Int) : Nat := i.natAbs.log2
/-- a op b -/
def binD : BOp → D → D → Option A
  | .add, .int i, .int j => some (.dat (.int (i + j)))
  | .add, .tup xs, .tup ys => if xs.length + ys.length ≤ 16777216 then some (.dat (.tup (xs ++ ys))) else none
  | .add, .lst xs, .lst ys => if xs.length + ys.length ≤ 16777216 then some (.frs (.lst (xs ++ ys))) else none
  | .sub, .int i, .int j => some (.dat (.int (i - j)))
  | .mul, .int i, .int j => if bits i + bits j < 1000000 then some (.dat (.int (i * j))) else none
  | .fdiv, .int i, .int j => if j ≠ 0 ∧ bits j < 9000 then some (.dat (.int (i.fdiv j))) else none
  | .mod, .int i, .int j => if j ≠ 0 then some (.dat (.int (i.fmod j))) else none
  | .pow, .int i, .int j => if 0 ≤ j ∧ j ≤ 1000000 ∧ i.natAbs < 2 ^ 64 then some (.dat (.int (i ^ j.toNat))) else none
  | _, _, _ => none
/-- the index's place -/
def ixD (n : Nat) (i : Int) : Option Nat := if 0 ≤ i then (if i < n then some i.toNat else none) else if -(n : Int) ≤ i then some (i + n).toNat else none
def getD (x : D) (i : Int) : Option D :=
  match x with
  | .tup xs => (ixD xs.length i).bind fun j => xs[j]?
  | .lst xs => (ixD xs.length i).bind fun j => xs[j]?
  | _ => none
def cmpD : COp → D → D → Option Bool
  | .eq, x, y => if x.shp 12 && y.shp 12 then some (x.eqv y) else none
  | .ne, x, y => if x.shp 12 && y.shp 12 then some (!x.eqv y) else none
  | .lt, .int i, .int j => some (decide (i < j))
  | .le, .int i, .int j => some (decide (i ≤ j))
  | .gt, .int i, .int j => some (decide (j < i))
  | .ge, .int i, .int j => some (decide (j ≤ i))
  | _, _, _ => none
def isND (x : D) : Bool := match x with | .non => true | _ => false
def inD (x : D) : D → Option Bool
  | .lst ys => if x.flat && ys.all D.flat then some (ys.any fun y => y.eqv x) else none
  | .tup ys => if x.flat && ys.all D.flat then some (ys.any fun y => y.eqv x) else none
  | _ => none
def tyD : D → Ty → Bool
  | .bl _, .bool => true
  | .bl _, .int => true
  | .int _, .int => true
  | .str _, .str => true
  | .tup _, .tuple => true
  | .lst _, .list => true
  | .dic _ _, .dict => true
  | _, _ => false
def blsD : List D → Option (List Bool)
  | [] => some []
  | .bl b :: r => (blsD r).map (b :: ·)
  | _ => none
def intsD : List D → Option (List Int)
  | [] => some []
  | .int i :: r => (intsD r).map (i :: ·)
  | _ => none
def absD : List D → Option A
  | [.int i] => some (.dat (.int (if i < 0 then -i else i)))
  | _ => none
def maxD : List D → Option A
  | [.int i, .int j] => some (.dat (.int (if j > i then j else i)))
  | _ => none
def minD : List D → Option A
  | [.int i, .int j] => some (.dat (.int (if j < i then j else i)))
  | _ => none
def int1D : List D → Option A
  | [.int i] => some (.dat (.int i))
  | [.bl b] => some (.dat (.int (if b then 1 else 0)))
  | _ => none
def lenD : List D → Option A
  | [.tup xs] => some (.dat (.int xs.length))
  | [.lst xs] => some (.dat (.int xs.length))
  | _ => none
def gcdD : List D → Option A
  | [.int i, .int j] => some (.dat (.int (Nat.gcd i.natAbs j.natAbs : Nat)))
  | _ => none
def isiD (ts : List Ty) (x : D) : Option A := some (.dat (.bl (ts.any (tyD x))))
def anyD : List D → Option A
  | [.lst xs] => match blsD xs with
    | some bs => some (.dat (.bl (bs.any id)))
    | none => none
  | _ => none
def allD : List D → Option A
  | [.lst xs] => match blsD xs with
    | some bs => some (.dat (.bl (bs.all id)))
    | none => none
  | _ => none
def sumD : List D → Option A
  | [.lst xs] => match intsD xs with
    | some bs => some (.dat (.int bs.sum))
    | none => none
  | _ => none
def tupleD : List D → Option A
  | [.lst xs] => some (.dat (.tup xs))
  | [.tup xs] => some (.dat (.tup xs))
  | _ => none
def listD : List D → Option A
  | [.lst xs] => some (.frs (.lst xs))
  | [.tup xs] => some (.frs (.lst xs))
  | _ => none
def boolS (b : Bool) : Str := if b then "True" else "False"
def strD : List D → Option A
  | [.int i] => if bits i < 1920 then some (.dat (.str ((toString i : String) : Str))) else none
  | [.bl b] => some (.dat (.str (boolS b)))
  | [.str x] => some (.dat (.str x))
  | _ => none
def reprD : List D → Option A
  | [.int i] => if bits i < 1920 then some (.dat (.str ((toString i : String) : Str))) else none
  | [.bl b] => some (.dat (.str (boolS b)))
  | _ => none
def keyB : D → Bool
  | .int _ => true | .str _ => true | _ => false
def bltD : Blt → List D → Option A
  | .abs => absD | .max2 => maxD | .min2 => minD | .int1 => int1D | .len => lenD | .gcd => gcdD | .any => anyD | .all => allD | .sum => sumD | .tuple => tupleD | .list => listD | .str1 => strD | .repr1 => reprD
  | _ => fun _ => none

/-! ### core syntax -/
mutual
inductive Tg where
  | nm (i : Nat) | tp (ts : Tgs)
inductive Tgs where
  | nil | cons (t : Tg) (ts : Tgs)
end
mutual
inductive C where
  | cst (d : D)
  | var (i : Nat)
  | glb (x : Str) (d : D)
  | tup (es : Cs) | lst (es : Cs)
  | dis0 | dis1 (k v : C)
  | bin (op : BOp) (a b : C)
  | neg (a : C)
  | boo (k : Bool) (es : Cs) | not_ (a : C)
  | cmp (op : COp) (a b : C)
  | chn (op op' : COp) (a b c : C)
  | ite (c a b : C)
  | idx (a i : C)
  | slc (a : C) (lo hi : CO)
  | call (f : Nat) (fl : List Bool) (es : Cs)
  | blt (f : Blt) (es : Cs)
  | isi (ts : List Ty) (e : C)
  | lstI (it : I)
  | cmpr (elt : C) (tg : Tg) (it : I) (ifs : CO) (own : List Nat)
inductive Cs where
  | nil | cons (e : C) (es : Cs)
inductive CO where
  | none | some (e : C)
inductive I where
  | seq (e : C) | rng1 (a : C) | rng2 (a b : C) | rng3 (a b c : C) | enum (e : C) | zip (a b : C)
end
mutual
inductive S where
  | asg (tg : Tg) (e : C)
  | par (is : List Nat) (es : Cs)
  | aug (i : Nat) (op : BOp) (e : C)
  | seti (i : Nat) (ix e : C)
  | app (i : Nat) (e : C)
  | expr (e : C)
  | ife (c : C) (a b : Ss)
  | for_ (tg : Tg) (it : I) (b : Ss)
  | whl (c : C) (b : Ss)
  | ret (e : C) | retN | pas | brk | cnt
  | rse (k : Nat) (e : CO)
inductive Ss where
  | nil | cons (s : S) (ss : Ss)
end
inductive Flow where
  | nxt | brk | cnt | ret (r : A)

/-! ### states -/
def putD (i : Nat) (d : D) (ρ : Env) : Option Env := if i < ρ.length then some (ρ.set i (.val false d)) else none
/-- a result made shared -/
def frz (a : A) (ρ : Env) : Option (D × Env) :=
  match a with
  | .dat d => some (d, ρ)
  | .frs d => some (d, ρ)
  | .slot i => match ρ[i]? with
    | some (.val _ d) => some (d, ρ)
    | some (.own t d) => some (d, ρ.set i (.val t d))
    | _ => none
/-- a result looked at -/
def view (a : A) (ρ : Env) : Option D :=
  match a with
  | .dat d => some d
  | .frs d => some d
  | .slot i => match ρ[i]? with
    | some (.val _ d) => some d
    | some (.own _ d) => some d
    | _ => none
def views : List A → Env → Option (List D)
  | [], _ => some []
  | a :: as, ρ => match view a ρ, views as ρ with
    | some d, some ds => some (d :: ds)
    | _, _ => none
mutual
def asgT : Tg → D → Env → Option Env
  | .nm i, d, ρ => putD i d ρ
  | .tp ts, .tup ds, ρ => asgTs ts ds ρ
  | .tp _, _, _ => none
def asgTs : Tgs → List D → Env → Option Env
  | .nil, [], ρ => some ρ
  | .cons t ts, d :: ds, ρ => match asgT t d ρ with
    | some ρ' => asgTs ts ds ρ'
    | none => none
  | _, _, _ => none
end
/-- what a call hands on -/
def lendA (ρ : Env) : A → Slot
  | .dat d => .val false d
  | .frs d => .own false d
  | .slot i => match ρ[i]? with
    | some (.val _ d) => .val false d
    | some (.own _ d) => .own true d
    | _ => .non
def lends (ρ : Env) (as : List A) : List Slot := as.map (lendA ρ)
/-- the slots that are lent -/
def lentIx (ρ : Env) : List A → List Nat
  | [] => []
  | .slot i :: as => match ρ[i]? with
    | some (.own _ _) => i :: lentIx ρ as
    | _ => lentIx ρ as
  | _ :: as => lentIx ρ as
def backS (t : Bool) : Slot → Slot
  | .own true d => .own t d
  | .val true d => .val t d
  | _ => .non
/-- back from a call -/
def backs : List A → List Slot → Env → Env
  | .slot i :: as, b :: bs, ρ => match ρ[i]? with
    | some (.own t _) => backs as bs (ρ.set i (backS t b))
    | _ => backs as bs ρ
  | _ :: as, _ :: bs, ρ => backs as bs ρ
  | _, _, ρ => ρ
abbrev Out := Option (Except Ex A × List Slot)
def doCall (call : Nat → List Slot → Out) (f : Nat) (as : List A) (ρ : Env) : Mr A :=
  if (lentIx ρ as).Nodup then
    match call f (lends ρ as) with
    | none => none
    | some (.ok (.slot _), _) => none
    | some (r, bs) => some (r, backs as bs ρ)
  else none
/-- the slots of a comprehension's own names, hidden -/
def wipeR (ρ : Env) : List Nat → Env
  | [] => ρ
  | v :: vs => (wipeR ρ vs).set v .non
/-- .. as they were -/
def unwipe (ρ ρ' : Env) : List Nat → Env
  | [] => ρ'
  | v :: vs => (unwipe ρ ρ' vs).set v (ρ[v]?.getD .non)
def cutD (xs : List D) (lo hi : Option Int) : List D :=
  let n := xs.length
  let ix (d : Nat) : Option Int → Nat := fun o => match o with
    | none => d
    | some v => if v < 0 then (v + (n : Int)).toNat else min v.toNat n
  (xs.drop (ix 0 lo)).take (ix n hi - ix 0 lo)
def intsL (lo : Int) : Nat → List D
  | 0 => []
  | n + 1 => .int lo :: intsL (lo + 1) n
def enumD (i : Nat) : List D → List D
  | [] => []
  | x :: xs => .tup [.int i, x] :: enumD (i + 1) xs
def zipD : List D → List D → List D
  | x :: xs, y :: ys => .tup [x, y] :: zipD xs ys
  | _, _ => []
def smallI (i : Int) : Bool := decide (-(2 ^ 62) ≤ i ∧ i < 2 ^ 62)

def op2 (f : D → D → Option A) (x y : A) (ρ : Env) : Mr A :=
  match view x ρ, view y ρ with
  | some dx, some dy => match f dx dy with
    | some r => ok r ρ
    | none => none
  | _, _ => none
def op1 (f : D → Option A) (x : A) (ρ : Env) : Mr A :=
  match view x ρ with
  | some dx => match f dx with
    | some r => ok r ρ
    | none => none
  | _ => none
/-- a result's truth -/
def tru (x : A) (ρ : Env) : Mr Bool :=
  match view x ρ with
  | some d => match d.truth with
    | some k => ok k ρ
    | none => none
  | none => none
def frzM (a : A) (ρ : Env) : Mr D :=
  match frz a ρ with
  | some (d, ρ') => ok d ρ'
  | none => none
def keepA : Bool → A → Env → Mr A
  | true, a, ρ => ok a ρ
  | false, a, ρ => bnd (frzM a ρ) fun d ρ => ok (.dat d) ρ
/-- a for's turns -/
def forL (tg : Tg) (b : Env → Mr Flow) : List D → Env → Mr Flow
  | [], ρ => ok .nxt ρ
  | d :: ds, ρ => match asgT tg d ρ with
    | none => none
    | some ρ1 => bnd (b ρ1) fun f ρ2 => match f with
      | .nxt => forL tg b ds ρ2
      | .cnt => forL tg b ds ρ2
      | .brk => ok .nxt ρ2
      | .ret r => ok (.ret r) ρ2
/-- in a comprehension nothing is raised -/
def calm {α : Type} (m : Mr α) : Mr α := match m with
  | some (.ok a, ρ) => some (.ok a, ρ)
  | _ => none
/-- a comprehension's turns -/
def compL (own : List Nat) (tg : Tg) (t : Env → Mr Bool) (e : Env → Mr D) : List D → Env → Mr (List D)
  | [], ρ => ok [] ρ
  | d :: ds, ρ => match asgT tg d (wipeR ρ own) with
    | none => none
    | some ρ1 => bnd (t ρ1) fun k ρ2 => if k = true then bnd (e ρ2) fun x ρ3 => bnd (compL own tg t e ds ρ3) fun xs ρ4 => ok (x :: xs) ρ4 else compL own tg t e ds ρ2
/-- a while's turns, n at most -/
def whlN (c : Env → Mr Bool) (b : Env → Mr Flow) : Nat → Env → Mr Flow
  | 0, _ => none
  | n + 1, ρ => bnd (c ρ) fun k ρ1 => if k = true then bnd (b ρ1) fun f ρ2 => match f with
      | .nxt => whlN c b n ρ2
      | .cnt => whlN c b n ρ2
      | .brk => ok .nxt ρ2
      | .ret r => ok (.ret r) ρ2
    else ok .nxt ρ1
open Classical in
noncomputable def whlM (c : Env → Mr Bool) (b : Env → Mr Flow) (ρ : Env) : Mr Flow :=
  if h : ∃ n r, whlN c b n ρ = some r then some (choose (choose_spec h)) else none

def cmpO (op : COp) (x y : D) : Option Bool := match op with
  | .isN => match y with
    | .non => some (isND x)
    | _ => none
  | .notN => match y with
    | .non => some (!isND x)
    | _ => none
  | .in_ => inD x y
  | .notIn => (inD x y).map (! ·)
  | op => cmpD op x y
def datB (o : Option Bool) : Option A := o.map fun k => .dat (.bl k)
def negD : D → Option A
  | .int i => some (.dat (.int (-i)))
  | _ => none
def idxD (x y : D) : Option A := match y with
  | .int k => (getD x k).map .dat
  | _ => none
def slcD (l h : Option Int) : D → Option A
  | .tup xs => some (.dat (.tup (cutD xs l h)))
  | .lst xs => some (.frs (.lst (cutD xs l h)))
  | _ => none
def itemsD : D → Option (List D)
  | .tup xs => some xs
  | .lst xs => some xs
  | _ => none
def liftO {α : Type} (o : Option α) (ρ : Env) : Mr α := match o with
  | some a => ok a ρ
  | none => none
def blts (f : Blt) (as : List A) (ρ : Env) : Mr A := match views as ρ with
  | some ds => liftO (bltD f ds) ρ
  | none => none
def rngD (x y : A) (ρ : Env) : Mr (List D) := match view x ρ, view y ρ with
  | some (.int i), some (.int j) => if smallI i && smallI j then ok (intsL i (j - i).toNat) ρ else none
  | _, _ => none
def zipO (x y : D) : Option (List D) := match x, y with
  | .tup xs, .tup ys => some (zipD xs ys)
  | .lst xs, .lst ys => some (zipD xs ys)
  | _, _ => none
def enumO (x : D) : Option (List D) := match x with
  | .lst xs => some (enumD 0 xs)
  | _ => none
def intO (x : A) (ρ : Env) : Mr (Option Int) := match view x ρ with
  | some (.int i) => ok (some i) ρ
  | _ => none

/-! ### the evaluator -/
section
variable (call : Nat → List Slot → Out)
mutual
def ev : C → Env → Mr A
  | .cst d, ρ => ok (.dat d) ρ
  | .glb _ d, ρ => ok (.dat d) ρ
  | .var i, ρ => match ρ[i]? with
    | some (.val _ d) => ok (.dat d) ρ
    | some (.own _ _) => ok (.slot i) ρ
    | _ => none
  | .tup es, ρ => bnd (evDs es ρ) fun ds ρ => ok (.dat (.tup ds)) ρ
  | .lst es, ρ => bnd (evDs es ρ) fun ds ρ => ok (.frs (.lst ds)) ρ
  | .dis0, ρ => ok (.dat (.dic [] [])) ρ
  | .dis1 k v, ρ => bnd (bnd (ev k ρ) frzM) fun x ρ => bnd (bnd (ev v ρ) frzM) fun y ρ => if keyB x = true then ok (.dat (.dic [x] [y])) ρ else none
  | .bin op a b, ρ => bnd (ev a ρ) fun x ρ => bnd (ev b ρ) fun y ρ => op2 (binD op) x y ρ
  | .neg a, ρ => bnd (ev a ρ) fun x ρ => op1 negD x ρ
  | .boo k es, ρ => evB k es ρ
  | .not_ a, ρ => bnd (ev a ρ) fun x ρ => bnd (tru x ρ) fun k ρ => ok (.dat (.bl (!k))) ρ
  | .cmp op a b, ρ => bnd (ev a ρ) fun x ρ => bnd (ev b ρ) fun y ρ => op2 (fun x y => datB (cmpO op x y)) x y ρ
  | .chn op op' a b c, ρ => bnd (ev a ρ) fun x ρ => bnd (ev b ρ) fun y ρ => bnd (op2 (fun x y => datB (cmpO op x y)) x y ρ) fun z ρ => bnd (tru z ρ) fun k ρ =>
      if k = true then bnd (ev c ρ) fun z ρ => op2 (fun x y => datB (cmpO op' x y)) y z ρ else ok (.dat (.bl false)) ρ
  | .ite c a b, ρ => bnd (ev c ρ) fun x ρ => bnd (tru x ρ) fun k ρ => if k = true then ev a ρ else ev b ρ
  | .idx a i, ρ => bnd (ev a ρ) fun x ρ => bnd (ev i ρ) fun y ρ => op2 idxD x y ρ
  | .slc a lo hi, ρ => bnd (ev a ρ) fun x ρ => bnd (evO lo ρ) fun l ρ => bnd (evO hi ρ) fun h ρ => op1 (slcD l h) x ρ
  | .call f fl es, ρ => bnd (evAs fl es ρ) fun as ρ => doCall call f as ρ
  | .blt f es, ρ => bnd (evAs [] es ρ) fun as ρ => blts f as ρ
  | .isi ts e, ρ => bnd (ev e ρ) fun x ρ => op1 (isiD ts) x ρ
  | .lstI it, ρ => bnd (evI it ρ) fun ds ρ => if ds.length ≤ 16777216 then ok (.frs (.lst ds)) ρ else none
  | .cmpr elt tg it ifs own, ρ => bnd (evI it ρ) fun ds ρ1 => if ds.length ≤ 16777216 then
      bnd (calm (compL own tg (fun ρ => evIf ifs ρ) (fun ρ => bnd (ev elt ρ) frzM) ds ρ1)) fun xs ρ2 => ok (.frs (.lst xs)) (unwipe ρ1 ρ2 own)
      else none
def evB : Bool → Cs → Env → Mr A
  | _, .nil, _ => none
  | k, .cons e es, ρ => bnd (ev e ρ) fun x ρ => match es with
    | .nil => ok x ρ
    | .cons _ _ => bnd (tru x ρ) fun t ρ => if t = k then evB k es ρ else ok x ρ
def evIf : CO → Env → Mr Bool
  | .none, ρ => ok true ρ
  | .some c, ρ => bnd (ev c ρ) tru
def evO : CO → Env → Mr (Option Int)
  | .none, ρ => ok none ρ
  | .some e, ρ => bnd (ev e ρ) intO
def evAs : List Bool → Cs → Env → Mr (List A)
  | _, .nil, ρ => ok [] ρ
  | fl, .cons e es, ρ => bnd (bnd (ev e ρ) (keepA (fl.headD true))) fun x ρ => bnd (evAs fl.tail es ρ) fun xs ρ => ok (x :: xs) ρ
def evDs : Cs → Env → Mr (List D)
  | .nil, ρ => ok [] ρ
  | .cons e es, ρ => bnd (bnd (ev e ρ) frzM) fun x ρ => bnd (evDs es ρ) fun xs ρ => ok (x :: xs) ρ
def evI : I → Env → Mr (List D)
  | .seq e, ρ => bnd (bnd (ev e ρ) frzM) fun d ρ => liftO (itemsD d) ρ
  | .rng1 a, ρ => bnd (ev a ρ) fun x ρ => rngD (.dat (.int 0)) x ρ
  | .rng2 a b, ρ => bnd (ev a ρ) fun x ρ => bnd (ev b ρ) fun y ρ => rngD x y ρ
  | .rng3 a b c, ρ => none
  | .enum e, ρ => bnd (bnd (ev e ρ) frzM) fun d ρ => liftO (enumO d) ρ
  | .zip a b, ρ => bnd (bnd (ev a ρ) frzM) fun x ρ => bnd (bnd (ev b ρ) frzM) fun y ρ => liftO (zipO x y) ρ
end
def evT (c : C) (ρ : Env) : Mr Bool := bnd (ev call c ρ) tru
/-- results kept apart: a list that is a name's own is made shared -/
def unslot (a : A) (ρ : Env) : Mr A := match a with
  | .slot i => bnd (frzM (.slot i) ρ) fun d ρ => ok (.dat d) ρ
  | a => ok a ρ
def evRs : Cs → Env → Mr (List A)
  | .nil, ρ => ok [] ρ
  | .cons e es, ρ => bnd (bnd (ev call e ρ) unslot) fun a ρ => bnd (evRs es ρ) fun as ρ => ok (a :: as) ρ
def slotOf : A → Slot
  | .dat d => .val false d
  | .frs d => .own false d
  | .slot _ => .non
def putA (i : Nat) (a : A) (ρ : Env) : Option Env := if i < ρ.length then some (ρ.set i (slotOf a)) else none
def putAs : List Nat → List A → Env → Option Env
  | [], [], ρ => some ρ
  | i :: is, a :: as, ρ => match putA i a ρ with
    | some ρ' => putAs is as ρ'
    | none => none
  | _, _, _ => none
def nxtO (o : Option Env) : Mr Flow := match o with
  | some ρ => ok .nxt ρ
  | none => none
def augD (i : Nat) (op : BOp) (x : Int) (a : A) (ρ : Env) : Mr Flow := match view a ρ with
  | some (.int y) => match binD op (.int x) (.int y) with
    | some (.dat d) => nxtO (putD i d ρ)
    | _ => none
  | _ => none
def setiD (i : Nat) (d : D) (k : A) (ρ : Env) : Mr Flow := match ρ[i]?, view k ρ with
  | some (.own t (.lst xs)), some (.int k) => match ixD xs.length k with
    | some j => ok .nxt (ρ.set i (.own t (.lst (xs.set j d))))
    | none => none
  | _, _ => none
def appD (i : Nat) (d : D) (ρ : Env) : Mr Flow := match ρ[i]? with
  | some (.own t (.lst xs)) => if xs.length < 16777216 then ok .nxt (ρ.set i (.own t (.lst (xs ++ [d])))) else none
  | _ => none
def retA (a : A) (ρ : Env) : Mr Flow := match a with
  | .dat d => ok (.ret (.dat d)) ρ
  | .frs d => ok (.ret (.frs d)) ρ
  | .slot i => match ρ[i]? with
    | some (.own false d) => ok (.ret (.frs d)) (ρ.set i .non)
    | some (.own true d) => ok (.ret (.dat d)) (ρ.set i (.val true d))
    | some (.val _ d) => ok (.ret (.dat d)) ρ
    | _ => none
mutual
noncomputable def exec : S → Env → Mr Flow
  | .asg tg e, ρ => match tg with
    | .nm i => bnd (bnd (ev call e ρ) unslot) fun a ρ => nxtO (putA i a ρ)
    | tg => bnd (bnd (ev call e ρ) frzM) fun d ρ => nxtO (asgT tg d ρ)
  | .par is es, ρ => bnd (evRs call es ρ) fun as ρ => nxtO (putAs is as ρ)
  | .aug i op e, ρ => match ρ[i]? with
    | some (.val _ (.int x)) => bnd (ev call e ρ) fun a ρ => augD i op x a ρ
    | _ => none
  | .seti i ix e, ρ => bnd (bnd (ev call e ρ) frzM) fun d ρ => match ρ[i]? with
    | some (.own _ (.lst _)) => bnd (ev call ix ρ) fun k ρ => setiD i d k ρ
    | _ => none
  | .app i e, ρ => match ρ[i]? with
    | some (.own _ (.lst _)) => bnd (bnd (ev call e ρ) frzM) fun d ρ => appD i d ρ
    | _ => none
  | .expr e, ρ => bnd (ev call e ρ) fun _ ρ => ok .nxt ρ
  | .ife c a b, ρ => bnd (evT call c ρ) fun k ρ => if k = true then execs a ρ else execs b ρ
  | .for_ tg it b, ρ => bnd (evI call it ρ) fun ds ρ => forL tg (fun ρ => execs b ρ) ds ρ
  | .whl c b, ρ => whlM (evT call c) (fun ρ => execs b ρ) ρ
  | .ret e, ρ => bnd (ev call e ρ) fun a ρ => retA a ρ
  | .retN, ρ => ok (.ret (.dat .non)) ρ
  | .pas, ρ => ok .nxt ρ
  | .brk, ρ => ok .brk ρ
  | .cnt, ρ => ok .cnt ρ
  | .rse k e, ρ => none
noncomputable def execs : Ss → Env → Mr Flow
  | .nil, ρ => ok .nxt ρ
  | .cons s ss, ρ => bnd (exec s ρ) fun f ρ => match f with
    | .nxt => execs ss ρ
    | f => ok f ρ
end
end
/-! ### defs -/
structure Fd where
  name : Str
  np : Nat
  N : List Str
  body : Ss
def mask1 : Slot → Option Slot → Slot
  | .own true _, some (.own true d) => .own true d
  | .own true _, some (.val true d) => .val true d
  | _, _ => .non
def maskS : List Slot → Env → List Slot
  | [], _ => []
  | a :: as, ρ => mask1 a ρ.head? :: maskS as ρ.tail
noncomputable def runF (call : Nat → List Slot → Out) (fd : Fd) (args : List Slot) : Out :=
  if args.length = fd.np then
    match execs call fd.body (args ++ List.replicate (fd.N.length - fd.np) .non) with
    | some (.ok (.ret (.dat d)), ρ) => some (.ok (.dat d), maskS args ρ)
    | some (.ok (.ret (.frs d)), ρ) => some (.ok (.frs d), maskS args ρ)
    | some (.ok .nxt, ρ) => some (.ok (.dat .non), maskS args ρ)
    | some (.error x, ρ) => some (.error x, maskS args ρ)
    | _ => none
  else none
noncomputable def callN (P : Nat → Option Fd) : Nat → Nat → List Slot → Out
  | 0, _, _ => none
  | n + 1, f, args => match P f with
    | some fd => runF (callN P n) fd args
    | none => none
end MP
set_option Elab.async false
set_option linter.all false
set_option maxRecDepth 100000
set_option maxHeartbeats 2000000
/-! MP: data in the abstract heap -/
namespace MP
open PySem PySem.Spec PyProof.Rows L2

/-! ### data that stands in a part of the heap that never changes -/
/-- a list: one that is tracked, or one of the written part's own (a plain one) -/
def RL (K : PySem.W.Frag) (P : Hp) (a : Addr) (xs : List V) : Prop :=
  Rd P a (.lst xs) ∨ ∃ (its : Array Value) (n : Nat), K.lookup a = some { cls := .type "list", data := .seq its n } ∧ its.size ≤ sizeLine ∧ Vals xs its.toList
theorem RL.sq {K : PySem.W.Frag} {P : Hp} {a : Addr} {xs : List V} (h : RL K P a xs) : SqL K P a xs := by
  rcases h with h | ⟨its, n, h1, h2, h3⟩
  · exact .inl h
  · exact .inr ⟨_, its, n, h1, rfl, rfl, rfl, h2, h3⟩
def keyD : Key → D
  | .inl i => .int i
  | .inr x => .str x
mutual
inductive Rp (K : PySem.W.Frag) (P : Hp) : V → D → Prop
  | non : Rp K P .non .non
  | bl (b : Bool) : Rp K P (.bl b) (.bl b)
  | int (i : Int) : Rp K P (.int i) (.int i)
  | str (x : Str) : Rp K P (.str x) (.str x)
  | tup {a : Addr} {vs : List V} {ds : List D} : SqT K P a vs → Rps K P vs ds → Rp K P (.ref a) (.tup ds)
  | lst {a : Addr} {vs : List V} {ds : List D} : RL K P a vs → Rps K P vs ds → Rp K P (.ref a) (.lst ds)
  | dic {a : Addr} {kvs : List (Key × V)} {ds : List D} : Rd P a (.dK kvs) → Rps K P (kvs.map (·.2)) ds → Rp K P (.ref a) (.dic (kvs.map fun kv => keyD kv.1) ds)
inductive Rps (K : PySem.W.Frag) (P : Hp) : List V → List D → Prop
  | nil : Rps K P [] []
  | cons {v : V} {vs : List V} {d : D} {ds : List D} : Rp K P v d → Rps K P vs ds → Rps K P (v :: vs) (d :: ds)
end

theorem same_rd {P P' : Hp} (h : Same P P') {a : Addr} {u : HO} (r : Rd P a u) : Rd P' a u := by
  rcases r with r | ⟨o, r⟩
  · exact .inl (h _ _ r)
  · exact .inr ⟨o, h _ _ r⟩
theorem same_sqt {K : PySem.W.Frag} {P P' : Hp} (h : Same P P') {a : Addr} {vs : List V} (r : SqT K P a vs) : SqT K P' a vs := by
  rcases r with r | r
  · exact .inl (same_rd h r)
  · exact .inr r
theorem same_rl {K : PySem.W.Frag} {P P' : Hp} (h : Same P P') {a : Addr} {vs : List V} (r : RL K P a vs) : RL K P' a vs := by
  rcases r with r | r
  · exact .inl (same_rd h r)
  · exact .inr r
mutual
theorem Rp.mono {K : PySem.W.Frag} {P P' : Hp} (h : Same P P') : ∀ {v : V} {d : D}, Rp K P v d → Rp K P' v d
  | _, _, .non => .non
  | _, _, .bl b => .bl b
  | _, _, .int i => .int i
  | _, _, .str x => .str x
  | _, _, .tup s r => .tup (same_sqt h s) (Rps.mono h r)
  | _, _, .lst s r => .lst (same_rl h s) (Rps.mono h r)
  | _, _, .dic s r => .dic (same_rd h s) (Rps.mono h r)
theorem Rps.mono {K : PySem.W.Frag} {P P' : Hp} (h : Same P P') : ∀ {vs : List V} {ds : List D}, Rps K P vs ds → Rps K P' vs ds
  | _, _, .nil => .nil
  | _, _, .cons r t => .cons (Rp.mono h r) (Rps.mono h t)
end
section
variable {K : PySem.W.Frag} {P : Hp}
theorem Rps.length : ∀ {vs : List V} {ds : List D}, Rps K P vs ds → vs.length = ds.length
  | _, _, .nil => rfl
  | _, _, .cons _ t => by rw [List.length_cons, List.length_cons, Rps.length t]
theorem Rps.append : ∀ {vs ws : List V} {ds es : List D}, Rps K P vs ds → Rps K P ws es → Rps K P (vs ++ ws) (ds ++ es)
  | _, _, _, _, .nil, s => s
  | _, _, _, _, .cons r t, s => .cons r (Rps.append t s)
theorem Rps.drop : ∀ {vs : List V} {ds : List D} (n : Nat), Rps K P vs ds → Rps K P (vs.drop n) (ds.drop n)
  | _, _, 0, r => r
  | _, _, _ + 1, .nil => .nil
  | _, _, n + 1, .cons _ t => Rps.drop n t
theorem Rps.take : ∀ {vs : List V} {ds : List D} (n : Nat), Rps K P vs ds → Rps K P (vs.take n) (ds.take n)
  | _, _, 0, _ => .nil
  | _, _, _ + 1, .nil => .nil
  | _, _, n + 1, .cons r t => .cons r (Rps.take n t)
theorem Rps.set {w : V} {d : D} (q : Rp K P w d) : ∀ {vs : List V} {ds : List D} (n : Nat), Rps K P vs ds → Rps K P (vs.set n w) (ds.set n d)
  | _, _, _, .nil => .nil
  | _, _, 0, .cons _ t => .cons q t
  | _, _, n + 1, .cons r t => .cons r (Rps.set q n t)
theorem Rps.get : ∀ {vs : List V} {ds : List D} {i : Nat} {d : D}, Rps K P vs ds → ds[i]? = some d → ∃ v, vs[i]? = some v ∧ Rp K P v d
  | _, _, _, _, .nil, h => by simp at h
  | v :: _, _, 0, _, .cons r _, h => by
    simp only [List.getElem?_cons_zero, Option.some.injEq] at h
    subst h
    exact ⟨v, rfl, r⟩
  | _, _, n + 1, _, .cons _ t, h => by
    simp only [List.getElem?_cons_succ] at h ⊢
    exact Rps.get t h
theorem Rp.int_inv {v : V} {i : Int} (r : Rp K P v (.int i)) : v = .int i := by cases r; rfl
theorem Rp.bl_inv {v : V} {b : Bool} (r : Rp K P v (.bl b)) : v = .bl b := by cases r; rfl
theorem Rp.str_inv {v : V} {x : Str} (r : Rp K P v (.str x)) : v = .str x := by cases r; rfl
theorem Rp.non_inv {v : V} (r : Rp K P v .non) : v = .non := by cases r; rfl
theorem Rp.tup_inv {v : V} {ds : List D} (r : Rp K P v (.tup ds)) : ∃ a vs, v = .ref a ∧ SqT K P a vs ∧ Rps K P vs ds := by
  cases r with
  | tup s q => exact ⟨_, _, rfl, s, q⟩
theorem Rp.lst_inv {v : V} {ds : List D} (r : Rp K P v (.lst ds)) : ∃ a vs, v = .ref a ∧ RL K P a vs ∧ Rps K P vs ds := by
  cases r with
  | lst s q => exact ⟨_, _, rfl, s, q⟩
end

/-! ### frames -/
/-- the address that a name of this frame alone holds -/
def Own (σ : L2.St) (ρ : Env) (a : Addr) : Prop := ∃ (i : Nat) (t : Bool) (d : D), ρ[i]? = some (.own t d) ∧ σ[i]? = some (some (V.ref a))
def Cont (K : PySem.W.Frag) (H P : Hp) (v : V) (d : D) : Prop := ∃ a vs ds, v = V.ref a ∧ d = D.lst ds ∧ H a = some (.lst vs) ∧ P a = none ∧ Rps K P vs ds
structure FR (K : PySem.W.Frag) (σ0 σ : L2.St) (H P : Hp) (ρ : Env) : Prop where
  sub : Same P H
  len : ρ.length = σ.length
  val : ∀ (i : Nat) (t : Bool) (d : D), ρ[i]? = some (.val t d) → ∃ v, σ[i]? = some (some v) ∧ Rp K P v d
  own : ∀ (i : Nat) (t : Bool) (d : D), ρ[i]? = some (.own t d) → ∃ v, σ[i]? = some (some v) ∧ Cont K H P v d
  inj : ∀ (i j : Nat) (t t' : Bool) (d d' : D) (a : Addr), ρ[i]? = some (.own t d) → ρ[j]? = some (.own t' d') → σ[i]? = some (some (V.ref a)) → σ[j]? = some (some (V.ref a)) → i = j
  tag : ∀ (i : Nat) (d : D), ρ[i]? = some (.val true d) ∨ ρ[i]? = some (.own true d) → σ[i]? = σ0[i]?
structure Step (σ : L2.St) (ρ : Env) (H P : Hp) (σ' : L2.St) (ρ' : Env) (H' P' : Hp) : Prop where
  keep : ∀ a o, H a = some o → ¬ Own σ ρ a → H' a = some o
  mono : Same P P'
  newP : ∀ a, P a = none → P' a ≠ none → H a = none ∨ Own σ ρ a
  newO : ∀ a, Own σ' ρ' a → H a = none ∨ Own σ ρ a

section
variable {K : PySem.W.Frag} {σ0 σ σ1 σ2 : L2.St} {ρ ρ1 ρ2 : Env} {H H1 H2 P P1 P2 : Hp}
theorem Step.refl : Step σ ρ H P σ ρ H P := ⟨fun _ _ h _ => h, Same.refl _, fun _ h h' => absurd h h', fun _ h => .inr h⟩
theorem Step.none (s : Step σ ρ H P σ1 ρ1 H1 P1) {a : Addr} (h : H1 a = Option.none) : H a = Option.none ∨ Own σ ρ a := by
  by_cases o : Own σ ρ a
  · exact .inr o
  · cases e : H a with
    | none => exact .inl rfl
    | some u =>
      have := s.keep a u e o
      rw [h] at this
      cases this
theorem Step.back (s : Step σ ρ H P σ1 ρ1 H1 P1) {a : Addr} (h : H1 a = Option.none ∨ Own σ1 ρ1 a) : H a = Option.none ∨ Own σ ρ a := by
  rcases h with h | h
  · exact s.none h
  · exact s.newO a h
theorem Step.trans (s : Step σ ρ H P σ1 ρ1 H1 P1) (t : Step σ1 ρ1 H1 P1 σ2 ρ2 H2 P2) : Step σ ρ H P σ2 ρ2 H2 P2 where
  keep := fun a o h n => t.keep a o (s.keep a o h n) fun x => by
    rcases s.newO a x with z | z
    · rw [h] at z; cases z
    · exact n z
  mono := s.mono.trans t.mono
  newP := fun a h h' => by
    cases e : P1 a with
    | none => exact s.back (t.newP a e h')
    | some u => exact s.newP a h (by rw [e]; exact fun z => nomatch z)
  newO := fun a h => s.back (t.newO a h)
/-- what is nobody's own here keeps its content -/
theorem Cont.step {v : V} {d : D} (c : Cont K H P v d) (n : ∀ a, v = V.ref a → ¬ Own σ ρ a) (s : Step σ ρ H P σ1 ρ1 H1 P1) : Cont K H1 P1 v d ∧ ∀ a, v = V.ref a → ¬ Own σ1 ρ1 a := by
  obtain ⟨a, vs, ds, rfl, rfl, h, p, r⟩ := c
  have na := n a rfl
  refine ⟨⟨a, vs, ds, rfl, rfl, s.keep a _ h na, ?_, r.mono s.mono⟩, fun b e o => ?_⟩
  · cases e : P1 a with
    | none => rfl
    | some u =>
      rcases s.newP a p (by rw [e]; exact fun z => nomatch z) with z | z
      · rw [h] at z; cases z
      · exact absurd z na
  · injection e with e
    subst e
    rcases s.newO _ o with z | z
    · rw [h] at z; cases z
    · exact na z
theorem FR.own_at (F : FR K σ0 σ H P ρ) {a : Addr} (o : Own σ ρ a) : ∃ vs, H a = some (.lst vs) ∧ P a = none := by
  obtain ⟨i, t, d, e, e2⟩ := o
  obtain ⟨v, e3, b, vs, ds, rfl, rfl, h, p, r⟩ := F.own i t d e
  rw [e2] at e3
  cases e3
  exact ⟨vs, h, p⟩

/-! ### results -/
/-- a value that tells a result -/
def AR (K : PySem.W.Frag) (σ : L2.St) (H P : Hp) (ρ : Env) (v : V) (a : A) : Prop :=
  match a with
  | .dat d => Rp K P v d
  | .frs d => Cont K H P v d ∧ ∀ b, v = V.ref b → ¬ Own σ ρ b
  | .slot i => σ[i]? = some (some v)
/-- a new list is new -/
def AF (σ : L2.St) (ρ : Env) (H : Hp) (v : V) (a : A) : Prop := ∀ d, a = .frs d → ∀ b, v = V.ref b → H b = none ∨ Own σ ρ b
theorem AR.step {v : V} {a : A} (r : AR K σ H P ρ v a) (s : Step σ ρ H P σ ρ1 H1 P1) : AR K σ H1 P1 ρ1 v a := by
  cases a with
  | dat d => exact Rp.mono s.mono r
  | frs d => exact r.1.step r.2 s
  | slot i => exact r
theorem AF.back {v : V} {a : A} (r : AF σ1 ρ1 H1 v a) (s : Step σ ρ H P σ1 ρ1 H1 P1) : AF σ ρ H v a := fun d e b eb => s.back (r d e b eb)
inductive ARs (K : PySem.W.Frag) (σ : L2.St) (H P : Hp) (ρ : Env) : List V → List A → Prop
  | nil : ARs K σ H P ρ [] []
  | cons {v : V} {vs : List V} {a : A} {as : List A} : AR K σ H P ρ v a → ARs K σ H P ρ vs as → (∀ d, a = .frs d → ∀ (j : Nat) d', as[j]? = some (.frs d') → vs[j]? ≠ some v) → ARs K σ H P ρ (v :: vs) (a :: as)
inductive AFs (σ : L2.St) (ρ : Env) (H : Hp) : List V → List A → Prop
  | nil : AFs σ ρ H [] []
  | cons {v : V} {vs : List V} {a : A} {as : List A} : AF σ ρ H v a → AFs σ ρ H vs as → AFs σ ρ H (v :: vs) (a :: as)
theorem AFs.back : ∀ {vs : List V} {as : List A}, AFs σ1 ρ1 H1 vs as → Step σ ρ H P σ1 ρ1 H1 P1 → AFs σ ρ H vs as
  | _, _, .nil, _ => .nil
  | _, _, .cons r t, s => .cons (r.back s) (t.back s)
theorem AFs.get : ∀ {vs : List V} {as : List A}, AFs σ ρ H vs as → ∀ (j : Nat) (v : V) (a : A), vs[j]? = some v → as[j]? = some a → AF σ ρ H v a
  | _, _, .nil, _, _, _, h, _ => by simp at h
  | _, _, .cons r t, 0, _, _, h, h2 => by
    simp only [List.getElem?_cons_zero, Option.some.injEq] at h h2
    subst h h2
    exact r
  | _, _, .cons r t, j + 1, v, a, h, h2 => t.get j v a (by simpa using h) (by simpa using h2)
theorem ARs.length : ∀ {vs : List V} {as : List A}, ARs K σ H P ρ vs as → vs.length = as.length
  | _, _, .nil => rfl
  | _, _, .cons _ t _ => by rw [List.length_cons, List.length_cons, t.length]
theorem ARs.get : ∀ {vs : List V} {as : List A}, ARs K σ H P ρ vs as → ∀ (j : Nat) (v : V) (a : A), vs[j]? = some v → as[j]? = some a → AR K σ H P ρ v a
  | _, _, .nil, _, _, _, h, _ => by simp at h
  | _, _, .cons r t _, 0, _, _, h, h2 => by
    simp only [List.getElem?_cons_zero, Option.some.injEq] at h h2
    subst h h2
    exact r
  | _, _, .cons r t _, j + 1, v, a, h, h2 => t.get j v a (by simpa using h) (by simpa using h2)

/-- what is looked at: shared, or held by one name alone -/
def Vw (K : PySem.W.Frag) (H P : Hp) (v : V) (d : D) : Prop := Rp K P v d ∨ Cont K H P v d
theorem AR.view {v : V} {a : A} {d : D} (F : FR K σ0 σ H P ρ) (r : AR K σ H P ρ v a) (h : view a ρ = some d) : Vw K H P v d := by
  cases a with
  | dat e => cases h; exact .inl r
  | frs e => cases h; exact .inr r.1
  | slot i =>
    dsimp only [MP.view] at h
    cases e : ρ[i]? with
    | none => rw [e] at h; cases h
    | some s =>
      rw [e] at h
      have r' : σ[i]? = some (some v) := r
      cases s with
      | non => cases h
      | val t x =>
        cases h
        obtain ⟨w, e2, q⟩ := F.val i t d e
        rw [r'] at e2; cases e2
        exact .inl q
      | own t x =>
        cases h
        obtain ⟨w, e2, q⟩ := F.own i t d e
        rw [r'] at e2; cases e2
        exact .inr q
theorem Vw.int {v : V} {i : Int} (h : Vw K H P v (.int i)) : v = .int i := by
  rcases h with h | ⟨_, _, _, _, e, _⟩
  · exact h.int_inv
  · cases e
theorem Vw.rp {v : V} {d : D} (s : Same P H) (h : Vw K H P v d) : Rp K H v d := by
  rcases h with h | ⟨a, vs, ds, rfl, rfl, h, p, r⟩
  · exact h.mono s
  · exact .lst (.inl (.inl h)) (r.mono s)
theorem Vw.lst {v : V} {ds : List D} (s : Same P H) (h : Vw K H P v (.lst ds)) : ∃ a vs, v = .ref a ∧ RL K H a vs ∧ Rps K P vs ds := by
  rcases h with h | ⟨a, vs, ds', rfl, e, h, p, r⟩
  · obtain ⟨a, vs, rfl, r, q⟩ := h.lst_inv
    exact ⟨a, vs, rfl, same_rl s r, q⟩
  · cases e
    exact ⟨a, vs, rfl, .inl (.inl h), r⟩
theorem Vw.tup {v : V} {ds : List D} (s : Same P H) (h : Vw K H P v (.tup ds)) : ∃ a vs, v = .ref a ∧ SqT K H a vs ∧ SqT K P a vs ∧ Rps K P vs ds := by
  rcases h with h | ⟨_, _, _, _, e, _⟩
  · obtain ⟨a, vs, rfl, r, q⟩ := h.tup_inv
    exact ⟨a, vs, rfl, same_sqt s r, r, q⟩
  · cases e
theorem Vw.dat {v : V} {d : D} (h : Vw K H P v d) (n : ∀ ds, d ≠ .lst ds) : Rp K P v d := by
  rcases h with h | ⟨_, _, ds, _, e, _⟩
  · exact h
  · exact absurd e (n ds)
end

/-! ### relations of results -/
structure Rl (β α : Type) where
  r : L2.St → Env → Hp → Env → Hp → Hp → β → α → Prop
  sh : ∀ {σ ρa Ha Pa ρb Hb Pb ρ H P b a}, Step σ ρa Ha Pa σ ρb Hb Pb → r σ ρb Hb ρ H P b a → r σ ρa Ha ρ H P b a
/-- how an exception lies: c its class, d its own dict -/
def ExR (K : PySem.W.Frag) (cl : Nat → Addr) (P : Hp) (x : Ex) (c : Value) (d : Option Addr) : Prop :=
  c = .ref (cl x.cls) ∧ match x.arg with
    | none => True
    | some e => ∃ dx f v, d = some dx ∧ P dx = some (.xd [(f, v)]) ∧ Rp K P v e
section
variable (K : PySem.W.Frag) (cl : Nat → Addr)
def rA : Rl V A := ⟨fun σ ρ0 H0 ρ H P v a => AR K σ H P ρ v a ∧ AF σ ρ0 H0 v a, fun s h => ⟨h.1, h.2.back s⟩⟩
def rAs : Rl (List V) (List A) := ⟨fun σ ρ0 H0 ρ H P vs as => ARs K σ H P ρ vs as ∧ AFs σ ρ0 H0 vs as, fun s h => ⟨h.1, h.2.back s⟩⟩
def rD : Rl V D := ⟨fun _ _ _ _ _ P v d => Rp K P v d, fun _ h => h⟩
def rDs : Rl (List V) (List D) := ⟨fun _ _ _ _ _ P vs ds => Rps K P vs ds, fun _ h => h⟩
def rB : Rl Bool Bool := ⟨fun _ _ _ _ _ _ b a => b = a, fun _ h => h⟩
def rO : Rl (Option Int) (Option Int) := ⟨fun _ _ _ _ _ _ b a => b = a, fun _ h => h⟩
def Res {β α : Type} (R : Rl β α) (W : WX) (σ0 σ : L2.St) (ρ : Env) (H P : Hp) (m : Mr α) (Q : β → Hp → Prop) : Prop :=
  match m with
  | none => False
  | some (.ok a, ρ') => ∀ b H' P', FR K σ0 σ H' P' ρ' → Step σ ρ H P σ ρ' H' P' → R.r σ ρ H ρ' H' P' b a → Q b H'
  | some (.error x, ρ') => ∀ c d H' P', FR K σ0 σ H' P' ρ' → Step σ ρ H P σ ρ' H' P' → ExR K cl P' x c d → W c d σ H'
def Can {β α : Type} (R : Rl β α) (W : WX) (σ0 : L2.St) (m : Env → Mr α) : L2.St → Hp → (β → Hp → Prop) → Prop := fun σ H Q =>
  ∃ ρ P, FR K σ0 σ H P ρ ∧ Res K cl R W σ0 σ ρ H P (m ρ) Q
end
section
variable {K : PySem.W.Frag} {cl : Nat → Addr} {α β γ δ : Type} {R1 : Rl β α} {R2 : Rl γ δ} {W : WX} {σ0 σ : L2.St} {ρ : Env} {H P : Hp}
theorem Can.mono {m : Env → Mr α} {Q Q' : β → Hp → Prop} (h : Can K cl R1 W σ0 m σ H Q) (f : ∀ b H, Q b H → Q' b H) : Can K cl R1 W σ0 m σ H Q' := by
  obtain ⟨ρ, P, F, r⟩ := h
  refine ⟨ρ, P, F, ?_⟩
  unfold Res at r ⊢
  split at r
  · exact r
  · exact fun b H' P' x y z => f _ _ (r b H' P' x y z)
  · exact r
/-- on from a later state -/
theorem Res.later {m : Mr α} {Q : β → Hp → Prop} {ρ1 : Env} {H1 P1 : Hp} (h : Res K cl R1 W σ0 σ ρ H P m Q) (S1 : Step σ ρ H P σ ρ1 H1 P1) : Res K cl R1 W σ0 σ ρ1 H1 P1 m Q := by
  unfold Res at *
  split at h
  · exact h
  · exact fun c H2 P2 F2 S2 r2 => h c H2 P2 F2 (S1.trans S2) (R1.sh S1 r2)
  · exact fun c d H2 P2 F2 S2 r2 => h c d H2 P2 F2 (S1.trans S2) r2
/-- two in a row: the start stays, the state moves on -/
theorem Res.bnd {m : Env → Mr α} {f : α → Env → Mr δ} {Q : γ → Hp → Prop} {ρ1 : Env} {H1 P1 : Hp} (F : FR K σ0 σ H1 P1 ρ1) (S : Step σ ρ H P σ ρ1 H1 P1) (h : Res K cl R2 W σ0 σ ρ H P (bnd (m ρ1) f) Q) :
    Can K cl R1 W σ0 m σ H1 fun b H2 => ∃ a ρ2 P2, FR K σ0 σ H2 P2 ρ2 ∧ Step σ ρ1 H1 P1 σ ρ2 H2 P2 ∧ Step σ ρ H P σ ρ2 H2 P2 ∧ R1.r σ ρ1 H1 ρ2 H2 P2 b a ∧ Res K cl R2 W σ0 σ ρ H P (f a ρ2) Q := by
  refine ⟨ρ1, P1, F, ?_⟩
  unfold Res MP.bnd at *
  cases e : m ρ1 with
  | none => rw [e] at h; exact h
  | some q =>
    obtain ⟨x, ρ'⟩ := q
    rw [e] at h
    cases x with
    | error x => exact fun c d H' P' F1 S1 r1 => h c d H' P' F1 (S.trans S1) r1
    | ok a => exact fun b H' P' F1 S1 r1 => ⟨a, ρ', P', F1, S1, S.trans S1, r1, h⟩
theorem Res.bndE {m : Env → Mr α} {f : α → Env → Mr δ} {Q : γ → Hp → Prop} {ρ1 : Env} {H1 P1 : Hp} (F : FR K σ0 σ H1 P1 ρ1) (S : Step σ ρ H P σ ρ1 H1 P1) (h : Res K cl R2 W σ0 σ ρ H P (MP.bnd (m ρ1) f) Q) :
    Can K cl R1 W σ0 m σ H1 fun b H2 => ∃ a ρ2 P2, FR K σ0 σ H2 P2 ρ2 ∧ Step σ ρ1 H1 P1 σ ρ2 H2 P2 ∧ Step σ ρ H P σ ρ2 H2 P2 ∧ R1.r σ ρ1 H1 ρ2 H2 P2 b a ∧ Res K cl R2 W σ0 σ ρ H P (f a ρ2) Q ∧ m ρ1 = some (.ok a, ρ2) := by
  refine ⟨ρ1, P1, F, ?_⟩
  unfold Res MP.bnd at *
  cases e : m ρ1 with
  | none => rw [e] at h; exact h
  | some q =>
    obtain ⟨x, ρ'⟩ := q
    rw [e] at h
    cases x with
    | error x => exact fun c d H' P' F1 S1 r1 => h c d H' P' F1 (S.trans S1) r1
    | ok a => exact fun b H' P' F1 S1 r1 => ⟨a, ρ', P', F1, S1, S.trans S1, r1, h, rfl⟩
/-- .. the first one being nothing but a look -/
theorem Res.bnd_ok {a : α} {ρ' : Env} {f : α → Env → Mr δ} : MP.bnd (ok a ρ') f = f a ρ' := rfl
theorem Res.ret {Q : β → Hp → Prop} {a : α} {b : β} {ρ1 : Env} {H1 P1 : Hp} (F : FR K σ0 σ H1 P1 ρ1) (S : Step σ ρ H P σ ρ1 H1 P1) (h : Res K cl R1 W σ0 σ ρ H P (ok a ρ1) Q) (r : R1.r σ ρ H ρ1 H1 P1 b a) : Q b H1 := h b H1 P1 F S r
theorem Res.no {Q : β → Hp → Prop} (h : Res K cl R1 W σ0 σ ρ H P none Q) : False := h
theorem Res.datum {Q : V → Hp → Prop} {d : D} {v : V} {ρ1 : Env} {H1 P1 : Hp} (F : FR K σ0 σ H1 P1 ρ1) (S : Step σ ρ H P σ ρ1 H1 P1) (h : Res K cl (rA K) W σ0 σ ρ H P (ok (.dat d) ρ1) Q) (r : Rp K P1 v d) : Q v H1 :=
  Res.ret F S h ⟨r, fun _ e => nomatch e⟩
theorem same_upd {H : Hp} {p : Addr} {o : HO} (h : H p = none) : Same H (upd H p o) := fun b x e => by
  rw [upd_ne (ne_of_none e h)]
  exact e
/-- the heap grows by one object -/
theorem FR.grow (F : FR K σ0 σ H P ρ) {p : Addr} {o : HO} (hp : H p = none) : FR K σ0 σ (upd H p o) P ρ where
  sub := F.sub.trans (same_upd hp)
  len := F.len
  val := F.val
  own := fun i t d e => by
    obtain ⟨v, e2, a, vs, ds, rfl, rfl, h, q, r⟩ := F.own i t d e
    exact ⟨_, e2, a, vs, ds, rfl, rfl, same_upd hp _ _ h, q, r⟩
  inj := F.inj
  tag := F.tag
theorem FR.none {p : Addr} (F : FR K σ0 σ H P ρ) (hp : H p = Option.none) : P p = Option.none := F.sub.free hp
theorem FR.notOwn {p : Addr} (F : FR K σ0 σ H P ρ) (hp : H p = Option.none) : ¬ Own σ ρ p := fun o => by
  obtain ⟨vs, h, _⟩ := F.own_at o
  rw [hp] at h
  cases h
theorem Step.grow {p : Addr} {o : HO} (hp : H p = Option.none) : Step σ ρ H P σ ρ (upd H p o) P :=
  ⟨fun a u e _ => same_upd hp _ _ e, Same.refl _, fun _ h h' => absurd h h', fun _ h => .inr h⟩
theorem FR.growP (F : FR K σ0 σ H P ρ) {p : Addr} {o : HO} (hp : H p = Option.none) : FR K σ0 σ (upd H p o) (upd P p o) ρ where
  sub := fun b u e => by
    by_cases hb : b = p
    · subst hb
      rw [upd_same] at e ⊢
      exact e
    · rw [upd_ne hb] at e ⊢
      exact F.sub _ _ e
  len := F.len
  val := fun i t d e => by
    obtain ⟨v, e2, r⟩ := F.val i t d e
    exact ⟨v, e2, r.mono (same_upd (F.none hp))⟩
  own := fun i t d e => by
    obtain ⟨v, e2, a, vs, ds, rfl, rfl, h, q, r⟩ := F.own i t d e
    have na : a ≠ p := ne_of_none h hp
    exact ⟨_, e2, a, vs, ds, rfl, rfl, same_upd hp _ _ h, by rw [upd_ne na]; exact q, r.mono (same_upd (F.none hp))⟩
  inj := F.inj
  tag := F.tag
theorem Step.growP (F : FR K σ0 σ H P ρ) {p : Addr} {o : HO} (hp : H p = Option.none) : Step σ ρ H P σ ρ (upd H p o) (upd P p o) :=
  ⟨fun a u e _ => same_upd hp _ _ e, same_upd (F.none hp), fun a h h' => by
    by_cases ha : a = p
    · subst ha; exact .inl hp
    · rw [upd_ne ha] at h'; exact absurd h h', fun _ h => .inr h⟩
/-- a list that is nobody's here is written -/
theorem FR.updH {D : Addr} {o : HO} (F : FR K σ0 σ H P ρ) (h1 : P D = Option.none) (h2 : ¬ Own σ ρ D) : FR K σ0 σ (L2.upd H D o) P ρ := by
  refine ⟨fun b x e => ?_, F.len, F.val, fun i t d h => ?_, F.inj, F.tag⟩
  · rw [upd_ne (ne_of_none e h1)]
    exact F.sub _ _ e
  · obtain ⟨v, g1, a, us, ds, rfl, rfl, g2, g3, g4⟩ := F.own i t d h
    have n : a ≠ D := fun e => by subst e; exact h2 ⟨i, t, _, h, g1⟩
    exact ⟨_, g1, a, us, ds, rfl, rfl, by rw [upd_ne n]; exact g2, g3, g4⟩
theorem Step.updH {D : Addr} {o : HO} (S : Step σ ρ H P σ1 ρ1 H1 P1) (hD : H D = Option.none) : Step σ ρ H P σ1 ρ1 (L2.upd H1 D o) P1 :=
  ⟨fun a u h n => by rw [upd_ne (ne_of_none h hD)]; exact S.keep a u h n, S.mono, S.newP, S.newO⟩
/-- an object that nobody writes from now on is shared -/
theorem FR.addP (F : FR K σ0 σ H P ρ) {p : Addr} {o : HO} (hp : H p = some o) (pp : P p = Option.none) (no : ¬ Own σ ρ p) : FR K σ0 σ H (upd P p o) ρ where
  sub := fun b u e => by
    by_cases hb : b = p
    · subst hb
      rw [upd_same] at e
      cases e
      exact hp
    · rw [upd_ne hb] at e
      exact F.sub _ _ e
  len := F.len
  val := fun i t d e => by
    obtain ⟨v, e2, r⟩ := F.val i t d e
    exact ⟨v, e2, r.mono (same_upd pp)⟩
  own := fun i t d e => by
    obtain ⟨v, e2, a, vs, ds, rfl, rfl, h, q, r⟩ := F.own i t d e
    have na : a ≠ p := fun z => by subst z; exact no ⟨i, t, _, e, e2⟩
    exact ⟨_, e2, a, vs, ds, rfl, rfl, h, by rw [upd_ne na]; exact q, r.mono (same_upd pp)⟩
  inj := F.inj
  tag := F.tag
theorem Step.addP (S : Step σ ρ H P σ1 ρ1 H1 P1) {p : Addr} {o : HO} (hp : H p = Option.none) (pp : P1 p = Option.none) : Step σ ρ H P σ1 ρ1 H1 (upd P1 p o) :=
  ⟨S.keep, S.mono.trans (same_upd pp), fun a h h' => by
    by_cases ha : a = p
    · subst ha; exact .inl hp
    · rw [upd_ne ha] at h'; exact S.newP a h h', S.newO⟩
/-- a new shared tuple -/
theorem Res.newTup {Q : V → Hp → Prop} {vs : List V} {ds : List D} {p : Addr} {ρ1 : Env} {H1 P1 : Hp} (F : FR K σ0 σ H1 P1 ρ1) (S : Step σ ρ H P σ ρ1 H1 P1) (h : Res K cl (rA K) W σ0 σ ρ H P (ok (.dat (.tup ds)) ρ1) Q) (r : Rps K P1 vs ds) (hp : H1 p = Option.none) : Q (.ref p) (upd H1 p (.tup vs)) :=
  h _ _ _ (F.growP hp) (S.trans (Step.growP F hp)) ⟨.tup (.inl (.inl upd_same)) (r.mono (same_upd (F.none hp))), fun _ e => nomatch e⟩
/-- a new list of one's own -/
theorem Res.newLst {Q : V → Hp → Prop} {vs : List V} {ds : List D} {p : Addr} {ρ1 : Env} {H1 P1 : Hp} (F : FR K σ0 σ H1 P1 ρ1) (S : Step σ ρ H P σ ρ1 H1 P1) (h : Res K cl (rA K) W σ0 σ ρ H P (ok (.frs (.lst ds)) ρ1) Q) (r : Rps K P1 vs ds) (hp : H1 p = Option.none) : Q (.ref p) (upd H1 p (.lst vs)) :=
  h _ _ _ (F.grow hp) (S.trans (Step.grow hp)) ⟨⟨⟨p, vs, ds, rfl, rfl, upd_same, F.none hp, r⟩, fun b e o => by
    injection e with e
    subst e
    exact F.notOwn hp o⟩, fun _ _ b e => by
    injection e with e
    subst e
    exact S.none hp⟩
/-- a list is made shared: those names that hold it tell it as data from now on -/
theorem FR.share {vs : List V} {ds : List D} {b : Addr} {ρ1 : Env} (F : FR K σ0 σ H P ρ) (hb : H b = some (.lst vs)) (pb : P b = Option.none) (q : Rps K P vs ds) (hl : ρ1.length = ρ.length)
    (ho : ∀ (i : Nat) (s : Slot), ρ1[i]? = some s → s = .non ∨ ρ[i]? = some s ∨ ∃ (t : Bool) (d : D), s = .val t (.lst ds) ∧ ρ[i]? = some (.own t d) ∧ σ[i]? = some (some (V.ref b)))
    (hn : ∀ (i : Nat) (t : Bool) (d : D), ρ1[i]? = some (.own t d) → σ[i]? ≠ some (some (V.ref b))) : FR K σ0 σ H (upd P b (.lst vs)) ρ1 := by
  have sm : Same P (upd P b (.lst vs)) := same_upd pb
  have rb : Rp K (upd P b (.lst vs)) (.ref b) (.lst ds) := .lst (.inl (.inl upd_same)) (q.mono sm)
  refine ⟨fun c o e => ?_, hl.trans F.len, fun i t d e => ?_, fun i t d e => ?_, fun i j t t' d d' a e1 e2 e3 e4 => ?_, fun i d e => ?_⟩
  · by_cases hc : c = b
    · subst hc; rw [upd_same] at e; cases e; exact hb
    · rw [upd_ne hc] at e; exact F.sub _ _ e
  · rcases ho i _ e with z | z | ⟨t', d', z, z2, z3⟩
    · cases z
    · obtain ⟨w, e2, r2⟩ := F.val i t d z
      exact ⟨w, e2, r2.mono sm⟩
    · cases z
      exact ⟨_, z3, rb⟩
  · rcases ho i _ e with z | z | ⟨t', d', z, z2, z3⟩
    · cases z
    · obtain ⟨w, e2, c, vs', ds', rfl, rfl, h1, h2, h3⟩ := F.own i t d z
      have hc : c ≠ b := fun z => by subst z; exact hn i t _ e e2
      exact ⟨_, e2, c, vs', ds', rfl, rfl, h1, by rw [upd_ne hc]; exact h2, h3.mono sm⟩
    · cases z
  · rcases ho i _ e1 with z | z | ⟨_, _, z, _⟩
    · cases z
    · rcases ho j _ e2 with z' | z' | ⟨_, _, z', _⟩
      · cases z'
      · exact F.inj i j t t' d d' a z z' e3 e4
      · cases z'
    · cases z
  · rcases e with e | e
    · rcases ho i _ e with z | z | ⟨t', d', z, z2, z3⟩
      · cases z
      · exact F.tag i d (.inl z)
      · cases z
        exact F.tag i d' (.inr z2)
    · rcases ho i _ e with z | z | ⟨t', d', z, z2, z3⟩
      · cases z
      · exact F.tag i d (.inr z)
      · cases z
theorem Step.share {vs : List V} {b : Addr} {ρ1 ρ2 : Env} {H1 P1 : Hp} (S : Step σ ρ H P σ ρ1 H1 P1) (pb : P1 b = Option.none) (hb : H b = Option.none ∨ Own σ ρ b) (ho : ∀ a, Own σ ρ2 a → Own σ ρ1 a) : Step σ ρ H P σ ρ2 H1 (upd P1 b (.lst vs)) :=
  ⟨S.keep, S.mono.trans (same_upd pb), fun a e1 e2 => by
    by_cases ha : a = b
    · subst ha; exact hb
    · rw [upd_ne ha] at e2; exact S.newP a e1 e2, fun a o => S.newO a (ho a o)⟩
theorem get_set {α : Type} {l : List α} {i j : Nat} {x y : α} (h : (l.set i x)[j]? = some y) : (i = j ∧ y = x) ∨ (i ≠ j ∧ l[j]? = some y) := by
  by_cases e : i = j
  · subst e
    rw [List.getElem?_set] at h
    split at h
    · split at h
      · exact .inl ⟨rfl, (Option.some.inj h).symm⟩
      · cases h
    · exact absurd rfl ‹_›
  · rw [List.getElem?_set_ne e] at h
    exact .inr ⟨e, h⟩
/-- a result made shared -/
theorem freeze {ρ1 ρ2 : Env} {H1 P1 : Hp} {v : V} {a : A} {d : D} (F1 : FR K σ0 σ H1 P1 ρ1) (S1 : Step σ ρ H P σ ρ1 H1 P1) (r : AR K σ H1 P1 ρ1 v a) (f : AF σ ρ H v a) (h : frz a ρ1 = some (d, ρ2)) :
    ∃ P2, FR K σ0 σ H1 P2 ρ2 ∧ Step σ ρ H P σ ρ2 H1 P2 ∧ Rp K P2 v d := by
  cases a with
  | dat e =>
    cases h
    exact ⟨P1, F1, S1, r⟩
  | frs e =>
    cases h
    obtain ⟨⟨b, vs, ds, rfl, rfl, hb, pb, q⟩, hn⟩ := r
    refine ⟨upd P1 b (.lst vs), F1.share hb pb q rfl (fun i s e => .inr (.inl e)) (fun i t d e z => hn b rfl ⟨i, t, d, e, z⟩), S1.share pb (f _ rfl b rfl) fun _ o => o, .lst (.inl (.inl upd_same)) (q.mono (same_upd pb))⟩
  | slot i =>
    dsimp only [frz] at h
    cases e : ρ1[i]? with
    | none => rw [e] at h; cases h
    | some s =>
      rw [e] at h
      have r' : σ[i]? = some (some v) := r
      cases s with
      | non => cases h
      | val t x =>
        cases h
        obtain ⟨w, e2, q⟩ := F1.val i t d e
        rw [r'] at e2; cases e2
        exact ⟨P1, F1, S1, q⟩
      | own t x =>
        cases h
        obtain ⟨w, e2, b, vs, ds, rfl, rfl, hb, pb, q⟩ := F1.own i t d e
        rw [r'] at e2; cases e2
        have ob : Own σ ρ1 b := ⟨i, t, _, e, r'⟩
        refine ⟨upd P1 b (.lst vs), F1.share hb pb q (by rw [List.length_set]) (fun j s ej => ?_) (fun j t' d' ej z => ?_), S1.share pb (S1.newO b ob) (fun a o => ?_), .lst (.inl (.inl upd_same)) (q.mono (same_upd pb))⟩
        · rcases get_set ej with ⟨rfl, rfl⟩ | ⟨_, ej⟩
          · exact .inr (.inr ⟨t, _, rfl, e, r'⟩)
          · exact .inr (.inl ej)
        · rcases get_set ej with ⟨_, z'⟩ | ⟨n, ej⟩
          · cases z'
          · exact n (F1.inj i j t t' _ _ b e ej r' z)
        · obtain ⟨j, t', d', ej, z⟩ := o
          rcases get_set ej with ⟨_, z'⟩ | ⟨n, ej⟩
          · cases z'
          · exact ⟨j, t', d', ej, z⟩
end
end MP
set_option Elab.async false
set_option linter.all false
set_option maxRecDepth 100000
set_option maxHeartbeats 2000000
/-! MP: expressions -/
namespace MP
open PySem PySem.Spec PyProof.Rows L2

section
variable {X : Cx} {e : Expr}
theorem pe_imp {t t' : TE} (h : PE X e t) (f : ∀ σ H Q, t' σ H Q → t σ H Q) : PE X e t' := ⟨fun pins s σ H Q I q => h.run pins s σ H Q I (f σ H Q q)⟩
theorem pt_imp {t t' : TT} (h : PT X e t) (f : ∀ σ H Q, t' σ H Q → t σ H Q) : PT X e t' := ⟨fun pins s σ H Q I q => h.run pins s σ H Q I (f σ H Q q)⟩
theorem pw_imp {t t' : TT} (h : PW X e t) (f : ∀ σ H Q, t' σ H Q → t σ H Q) : PW X e t' := ⟨fun wh pins s σ H Q I q => h.run wh pins s σ H Q I (f σ H Q q)⟩
theorem pa_imp {es : List Expr} {t t' : TA} (h : PA X es t) (f : ∀ σ H Q, t' σ H Q → t σ H Q) : PA X es t' := ⟨fun pos pins s σ H Q I q => h.run pos pins s σ H Q I (f σ H Q q)⟩
theorem po_imp {o : Option Expr} {t t' : TO} (h : PO X o t) (f : ∀ σ H Q, t' σ H Q → t σ H Q) : PO X o t' := ⟨fun pins s σ H Q I q => h.run pins s σ H Q I (f σ H Q q)⟩
theorem pi_imp {tg : Expr} {t t' : TI} (h : PI X tg e t) (f : ∀ σ H Q, t' σ H Q → t σ H Q) : PI X tg e t' := ⟨fun pins s σ H Q I q => h.run pins s σ H Q I (f σ H Q q)⟩
end

/-! ### syntax -/
def star : Expr → Bool
  | .Starred .. => true
  | _ => false
theorem star_each {e : Expr} (h : star e = false) (es : List Expr) (env : PySem.Env) : starEach (e :: es) env = (false, eval e env) :: starEach es env := by
  cases e <;> first | rfl | exact nomatch h
theorem back_any : ∀ {es : List Expr} (h : es.any star = false) (pos : Pos) (env : PySem.Env), (backTo pos (starEach es env)).any (·.1) = false
  | [], _, _, _ => rfl
  | e :: es, h, pos, env => by
    rw [List.any_cons, Bool.or_eq_false_iff] at h
    rw [star_each h.1]
    show (false || (backTo pos (starEach es env)).any (·.1)) = false
    rw [back_any h.2 pos env]
    rfl
theorem each_assign {e : Expr} (h : star e = false) (es : List Expr) (env : PySem.Env) : assignEach (e :: es) env = (false, assign e env) :: assignEach es env := by
  cases e <;> first | rfl | exact nomatch h
theorem each_len : ∀ {es : List Expr} (h : es.any star = false) (env : PySem.Env), (assignEach es env).length = es.length
  | [], _, _ => rfl
  | e :: es, h, env => by
    rw [List.any_cons, Bool.or_eq_false_iff] at h
    rw [each_assign h.1, List.length_cons, List.length_cons, each_len h.2]
theorem each_find : ∀ {es : List Expr} (h : es.any star = false) (env : PySem.Env), (assignEach es env).findIdx? (·.1) = none
  | [], _, _ => rfl
  | e :: es, h, env => by
    rw [List.any_cons, Bool.or_eq_false_iff] at h
    rw [each_assign h.1, List.findIdx?_cons, each_find h.2]
    rfl
def isSet : Expr → Bool
  | .Set .. => true
  | _ => false
theorem marks_of {b : Expr} (h : isSet b = false) (op : CmpOp) : behindInMarks op b = false := by
  cases b <;> first | rfl | exact nomatch h
def isSlice : Expr → Bool
  | .Slice .. => true
  | _ => false
theorem plain_of {b : Expr} (h : isSlice b = false) : PlainIx b := by
  intro o i
  cases b <;> first | rfl | exact nomatch h
theorem folded_of {b : Expr} (h : isSet b = false) (env : PySem.Env) (x : Value) : foldedSetIterable b env x = pure x := by
  cases b <;> first | rfl | exact nomatch h

def visB (sc : Scope) (x : Str) : Bool := match sc.names.lookup x with
  | some .local => true
  | some .cell => true
  | some .free => true
  | _ => false
theorem vis_of {sc : Scope} {x : Str} (h : visB sc x = true) : Vis sc x := by
  unfold visB at h
  unfold Vis
  split at h <;> simp_all
def glB (sc : Scope) (x : Str) : Bool := match sc.names.lookup x with
  | some .globalImplicit => true
  | _ => false
theorem gl_of {sc : Scope} {x : Str} (h : glB sc x = true) : sc.names.lookup x = some .globalImplicit := by
  unfold glB at h
  split at h <;> simp_all
def oddB (x : Str) : Bool := (x == ("__debug__" : Str)) || (x == ("__classdict__" : Str)) || (x == ("__name__" : Str))
theorem odd_of {x : Str} (h : oddB x = false) : (x == ("__debug__" : Str)) = false ∧ (x == ("__classdict__" : Str)) = false ∧ x ≠ "__name__" := by
  unfold oddB at h
  rw [Bool.or_eq_false_iff, Bool.or_eq_false_iff] at h
  exact ⟨h.1.1, h.1.2, by simpa using h.2⟩

/-! ### the world around -/
structure Tb where
  gcd : Bool
  fns : Nat → Option Fd
  consts : List (Str × Int)
def bltL : List Str := ["abs", "max", "min", "int", "len", "isinstance", "any", "all", "sum", "tuple", "list", "bool", "str", "dict", "range", "enumerate", "zip", "sorted", "repr", "reversed"]
def spOf (K : PySem.W.Frag) (cl : Nat → Addr) (np : Nat) (g : List Slot → Out) : Sp := fun vs H Q E =>
  vs.length = np ∧ Can K cl (rA K) (fun c d _ H => E c d H) (vs.map some) g (vs.map some) H Q
structure Gd (tb : Tb) (cl : Nat → Addr) (call : Nat → List Slot → Out) (X : Cx) (N : List Str) (sc : Scope) (fnB : Str → Bool) (W : WX) : Prop where
  calm : X.calm = true
  hN : X.N = N
  nd : N.Nodup
  sc : X.env.scope = sc
  fn : ∀ x, fnB x = true → X.fn x = true
  takes : Takes X W
  passes : PassesOwn (model X.prog X.w) X.A X.env X.xe
  units : X.A.units + 65 < cLine
  calls : ∀ f fd, tb.fns f = some fd → ∃ (ad : Addr) (fdt : FuncData) (k : Nat), FnOk X.prog X.w X.K X.mg X.base (L2.CX X.prog X.w) k ad fdt (fd.N.take fd.np) (spOf X.K cl fd.np (call f)) ∧ Room k X.A ∧
    X.mg fd.name = some (.ref ad) ∧ PySem.W.keepIn X.K (.ref ad) = true ∧ Binds X.K fdt (fd.N.take fd.np) []
  consts : ∀ x i, (x, i) ∈ tb.consts → ∃ t, X.mg x = some (.int i t)
  blt : ∀ x ∈ bltL, X.mg x = none
  gcd : tb.gcd = true → X.mg "gcd" = some (.builtin "math.gcd")
theorem Gd.blk {tb : Tb} {cl : Nat → Addr} {call : Nat → List Slot → Out} {X : Cx} {N : List Str} {sc : Scope} {fnB : Str → Bool} {W : WX} (G : Gd tb cl call X N sc fnB W) (s : Shared) (H : Hp) (scope : Scope) (C : Addr) (c : List (Str × Addr)) (fp : List Addr) :
    Gd tb cl call (X.blk s H scope (compEnvC scope c C X.env) fp) N (relS scope sc) (fun x => scope.names.lookup x == some .cell) (fun _ _ _ _ => False) where
  calm := G.calm
  hN := G.hN
  nd := G.nd
  sc := by rw [← G.sc]; rfl
  fn := fun _ h => h
  takes := takes0
  passes := PassesOwn.never
  units := G.units
  calls := G.calls
  consts := G.consts
  blt := G.blt
  gcd := G.gcd

section
variable {tb : Tb} {cl : Nat → Addr} {call : Nat → List Slot → Out} {X : Cx} {N : List Str} {sc : Scope} {fnB : Str → Bool} {W : WX} {σ0 : L2.St}
abbrev CA (cl : Nat → Addr) (call : Nat → List Slot → Out) (X : Cx) (W : WX) (σ0 : L2.St) (c : C) : TE := Can X.K cl (rA X.K) W σ0 (ev call c)

/-! ### names, constants -/
theorem c_var {i : Nat} {x : Str} {pos : Pos} (G : Gd tb cl call X N sc fnB W) (hi : N[i]? = some x) (hv : visB sc x = true) (ho : oddB x = false) : PE X (.Name x pos) (CA cl call X W σ0 (.var i)) := by
  obtain ⟨o1, o2, o3⟩ := odd_of ho
  refine pe_imp (pe_var (i := i) (by rw [G.hN]; exact hi) (by rw [G.sc]; exact vis_of hv) o1 o2) fun σ H Q h => ?_
  obtain ⟨ρ, P, F, R⟩ := h
  simp only [ev] at R
  cases e : ρ[i]? with
  | none => rw [e] at R; exact R.elim
  | some s =>
    rw [e] at R
    cases s with
    | non => exact R.elim
    | val t d =>
      obtain ⟨v, e2, r⟩ := F.val i t d e
      exact ⟨v, e2, Res.datum F Step.refl R r⟩
    | own t d =>
      obtain ⟨v, e2, r⟩ := F.own i t d e
      exact ⟨v, e2, Res.ret F Step.refl R ⟨e2, fun _ z => nomatch z⟩⟩
def cstB : D → Const → Bool
  | .non, .none => true
  | .bl b, .bool c => b == c
  | .int i, .int j => i == j
  | .str x, .str y => x == y
  | _, _ => false
theorem c_cst {d : D} {k : Const} {j : Nat} {pos : Pos} (h : cstB d k = true) : PE X (.Constant k j pos) (CA cl call X W σ0 (.cst d)) := by
  have go : ∀ {v : V}, PE X (.Constant k j pos) (tC v) → (∀ P, Rp X.K P v d) → PE X (.Constant k j pos) (CA cl call X W σ0 (.cst d)) := fun {v} p r => pe_imp p fun σ H Q h => by
    obtain ⟨ρ, P, F, R⟩ := h
    exact Res.datum F Step.refl R (r P)
  unfold cstB at h
  split at h
  · exact go pe_non fun _ => .non
  · rw [beq_iff_eq] at h; subst h; exact go pe_bl fun _ => .bl _
  · rw [beq_iff_eq] at h; subst h; exact go pe_int fun _ => .int _
  · rw [beq_iff_eq] at h; subst h; exact go pe_str fun _ => .str _
  · cases h
theorem c_glb {x : Str} {i : Int} {pos : Pos} (G : Gd tb cl call X N sc fnB W) (hg : glB sc x = true) (ho : oddB x = false) (hc : (x, i) ∈ tb.consts) : PE X (.Name x pos) (CA cl call X W σ0 (.glb x (.int i))) := by
  obtain ⟨o1, o2, o3⟩ := odd_of ho
  obtain ⟨t, hm⟩ := G.consts x i hc
  refine pe_imp (pe_glob (v := .int i) (show X.env.scope.names.lookup x = _ by rw [G.sc]; exact gl_of hg) hm ⟨t, rfl⟩ o1) fun σ H Q h => ?_
  obtain ⟨ρ, P, F, R⟩ := h
  exact Res.datum F Step.refl R (.int i)

/-! ### lists of expressions -/
/-- an expression whose value is shared from then on -/
theorem can_frz {c : C} {σ : L2.St} {H : Hp} {Q : V → Hp → Prop} (h : Can X.K cl (rD X.K) W σ0 (fun ρ => bnd (ev call c ρ) frzM) σ H Q) : CA cl call X W σ0 c σ H Q := by
  obtain ⟨ρ, P, F, R⟩ := h
  refine (Res.bnd (R1 := rA X.K) F Step.refl R).mono fun v H1 ⟨a, ρ1, P1, F1, S1, _, ⟨r1, f1⟩, R1⟩ => ?_
  cases e : frz a ρ1 with
  | none => rw [frzM, e] at R1; exact R1.elim
  | some q =>
    obtain ⟨d, ρ2⟩ := q
    rw [frzM, e] at R1
    obtain ⟨P2, F2, S2, r2⟩ := freeze F1 S1 r1 f1 e
    exact R1 v H1 P2 F2 S2 r2
theorem pe_frz {c : C} {e : Expr} (h : PE X e (CA cl call X W σ0 c)) : PE X e (Can X.K cl (rD X.K) W σ0 (fun ρ => bnd (ev call c ρ) frzM)) := pe_imp h fun _ _ _ => can_frz
/-- data, one after another -/
theorem pa_ds_nil : PA X [] (Can X.K cl (rDs X.K) W σ0 (evDs call .nil)) := pa_imp pa_nil fun σ H Q h => by
  obtain ⟨ρ, P, F, R⟩ := h
  exact Res.ret F Step.refl R (.nil : Rps X.K P [] [])
theorem pa_ds_cons {c : C} {cs : Cs} {e : Expr} {es : List Expr} (h1 : PE X e (CA cl call X W σ0 c)) (h2 : PA X es (Can X.K cl (rDs X.K) W σ0 (evDs call cs))) (hs : star e = false) : PA X (e :: es) (Can X.K cl (rDs X.K) W σ0 (evDs call (.cons c cs))) := by
  refine pa_imp (pa_cons (pe_frz h1) h2 (star_each hs _ _)) fun σ H Q h => ?_
  obtain ⟨ρ, P, F, R⟩ := h
  simp only [evDs] at R
  refine (Res.bnd (R1 := rD X.K) F Step.refl R).mono fun v H1 ⟨d, ρ1, P1, F1, S1, _, r1, R1⟩ => ?_
  refine (Res.bnd (R1 := rDs X.K) F1 S1 R1).mono fun vs H2 ⟨ds, ρ2, P2, F2, S2, S, r2, R2⟩ => ?_
  exact Res.ret F2 S R2 (Rps.cons (Rp.mono S2.mono r1) r2)
/-- results, one after another -/
theorem pa_as_nil {fl : List Bool} : PA X [] (Can X.K cl (rAs X.K) W σ0 (evAs call fl .nil)) := pa_imp pa_nil fun σ H Q h => by
  obtain ⟨ρ, P, F, R⟩ := h
  exact Res.ret F Step.refl R ⟨.nil, .nil⟩
theorem can_keep {c : C} {k : Bool} {σ : L2.St} {H : Hp} {Q : V → Hp → Prop} (h : Can X.K cl (rA X.K) W σ0 (fun ρ => bnd (ev call c ρ) (keepA k)) σ H Q) : CA cl call X W σ0 c σ H Q := by
  obtain ⟨ρ, P, F, R⟩ := h
  refine (Res.bnd (R1 := rA X.K) F Step.refl R).mono fun v H1 ⟨a, ρ1, P1, F1, S1, _, ⟨r1, f1⟩, R1⟩ => ?_
  cases k with
  | true => exact R1 v H1 P1 F1 S1 ⟨r1, f1⟩
  | false =>
    cases e : frz a ρ1 with
    | none => rw [keepA, frzM, e] at R1; exact R1.elim
    | some q =>
      obtain ⟨d, ρ2⟩ := q
      rw [keepA, frzM, e] at R1
      obtain ⟨P2, F2, S2, r2⟩ := freeze F1 S1 r1 f1 e
      exact R1 v H1 P2 F2 S2 ⟨r2, fun _ z => nomatch z⟩
theorem ars_cons {K : PySem.W.Frag} {σ : L2.St} {ρ ρ1 ρ2 : Env} {H H1 H2 P P1 P2 : Hp} {v : V} {vs : List V} {a : A} {as : List A} (r1 : AR K σ H1 P1 ρ1 v a) (f1 : AF σ ρ H v a) (r2 : ARs K σ H2 P2 ρ2 vs as) (f2 : AFs σ ρ1 H1 vs as)
    (S1 : Step σ ρ H P σ ρ1 H1 P1) (S2 : Step σ ρ1 H1 P1 σ ρ2 H2 P2) : ARs K σ H2 P2 ρ2 (v :: vs) (a :: as) ∧ AFs σ ρ H (v :: vs) (a :: as) := by
  refine ⟨.cons (r1.step S2) r2 fun d' e' j d'' ej ev' => ?_, .cons f1 (f2.back S1)⟩
  subst e'
  obtain ⟨⟨b, us, es', rfl, rfl, hb, pb, q⟩, hn⟩ := r1
  rcases f2.get j _ _ ev' ej _ rfl b rfl with z | z
  · rw [hb] at z; cases z
  · exact hn b rfl z
theorem pa_as_cons {fl : List Bool} {c : C} {cs : Cs} {e : Expr} {es : List Expr} (h1 : PE X e (CA cl call X W σ0 c)) (h2 : PA X es (Can X.K cl (rAs X.K) W σ0 (evAs call fl.tail cs))) (hs : star e = false) :
    PA X (e :: es) (Can X.K cl (rAs X.K) W σ0 (evAs call fl (.cons c cs))) := by
  have p1 : PE X e (Can X.K cl (rA X.K) W σ0 (fun ρ => bnd (ev call c ρ) (keepA (fl.headD true)))) := pe_imp h1 fun _ _ _ => can_keep
  refine pa_imp (pa_cons p1 h2 (star_each hs _ _)) fun σ H Q h => ?_
  obtain ⟨ρ, P, F, R⟩ := h
  simp only [evAs] at R
  refine (Res.bnd (R1 := rA X.K) F Step.refl R).mono fun v H1 ⟨d, ρ1, P1, F1, S1, _, ⟨r1, f1⟩, R1⟩ => ?_
  refine (Res.bnd (R1 := rAs X.K) F1 S1 R1).mono fun vs H2 ⟨ds, ρ2, P2, F2, S2, S, ⟨r2, f2⟩, R2⟩ => ?_
  exact Res.ret F2 S R2 (ars_cons r1 f1 r2 f2 S1 S2)
end
end MP
set_option Elab.async false
set_option linter.all false
set_option maxRecDepth 100000
set_option maxHeartbeats 2000000
/-! MP: operations -/
namespace MP
open PySem PySem.Spec PyProof.Rows L2

/-! ### operators -/
def opB : BOp → Operator
  | .add => .Add | .sub => .Sub | .mul => .Mult | .fdiv => .FloorDiv | .mod => .Mod | .pow => .Pow | .shl => .LShift | .shr => .RShift | .band => .BitAnd
def binR (K : PySem.W.Frag) : BOp → R2
  | .add => fun x y H Q => rI0 (fun i j => .int (i + j)) x y H Q ∨ rCatA K x y H Q ∨ (∃ l b xs zs, x = .ref l ∧ y = .ref b ∧ RL K H l xs ∧ RL K H b zs ∧ xs.length + zs.length ≤ sizeLine ∧ ∀ p, H p = none → Q (.ref p) (upd H p (.lst (xs ++ zs))))
  | .sub => rI0 fun i j => .int (i - j)
  | .mul => rI CMulW fun i j => .int (i * j)
  | .fdiv => rI (fun _ j => j ≠ 0 ∧ bits j < 9000) fun i j => .int (i.fdiv j)
  | .mod => rI (fun _ j => j ≠ 0) fun i j => .int (i.fmod j)
  | .pow => rI CPow fun i j => .int (i ^ j.toNat)
  | _ => fun _ _ _ _ => False
theorem rd_list {P : Program} {w : World} {K : PySem.W.Frag} {H : Hp} {h : Heap} {l : Addr} {xs : List V} (ok : HOk P w H h) (ki : K.In h) (r : RL K H l xs) : ∃ (its : List Value) (n : Nat), Vals xs its ∧ xs.length = its.length ∧ h.get? l = some { cls := .type "list", data := .seq its.toArray n } := by
  rcases r with r | ⟨its, n, e, _, q⟩
  · obtain ⟨z, its, n, q, e⟩ := r.ok ok
    exact ⟨its, n, q, q.length, e⟩
  · exact ⟨its.toList, n, q, q.length, ki l _ e⟩
theorem bin_cat {X : Cx} : OpR X (binaryOp .Add) (fun x y H Q => ∃ l b xs zs, x = .ref l ∧ y = .ref b ∧ RL X.K H l xs ∧ RL X.K H b zs ∧ xs.length + zs.length ≤ sizeLine ∧ ∀ p, H p = none → Q (.ref p) (upd H p (.lst (xs ++ zs)))) := by
  intro pins s σ H x y v u Q I rx ry h
  obtain ⟨l, b, xs, zs, rfl, rfl, h1, h2, hz, q⟩ := h
  cases rx
  cases ry
  obtain ⟨its, n, r1, e1, g1⟩ := rd_list I.hok I.kIn h1
  obtain ⟨its2, n2, r2, e2, g2⟩ := rd_list I.hok I.kIn h2
  refine PySem.P.add_list g1 g2 ?_ (by simp only [List.size_toArray]; omega)
  rw [show its.toArray ++ its2.toArray = (its ++ its2).toArray by simp]
  exact ⟨.ref _, _, I.lnew (t' := s.toks) (r1.append r2) (by simp only [List.length_append]; omega), rfl, q _ I.fresh⟩
theorem bin_fdiv {X : Cx} : OpR X (binaryOp .FloorDiv) (rI (fun _ j => j ≠ 0 ∧ bits j < 9000) fun i j => .int (i.fdiv j)) := opI fun i j _ _ _ _ _ hc q =>
  floordiv_int hc.1 q (.inl (PyProof.noPylong_of_log2 hc.2))
theorem bin_no {X : Cx} {f : Value → Value → Sem Value} : OpR X f (fun _ _ _ _ => False) := fun _ _ _ _ _ _ _ _ _ _ _ _ h => h.elim
theorem bin_ok {X : Cx} : ∀ op : BOp, OpR X (binaryOp (opB op)) (binR X.K op)
  | .add => op_add.or (op_catA.or bin_cat)
  | .sub => op_sub
  | .mul => op_mulW
  | .fdiv => bin_fdiv
  | .mod => op_modN
  | .pow => op_pow
  | .shl => bin_no
  | .shr => bin_no
  | .band => bin_no
section
variable {tb : Tb} {cl : Nat → Addr} {call : Nat → List Slot → Out} {X : Cx} {N : List Str} {sc : Scope} {fnB : Str → Bool} {W : WX} {σ0 : L2.St}

theorem Res.op2 {K : PySem.W.Frag} {σ : L2.St} {ρ ρ1 : Env} {H P : Hp} {f : D → D → Option A} {x y : A} {Q : V → Hp → Prop} (R : Res K cl (rA K) W σ0 σ ρ H P (op2 f x y ρ1) Q) :
    ∃ dx dy r, view x ρ1 = some dx ∧ view y ρ1 = some dy ∧ f dx dy = some r ∧ Res K cl (rA K) W σ0 σ ρ H P (ok r ρ1) Q := by
  unfold MP.op2 at R
  cases e1 : view x ρ1 with
  | none => rw [e1] at R; exact R.elim
  | some dx =>
    cases e2 : view y ρ1 with
    | none => rw [e1, e2] at R; exact R.elim
    | some dy =>
      rw [e1, e2] at R
      dsimp only at R
      cases e3 : f dx dy with
      | none => rw [e3] at R; exact R.elim
      | some r => rw [e3] at R; exact ⟨dx, dy, r, rfl, rfl, e3, R⟩
theorem Res.op1 {K : PySem.W.Frag} {σ : L2.St} {ρ ρ1 : Env} {H P : Hp} {f : D → Option A} {x : A} {Q : V → Hp → Prop} (R : Res K cl (rA K) W σ0 σ ρ H P (op1 f x ρ1) Q) :
    ∃ dx r, view x ρ1 = some dx ∧ f dx = some r ∧ Res K cl (rA K) W σ0 σ ρ H P (ok r ρ1) Q := by
  unfold MP.op1 at R
  cases e1 : view x ρ1 with
  | none => rw [e1] at R; exact R.elim
  | some dx =>
    rw [e1] at R
    dsimp only at R
    cases e3 : f dx with
    | none => rw [e3] at R; exact R.elim
    | some r => rw [e3] at R; exact ⟨dx, r, rfl, e3, R⟩
/-- a op b of data -/
theorem bin_res {K : PySem.W.Frag} {σ : L2.St} {ρ ρ1 : Env} {H P H1 P1 : Hp} {op : BOp} {dx dy : D} {r : A} {x y : V} {Q : V → Hp → Prop} (F : FR K σ0 σ H1 P1 ρ1) (S : Step σ ρ H P σ ρ1 H1 P1)
    (hx : Vw K H1 P1 x dx) (hy : Vw K H1 P1 y dy) (h : binD op dx dy = some r) (R : Res K cl (rA K) W σ0 σ ρ H P (ok r ρ1) Q) : binR K op x y H1 Q := by
  unfold binD at h
  split at h
  · cases h
    exact .inl ⟨_, _, hx.int, hy.int, Res.datum F S R (.int _)⟩
  · split at h
    · rename_i hl
      cases h
      obtain ⟨a, vs, rfl, t1, t1', q1⟩ := hx.tup F.sub
      obtain ⟨b, ws, rfl, t2, t2', q2⟩ := hy.tup F.sub
      refine .inr (.inl ⟨a, b, vs, ws, rfl, rfl, t1, t2, by rw [q1.length, q2.length]; exact hl, fun e => ?_, fun _ e => ?_, fun _ _ p hp => ?_⟩)
      · subst e
        cases q1
        exact Res.datum F S R (.tup t2' q2)
      · subst e
        cases q2
        rw [List.append_nil] at R
        exact Res.datum F S R (.tup t1' q1)
      · exact Res.newTup F S R (q1.append q2) hp
    · cases h
  · split at h
    · rename_i hl
      cases h
      obtain ⟨a, vs, rfl, t1, q1⟩ := hx.lst F.sub
      obtain ⟨b, ws, rfl, t2, q2⟩ := hy.lst F.sub
      exact .inr (.inr ⟨a, b, vs, ws, rfl, rfl, t1, t2, by rw [q1.length, q2.length]; exact hl, fun p hp => Res.newLst F S R (q1.append q2) hp⟩)
    · cases h
  · cases h
    exact ⟨_, _, hx.int, hy.int, Res.datum F S R (.int _)⟩
  · split at h
    · rename_i hl
      cases h
      exact ⟨_, _, hx.int, hy.int, hl, Res.datum F S R (.int _)⟩
    · cases h
  · split at h
    · rename_i hl
      cases h
      exact ⟨_, _, hx.int, hy.int, hl, Res.datum F S R (.int _)⟩
    · cases h
  · split at h
    · rename_i hl
      cases h
      exact ⟨_, _, hx.int, hy.int, hl, Res.datum F S R (.int _)⟩
    · cases h
  · split at h
    · rename_i hl
      cases h
      exact ⟨_, _, hx.int, hy.int, hl, Res.datum F S R (.int _)⟩
    · cases h
  · cases h
/-- two operands, then an operation of their data -/
theorem two {a b : C} {f : D → D → Option A} {r : R2} {σ : L2.St} {H : Hp} {Q : V → Hp → Prop}
    (hr : ∀ (ρ ρ1 : Env) (H P H1 P1 : Hp) (dx dy : D) (z : A) (x y : V), FR X.K σ0 σ H1 P1 ρ1 → Step σ ρ H P σ ρ1 H1 P1 → Vw X.K H1 P1 x dx → Vw X.K H1 P1 y dy → f dx dy = some z → Res X.K cl (rA X.K) W σ0 σ ρ H P (ok z ρ1) Q → r x y H1 Q)
    (h : Can X.K cl (rA X.K) W σ0 (fun ρ => bnd (ev call a ρ) fun x ρ => bnd (ev call b ρ) fun y ρ => op2 f x y ρ) σ H Q) : tOp r (CA cl call X W σ0 a) (CA cl call X W σ0 b) σ H Q := by
  obtain ⟨ρ, P, F, R⟩ := h
  refine (Res.bnd (R1 := rA X.K) F Step.refl R).mono fun x H1 ⟨dx, ρ1, P1, F1, S1, _, ⟨r1, f1⟩, R1⟩ => ?_
  refine (Res.bnd (R1 := rA X.K) F1 S1 R1).mono fun y H2 ⟨dy, ρ2, P2, F2, S2, S, ⟨r2, f2⟩, R2⟩ => ?_
  obtain ⟨d1, d2, z, v1, v2, e, R3⟩ := R2.op2
  exact hr ρ ρ2 H P H2 P2 d1 d2 z x y F2 S ((r1.step S2).view F2 v1) (r2.view F2 v2) e R3
theorem c_bin {op : BOp} {a b : C} {e1 e2 : Expr} {pos : Pos} (h1 : PE X e1 (CA cl call X W σ0 a)) (h2 : PE X e2 (CA cl call X W σ0 b)) : PE X (.BinOp e1 (opB op) e2 pos) (CA cl call X W σ0 (.bin op a b)) :=
  pe_imp (pe_op (bin_ok op) h1 h2) fun σ H Q h => two (fun _ _ _ _ _ _ _ _ _ _ _ F S hx hy e R => bin_res F S hx hy e R) h
theorem c_neg {a : C} {e : Expr} {pos : Pos} (h1 : PE X e (CA cl call X W σ0 a)) : PE X (.UnaryOp .USub e pos) (CA cl call X W σ0 (.neg a)) := by
  refine pe_imp (pe_un un_neg h1) fun σ H Q h => ?_
  obtain ⟨ρ, P, F, R⟩ := h
  refine (Res.bnd (R1 := rA X.K) F Step.refl R).mono fun x H1 ⟨dx, ρ1, P1, F1, S1, _, ⟨r1, f1⟩, R1⟩ => ?_
  obtain ⟨d, z, v1, e, R2⟩ := R1.op1
  unfold negD at e
  split at e
  · cases e
    exact ⟨_, (r1.view F1 v1).int, Res.datum F1 S1 R2 (.int _)⟩
  · cases e

/-! ### comparisons -/
mutual
def toPy : D → PyData
  | .non => .none
  | .bl b => .bool b
  | .int i => .int i
  | .str x => .str x
  | .tup xs => .tuple (toPys xs)
  | .lst xs => .list (toPys xs)
  | .dic _ _ => .dict []
def toPys : List D → List PyData
  | [] => []
  | x :: xs => toPy x :: toPys xs
end
mutual
theorem eqv_py : ∀ x y : D, PyData.eqv (toPy x) (toPy y) = D.eqv x y
  | .non, y => by cases y <;> simp only [toPy, PyData.eqv, D.eqv]
  | .bl _, y => by cases y <;> simp only [toPy, PyData.eqv, D.eqv]
  | .int _, y => by cases y <;> simp only [toPy, PyData.eqv, D.eqv]
  | .str _, y => by cases y <;> simp only [toPy, PyData.eqv, D.eqv]
  | .dic _ _, y => by cases y <;> simp only [toPy, PyData.eqv, D.eqv]
  | .tup xs, y => by
    cases y with
    | tup ys => simp only [toPy, PyData.eqv, D.eqv]; exact eqvs_py xs ys
    | _ => simp only [toPy, PyData.eqv, D.eqv]
  | .lst xs, y => by
    cases y with
    | lst ys => simp only [toPy, PyData.eqv, D.eqv]; exact eqvs_py xs ys
    | _ => simp only [toPy, PyData.eqv, D.eqv]
theorem eqvs_py : ∀ xs ys : List D, PyData.eqvAll (toPys xs) (toPys ys) = D.eqvs xs ys
  | [], [] => by simp only [toPys, PyData.eqvAll, D.eqvs]
  | [], _ :: _ => by simp only [toPys, PyData.eqvAll, D.eqvs]
  | _ :: _, [] => by simp only [toPys, PyData.eqvAll, D.eqvs]
  | x :: xs, y :: ys => by
    simp only [toPys, PyData.eqvAll, D.eqvs]
    rw [eqv_py x y, eqvs_py xs ys]
end
mutual
theorem shp_py : ∀ (k : Nat) (d : D), d.shp k = true → (toPy d).canLay0 = true ∧ (toPy d).depth ≤ k
  | _, .non, _ => by simp [toPy, PyData.canLay0, PyData.depth]
  | _, .bl _, _ => by simp [toPy, PyData.canLay0, PyData.depth]
  | _, .int _, _ => by simp [toPy, PyData.canLay0, PyData.depth]
  | k, .str x, h => by
    have h : x.cps.all (· < 1114112) = true := by cases k <;> simpa only [D.shp] using h
    refine ⟨?_, by simp [toPy, PyData.depth]⟩
    simp only [toPy, PyData.canLay0]
    exact h
  | 0, .tup xs, h => by simp [D.shp] at h
  | 0, .lst xs, h => by simp [D.shp] at h
  | k, .dic _ _, h => by cases k <;> simp [D.shp] at h
  | k + 1, .tup xs, h => by
    have h : D.shps k xs = true := by simpa only [D.shp] using h
    obtain ⟨h1, h2⟩ := shps_py k xs h
    simp only [toPy, PyData.canLay0, PyData.depth]
    exact ⟨h1, by omega⟩
  | k + 1, .lst xs, h => by
    have h : D.shps k xs = true := by simpa only [D.shp] using h
    obtain ⟨h1, h2⟩ := shps_py k xs h
    simp only [toPy, PyData.canLay0, PyData.depth]
    exact ⟨h1, by omega⟩
theorem shps_py : ∀ (k : Nat) (ds : List D), D.shps k ds = true → PyData.canLayAll0 (toPys ds) = true ∧ PyData.depthAll (toPys ds) ≤ k
  | _, [], _ => by simp [toPys, PyData.canLayAll0, PyData.depthAll]
  | k, x :: xs, h => by
    simp only [D.shps, Bool.and_eq_true] at h
    obtain ⟨a1, a2⟩ := shp_py k x h.1
    obtain ⟨b1, b2⟩ := shps_py k xs h.2
    simp only [toPys, PyData.canLayAll0, PyData.depthAll, a1, b1, Bool.and_self, true_and]
    omega
end
mutual
theorem rp_dp {K : PySem.W.Frag} {H : Hp} : ∀ {v : V} {d : D} (k : Nat), Rp K H v d → d.shp k = true → Dp K H v (toPy d)
  | _, _, _, .non, _ => by simp only [toPy]; exact .non
  | _, _, _, .bl b, _ => by simp only [toPy]; exact .bl b
  | _, _, _, .int i, _ => by simp only [toPy]; exact .int i
  | _, _, _, .str x, _ => by simp only [toPy]; exact .str x
  | _, _, 0, .tup s q, h => by simp [D.shp] at h
  | _, _, 0, .lst s q, h => by simp [D.shp] at h
  | _, _, k, .dic s q, h => by cases k <;> simp [D.shp] at h
  | _, _, k + 1, .tup s q, h => by simp only [toPy]; exact .tup s (rps_dp k q (by simpa only [D.shp] using h))
  | _, _, k + 1, .lst s q, h => by simp only [toPy]; exact .lst s.sq (rps_dp k q (by simpa only [D.shp] using h))
theorem rps_dp {K : PySem.W.Frag} {H : Hp} : ∀ {vs : List V} {ds : List D} (k : Nat), Rps K H vs ds → D.shps k ds = true → DpAll K H vs (toPys ds)
  | _, _, _, .nil, _ => by simp only [toPys]; exact .nil
  | _, _, k, .cons r t, h => by
    simp only [D.shps, Bool.and_eq_true] at h
    simp only [toPys]
    exact .cons (rp_dp k r h.1) (rps_dp k t h.2)
end
def opC : COp → CmpOp
  | .eq => .Eq | .ne => .NotEq | .lt => .Lt | .le => .LtE | .gt => .Gt | .ge => .GtE | .isN => .Is | .notN => .IsNot | .in_ => .In | .notIn => .NotIn
def cmpR (K : PySem.W.Frag) : COp → R2
  | .eq => rEqD K
  | .ne => rNeD K
  | .lt => rI0 fun i j => .bl (decide (i < j))
  | .le => rI0 fun i j => .bl (decide (i ≤ j))
  | .gt => rI0 fun i j => .bl (decide (j < i))
  | .ge => rI0 fun i j => .bl (decide (j ≤ i))
  | .isN => fun x y H Q => y = .non ∧ Q (.bl (decide (x = .non))) H
  | .notN => fun x y H Q => y = .non ∧ Q (.bl (!decide (x = .non))) H
  | .in_ => rIn K false
  | .notIn => rIn K true
theorem cmp_ok {X : Cx} (hu : X.A.units + 65 < cLine) : ∀ op : COp, OpR X (compareOp (opC op)) (cmpR X.K op)
  | .eq => op_eqD (by omega)
  | .ne => op_neD (by omega)
  | .lt => op_lt
  | .le => op_le
  | .gt => op_gt
  | .ge => op_ge
  | .isN => op_isN
  | .notN => op_notN
  | .in_ => op_in_seq
  | .notIn => op_notIn_seq
theorem rp_flat {K : PySem.W.Frag} {P : Hp} {v : V} {d : D} (r : Rp K P v d) (h : d.flat = true) : flatV v = true ∧ ∀ w e, Rp K P w e → e.flat = true → eqV v w = D.eqv d e := by
  cases r with
  | non => exact ⟨rfl, fun w e q f => by cases q <;> first | rfl | cases f⟩
  | bl b => exact ⟨rfl, fun w e q f => by cases q <;> first | rfl | (simp only [eqV, D.eqv]) | cases f⟩
  | int i => exact ⟨rfl, fun w e q f => by cases q <;> first | rfl | (simp only [eqV, D.eqv]) | cases f⟩
  | str x => exact ⟨rfl, fun w e q f => by cases q <;> first | rfl | (simp only [eqV, D.eqv]) | cases f⟩
  | tup => cases h
  | lst => cases h
  | dic => cases h
theorem rps_flat {K : PySem.W.Frag} {P : Hp} {v : V} {d : D} (r : Rp K P v d) (h : d.flat = true) : ∀ {vs : List V} {ds : List D}, Rps K P vs ds → ds.all D.flat = true → vs.all flatV = true ∧ inV v vs = ds.any fun y => y.eqv d
  | _, _, .nil, _ => ⟨rfl, rfl⟩
  | _, _, .cons q t, f => by
    rw [List.all_cons, Bool.and_eq_true] at f
    obtain ⟨a, b⟩ := rp_flat q f.1
    obtain ⟨a2, b2⟩ := rps_flat r h t f.2
    refine ⟨by rw [List.all_cons, a, a2]; rfl, ?_⟩
    unfold inV at *
    rw [List.any_cons, List.any_cons, b _ _ r h, b2]
theorem rp_isN {K : PySem.W.Frag} {P : Hp} {v : V} {d : D} (r : Rp K P v d) : decide (v = .non) = isND d := by
  cases r <;> rfl
/-- a comparison of data -/
theorem cmp_res {K : PySem.W.Frag} {H1 P1 : Hp} {op : COp} {dx dy : D} {k : Bool} {x y : V} {Q : V → Hp → Prop} (sub : Same P1 H1)
    (hx : Vw K H1 P1 x dx) (hy : Vw K H1 P1 y dy) (h : cmpO op dx dy = some k) (q : Q (.bl k) H1) : cmpR K op x y H1 Q := by
  have rx := hx.rp sub
  have ry := hy.rp sub
  have intsL : ∀ {f : Int → Int → Bool} {i j : Int}, dx = .int i → dy = .int j → f i j = k → rI0 (fun i j => .bl (f i j)) x y H1 Q := fun {f i j} e1 e2 e3 => by
    subst e1 e2 e3
    exact ⟨i, j, hx.int, hy.int, q⟩
  have eqs : (dx.shp 12 && dy.shp 12) = true → ∃ d e, Dp K H1 x d ∧ Dp K H1 y e ∧ SeqAt.shaped d = true ∧ SeqAt.shaped e = true ∧ PyData.eqv d e = dx.eqv dy := fun z => by
    rw [Bool.and_eq_true] at z
    obtain ⟨a1, a2⟩ := shp_py 12 dx z.1
    obtain ⟨b1, b2⟩ := shp_py 12 dy z.2
    exact ⟨_, _, rp_dp 12 rx z.1, rp_dp 12 ry z.2, by unfold SeqAt.shaped; rw [a1, decide_eq_true (by omega)]; rfl, by unfold SeqAt.shaped; rw [b1, decide_eq_true (by omega)]; rfl, eqv_py dx dy⟩
  cases op with
  | eq =>
    simp only [cmpO, cmpD] at h
    split at h
    · rename_i z
      cases h
      obtain ⟨d, e, h1, h2, h3, h4, h5⟩ := eqs z
      exact ⟨d, e, h1, h2, h3, h4, by rw [h5]; exact q⟩
    · cases h
  | ne =>
    simp only [cmpO, cmpD] at h
    split at h
    · rename_i z
      cases h
      obtain ⟨d, e, h1, h2, h3, h4, h5⟩ := eqs z
      exact ⟨d, e, h1, h2, h3, h4, by rw [h5]; exact q⟩
    · cases h
  | lt => simp only [cmpO] at h; unfold cmpD at h; split at h <;> first | (rename_i z; cases z; done) | skip
          all_goals first | (cases h; done) | skip
          all_goals first | (exact intsL (f := fun i j => decide (i < j)) rfl rfl (Option.some.inj h)) | (rename_i z; cases z)
  | le => simp only [cmpO] at h; unfold cmpD at h; split at h <;> first | (rename_i z; cases z; done) | skip
          all_goals first | (cases h; done) | skip
          all_goals first | (exact intsL (f := fun i j => decide (i ≤ j)) rfl rfl (Option.some.inj h)) | (rename_i z; cases z)
  | gt => simp only [cmpO] at h; unfold cmpD at h; split at h <;> first | (rename_i z; cases z; done) | skip
          all_goals first | (cases h; done) | skip
          all_goals first | (exact intsL (f := fun i j => decide (j < i)) rfl rfl (Option.some.inj h)) | (rename_i z; cases z)
  | ge => simp only [cmpO] at h; unfold cmpD at h; split at h <;> first | (rename_i z; cases z; done) | skip
          all_goals first | (cases h; done) | skip
          all_goals first | (exact intsL (f := fun i j => decide (j ≤ i)) rfl rfl (Option.some.inj h)) | (rename_i z; cases z)
  | isN =>
    simp only [cmpO] at h
    split at h
    · cases h
      exact ⟨ry.non_inv, by rw [rp_isN rx]; exact q⟩
    · cases h
  | notN =>
    simp only [cmpO] at h
    split at h
    · cases h
      exact ⟨ry.non_inv, by rw [rp_isN rx]; exact q⟩
    · cases h
  | in_ =>
    simp only [cmpO] at h
    unfold inD at h
    split at h
    · split at h
      · rename_i z
        rw [Bool.and_eq_true] at z
        cases h
        obtain ⟨a, vs, rfl, r, q2⟩ := ry.lst_inv
        obtain ⟨f1, f2⟩ := rps_flat rx z.1 q2 z.2
        exact ⟨a, vs, rfl, .inl r.sq, (rp_flat rx z.1).1, f1, by rw [f2]; exact q⟩
      · cases h
    · split at h
      · rename_i z
        rw [Bool.and_eq_true] at z
        cases h
        obtain ⟨a, vs, rfl, r, q2⟩ := ry.tup_inv
        obtain ⟨f1, f2⟩ := rps_flat rx z.1 q2 z.2
        exact ⟨a, vs, rfl, .inr r, (rp_flat rx z.1).1, f1, by rw [f2]; exact q⟩
      · cases h
    · cases h
  | notIn =>
    simp only [cmpO] at h
    unfold inD at h
    split at h
    · split at h
      · rename_i z
        rw [Bool.and_eq_true] at z
        cases h
        obtain ⟨a, vs, rfl, r, q2⟩ := ry.lst_inv
        obtain ⟨f1, f2⟩ := rps_flat rx z.1 q2 z.2
        exact ⟨a, vs, rfl, .inl r.sq, (rp_flat rx z.1).1, f1, by rw [f2]; exact q⟩
      · cases h
    · split at h
      · rename_i z
        rw [Bool.and_eq_true] at z
        cases h
        obtain ⟨a, vs, rfl, r, q2⟩ := ry.tup_inv
        obtain ⟨f1, f2⟩ := rps_flat rx z.1 q2 z.2
        exact ⟨a, vs, rfl, .inr r, (rp_flat rx z.1).1, f1, by rw [f2]; exact q⟩
      · cases h
    · cases h
theorem datB_some {o : Option Bool} {z : A} (h : datB o = some z) : ∃ k, o = some k ∧ z = .dat (.bl k) := by
  cases o with
  | none => cases h
  | some k => cases h; exact ⟨k, rfl, rfl⟩
theorem c_cmp {op : COp} {a b : C} {e1 e2 : Expr} {pos : Pos} (G : Gd tb cl call X N sc fnB W) (h1 : PE X e1 (CA cl call X W σ0 a)) (h2 : PE X e2 (CA cl call X W σ0 b)) (hs : isSet e2 = false) : PE X (.Compare e1 [opC op] [e2] pos) (CA cl call X W σ0 (.cmp op a b)) :=
  pe_imp (pe_cmpR (cmp_ok G.units op) h1 h2 (marks_of hs _)) fun σ H Q h => two (fun _ _ _ _ _ _ _ _ _ _ _ F S hx hy e R => by
    obtain ⟨k, e1, rfl⟩ := datB_some e
    exact cmp_res F.sub hx hy e1 (Res.datum F S R (.bl k))) h
end
end MP
set_option Elab.async false
set_option linter.all false
set_option maxRecDepth 100000
set_option maxHeartbeats 2000000
/-! MP: tests, chains, subscripts, displays -/
namespace MP
open PySem PySem.Spec PyProof.Rows L2

theorem bnd_assoc {α β γ : Type} (m : Mr α) (f : α → Env → Mr β) (g : β → Env → Mr γ) : bnd (bnd m f) g = bnd m fun a ρ => bnd (f a ρ) g := by
  cases m with
  | none => rfl
  | some q => obtain ⟨x, ρ'⟩ := q; cases x <;> rfl
theorem bnd_ok_r {α : Type} (m : Mr α) : bnd m (fun a ρ => ok a ρ) = m := by
  cases m with
  | none => rfl
  | some q => obtain ⟨x, ρ'⟩ := q; cases x <;> rfl
theorem bnd_some {α β : Type} {m : Mr α} {f : α → Env → Mr β} {b : β} {ρ' : Env} (h : bnd m f = some (.ok b, ρ')) : ∃ a ρ1, m = some (.ok a, ρ1) ∧ f a ρ1 = some (.ok b, ρ') := by
  cases m with
  | none => cases h
  | some q =>
    obtain ⟨x, ρ1⟩ := q
    cases x with
    | error x => cases h
    | ok a => exact ⟨a, ρ1, rfl, h⟩
section
variable {tb : Tb} {cl : Nat → Addr} {call : Nat → List Slot → Out} {X : Cx} {N : List Str} {sc : Scope} {fnB : Str → Bool} {W : WX} {σ0 : L2.St}
theorem rps_empty {K : PySem.W.Frag} {P : Hp} {vs : List V} {ds : List D} (q : Rps K P vs ds) : ds.isEmpty = vs.isEmpty := by
  cases q <;> rfl
theorem vw_tru {K : PySem.W.Frag} {H P : Hp} {v : V} {d : D} {k : Bool} (sub : Same P H) (h : Vw K H P v d) (e : d.truth = some k) : TruV K v H k := by
  cases d with
  | non => cases e; rw [(h.dat fun _ z => nomatch z).non_inv]; rfl
  | bl b => cases e; rw [(h.dat fun _ z => nomatch z).bl_inv]; rfl
  | int i => cases e; rw [h.int]; rfl
  | str x =>
    rw [(h.dat fun _ z => nomatch z).str_inv]
    simp only [D.truth] at e
    split at e
    · rename_i z
      cases e
      exact ⟨Nat.le_trans z (by decide), rfl⟩
    · cases e
  | tup ds =>
    cases e
    obtain ⟨a, vs, rfl, s, _, q⟩ := h.tup sub
    exact .inr (.inl ⟨vs, s, by rw [rps_empty q]⟩)
  | lst ds =>
    cases e
    obtain ⟨a, vs, rfl, s, q⟩ := h.lst sub
    exact .inl ⟨vs, s.sq, by rw [rps_empty q]⟩
  | dic _ _ => cases e
theorem res_tru {β γ : Type} {R2 : Rl β γ} {K : PySem.W.Frag} {σ : L2.St} {ρ ρ1 : Env} {H P : Hp} {x : A} {f : Bool → Env → Mr γ} {Q : β → Hp → Prop} (R : Res K cl R2 W σ0 σ ρ H P (bnd (tru x ρ1) f) Q) :
    ∃ d k, view x ρ1 = some d ∧ d.truth = some k ∧ Res K cl R2 W σ0 σ ρ H P (f k ρ1) Q := by
  unfold MP.tru at R
  cases e1 : view x ρ1 with
  | none => rw [e1] at R; exact R.elim
  | some d =>
    rw [e1] at R
    dsimp only at R
    cases e3 : d.truth with
    | none => rw [e3] at R; exact R.elim
    | some k => rw [e3] at R; exact ⟨d, k, rfl, e3, R⟩
abbrev CT (cl : Nat → Addr) (call : Nat → List Slot → Out) (X : Cx) (W : WX) (σ0 : L2.St) (c : C) : TT := Can X.K cl rB W σ0 (evT call c)
/-- a plain expression as a test -/
theorem t_plain {c : C} {e : Expr} (h : PE X e (CA cl call X W σ0 c)) (he : ∀ whole, isTrue e X.env whole = (do let v ← whole; standAt e.pos; holding [v] (truthy v))) : PT X e (CT cl call X W σ0 c) := by
  refine pt_imp (pt_truth h he) fun σ H Q h => ?_
  obtain ⟨ρ, P, F, R⟩ := h
  refine (Res.bnd (R1 := rA X.K) F Step.refl R).mono fun v H1 ⟨a, ρ1, P1, F1, S1, _, ⟨r1, f1⟩, R1⟩ => ?_
  have R1' : Res X.K cl rB W σ0 σ ρ H P (bnd (tru a ρ1) fun k ρ => ok k ρ) Q := by rw [bnd_ok_r]; exact R1
  obtain ⟨d, k, e1, e2, R2⟩ := (res_tru R1')
  exact ⟨k, vw_tru F1.sub (r1.view F1 e1) e2, Res.ret F1 S1 R2 rfl⟩

/-! ### comparisons as values and tests -/
theorem cmp_gen {β γ : Type} {R2 : Rl β γ} {op : COp} {a b : C} {g : A → Env → Mr γ} {σ : L2.St} {ρ : Env} {H P : Hp} {Q : β → Hp → Prop} {Qv : VK} (F : FR X.K σ0 σ H P ρ)
    (fin : ∀ ρ1 H1 P1 k, FR X.K σ0 σ H1 P1 ρ1 → Step σ ρ H P σ ρ1 H1 P1 → Res X.K cl R2 W σ0 σ ρ H P (g (.dat (.bl k)) ρ1) Q → Qv (.bl k) H1)
    (R : Res X.K cl R2 W σ0 σ ρ H P (bnd (ev call (.cmp op a b) ρ) g) Q) : tOp (cmpR X.K op) (CA cl call X W σ0 a) (CA cl call X W σ0 b) σ H Qv := by
  simp only [ev, bnd_assoc] at R
  refine (Res.bnd (R1 := rA X.K) F Step.refl R).mono fun x H1 ⟨dx, ρ1, P1, F1, S1, _, ⟨r1, f1⟩, R1⟩ => ?_
  refine (Res.bnd (R1 := rA X.K) F1 S1 R1).mono fun y H2 ⟨dy, ρ2, P2, F2, S2, S, ⟨r2, f2⟩, R2⟩ => ?_
  unfold op2 at R2
  cases e1 : view dx ρ2 with
  | none => rw [e1] at R2; exact R2.elim
  | some d1 =>
    cases e2 : view dy ρ2 with
    | none => rw [e1, e2] at R2; exact R2.elim
    | some d2 =>
      rw [e1, e2] at R2
      dsimp only at R2
      cases e3 : datB (cmpO op d1 d2) with
      | none => rw [e3] at R2; exact R2.elim
      | some z =>
        rw [e3] at R2
        obtain ⟨k, e4, rfl⟩ := datB_some e3
        exact cmp_res F2.sub ((r1.step S2).view F2 e1) (r2.view F2 e2) e4 (fin ρ2 H2 P2 k F2 S R2)
theorem t_cmp {op : COp} {a b : C} {e1 e2 : Expr} {pos : Pos} (G : Gd tb cl call X N sc fnB W) (h1 : PE X e1 (CA cl call X W σ0 a)) (h2 : PE X e2 (CA cl call X W σ0 b)) (hs : isSet e2 = false) : PT X (.Compare e1 [opC op] [e2] pos) (CT cl call X W σ0 (.cmp op a b)) :=
  pt_imp (pt_cmpR (cmp_ok G.units op) h1 h2 (marks_of hs _)) fun σ H Q h => by
    obtain ⟨ρ, P, F, R⟩ := h
    exact cmp_gen (g := tru) F (fun ρ1 H1 P1 k F1 S1 R1 => ⟨k, rfl, Res.ret F1 S1 (show Res X.K cl rB W σ0 σ ρ H P (ok k ρ1) Q from R1) rfl⟩) R
theorem chn_gen {β γ : Type} {RR : Rl β γ} {op op' : COp} {a b c : C} {g : A → Env → Mr γ} {σ : L2.St} {ρ : Env} {H P : Hp} {Q : β → Hp → Prop} {Qv : VK} (F : FR X.K σ0 σ H P ρ)
    (fin : ∀ ρ1 H1 P1 k, FR X.K σ0 σ H1 P1 ρ1 → Step σ ρ H P σ ρ1 H1 P1 → Res X.K cl RR W σ0 σ ρ H P (g (.dat (.bl k)) ρ1) Q → Qv (.bl k) H1)
    (R : Res X.K cl RR W σ0 σ ρ H P (bnd (ev call (.chn op op' a b c) ρ) g) Q) : tChain (cmpR X.K op) (cmpR X.K op') (CA cl call X W σ0 a) (CA cl call X W σ0 b) (CA cl call X W σ0 c) σ H Qv := by
  simp only [ev, bnd_assoc] at R
  refine (Res.bnd (R1 := rA X.K) F Step.refl R).mono fun x H1 ⟨dx, ρ1, P1, F1, S1, _, ⟨r1, f1⟩, R1⟩ => ?_
  refine (Res.bnd (R1 := rA X.K) F1 S1 R1).mono fun y H2 ⟨dy, ρ2, P2, F2, S2, S, ⟨r2, f2⟩, R2⟩ => ?_
  unfold op2 at R2
  cases e1 : view dx ρ2 with
  | none => rw [e1] at R2; exact R2.elim
  | some d1 =>
    cases e2 : view dy ρ2 with
    | none => rw [e1, e2] at R2; exact R2.elim
    | some d2 =>
      rw [e1, e2] at R2
      dsimp only at R2
      cases e3 : datB (cmpO op d1 d2) with
      | none => rw [e3] at R2; exact R2.elim
      | some z =>
        rw [e3] at R2
        obtain ⟨k, e4, rfl⟩ := datB_some e3
        refine cmp_res F2.sub ((r1.step S2).view F2 e1) (r2.view F2 e2) e4 ⟨k, rfl, ?_⟩
        cases k with
        | false => exact fin ρ2 H2 P2 false F2 S R2
        | true =>
          rw [if_pos rfl]
          have R3 : Res X.K cl RR W σ0 σ ρ H P (bnd (bnd (ev call c ρ2) fun z ρ => op2 (fun x y => datB (cmpO op' x y)) dy z ρ) g) Q := R2
          rw [bnd_assoc] at R3
          refine (Res.bnd (R1 := rA X.K) F2 S R3).mono fun w H3 ⟨dw, ρ3, P3, F3, S3, S', ⟨r3, f3⟩, R4⟩ => ?_
          unfold op2 at R4
          cases e5 : view dy ρ3 with
          | none => rw [e5] at R4; exact R4.elim
          | some d3 =>
            cases e6 : view dw ρ3 with
            | none => rw [e5, e6] at R4; exact R4.elim
            | some d4 =>
              rw [e5, e6] at R4
              dsimp only at R4
              cases e7 : datB (cmpO op' d3 d4) with
              | none => rw [e7] at R4; exact R4.elim
              | some z =>
                rw [e7] at R4
                obtain ⟨k', e8, rfl⟩ := datB_some e7
                exact cmp_res F3.sub ((r2.step S3).view F3 e5) (r3.view F3 e6) e8 (fin ρ3 H3 P3 k' F3 S' R4)
theorem marks2 {b c : Expr} {op op' : CmpOp} (h : isSet c = false) : lastMarks [op, op'] [b, c] = false := marks_of h _
theorem c_chn {op op' : COp} {a b c : C} {e1 e2 e3 : Expr} {pos : Pos} (G : Gd tb cl call X N sc fnB W) (h1 : PE X e1 (CA cl call X W σ0 a)) (h2 : PE X e2 (CA cl call X W σ0 b)) (h3 : PE X e3 (CA cl call X W σ0 c)) (hs : isSet e3 = false) :
    PE X (.Compare e1 [opC op, opC op'] [e2, e3] pos) (CA cl call X W σ0 (.chn op op' a b c)) :=
  pe_imp (pe_chain (cmp_ok G.units op) (cmp_ok G.units op') h1 h2 h3 (marks2 hs)) fun σ H Q h => by
    obtain ⟨ρ, P, F, R⟩ := h
    refine chn_gen (RR := rA X.K) (g := fun a ρ => ok a ρ) F (fun ρ1 H1 P1 k F1 S1 R1 => Res.datum F1 S1 R1 (.bl k)) ?_
    rw [bnd_ok_r]
    exact R
theorem t_chn {op op' : COp} {a b c : C} {e1 e2 e3 : Expr} {pos : Pos} (G : Gd tb cl call X N sc fnB W) (h1 : PE X e1 (CA cl call X W σ0 a)) (h2 : PE X e2 (CA cl call X W σ0 b)) (h3 : PE X e3 (CA cl call X W σ0 c)) (hs : isSet e3 = false) :
    PT X (.Compare e1 [opC op, opC op'] [e2, e3] pos) (CT cl call X W σ0 (.chn op op' a b c)) :=
  pt_imp (pt_chain (cmp_ok G.units op) (cmp_ok G.units op') h1 h2 h3 (marks2 hs)) fun σ H Q h => by
    obtain ⟨ρ, P, F, R⟩ := h
    exact chn_gen (g := tru) F (fun ρ1 H1 P1 k F1 S1 R1 => ⟨k, rfl, Res.ret F1 S1 (show Res X.K cl rB W σ0 σ ρ H P (ok k ρ1) Q from R1) rfl⟩) R

/-! ### and, or, not, if -/
def opK (k : Bool) : PySem.BoolOp := if k then .And else .Or
theorem c_boo1 {k : Bool} {c : C} {e : Expr} {pos : Pos} (h : PE X e (CA cl call X W σ0 c)) : PE X (.BoolOp (opK k) [e] pos) (Can X.K cl (rA X.K) W σ0 (evB call k (.cons c .nil))) :=
  pe_imp (pe_one h) fun σ H Q h => by
    obtain ⟨ρ, P, F, R⟩ := h
    refine ⟨ρ, P, F, ?_⟩
    simp only [evB] at R
    rw [bnd_ok_r] at R
    exact R
theorem c_boo2 {k : Bool} {c c2 : C} {cs : Cs} {e e2 : Expr} {es : List Expr} {pos : Pos} (h : PE X e (CA cl call X W σ0 c)) (h2 : PE X (.BoolOp (opK k) (e2 :: es) pos) (Can X.K cl (rA X.K) W σ0 (evB call k (.cons c2 cs)))) :
    PE X (.BoolOp (opK k) (e :: e2 :: es) pos) (Can X.K cl (rA X.K) W σ0 (evB call k (.cons c (.cons c2 cs)))) := by
  cases k with
  | true =>
    refine pe_imp (pe_andT h h2) fun σ H Q h => ?_
    obtain ⟨ρ, P, F, R⟩ := h
    rw [evB] at R
    refine (Res.bnd (R1 := rA X.K) F Step.refl R).mono fun v H1 ⟨a, ρ1, P1, F1, S1, _, ⟨r1, f1⟩, R1⟩ => ?_
    obtain ⟨d, k, e1, e2, R2⟩ := (res_tru R1)
    refine ⟨k, vw_tru F1.sub (r1.view F1 e1) e2, ?_⟩
    cases k with
    | true => exact ⟨ρ1, P1, F1, Res.later R2 S1⟩
    | false => exact Res.ret F1 S1 R2 ⟨r1, f1⟩
  | false =>
    refine pe_imp (pe_orT h h2) fun σ H Q h => ?_
    obtain ⟨ρ, P, F, R⟩ := h
    rw [evB] at R
    refine (Res.bnd (R1 := rA X.K) F Step.refl R).mono fun v H1 ⟨a, ρ1, P1, F1, S1, _, ⟨r1, f1⟩, R1⟩ => ?_
    obtain ⟨d, k, e1, e2, R2⟩ := (res_tru R1)
    refine ⟨k, vw_tru F1.sub (r1.view F1 e1) e2, ?_⟩
    cases k with
    | true => exact Res.ret F1 S1 R2 ⟨r1, f1⟩
    | false => exact ⟨ρ1, P1, F1, Res.later R2 S1⟩
theorem w_boo1 {k : Bool} {c : C} {e : Expr} {pos : Pos} (h : PT X e (CT cl call X W σ0 c)) : PW X (.BoolOp (opK k) [e] pos) (Can X.K cl rB W σ0 (fun ρ => bnd (evB call k (.cons c .nil) ρ) tru)) := by
  have go : ∀ σ H Q, Can X.K cl rB W σ0 (fun ρ => bnd (evB call k (.cons c .nil) ρ) tru) σ H Q → CT cl call X W σ0 c σ H Q := fun σ H Q h => by
    obtain ⟨ρ, P, F, R⟩ := h
    refine ⟨ρ, P, F, ?_⟩
    simp only [evB] at R
    rw [bnd_ok_r] at R
    exact R
  cases k with
  | true => exact pw_imp (pw_and1 h) go
  | false => exact pw_imp (pw_or1 h) go
/-- a test, then more -/
theorem tst_bnd {γ : Type} {c : C} {ρ : Env} (f : A → Env → Mr γ) (g : Bool → Env → Mr γ) (h : ∀ x ρ1 d k, view x ρ1 = some d → d.truth = some k → f x ρ1 = g k ρ1) :
    bnd (ev call c ρ) (fun x ρ => bnd (tru x ρ) fun _ ρ => f x ρ) = bnd (evT call c ρ) g := by
  unfold evT
  rw [bnd_assoc]
  congr 1
  funext x ρ1
  unfold tru
  cases e : view x ρ1 with
  | none => rfl
  | some d =>
    dsimp only
    cases e2 : d.truth with
    | none => rfl
    | some k => exact h x ρ1 d k e e2
theorem w_boo2 {k : Bool} {c c2 : C} {cs : Cs} {e e2 : Expr} {es : List Expr} {pos : Pos} (h : PT X e (CT cl call X W σ0 c)) (h2 : PW X (.BoolOp (opK k) (e2 :: es) pos) (Can X.K cl rB W σ0 (fun ρ => bnd (evB call k (.cons c2 cs) ρ) tru))) :
    PW X (.BoolOp (opK k) (e :: e2 :: es) pos) (Can X.K cl rB W σ0 (fun ρ => bnd (evB call k (.cons c (.cons c2 cs)) ρ) tru)) := by
  have eq : ∀ ρ, bnd (evB call k (.cons c (.cons c2 cs)) ρ) tru = bnd (evT call c ρ) fun t ρ => if t = k then bnd (evB call k (.cons c2 cs) ρ) tru else ok t ρ := fun ρ => by
    rw [evB, bnd_assoc]
    unfold evT
    rw [bnd_assoc]
    congr 1
    funext x ρ1
    dsimp only
    rw [bnd_assoc]
    unfold tru
    cases e : view x ρ1 with
    | none => rfl
    | some d =>
      dsimp only
      cases e2 : d.truth with
      | none => rfl
      | some t =>
        show bnd (if t = k then _ else ok x ρ1) _ = if t = k then _ else _
        split
        · rfl
        · show MP.tru x ρ1 = ok t ρ1
          unfold MP.tru
          rw [e]
          dsimp only
          rw [e2]
  cases k with
  | true =>
    refine pw_imp (pw_and h h2) fun σ H Q h => ?_
    obtain ⟨ρ, P, F, R⟩ := h
    dsimp only at R
    rw [eq] at R
    refine (Res.bnd (R1 := rB) F Step.refl R).mono fun b H1 ⟨t, ρ1, P1, F1, S1, _, r1, R1⟩ => ?_
    cases (show b = t from r1)
    cases b with
    | true => exact ⟨ρ1, P1, F1, Res.later R1 S1⟩
    | false => exact Res.ret F1 S1 R1 rfl
  | false =>
    refine pw_imp (pw_or h h2) fun σ H Q h => ?_
    obtain ⟨ρ, P, F, R⟩ := h
    dsimp only at R
    rw [eq] at R
    refine (Res.bnd (R1 := rB) F Step.refl R).mono fun b H1 ⟨t, ρ1, P1, F1, S1, _, r1, R1⟩ => ?_
    cases (show b = t from r1)
    cases b with
    | true => exact Res.ret F1 S1 R1 rfl
    | false => exact ⟨ρ1, P1, F1, Res.later R1 S1⟩
theorem c_not {c : C} {e : Expr} {pos : Pos} (h : PE X e (CA cl call X W σ0 c)) : PE X (.UnaryOp .Not e pos) (CA cl call X W σ0 (.not_ c)) := by
  refine pe_imp (pe_notT h) fun σ H Q h => ?_
  obtain ⟨ρ, P, F, R⟩ := h
  refine (Res.bnd (R1 := rA X.K) F Step.refl R).mono fun v H1 ⟨a, ρ1, P1, F1, S1, _, ⟨r1, f1⟩, R1⟩ => ?_
  obtain ⟨d, k, e1, e2, R2⟩ := (res_tru R1)
  exact ⟨k, vw_tru F1.sub (r1.view F1 e1) e2, Res.datum F1 S1 R2 (.bl _)⟩
theorem t_not {c : C} {e : Expr} {pos : Pos} (h : PT X e (CT cl call X W σ0 c)) : PT X (.UnaryOp .Not e pos) (CT cl call X W σ0 (.not_ c)) := by
  refine pt_imp (pt_not h) fun σ H Q h => ?_
  obtain ⟨ρ, P, F, R⟩ := h
  have eq : evT call (.not_ c) ρ = bnd (evT call c ρ) fun k ρ => ok (!k) ρ := by
    unfold evT
    rw [ev, bnd_assoc, bnd_assoc]
    congr 1
    funext x ρ1
    rw [bnd_assoc]
    rfl
  rw [eq] at R
  refine (Res.bnd (R1 := rB) F Step.refl R).mono fun b H1 ⟨t, ρ1, P1, F1, S1, _, r1, R1⟩ => ?_
  cases (show b = t from r1)
  exact Res.ret F1 S1 R1 rfl
theorem c_ite {c a b : C} {e1 e2 e3 : Expr} {pos : Pos} (h1 : PT X e1 (CT cl call X W σ0 c)) (h2 : PE X e2 (CA cl call X W σ0 a)) (h3 : PE X e3 (CA cl call X W σ0 b)) : PE X (.IfExp e1 e2 e3 pos) (CA cl call X W σ0 (.ite c a b)) := by
  refine pe_imp (pe_ifExp h1 h2 h3) fun σ H Q h => ?_
  obtain ⟨ρ, P, F, R⟩ := h
  have eq : ev call (.ite c a b) ρ = bnd (evT call c ρ) fun k ρ => if k = true then ev call a ρ else ev call b ρ := by
    unfold evT
    rw [ev, bnd_assoc]
  rw [eq] at R
  refine (Res.bnd (R1 := rB) F Step.refl R).mono fun k H1 ⟨t, ρ1, P1, F1, S1, _, r1, R1⟩ => ?_
  cases (show k = t from r1)
  cases k with
  | true => exact ⟨ρ1, P1, F1, Res.later R1 S1⟩
  | false => exact ⟨ρ1, P1, F1, Res.later R1 S1⟩

/-! ### displays, subscripts -/
theorem thousand {n : Nat} (h : n ≤ 1000) : n ≤ sizeLine := Nat.le_trans h (by decide)
def csLen : Cs → Nat
  | .nil => 0
  | .cons _ cs => csLen cs + 1
theorem ds_len : ∀ {cs : Cs} {ρ ρ' : Env} {ds : List D}, evDs call cs ρ = some (.ok ds, ρ') → ds.length = csLen cs
  | .nil, _, _, _, h => by simp only [evDs] at h; cases h; rfl
  | .cons c cs, ρ, ρ', ds, h => by
    rw [evDs] at h
    obtain ⟨x, ρ1, _, h⟩ := bnd_some h
    obtain ⟨xs, ρ2, e, h⟩ := bnd_some h
    cases h
    rw [List.length_cons, ds_len e]
    rfl
theorem c_tup {cs : Cs} {es : List Expr} {k : Nat} {pos : Pos} (h : PA X es (Can X.K cl (rDs X.K) W σ0 (evDs call cs))) (hl : csLen cs ≤ 1000) : PE X (.Tuple es k pos) (CA cl call X W σ0 (.tup cs)) := by
  refine pe_imp (pe_tup h) fun σ H Q h => ?_
  obtain ⟨ρ, P, F, R⟩ := h
  have key : evDs call cs ρ = evDs call cs ρ := rfl
  refine ⟨ρ, P, F, ?_⟩
  rw [ev] at R
  unfold Res bnd at *
  cases e : evDs call cs ρ with
  | none => rw [e] at R; exact R
  | some q =>
    obtain ⟨x, ρ'⟩ := q
    rw [e] at R
    cases x with
    | error x => exact R
    | ok ds =>
      intro vs H1 P1 F1 S1 r1
      have r1 : Rps X.K P1 vs ds := r1
      have R' : Res X.K cl (rA X.K) W σ0 σ ρ H P (ok (.dat (.tup ds)) ρ') Q := R
      exact ⟨by rw [r1.length, ds_len e]; exact thousand hl, fun p hp => Res.newTup F1 S1 R' r1 hp⟩
theorem c_lst {cs : Cs} {es : List Expr} {pos : Pos} (h : PA X es (Can X.K cl (rDs X.K) W σ0 (evDs call cs))) (hl : csLen cs ≤ 1000) : PE X (.List es pos) (CA cl call X W σ0 (.lst cs)) := by
  refine pe_imp (pe_lst h) fun σ H Q h => ?_
  obtain ⟨ρ, P, F, R⟩ := h
  refine ⟨ρ, P, F, ?_⟩
  rw [ev] at R
  unfold Res bnd at *
  cases e : evDs call cs ρ with
  | none => rw [e] at R; exact R
  | some q =>
    obtain ⟨x, ρ'⟩ := q
    rw [e] at R
    cases x with
    | error x => exact R
    | ok ds =>
      intro vs H1 P1 F1 S1 r1
      have r1 : Rps X.K P1 vs ds := r1
      have R' : Res X.K cl (rA X.K) W σ0 σ ρ H P (ok (.frs (.lst ds)) ρ') Q := R
      exact ⟨by rw [r1.length, ds_len e]; exact thousand hl, fun p hp => Res.newLst F1 S1 R' r1 hp⟩
theorem ix_eq (n : Nat) (i : Int) : ixD n i = ixN n i := rfl
theorem at_res {K : PySem.W.Frag} {P : Hp} {vs : List V} {ds : List D} {i : Int} {d : D} (q : Rps K P vs ds) (h : ((ixD ds.length i).bind fun j => ds[j]?) = some d) : ∃ v, atI vs i = some v ∧ Rp K P v d := by
  cases e : ixD ds.length i with
  | none => rw [e] at h; cases h
  | some j =>
    rw [e] at h
    obtain ⟨v, h1, h2⟩ := q.get (show ds[j]? = some d from h)
    refine ⟨v, ?_, h2⟩
    unfold atI
    rw [q.length, ← ix_eq, e]
    exact h1
theorem c_idx {a i : C} {e1 e2 : Expr} {pos : Pos} (h1 : PE X e1 (CA cl call X W σ0 a)) (h2 : PE X e2 (CA cl call X W σ0 i)) (hs : isSlice e2 = false) : PE X (.Subscript e1 e2 pos) (CA cl call X W σ0 (.idx a i)) := by
  refine pe_imp (pe_ix (IxR.or ix_list ix_tup) h1 h2 (plain_of hs)) fun σ H Q h => two (r := fun x y H Q => rIxL X.K x y H Q ∨ rIxT X.K x y H Q) (fun ρ ρ1 H P H1 P1 dx dy z x y F S hx hy e R => ?_) h
  unfold idxD at e
  split at e
  · rename_i k
    have hy := hy.int
    subst hy
    unfold getD at e
    split at e
    · rename_i ds
      cases e2 : ((ixD ds.length k).bind fun j => ds[j]?) with
      | none => rw [e2] at e; cases e
      | some d =>
        rw [e2] at e
        cases e
        obtain ⟨p, vs, rfl, s, _, q⟩ := hx.tup F.sub
        obtain ⟨v, g1, g2⟩ := at_res q e2
        exact .inr ⟨p, vs, k, v, rfl, rfl, s, g1, Res.datum F S R g2⟩
    · rename_i ds
      cases e2 : ((ixD ds.length k).bind fun j => ds[j]?) with
      | none => rw [e2] at e; cases e
      | some d =>
        rw [e2] at e
        cases e
        obtain ⟨p, vs, rfl, s, q⟩ := hx.lst F.sub
        obtain ⟨v, g1, g2⟩ := at_res q e2
        exact .inl ⟨p, vs, k, v, rfl, rfl, s.sq, g1, Res.datum F S R g2⟩
    · cases e
  · cases e
theorem o_none : PO X none (Can X.K cl rO W σ0 (evO call .none)) := po_imp po_none fun σ H Q h => by
  obtain ⟨ρ, P, F, R⟩ := h
  exact Res.ret F Step.refl R rfl
theorem o_some {c : C} {e : Expr} (h : PE X e (CA cl call X W σ0 c)) : PO X (some e) (Can X.K cl rO W σ0 (evO call (.some c))) := po_imp (po_some h) fun σ H Q h => by
  obtain ⟨ρ, P, F, R⟩ := h
  refine (Res.bnd (R1 := rA X.K) F Step.refl R).mono fun v H1 ⟨a, ρ1, P1, F1, S1, _, ⟨r1, f1⟩, R1⟩ => ?_
  unfold intO at R1
  cases e1 : view a ρ1 with
  | none => rw [e1] at R1; exact R1.elim
  | some d =>
    rw [e1] at R1
    have r2 := r1.view F1 e1
    cases d with
    | int i => exact ⟨i, r2.int, Res.ret F1 S1 R1 rfl⟩
    | _ => exact (R1 : False).elim
theorem rps_cut {K : PySem.W.Frag} {P : Hp} {vs : List V} {ds : List D} (q : Rps K P vs ds) (lo hi : Option Int) : Rps K P (cutV vs lo hi) (cutD ds lo hi) := by
  unfold cutV cutD
  rw [q.length]
  exact (q.drop _).take _
theorem c_slc {a : C} {lo hi : CO} {e1 : Expr} {l h : Option Expr} {pos p2 : Pos} (h1 : PE X e1 (CA cl call X W σ0 a)) (h2 : PO X l (Can X.K cl rO W σ0 (evO call lo))) (h3 : PO X h (Can X.K cl rO W σ0 (evO call hi))) :
    PE X (.Subscript e1 (.Slice l h none p2) pos) (CA cl call X W σ0 (.slc a lo hi)) := by
  refine pe_imp (pe_slice (SlR.or sl_list sl_tupA) h1 h2 h3) fun σ H Q h => ?_
  obtain ⟨ρ, P, F, R⟩ := h
  rw [ev] at R
  refine (Res.bnd (R1 := rA X.K) F Step.refl R).mono fun v H1 ⟨x, ρ1, P1, F1, S1, _, ⟨r1, f1⟩, R1⟩ => ?_
  refine (Res.bnd (R1 := rO) F1 S1 R1).mono fun l H2 ⟨l', ρ2, P2, F2, S2, S2', r2, R2⟩ => ?_
  refine (Res.bnd (R1 := rO) F2 S2' R2).mono fun h H3 ⟨h', ρ3, P3, F3, S3, S3', r3, R3⟩ => ?_
  cases (show l = l' from r2)
  cases (show h = h' from r3)
  obtain ⟨d, z, e1, e2, R4⟩ := R3.op1
  have vw := ((r1.step S2).step S3).view F3 e1
  unfold slcD at e2
  split at e2
  · cases e2
    obtain ⟨p, vs, rfl, s, s', q⟩ := vw.tup F3.sub
    refine .inr ⟨p, vs, rfl, s, fun w => ?_, fun _ p hp => Res.newTup F3 S3' R4 (rps_cut q l h) hp⟩
    have q2 := rps_cut q l h
    have e : cutV vs l h = vs := by
      unfold cutV
      rw [w.1, w.2]
      simp
    rw [e] at q2
    exact Res.datum F3 S3' R4 (.tup s' q2)
  · cases e2
    obtain ⟨p, vs, rfl, s, q⟩ := vw.lst F3.sub
    exact .inl ⟨p, vs, rfl, s.sq, fun p hp => Res.newLst F3 S3' R4 (rps_cut q l h) hp⟩
  · cases e2
end
end MP
set_option Elab.async false
set_option linter.all false
set_option maxRecDepth 100000
set_option maxHeartbeats 2000000
/-! MP: calls -/
namespace MP
open PySem PySem.Spec PyProof.Rows L2

/-! ### what is lent -/
theorem lent_mem {ρ : Env} {k : Nat} {t : Bool} {d : D} (ho : ρ[k]? = some (.own t d)) : ∀ {as : List A} {j : Nat}, as[j]? = some (.slot k) → k ∈ lentIx ρ as
  | [], _, h => by simp at h
  | a :: as, 0, h => by
    simp only [List.getElem?_cons_zero, Option.some.injEq] at h
    subst h
    simp only [lentIx, ho, List.mem_cons, true_or]
  | a :: as, j + 1, h => by
    have ih := lent_mem ho (as := as) (j := j) (by simpa using h)
    cases a with
    | dat e => exact ih
    | frs e => exact ih
    | slot i =>
      simp only [lentIx]
      split
      · exact List.mem_cons_of_mem _ ih
      · exact ih
theorem lent_tail {ρ : Env} {a : A} {as : List A} (h : (lentIx ρ (a :: as)).Nodup) : (lentIx ρ as).Nodup := by
  cases a with
  | dat e => exact h
  | frs e => exact h
  | slot i =>
    simp only [lentIx] at h
    split at h
    · exact (List.nodup_cons.mp h).2
    · exact h
theorem lent_inj {ρ : Env} {k : Nat} {t : Bool} {d : D} (ho : ρ[k]? = some (.own t d)) : ∀ {as : List A} {i j : Nat}, (lentIx ρ as).Nodup → as[i]? = some (.slot k) → as[j]? = some (.slot k) → i = j
  | [], _, _, _, h, _ => by simp at h
  | a :: as, 0, 0, _, _, _ => rfl
  | a :: as, 0, j + 1, n, h1, h2 => by
    simp only [List.getElem?_cons_zero, Option.some.injEq] at h1
    subst h1
    simp only [lentIx, ho] at n
    exact absurd (lent_mem ho (as := as) (j := j) (by simpa using h2)) (List.nodup_cons.mp n).1
  | a :: as, i + 1, 0, n, h1, h2 => by
    simp only [List.getElem?_cons_zero, Option.some.injEq] at h2
    subst h2
    simp only [lentIx, ho] at n
    exact absurd (lent_mem ho (as := as) (j := i) (by simpa using h1)) (List.nodup_cons.mp n).1
  | a :: as, i + 1, j + 1, n, h1, h2 => by
    have := lent_inj ho (as := as) (i := i) (j := j) (lent_tail n) (by simpa using h1) (by simpa using h2)
    omega
theorem lent_set {ρ : Env} {i : Nat} {s : Slot} : ∀ {as : List A}, (∀ (j : Nat), as[j]? ≠ some (A.slot i)) → lentIx (ρ.set i s) as = lentIx ρ as
  | [], _ => rfl
  | a :: as, h => by
    have ih := lent_set (ρ := ρ) (i := i) (s := s) (as := as) fun j => by simpa using h (j + 1)
    cases a with
    | dat e => exact ih
    | frs e => exact ih
    | slot m =>
      have hm : i ≠ m := fun e => by subst e; exact h 0 rfl
      simp only [lentIx, List.getElem?_set_ne hm, ih]
theorem backs_len : ∀ (as : List A) (bs : List Slot) (ρ : Env), (backs as bs ρ).length = ρ.length
  | [], bs, ρ => by cases bs <;> rfl
  | a :: as, [], ρ => by cases a <;> rfl
  | .dat e :: as, b :: bs, ρ => backs_len as bs ρ
  | .frs e :: as, b :: bs, ρ => backs_len as bs ρ
  | .slot i :: as, b :: bs, ρ => by
    simp only [backs]
    split
    · rw [backs_len as bs, List.length_set]
    · exact backs_len as bs ρ
theorem backs_get : ∀ (as : List A) (bs : List Slot) (ρ : Env), (lentIx ρ as).Nodup → as.length = bs.length → ∀ (k : Nat) (s' : Slot), (backs as bs ρ)[k]? = some s' →
    (ρ[k]? = some s' ∧ ∀ (j : Nat) t d, as[j]? = some (.slot k) → ρ[k]? ≠ some (.own t d)) ∨ ∃ (j : Nat) (t : Bool) (d : D) (b : Slot), as[j]? = some (.slot k) ∧ ρ[k]? = some (.own t d) ∧ bs[j]? = some b ∧ s' = backS t b
  | [], bs, ρ, _, _, k, s', h => by
    have h : ρ[k]? = some s' := by cases bs <;> exact h
    exact .inl ⟨h, fun j _ _ e => by simp at e⟩
  | a :: as, [], ρ, _, hl, _, _, _ => by simp at hl
  | .dat e :: as, b :: bs, ρ, n, hl, k, s', h => by
    rcases backs_get as bs ρ n (by simpa using hl) k s' h with ⟨h1, h2⟩ | ⟨j, t, d, b', h1, h2, h3, h4⟩
    · refine .inl ⟨h1, fun j t d ej => ?_⟩
      cases j with
      | zero => simp at ej
      | succ j => exact h2 j t d (by simpa using ej)
    · exact .inr ⟨j + 1, t, d, b', by simpa using h1, h2, by simpa using h3, h4⟩
  | .frs e :: as, b :: bs, ρ, n, hl, k, s', h => by
    rcases backs_get as bs ρ n (by simpa using hl) k s' h with ⟨h1, h2⟩ | ⟨j, t, d, b', h1, h2, h3, h4⟩
    · refine .inl ⟨h1, fun j t d ej => ?_⟩
      cases j with
      | zero => simp at ej
      | succ j => exact h2 j t d (by simpa using ej)
    · exact .inr ⟨j + 1, t, d, b', by simpa using h1, h2, by simpa using h3, h4⟩
  | .slot i :: as, b :: bs, ρ, n, hl, k, s', h => by
    by_cases ho : ∃ t d, ρ[i]? = some (.own t d)
    · obtain ⟨t, d, ho⟩ := ho
      simp only [backs, ho] at h
      have no : ∀ (j : Nat), as[j]? ≠ some (A.slot i) := fun j ej => by
        have := lent_inj ho n (i := 0) (j := j + 1) rfl (by simpa using ej)
        omega
      have hi : i < ρ.length := (List.getElem?_eq_some_iff.mp ho).1
      rcases backs_get as bs (ρ.set i (backS t b)) (by rw [lent_set no]; exact lent_tail n) (by simpa using hl) k s' h with ⟨h1, h2⟩ | ⟨j, t', d', b', h1, h2, h3, h4⟩
      · by_cases e : i = k
        · subst e
          rw [List.getElem?_set_self hi] at h1
          cases h1
          exact .inr ⟨0, t, d, b, rfl, ho, rfl, rfl⟩
        · rw [List.getElem?_set_ne e] at h1
          refine .inl ⟨h1, fun j t' d' ej => ?_⟩
          cases j with
          | zero => simp only [List.getElem?_cons_zero, Option.some.injEq, A.slot.injEq] at ej; exact absurd ej e
          | succ j =>
            have := h2 j t' d' (by simpa using ej)
            rw [List.getElem?_set_ne e] at this
            exact this
      · have e : i ≠ k := fun e => by subst e; exact no j h1
        rw [List.getElem?_set_ne e] at h2
        exact .inr ⟨j + 1, t', d', b', by simpa using h1, h2, by simpa using h3, h4⟩
    · have h' : (backs as bs ρ)[k]? = some s' := by
        simp only [backs] at h
        split at h
        · rename_i z; exact absurd ⟨_, _, z⟩ ho
        · exact h
      rcases backs_get as bs ρ (lent_tail n) (by simpa using hl) k s' h' with ⟨h1, h2⟩ | ⟨j, t, d, b', h1, h2, h3, h4⟩
      · refine .inl ⟨h1, fun j t d ej => ?_⟩
        cases j with
        | zero =>
          simp only [List.getElem?_cons_zero, Option.some.injEq, A.slot.injEq] at ej
          subst ej
          exact fun z => ho ⟨t, d, z⟩
        | succ j => exact h2 j t d (by simpa using ej)
      · exact .inr ⟨j + 1, t, d, b', by simpa using h1, h2, by simpa using h3, h4⟩

section
variable {K : PySem.W.Frag} {cl : Nat → Addr} {W : WX} {σ0 σ : L2.St} {ρ ρ1 : Env} {H P H1 P1 : Hp} {vs : List V} {as : List A}
theorem lends_get {i : Nat} {s : Slot} (h : (lends ρ1 as)[i]? = some s) : ∃ a, as[i]? = some a ∧ lendA ρ1 a = s := by
  unfold lends at h
  rw [List.getElem?_map] at h
  cases e : as[i]? with
  | none => rw [e] at h; cases h
  | some a => rw [e] at h; cases h; exact ⟨a, rfl, rfl⟩
theorem ARs.val_at (A : ARs K σ H P ρ vs as) {i : Nat} {a : MP.A} (h : as[i]? = some a) : ∃ v, vs[i]? = some v ∧ (vs.map some)[i]? = some (some v) ∧ AR K σ H P ρ v a := by
  have hi : i < vs.length := by rw [A.length]; exact (List.getElem?_eq_some_iff.mp h).1
  refine ⟨vs[i], List.getElem?_eq_getElem hi, by rw [List.getElem?_map, List.getElem?_eq_getElem hi]; rfl, A.get i _ _ (List.getElem?_eq_getElem hi) h⟩
theorem ARs.apart : ∀ {vs : List V} {as : List MP.A}, ARs K σ H P ρ vs as → ∀ (i j : Nat) d d' v, i < j → as[i]? = some (.frs d) → as[j]? = some (.frs d') → vs[i]? = some v → vs[j]? ≠ some v
  | _, _, .nil, _, _, _, _, _, _, h, _, _ => by simp at h
  | _, _, .cons r t n, 0, j + 1, d, d', v, _, h1, h2, h3 => by
    simp only [List.getElem?_cons_zero, Option.some.injEq] at h1 h3
    subst h1 h3
    simpa using n d rfl j d' (by simpa using h2)
  | _, _, .cons r t n, i + 1, j + 1, d, d', v, hl, h1, h2, h3 => by
    simpa using t.apart i j d d' v (by omega) (by simpa using h1) (by simpa using h2) (by simpa using h3)
/-- whose an address is that is handed on as own: a new list, or one that is lent -/
theorem own_lends (F1 : FR K σ0 σ H1 P1 ρ1) (A : ARs K σ H1 P1 ρ1 vs as) {a : Addr} (o : Own (vs.map some) (lends ρ1 as) a) :
    (∃ (i : Nat) (d : D), as[i]? = some (.frs d) ∧ vs[i]? = some (.ref a)) ∨ ∃ (i k : Nat) (t : Bool) (d : D), as[i]? = some (.slot k) ∧ vs[i]? = some (.ref a) ∧ ρ1[k]? = some (.own t d) ∧ σ[k]? = some (some (.ref a)) := by
  obtain ⟨i, t, d, h1, h2⟩ := o
  obtain ⟨x, h3, h4⟩ := lends_get h1
  obtain ⟨v, h5, h6, h7⟩ := A.val_at h3
  rw [h6] at h2
  cases h2
  cases x with
  | dat e => cases h4
  | frs e => cases h4; exact .inl ⟨i, d, h3, h5⟩
  | slot k =>
    refine .inr ⟨i, k, ?_⟩
    simp only [lendA] at h4
    split at h4
    · cases h4
    · rename_i t' d' e
      cases h4
      exact ⟨t', d, h3, h5, e, h7⟩
    · cases h4
theorem FR.lend (F1 : FR K σ0 σ H1 P1 ρ1) (A : ARs K σ H1 P1 ρ1 vs as) (n : (lentIx ρ1 as).Nodup) : FR K (vs.map some) (vs.map some) H1 P1 (lends ρ1 as) where
  sub := F1.sub
  len := by unfold lends; rw [List.length_map, List.length_map, A.length]
  val := fun i t d h => by
    obtain ⟨x, h3, h4⟩ := lends_get h
    obtain ⟨v, h5, h6, h7⟩ := A.val_at h3
    refine ⟨v, h6, ?_⟩
    cases x with
    | dat e => cases h4; exact h7
    | frs e => cases h4
    | slot k =>
      simp only [lendA] at h4
      split at h4
      · rename_i t' d' e
        cases h4
        obtain ⟨w, h8, h9⟩ := F1.val k _ _ e
        rw [show σ[k]? = some (some v) from h7] at h8
        cases h8
        exact h9
      · cases h4
      · cases h4
  own := fun i t d h => by
    obtain ⟨x, h3, h4⟩ := lends_get h
    obtain ⟨v, h5, h6, h7⟩ := A.val_at h3
    refine ⟨v, h6, ?_⟩
    cases x with
    | dat e => cases h4
    | frs e => cases h4; exact h7.1
    | slot k =>
      simp only [lendA] at h4
      split at h4
      · cases h4
      · rename_i t' d' e
        cases h4
        obtain ⟨w, h8, h9⟩ := F1.own k _ _ e
        rw [show σ[k]? = some (some v) from h7] at h8
        cases h8
        exact h9
      · cases h4
  inj := fun i j t t' d d' a h1 h2 h3 h4 => by
    obtain ⟨x, x3, x4⟩ := lends_get h1
    obtain ⟨v, x5, x6, x7⟩ := A.val_at x3
    obtain ⟨y, y3, y4⟩ := lends_get h2
    obtain ⟨u, y5, y6, y7⟩ := A.val_at y3
    rw [x6] at h3; cases h3
    rw [y6] at h4; cases h4
    cases x with
    | dat e => cases x4
    | frs e =>
      cases y with
      | dat e => cases y4
      | frs e' =>
        rcases Nat.lt_trichotomy i j with z | z | z
        · exact absurd y5 (A.apart i j e e' _ z x3 y3 x5)
        · exact z
        · exact absurd x5 (A.apart j i e' e _ z y3 x3 y5)
      | slot k =>
        simp only [lendA] at y4
        split at y4
        · cases y4
        · rename_i e2
          exact absurd ⟨k, _, _, e2, y7⟩ (x7.2 a rfl)
        · cases y4
    | slot m =>
      simp only [lendA] at x4
      split at x4
      · cases x4
      · rename_i e1
        cases y with
        | dat e => cases y4
        | frs e' => exact absurd ⟨m, _, _, e1, x7⟩ (y7.2 a rfl)
        | slot k =>
          simp only [lendA] at y4
          split at y4
          · cases y4
          · rename_i e2
            have := F1.inj m k _ _ _ _ a e1 e2 x7 y7
            subst this
            exact lent_inj e1 n x3 y3
          · cases y4
      · cases x4
  tag := fun _ _ _ => rfl
/-- behind the call -/
theorem call_back {bs : List Slot} {H2 P2 : Hp} (F1 : FR K σ0 σ H1 P1 ρ1) (S1 : Step σ ρ H P σ ρ1 H1 P1) (A : ARs K σ H1 P1 ρ1 vs as) (B : AFs σ ρ H vs as) (n : (lentIx ρ1 as).Nodup)
    (F2 : FR K (vs.map some) (vs.map some) H2 P2 bs) (S2 : Step (vs.map some) (lends ρ1 as) H1 P1 (vs.map some) bs H2 P2) :
    FR K σ0 σ H2 P2 (backs as bs ρ1) ∧ Step σ ρ H P σ (backs as bs ρ1) H2 P2 ∧ (∀ a, Own (vs.map some) (lends ρ1 as) a → H a = none ∨ Own σ ρ a) ∧
      ∀ a, Own σ (backs as bs ρ1) a → ¬ Own (vs.map some) bs a → H1 a ≠ none ∧ ¬ Own (vs.map some) (lends ρ1 as) a := by
  have hl : as.length = bs.length := by
    have := F2.len
    rw [List.length_map, A.length] at this
    exact this.symm
  have cases_ := backs_get as bs ρ1 n hl
  have ol : ∀ a, Own (vs.map some) (lends ρ1 as) a → H a = none ∨ Own σ ρ a := fun a o => by
    rcases own_lends F1 A o with ⟨i, d, h1, h2⟩ | ⟨i, k, t, d, h1, h2, h3, h4⟩
    · exact B.get i _ _ h2 h1 d rfl a rfl
    · exact S1.newO a ⟨k, t, d, h3, h4⟩
  have ob : ∀ a, Own σ (backs as bs ρ1) a → Own σ ρ1 a := fun a ⟨k, t, d, h1, h2⟩ => by
    rcases cases_ k _ h1 with ⟨h3, _⟩ | ⟨j, t', d', b, h3, h4, h5, h6⟩
    · exact ⟨k, t, d, h3, h2⟩
    · exact ⟨k, t', d', h4, h2⟩
  have nl : ∀ k t d a, ρ1[k]? = some (.own t d) → σ[k]? = some (some (V.ref a)) → (∀ (j : Nat) t d, as[j]? = some (.slot k) → ρ1[k]? ≠ some (.own t d)) → ¬ Own (vs.map some) (lends ρ1 as) a := fun k t d a h1 h2 h3 o => by
    rcases own_lends F1 A o with ⟨i, d', g1, g2⟩ | ⟨i, m, t', d', g1, g2, g3, g4⟩
    · exact (A.get i _ _ g2 g1).2 a rfl ⟨k, t, d, h1, h2⟩
    · have := F1.inj k m _ _ _ _ a h1 g3 h2 g4
      subst this
      exact h3 i t d g1 h1
  refine ⟨⟨F2.sub, (backs_len _ _ _).trans F1.len, fun k t d h => ?_, fun k t d h => ?_, fun i j t t' d d' a h1 h2 h3 h4 => ?_, fun k d h => ?_⟩, ⟨fun a o h no => ?_, S1.mono.trans S2.mono, fun a h1 h2 => ?_, fun a o => S1.newO a (ob a o)⟩, ol, fun a o no => ?_⟩
  · rcases cases_ k _ h with ⟨h3, _⟩ | ⟨j, t', d', b, h3, h4, h5, h6⟩
    · obtain ⟨v, g1, g2⟩ := F1.val k t d h3
      exact ⟨v, g1, g2.mono S2.mono⟩
    · cases b with
      | non => cases h6
      | val t2 d2 =>
        cases t2 with
        | false => cases h6
        | true =>
          cases h6
          obtain ⟨v, g1, g2⟩ := F2.val j true d h5
          obtain ⟨w, g3, g4, g5⟩ := A.val_at h3
          rw [g4] at g1; cases g1
          exact ⟨_, g5, g2⟩
      | own t2 d2 => cases t2 <;> cases h6
  · rcases cases_ k _ h with ⟨h3, h3'⟩ | ⟨j, t', d', b, h3, h4, h5, h6⟩
    · obtain ⟨v, g1, g2⟩ := F1.own k t d h3
      refine ⟨v, g1, ?_⟩
      exact (g2.step (fun a e => by subst e; exact nl k t d a h3 g1 h3') S2).1
    · cases b with
      | non => cases h6
      | val t2 d2 => cases t2 <;> cases h6
      | own t2 d2 =>
        cases t2 with
        | false => cases h6
        | true =>
          cases h6
          obtain ⟨v, g1, g2⟩ := F2.own j true d h5
          obtain ⟨w, g3, g4, g5⟩ := A.val_at h3
          rw [g4] at g1; cases g1
          exact ⟨_, g5, g2⟩
  · have e1 : ∃ t d, ρ1[i]? = some (.own t d) := by
      rcases cases_ i _ h1 with ⟨h3, _⟩ | ⟨j, t', d', b, h3, h4, h5, h6⟩
      · exact ⟨_, _, h3⟩
      · exact ⟨_, _, h4⟩
    have e2 : ∃ t d, ρ1[j]? = some (.own t d) := by
      rcases cases_ j _ h2 with ⟨h3, _⟩ | ⟨j, t', d', b, h3, h4, h5, h6⟩
      · exact ⟨_, _, h3⟩
      · exact ⟨_, _, h4⟩
    obtain ⟨_, _, e1⟩ := e1
    obtain ⟨_, _, e2⟩ := e2
    exact F1.inj i j _ _ _ _ a e1 e2 h3 h4
  · rcases h with h | h
    · rcases cases_ k _ h with ⟨h3, _⟩ | ⟨j, t', d', b, h3, h4, h5, h6⟩
      · exact F1.tag k d (.inl h3)
      · cases t' with
        | true => exact F1.tag k d' (.inr h4)
        | false => cases b with
          | non => cases h6
          | val t2 d2 => cases t2 <;> cases h6
          | own t2 d2 => cases t2 <;> cases h6
    · rcases cases_ k _ h with ⟨h3, _⟩ | ⟨j, t', d', b, h3, h4, h5, h6⟩
      · exact F1.tag k d (.inr h3)
      · cases t' with
        | true => exact F1.tag k d' (.inr h4)
        | false => cases b with
          | non => cases h6
          | val t2 d2 => cases t2 <;> cases h6
          | own t2 d2 => cases t2 <;> cases h6
  · refine S2.keep a o (S1.keep a o h no) fun z => ?_
    rcases ol a z with y | y
    · rw [h] at y; cases y
    · exact no y
  · cases e : P1 a with
    | some u => exact S1.newP a h1 (by rw [e]; exact fun z => nomatch z)
    | none =>
      rcases S2.newP a e h2 with z | z
      · exact S1.none z
      · exact ol a z
  · obtain ⟨k, t, d, h1, h2⟩ := o
    rcases cases_ k _ h1 with ⟨h3, h3'⟩ | ⟨j, t', d', b, h3, h4, h5, h6⟩
    · obtain ⟨v, g1, a', us, ds, rfl, rfl, g2, _⟩ := F1.own k t d h3
      rw [h2] at g1; cases g1
      refine ⟨fun z => ?_, nl k t _ _ h3 h2 h3'⟩
      rw [g2] at z
      cases z
    · obtain ⟨w, g3, g4, g5⟩ := A.val_at h3
      rw [show σ[k]? = some (some w) from g5] at h2
      cases h2
      cases b with
      | non => cases h6
      | val t2 d2 => cases t2 <;> cases h6
      | own t2 d2 =>
        cases t2 with
        | false => cases h6
        | true => exact absurd ⟨j, true, d2, h5, g4⟩ no
end
section
variable {tb : Tb} {cl : Nat → Addr} {call : Nat → List Slot → Out} {X : Cx} {N : List Str} {sc : Scope} {fnB : Str → Bool} {W : WX} {σ0 : L2.St}
theorem call_res {f np : Nat} {σ : L2.St} {ρ ρ1 : Env} {H P H1 P1 : Hp} {vs : List V} {as : List A} {Q : VK} (hn : vs.length = np) (F1 : FR X.K σ0 σ H1 P1 ρ1) (S1 : Step σ ρ H P σ ρ1 H1 P1) (A : ARs X.K σ H1 P1 ρ1 vs as) (B : AFs σ ρ H vs as)
    (R : Res X.K cl (rA X.K) W σ0 σ ρ H P (doCall call f as ρ1) Q) : spOf X.K cl np (call f) vs H1 Q (WE W σ) := by
  unfold doCall at R
  split at R
  · rename_i n
    refine ⟨hn, lends ρ1 as, P1, F1.lend A n, ?_⟩
    cases e : call f (lends ρ1 as) with
    | none => rw [e] at R; exact R.elim
    | some q =>
      obtain ⟨x, bs⟩ := q
      rw [e] at R
      cases x with
      | error x =>
        intro c d H2 P2 F2 S2 r2
        obtain ⟨G1, G2, _, _⟩ := call_back F1 S1 A B n F2 S2
        exact R c d H2 P2 G1 G2 r2
      | ok r =>
        cases r with
        | slot i => exact (R : False).elim
        | dat d =>
          intro v H2 P2 F2 S2 r2
          obtain ⟨G1, G2, _, _⟩ := call_back F1 S1 A B n F2 S2
          exact R v H2 P2 G1 G2 ⟨r2.1, fun _ z => nomatch z⟩
        | frs d =>
          intro v H2 P2 F2 S2 r2
          obtain ⟨G1, G2, G3, G4⟩ := call_back F1 S1 A B n F2 S2
          obtain ⟨⟨r3, r4⟩, r5⟩ := r2
          refine R v H2 P2 G1 G2 ⟨⟨r3, fun b e o => ?_⟩, fun d' e b eb => ?_⟩
          · obtain ⟨z1, z2⟩ := G4 b o (r4 b e)
            rcases r5 d rfl b e with z | z
            · exact z1 z
            · exact z2 z
          · rcases r5 d rfl b eb with z | z
            · exact S1.none z
            · exact G3 b z
  · exact (R : False).elim
end
end MP
set_option Elab.async false
set_option linter.all false
set_option maxRecDepth 100000
set_option maxHeartbeats 2000000
/-! MP: calls of defs and of built-ins -/
namespace MP
open PySem PySem.Spec PyProof.Rows L2
section
variable {tb : Tb} {cl : Nat → Addr} {call : Nat → List Slot → Out} {X : Cx} {N : List Str} {sc : Scope} {fnB : Str → Bool} {W : WX} {σ0 : L2.St}
theorem as_len : ∀ {fl : List Bool} {cs : Cs} {ρ ρ' : Env} {as : List A}, evAs call fl cs ρ = some (.ok as, ρ') → as.length = csLen cs
  | _, .nil, _, _, _, h => by simp only [evAs] at h; cases h; rfl
  | fl, .cons c cs, ρ, ρ', as, h => by
    rw [evAs] at h
    obtain ⟨x, ρ1, _, h⟩ := bnd_some h
    obtain ⟨xs, ρ2, e, h⟩ := bnd_some h
    cases h
    rw [List.length_cons, as_len e]
    rfl
/-- a call of a def -/
theorem c_call {f : Nat} {fd : Fd} {fl : List Bool} {c : C} {cs : Cs} {x : Str} {e : Expr} {es : List Expr} {p pos : Pos} (G : Gd tb cl call X N sc fnB W) (hf : tb.fns f = some fd) (hx : fd.name = x) (hn : csLen (.cons c cs) = fd.np) (hg : glB sc x = true) (ho : oddB x = false)
    (ha : PA X (e :: es) (Can X.K cl (rAs X.K) W σ0 (evAs call fl (.cons c cs)))) (hs : (e :: es).any star = false) : PE X (.Call (.Name x p) (e :: es) [] pos) (CA cl call X W σ0 (.call f fl (.cons c cs))) := by
  obtain ⟨ad, fdt, k, FO, hr, hm, hk, hb⟩ := G.calls f fd hf
  obtain ⟨o1, o2, o3⟩ := odd_of ho
  rw [List.any_cons, Bool.or_eq_false_iff] at hs
  rw [hx] at hm
  refine pe_imp (pe_callS (E := WE W) FO hr (show X.env.scope.names.lookup x = _ by rw [G.sc]; exact gl_of hg) hm hk hb (fun σ => passAt G.takes σ) ha o1 (star_each hs.1 _ _) (back_any hs.2 _ _)) fun σ H Q h => ?_
  obtain ⟨ρ, P, F, R⟩ := h
  rw [ev] at R
  refine (Res.bndE (R1 := rAs X.K) F Step.refl R).mono fun vs H1 ⟨as, ρ1, P1, F1, S1, _, ⟨r1, f1⟩, R1, eq⟩ => ?_
  exact call_res (by rw [r1.length, as_len eq, hn]) F1 S1 r1 f1 R1

/-! ### built-ins -/
inductive Vws (K : PySem.W.Frag) (H P : Hp) : List V → List D → Prop
  | nil : Vws K H P [] []
  | cons {v : V} {vs : List V} {d : D} {ds : List D} : Vw K H P v d → Vws K H P vs ds → Vws K H P (v :: vs) (d :: ds)
theorem ARs.views {K : PySem.W.Frag} {σ : L2.St} {H P : Hp} {ρ : Env} (F : FR K σ0 σ H P ρ) : ∀ {vs : List V} {as : List A} {ds : List D}, ARs K σ H P ρ vs as → views as ρ = some ds → Vws K H P vs ds
  | _, _, _, .nil, h => by cases h; exact .nil
  | _, _, _, .cons (a := a) (as := as) r t _, h => by
    unfold MP.views at h
    cases e1 : view a ρ with
    | none => rw [e1] at h; cases h
    | some d =>
      cases e2 : MP.views as ρ with
      | none => rw [e1, e2] at h; cases h
      | some ds =>
        rw [e1, e2] at h
        cases h
        exact .cons (r.view F e1) (t.views F e2)
theorem blt_gen {f : Blt} {cs : Cs} {r : List V → Hp → VK → Prop} {σ : L2.St} {H : Hp} {Q : VK}
    (hr : ∀ (ρ ρ1 : Env) (H P H1 P1 : Hp) (ds : List D) (z : A) (vs : List V), FR X.K σ0 σ H1 P1 ρ1 → Step σ ρ H P σ ρ1 H1 P1 → Vws X.K H1 P1 vs ds → bltD f ds = some z → Res X.K cl (rA X.K) W σ0 σ ρ H P (ok z ρ1) Q → r vs H1 Q)
    (h : CA cl call X W σ0 (.blt f cs) σ H Q) : tCB r (Can X.K cl (rAs X.K) W σ0 (evAs call [] cs)) σ H Q := by
  obtain ⟨ρ, P, F, R⟩ := h
  rw [ev] at R
  refine (Res.bnd (R1 := rAs X.K) F Step.refl R).mono fun vs H1 ⟨as, ρ1, P1, F1, S1, _, ⟨r1, f1⟩, R1⟩ => ?_
  unfold blts liftO at R1
  cases e1 : views as ρ1 with
  | none => rw [e1] at R1; exact R1.elim
  | some ds =>
    rw [e1] at R1
    dsimp only at R1
    cases e2 : bltD f ds with
    | none => rw [e2] at R1; exact R1.elim
    | some z =>
      rw [e2] at R1
      exact hr ρ ρ1 H P H1 P1 ds z vs F1 S1 (r1.views F1 e1) e2 R1
def bltN : Blt → Str
  | .abs => "abs" | .max2 => "max" | .min2 => "min" | .int1 => "int" | .len => "len" | .gcd => "gcd" | .any => "any" | .all => "all" | .sum => "sum"
  | .tuple => "tuple" | .list => "list" | .str1 => "str" | .repr1 => "repr" | .bool1 => "bool"
theorem bls_vs {K : PySem.W.Frag} {P : Hp} : ∀ {vs : List V} {ds : List D} {bs : List Bool}, Rps K P vs ds → blsD ds = some bs → vs = bs.map V.bl
  | _, _, _, .nil, h => by cases h; rfl
  | _, _, _, .cons (d := d) (ds := ds) r t, h => by
    cases d with
    | bl b =>
      simp only [blsD] at h
      cases e : blsD ds with
      | none => rw [e] at h; cases h
      | some bs' =>
        rw [e] at h
        cases h
        rw [r.bl_inv, bls_vs t e]
        rfl
    | _ => simp [blsD] at h
theorem is_vs {K : PySem.W.Frag} {P : Hp} : ∀ {vs : List V} {ds : List D} {bs : List Int}, Rps K P vs ds → intsD ds = some bs → vs = bs.map V.int
  | _, _, _, .nil, h => by cases h; rfl
  | _, _, _, .cons (d := d) (ds := ds) r t, h => by
    cases d with
    | int b =>
      simp only [intsD] at h
      cases e : intsD ds with
      | none => rw [e] at h; cases h
      | some bs' =>
        rw [e] at h
        cases h
        rw [r.int_inv, is_vs t e]
        rfl
    | _ => simp [intsD] at h
theorem vws1 {K : PySem.W.Frag} {H P : Hp} {vs : List V} {d : D} (h : Vws K H P vs [d]) : ∃ v, vs = [v] ∧ Vw K H P v d := by
  cases h with
  | cons r t => cases t; exact ⟨_, rfl, r⟩
theorem vws2 {K : PySem.W.Frag} {H P : Hp} {vs : List V} {d e : D} (h : Vws K H P vs [d, e]) : ∃ v u, vs = [v, u] ∧ Vw K H P v d ∧ Vw K H P u e := by
  cases h with
  | cons r t =>
    obtain ⟨u, rfl, q⟩ := vws1 t
    exact ⟨_, u, rfl, r, q⟩
theorem c_fun {f : Blt} {id : String} {r : List V → Hp → VK → Prop} {x : Str} {c : C} {cs : Cs} {e : Expr} {es : List Expr} {p pos : Pos} (G : Gd tb cl call X N sc fnB W) (hc : CallR X (.builtin id) r) (hb : x ∈ bltL) (hv : bootBuiltins x = some (.builtin id)) (hg : glB sc x = true) (ho : oddB x = false)
    (ha : PA X (e :: es) (Can X.K cl (rAs X.K) W σ0 (evAs call [] (.cons c cs)))) (hs : (e :: es).any star = false)
    (hr : ∀ (σ : L2.St) (Q : VK) (ρ ρ1 : Env) (H P H1 P1 : Hp) (ds : List D) (z : A) (vs : List V), FR X.K σ0 σ H1 P1 ρ1 → Step σ ρ H P σ ρ1 H1 P1 → Vws X.K H1 P1 vs ds → bltD f ds = some z → Res X.K cl (rA X.K) W σ0 σ ρ H P (ok z ρ1) Q → r vs H1 Q) :
    PE X (.Call (.Name x p) (e :: es) [] pos) (CA cl call X W σ0 (.blt f (.cons c cs))) := by
  obtain ⟨o1, o2, o3⟩ := odd_of ho
  rw [List.any_cons, Bool.or_eq_false_iff] at hs
  exact pe_imp (pe_callB hc (show X.env.scope.names.lookup x = _ by rw [G.sc]; exact gl_of hg) (G.blt x hb) hv ha o3 o1 (star_each hs.1 _ _) (back_any hs.2 _ _)) fun σ H Q h => blt_gen (fun ρ ρ1 H P H1 P1 ds z vs F S V e R => hr σ Q ρ ρ1 H P H1 P1 ds z vs F S V e R) h
theorem c_typ {f : Blt} {T : String} {r : List V → Hp → VK → Prop} {x : Str} {c : C} {cs : Cs} {e : Expr} {es : List Expr} {p pos : Pos} (G : Gd tb cl call X N sc fnB W) (hc : CallR X (.type T) r) (hb : x ∈ bltL) (hv : bootBuiltins x = some (.type T)) (hg : glB sc x = true) (ho : oddB x = false)
    (ha : PA X (e :: es) (Can X.K cl (rAs X.K) W σ0 (evAs call [] (.cons c cs)))) (hs : (e :: es).any star = false)
    (hr : ∀ (σ : L2.St) (Q : VK) (ρ ρ1 : Env) (H P H1 P1 : Hp) (ds : List D) (z : A) (vs : List V), FR X.K σ0 σ H1 P1 ρ1 → Step σ ρ H P σ ρ1 H1 P1 → Vws X.K H1 P1 vs ds → bltD f ds = some z → Res X.K cl (rA X.K) W σ0 σ ρ H P (ok z ρ1) Q → r vs H1 Q) :
    PE X (.Call (.Name x p) (e :: es) [] pos) (CA cl call X W σ0 (.blt f (.cons c cs))) := by
  obtain ⟨o1, o2, o3⟩ := odd_of ho
  rw [List.any_cons, Bool.or_eq_false_iff] at hs
  exact pe_imp (pe_callTy hc (show X.env.scope.names.lookup x = _ by rw [G.sc]; exact gl_of hg) (G.blt x hb) hv ha o3 o1 (star_each hs.1 _ _) (back_any hs.2 _ _)) fun σ H Q h => blt_gen (fun ρ ρ1 H P H1 P1 ds z vs F S V e R => hr σ Q ρ ρ1 H P H1 P1 ds z vs F S V e R) h
def rStr (xs : List V) (H : Hp) (Q : VK) : Prop := (∃ i, xs = [.int i] ∧ bits i < 1920 ∧ Q (.str ((toString i : String) : Str)) H) ∨ (∃ b, xs = [.bl b] ∧ Q (.str (boolS b)) H) ∨ ∃ x, xs = [.str x] ∧ Q (.str x) H
theorem cr_str : CallR X (.type "str") rStr := by
  intro pins s σ H xs us Q I r h
  rcases h with ⟨i, rfl, hb, q⟩ | ⟨b, rfl, q⟩ | ⟨x, rfl, q⟩
  · obtain ⟨u, rfl, ru⟩ := r.one
    obtain ⟨t, rfl⟩ := ru
    exact PySem.P.str_of_int hb ⟨.str _, H, I.tok _, ⟨_, rfl⟩, q⟩
  · obtain ⟨u, rfl, ru⟩ := r.one
    cases ru
    exact PySem.P.str_of_bool ⟨.str _, H, I.tok _, ⟨_, rfl⟩, q⟩
  · obtain ⟨u, rfl, ru⟩ := r.one
    obtain ⟨t, rfl⟩ := ru
    exact PySem.P.str_of_str ⟨.str _, H, I, ⟨_, rfl⟩, q⟩
def rRepr (xs : List V) (H : Hp) (Q : VK) : Prop := (∃ i, xs = [.int i] ∧ bits i < 1920 ∧ Q (.str ((toString i : String) : Str)) H) ∨ (∃ b, xs = [.bl b] ∧ Q (.str (boolS b)) H)
theorem cr_repr : CallR X (.builtin "repr") rRepr := by
  intro pins s σ H xs us Q I r h
  rcases h with ⟨i, rfl, hb, q⟩ | ⟨b, rfl, q⟩
  · obtain ⟨u, rfl, ru⟩ := r.one
    obtain ⟨t, rfl⟩ := ru
    exact PySem.P.repr_of_int hb ⟨.str _, H, I.tok _, ⟨_, rfl⟩, q⟩
  · obtain ⟨u, rfl, ru⟩ := r.one
    cases ru
    exact PySem.P.repr_of_bool ⟨.str _, H, I.tok _, ⟨_, rfl⟩, q⟩
def isServed : Blt → Bool
  | .bool1 => false
  | _ => true
def srvB (tb : Tb) (f : Blt) : Bool := isServed f && (tb.gcd || decide (f ≠ .gcd))
theorem c_blt {f : Blt} {c : C} {cs : Cs} {e : Expr} {es : List Expr} {p pos : Pos} (G : Gd tb cl call X N sc fnB W) (hi : srvB tb f = true) (hg : glB sc (bltN f) = true)
    (ha : PA X (e :: es) (Can X.K cl (rAs X.K) W σ0 (evAs call [] (.cons c cs)))) (hs : (e :: es).any star = false) : PE X (.Call (.Name (bltN f) p) (e :: es) [] pos) (CA cl call X W σ0 (.blt f (.cons c cs))) := by
  cases f with
  | abs =>
    refine c_fun G call_abs (by decide +kernel) (by decide +kernel) hg (by decide +kernel) ha hs fun σ Q ρ ρ1 H P H1 P1 ds z vs F S V e R => ?_
    replace e : absD ds = some z := e
    unfold absD at e
    split at e <;> cases e
    obtain ⟨v, rfl, h⟩ := vws1 V
    exact ⟨_, by rw [h.int], Res.datum F S R (.int _)⟩
  | max2 =>
    refine c_fun G (call_max2 G.calm) (by decide +kernel) (by decide +kernel) hg (by decide +kernel) ha hs fun σ Q ρ ρ1 H P H1 P1 ds z vs F S V e R => ?_
    replace e : maxD ds = some z := e
    unfold maxD at e
    split at e <;> cases e
    obtain ⟨v, u, rfl, h, h'⟩ := vws2 V
    exact ⟨_, _, by rw [h.int, h'.int], Res.datum F S R (.int _)⟩
  | min2 =>
    refine c_fun G (call_min2 G.calm) (by decide +kernel) (by decide +kernel) hg (by decide +kernel) ha hs fun σ Q ρ ρ1 H P H1 P1 ds z vs F S V e R => ?_
    replace e : minD ds = some z := e
    unfold minD at e
    split at e <;> cases e
    obtain ⟨v, u, rfl, h, h'⟩ := vws2 V
    exact ⟨_, _, by rw [h.int, h'.int], Res.datum F S R (.int _)⟩
  | int1 =>
    refine c_typ G call_int1 (by decide +kernel) (by decide +kernel) hg (by decide +kernel) ha hs fun σ Q ρ ρ1 H P H1 P1 ds z vs F S V e R => ?_
    replace e : int1D ds = some z := e
    unfold int1D at e
    split at e <;> cases e
    · obtain ⟨v, rfl, h⟩ := vws1 V
      exact .inl ⟨_, by rw [h.int], Res.datum F S R (.int _)⟩
    · obtain ⟨v, rfl, h⟩ := vws1 V
      exact .inr ⟨_, by rw [(h.dat fun _ z => nomatch z).bl_inv], Res.datum F S R (.int _)⟩
  | len =>
    refine c_fun G call_len_seq (by decide +kernel) (by decide +kernel) hg (by decide +kernel) ha hs fun σ Q ρ ρ1 H P H1 P1 ds z vs F S V e R => ?_
    replace e : lenD ds = some z := e
    unfold lenD at e
    split at e <;> cases e
    · obtain ⟨v, rfl, h⟩ := vws1 V
      obtain ⟨a, us, rfl, s, _, q⟩ := h.tup F.sub
      exact ⟨a, us, rfl, .inr s, Res.datum F S R (by rw [q.length]; exact .int _)⟩
    · obtain ⟨v, rfl, h⟩ := vws1 V
      obtain ⟨a, us, rfl, s, q⟩ := h.lst F.sub
      exact ⟨a, us, rfl, .inl s.sq, Res.datum F S R (by rw [q.length]; exact .int _)⟩
  | gcd =>
    obtain ⟨o1, o2, o3⟩ := odd_of (show oddB (bltN .gcd) = false by decide +kernel)
    rw [List.any_cons, Bool.or_eq_false_iff] at hs
    refine pe_imp (pe_callBfun cr_gcd (show X.env.scope.names.lookup (bltN .gcd) = _ by rw [G.sc]; exact gl_of hg) (G.gcd (by simpa [srvB, isServed] using hi)) ha o1 (star_each hs.1 _ _) (back_any hs.2 _ _)) fun σ H Q h => blt_gen (fun ρ ρ1 H P H1 P1 ds z vs F S V e R => ?_) h
    replace e : gcdD ds = some z := e
    unfold gcdD at e
    split at e <;> cases e
    obtain ⟨v, u, rfl, h, h'⟩ := vws2 V
    exact ⟨_, _, by rw [h.int, h'.int], Res.datum F S R (.int _)⟩
  | any =>
    refine c_fun G (cr_any G.calm) (by decide +kernel) (by decide +kernel) hg (by decide +kernel) ha hs fun σ Q ρ ρ1 H P H1 P1 ds z vs F S V e R => ?_
    replace e : anyD ds = some z := e
    unfold anyD at e
    split at e <;> try (cases e; done)
    rename_i xs
    cases e2 : blsD xs with
    | none => rw [e2] at e; cases e
    | some bs =>
      rw [e2] at e
      cases e
      obtain ⟨v, rfl, h⟩ := vws1 V
      obtain ⟨a, us, rfl, s, q⟩ := h.lst F.sub
      exact ⟨a, bs, rfl, by rw [← bls_vs q e2]; exact s.sq, Res.datum F S R (.bl _)⟩
  | all =>
    refine c_fun G (cr_all G.calm) (by decide +kernel) (by decide +kernel) hg (by decide +kernel) ha hs fun σ Q ρ ρ1 H P H1 P1 ds z vs F S V e R => ?_
    replace e : allD ds = some z := e
    unfold allD at e
    split at e <;> try (cases e; done)
    rename_i xs
    cases e2 : blsD xs with
    | none => rw [e2] at e; cases e
    | some bs =>
      rw [e2] at e
      cases e
      obtain ⟨v, rfl, h⟩ := vws1 V
      obtain ⟨a, us, rfl, s, q⟩ := h.lst F.sub
      exact ⟨a, bs, rfl, by rw [← bls_vs q e2]; exact s.sq, Res.datum F S R (.bl _)⟩
  | sum =>
    refine c_fun G (cr_sum G.calm) (by decide +kernel) (by decide +kernel) hg (by decide +kernel) ha hs fun σ Q ρ ρ1 H P H1 P1 ds z vs F S V e R => ?_
    replace e : sumD ds = some z := e
    unfold sumD at e
    split at e <;> try (cases e; done)
    rename_i xs
    cases e2 : intsD xs with
    | none => rw [e2] at e; cases e
    | some bs =>
      rw [e2] at e
      cases e
      obtain ⟨v, rfl, h⟩ := vws1 V
      obtain ⟨a, us, rfl, s, q⟩ := h.lst F.sub
      exact ⟨a, bs, rfl, by rw [← is_vs q e2]; exact s.sq, Res.datum F S R (.int _)⟩
  | tuple =>
    refine c_typ G call_tuple_of (by decide +kernel) (by decide +kernel) hg (by decide +kernel) ha hs fun σ Q ρ ρ1 H P H1 P1 ds z vs F S V e R => ?_
    replace e : tupleD ds = some z := e
    unfold tupleD at e
    split at e <;> cases e
    · obtain ⟨v, rfl, h⟩ := vws1 V
      obtain ⟨a, us, rfl, s, q⟩ := h.lst F.sub
      exact ⟨a, us, rfl, .inl ⟨s.sq, fun l hl => Res.newTup F S R q hl⟩⟩
    · obtain ⟨v, rfl, h⟩ := vws1 V
      obtain ⟨a, us, rfl, s, s', q⟩ := h.tup F.sub
      exact ⟨a, us, rfl, .inr ⟨s, Res.datum F S R (.tup s' q)⟩⟩
  | list =>
    refine c_typ G call_list_of (by decide +kernel) (by decide +kernel) hg (by decide +kernel) ha hs fun σ Q ρ ρ1 H P H1 P1 ds z vs F S V e R => ?_
    replace e : listD ds = some z := e
    unfold listD at e
    split at e <;> cases e
    · obtain ⟨v, rfl, h⟩ := vws1 V
      obtain ⟨a, us, rfl, s, q⟩ := h.lst F.sub
      exact ⟨a, us, rfl, .inl s.sq, fun l hl => Res.newLst F S R q hl⟩
    · obtain ⟨v, rfl, h⟩ := vws1 V
      obtain ⟨a, us, rfl, s, _, q⟩ := h.tup F.sub
      exact ⟨a, us, rfl, .inr s, fun l hl => Res.newLst F S R q hl⟩
  | str1 =>
    refine c_typ G cr_str (by decide +kernel) (by decide +kernel) hg (by decide +kernel) ha hs fun σ Q ρ ρ1 H P H1 P1 ds z vs F S V e R => ?_
    replace e : strD ds = some z := e
    unfold strD at e
    split at e
    · split at e <;> cases e
      rename_i hb
      obtain ⟨v, rfl, h⟩ := vws1 V
      exact .inl ⟨_, by rw [h.int], hb, Res.datum F S R (.str _)⟩
    · cases e
      obtain ⟨v, rfl, h⟩ := vws1 V
      exact .inr (.inl ⟨_, by rw [(h.dat fun _ z => nomatch z).bl_inv], Res.datum F S R (.str _)⟩)
    · cases e
      obtain ⟨v, rfl, h⟩ := vws1 V
      exact .inr (.inr ⟨_, by rw [(h.dat fun _ z => nomatch z).str_inv], Res.datum F S R (.str _)⟩)
    · cases e
  | repr1 =>
    refine c_fun G cr_repr (by decide +kernel) (by decide +kernel) hg (by decide +kernel) ha hs fun σ Q ρ ρ1 H P H1 P1 ds z vs F S V e R => ?_
    replace e : reprD ds = some z := e
    unfold reprD at e
    split at e
    · split at e <;> cases e
      rename_i hb
      obtain ⟨v, rfl, h⟩ := vws1 V
      exact .inl ⟨_, by rw [h.int], hb, Res.datum F S R (.str _)⟩
    · cases e
      obtain ⟨v, rfl, h⟩ := vws1 V
      exact .inr ⟨_, by rw [(h.dat fun _ z => nomatch z).bl_inv], Res.datum F S R (.str _)⟩
    · cases e
  | bool1 => simp [srvB, isServed] at hi
/-! ### dict displays -/
theorem c_dis0 {pos : Pos} : PE X (.Dict [] [] pos) (CA cl call X W σ0 .dis0) := pe_imp pe_dnewK fun σ H Q h => by
  obtain ⟨ρ, P, F, R⟩ := h
  rw [ev] at R
  intro p hp
  exact Res.datum (F.growP hp) (Step.growP F hp) R (.dic (kvs := []) (.inl upd_same) .nil)
theorem key_of {K : PySem.W.Frag} {P : Hp} {v : V} {d : D} (r : Rp K P v d) (h : keyB d = true) : ∃ k : Key, v = kV k ∧ d = keyD k := by
  cases r with
  | int i => exact ⟨.inl i, rfl, rfl⟩
  | str x => exact ⟨.inr x, rfl, rfl⟩
  | _ => cases h
theorem c_dis1 {a b : C} {e1 e2 : Expr} {pos : Pos} (h1 : PE X e1 (CA cl call X W σ0 a)) (h2 : PE X e2 (CA cl call X W σ0 b)) : PE X (.Dict [some e1] [e2] pos) (CA cl call X W σ0 (.dis1 a b)) := by
  refine pe_imp (pe_disp (pps_cons (pe_frz h1) (pe_frz h2) pps_nil) rfl rfl (fun z => nomatch z) (by rw [List.length_singleton]; decide)) fun σ H Q h => ?_
  obtain ⟨ρ, P, F, R⟩ := h
  simp only [ev] at R
  intro p hp
  have no := F.notOwn hp
  refine (Res.bnd (R1 := rD X.K) (F.grow hp) (Step.grow hp) R).mono fun v H1 ⟨x, ρ1, P1, F1, S1, T1, r1, R1⟩ => ?_
  refine (Res.bnd (R1 := rD X.K) F1 T1 R1).mono fun w H2 ⟨y, ρ2, P2, F2, S2, T2, r2, R2⟩ => ?_
  have r1 : Rp X.K P1 v x := r1
  have r2 : Rp X.K P2 w y := r2
  have S := S1.trans S2
  have e2 : H2 p = some (.dK []) := S.keep p _ upd_same no
  have p2 : P2 p = none := by
    cases z : P2 p with
    | none => rfl
    | some u =>
      rcases S.newP p (F.none hp) (by rw [z]; exact fun y => nomatch y) with q | q
      · rw [upd_same] at q; cases q
      · exact absurd q no
  have no2 : ¬ Own σ ρ2 p := fun o => by
    rcases S.newO p o with q | q
    · rw [upd_same] at q; cases q
    · exact no q
  have R2 : Res X.K cl (rA X.K) W σ0 σ ρ H P (if keyB x = true then ok (.dat (.dic [x] [y])) ρ2 else none) Q := R2
  split at R2
  · rename_i hk
    obtain ⟨k, rfl, rfl⟩ := key_of r1 hk
    exact ⟨e2, [(k, w)], rfl, (by rw [List.length_singleton]; decide), R2 _ _ _ ((F2.updH p2 no2).addP upd_same p2 no2) ((T2.updH hp).addP hp p2) ⟨.dic (kvs := [(k, w)]) (.inl upd_same) (.cons (r2.mono (same_upd p2)) .nil), fun _ z => nomatch z⟩⟩
  · exact (R2 : False).elim
/-! ### isinstance -/
def tyN : Ty → String
  | .int => "int" | .bool => "bool" | .str => "str" | .tuple => "tuple" | .list => "list" | .dict => "dict"
def tyS : Ty → Str
  | .int => "int" | .bool => "bool" | .str => "str" | .tuple => "tuple" | .list => "list" | .dict => "dict"
def tyT : D → String
  | .non => "NoneType" | .bl _ => "bool" | .int _ => "int" | .str _ => "str" | .tup _ => "tuple" | .lst _ => "list" | .dic _ _ => "dict"
theorem kit_all (d : D) (t : Ty) : kitB (tyT d) (tyN t) = some (tyD d t) := by
  cases d <;> cases t <;> (dsimp only [tyT, tyN, tyD]; decide +kernel)
theorem boot_ty (t : Ty) : bootBuiltins (tyS t) = some (.type (tyN t)) := by
  cases t <;> decide +kernel
theorem ty_in (t : Ty) : tyS t ∈ bltL ∧ oddB (tyS t) = false := by
  cases t <;> decide +kernel
theorem rp_ty {K : PySem.W.Frag} {H : Hp} {v : V} {d : D} (r : Rp K H v d) : TyX K H v (.type (tyT d)) := by
  cases r with
  | non => exact .base .non
  | bl b => exact .base (.bl b)
  | int i => exact .base (.int i)
  | str x => exact .base (.str x)
  | tup s q =>
    rcases s with (s | ⟨o, s⟩) | ⟨o, its, n, s, c, _⟩
    · exact .base (.tup s)
    · exact .fTuple s
    · exact .kTuple s c
  | lst s q =>
    rcases s with (s | ⟨o, s⟩) | ⟨its, n, s, _⟩
    · exact .base (.lst s)
    · exact .base (.frz s)
    · exact .kList s rfl
  | dic s q =>
    rcases s with s | ⟨o, s⟩
    · exact .base (.dK s)
    · exact .fDict s
theorem pe_ty {t : Ty} {pos : Pos} (G : Gd tb cl call X N sc fnB W) (hg : glB sc (tyS t) = true) : PE X (.Name (tyS t) pos) (tC (.ty (tyN t))) := by
  obtain ⟨o1, o2, o3⟩ := odd_of (ty_in t).2
  exact pe_bltn (show X.env.scope.names.lookup (tyS t) = _ by rw [G.sc]; exact gl_of hg) (G.blt _ (ty_in t).1) (boot_ty t) rfl o3 o1
def tyNames (sc : Scope) : List Ty → List Expr → Bool
  | [], [] => true
  | t :: ts, .Name x _ :: es => decide (x = tyS t) && glB sc x && tyNames sc ts es
  | _, _ => false
theorem ty_star {sc : Scope} : ∀ {ts : List Ty} {es : List Expr}, tyNames sc ts es = true → es.any star = false
  | [], [], _ => rfl
  | t :: ts, .Name x _ :: es, h => by
    simp only [tyNames, Bool.and_eq_true] at h
    show (star _ || es.any star) = false
    rw [ty_star h.2]
    rfl
  | [], _ :: _, h => by simp [tyNames] at h
  | _ :: _, [], h => by simp [tyNames] at h
theorem pa_tys (G : Gd tb cl call X N sc fnB W) : ∀ {ts : List Ty} {es : List Expr}, tyNames sc ts es = true → PA X es (fun _ H Q => Q (ts.map fun t => .ty (tyN t)) H)
  | [], [], _ => pa_nil
  | t :: ts, .Name x p :: es, h => by
    simp only [tyNames, Bool.and_eq_true, decide_eq_true_eq] at h
    obtain ⟨⟨rfl, hg⟩, h2⟩ := h
    exact pa_cons (pe_ty G hg) (pa_tys G h2) rfl
  | [], _ :: _, h => by simp [tyNames] at h
  | _ :: _, [], h => by simp [tyNames] at h
theorem kit_any {K : PySem.W.Frag} (d : D) : ∀ ts : List Ty, PySem.W.kitAny K (.type (tyT d)) (ts.map fun t => .type (tyN t)) = some (ts.any (tyD d))
  | [] => kitAny_nil
  | t :: ts => by
    have ih := kit_any (K := K) d ts
    refine kitAny_cons (kit_ty (kit_all d t)) (fun e => ?_) fun e => ?_
    · rw [ih, List.any_cons, e]; rfl
    · rw [List.any_cons, e]; rfl
theorem cls_all : ∀ ts : List Ty, Paired ClsV (ts.map fun t => V.ty (tyN t)) (ts.map fun t => Value.type (tyN t))
  | [] => .nil
  | t :: ts => .cons (.ty _) (cls_all ts)
theorem c_isi1 {t : Ty} {c : C} {e : Expr} {p q pos : Pos} (G : Gd tb cl call X N sc fnB W) (hg : glB sc "isinstance" = true) (ht : glB sc (tyS t) = true) (he : PE X e (CA cl call X W σ0 c)) (hs : star e = false) :
    PE X (.Call (.Name "isinstance" p) [e, .Name (tyS t) q] [] pos) (CA cl call X W σ0 (.isi [t] c)) := by
  refine pe_imp (pe_callB call_isi (show X.env.scope.names.lookup ("isinstance" : Str) = _ by rw [G.sc]; exact gl_of hg) (G.blt _ (by decide +kernel)) (by decide +kernel) (pa_cons he (pa_cons (pe_ty G ht) pa_nil rfl) (star_each hs _ _)) (by decide) (by decide) (star_each hs _ _) rfl) fun σ H Q h => ?_
  obtain ⟨ρ, P, F, R⟩ := h
  rw [ev] at R
  refine (Res.bnd (R1 := rA X.K) F Step.refl R).mono fun v H1 ⟨a, ρ1, P1, F1, S1, _, ⟨r1, f1⟩, R1⟩ => ?_
  obtain ⟨d, z, e1, e2, R2⟩ := R1.op1
  cases e2
  have rr := (r1.view F1 e1).rp F1.sub
  refine ⟨v, _, .type (tyT d), _, tyD d t, rfl, .ty _, rp_ty rr, kit_ty (kit_all d t), ?_⟩
  rw [show [t].any (tyD d) = tyD d t by rw [List.any_cons, List.any_nil, Bool.or_false]] at R2
  exact Res.datum F1 S1 R2 (.bl _)
theorem c_isiT {ts : List Ty} {c : C} {e : Expr} {es : List Expr} {k : Nat} {p q pos : Pos} (G : Gd tb cl call X N sc fnB W) (hg : glB sc "isinstance" = true) (ht : tyNames sc ts es = true) (hl : ts.length ≤ 1000) (he : PE X e (CA cl call X W σ0 c)) (hs : star e = false) :
    PE X (.Call (.Name "isinstance" p) [e, .Tuple es k q] [] pos) (CA cl call X W σ0 (.isi ts c)) := by
  refine pe_imp (pe_callB call_isiT (show X.env.scope.names.lookup ("isinstance" : Str) = _ by rw [G.sc]; exact gl_of hg) (G.blt _ (by decide +kernel)) (by decide +kernel) (pa_cons he (pa_cons (pe_tup (pa_tys G ht)) pa_nil rfl) (star_each hs _ _)) (by decide) (by decide) (star_each hs _ _) rfl) fun σ H Q h => ?_
  obtain ⟨ρ, P, F, R⟩ := h
  rw [ev] at R
  refine (Res.bnd (R1 := rA X.K) F Step.refl R).mono fun v H1 ⟨a, ρ1, P1, F1, S1, _, ⟨r1, f1⟩, R1⟩ => ?_
  obtain ⟨d, z, e1, e2, R2⟩ := R1.op1
  cases e2
  have rr := (r1.view F1 e1).rp F1.sub
  exact ⟨by rw [List.length_map]; exact thousand hl, fun tp hp => ⟨v, tp, _, .type (tyT d), _, ts.any (tyD d), rfl, upd_same, cls_all ts, rp_ty (rr.mono (same_upd hp)), kit_any d ts, Res.datum (F1.grow hp) (S1.trans (Step.grow hp)) R2 (.bl _)⟩⟩
end
end MP
set_option Elab.async false
set_option linter.all false
set_option maxRecDepth 100000
set_option maxHeartbeats 2000000
/-! MP: what is walked, targets, comprehensions -/
namespace MP
open PySem PySem.Spec PyProof.Rows L2

/-- a walk that yields the data ds -/
def JOk (K : PySem.W.Frag) (J : It) (P : Hp) (ds : List D) : Prop := ∀ (H2 P2 : Hp), Same P P2 → Same P2 H2 → ∀ i : Nat,
  (∀ d, ds[i]? = some d → J.go i H2 ∧ ∀ x H3, J.yld i H2 x H3 → ∃ P3, Same P2 P3 ∧ Same P3 H3 ∧ Same H2 H3 ∧ (∀ a, P2 a = none → P3 a ≠ none → H2 a = none) ∧ Rp K P3 x d) ∧ (ds.length ≤ i → J.stop i H2)
def rI (K : PySem.W.Frag) : Rl It (List D) := ⟨fun _ _ _ _ _ P J ds => JOk K J P ds, fun _ h => h⟩
theorem jok_tup' {K : PySem.W.Frag} {P : Hp} {a : Addr} {vs : List V} {ds : List D} (s : SqT K P a vs) (q : Rps K P vs ds) : JOk K (Itt K a) P ds := fun H2 P2 h1 h2 i => by
  have s2 : SqT K H2 a vs := same_sqt (h1.trans h2) s
  refine ⟨fun d hd => ?_, fun hl => ⟨vs, s2, by rw [q.length]; exact hl⟩⟩
  obtain ⟨v, g1, g2⟩ := q.get hd
  refine ⟨⟨vs, v, s2, g1⟩, fun x H3 y => ?_⟩
  obtain ⟨rfl, y⟩ := y
  have := y vs s2
  rw [g1] at this
  cases this
  exact ⟨P2, Same.refl _, h2, Same.refl _, fun a h h' => absurd h h', g2.mono h1⟩
theorem jok_lst {K : PySem.W.Frag} {P : Hp} {a : Addr} {vs : List V} {ds : List D} (s : RL K P a vs) (q : Rps K P vs ds) : JOk K (Itl K a) P ds := fun H2 P2 h1 h2 i => by
  have s2 : SqL K H2 a vs := (same_rl (h1.trans h2) s).sq
  refine ⟨fun d hd => ?_, fun hl => ⟨vs, s2, by rw [q.length]; exact hl⟩⟩
  obtain ⟨v, g1, g2⟩ := q.get hd
  refine ⟨⟨vs, v, s2, g1⟩, fun x H3 y => ?_⟩
  obtain ⟨rfl, y⟩ := y
  have := y vs s2
  rw [g1] at this
  cases this
  exact ⟨P2, Same.refl _, h2, Same.refl _, fun a h h' => absurd h h', g2.mono h1⟩
theorem intsL_get : ∀ (lo : Int) (n i : Nat), (intsL lo n)[i]? = if i < n then some (.int (lo + i)) else none
  | lo, 0, i => by simp [intsL]
  | lo, n + 1, 0 => by simp [intsL]
  | lo, n + 1, i + 1 => by
    simp only [intsL, List.getElem?_cons_succ, intsL_get (lo + 1) n i]
    by_cases h : i < n
    · rw [if_pos h, if_pos (by omega)]
      congr 2
      omega
    · rw [if_neg h, if_neg (by omega)]
theorem intsL_len : ∀ (lo : Int) (n : Nat), (intsL lo n).length = n
  | _, 0 => rfl
  | lo, n + 1 => by rw [intsL, List.length_cons, intsL_len]
theorem jok_rng {K : PySem.W.Frag} {P : Hp} (lo : Int) (n : Nat) : JOk K (Itr lo n) P (intsL lo n) := fun H2 P2 h1 h2 i => by
  refine ⟨fun d hd => ?_, fun hl => by rw [intsL_len] at hl; exact hl⟩
  rw [intsL_get] at hd
  split at hd
  · rename_i hi
    cases hd
    refine ⟨hi, fun x H3 y => ?_⟩
    obtain ⟨rfl, rfl⟩ := y
    exact ⟨P2, Same.refl _, h2, Same.refl _, fun a h h' => absurd h h', .int _⟩
  · cases hd
theorem enumD_get : ∀ (k : Nat) (ds : List D) (i : Nat), (enumD k ds)[i]? = (ds[i]?).map fun d => .tup [.int ((k + i : Nat) : Int), d]
  | k, [], i => by simp [enumD]
  | k, x :: xs, 0 => by simp [enumD]
  | k, x :: xs, i + 1 => by
    simp only [enumD, List.getElem?_cons_succ, enumD_get (k + 1) xs i]
    congr 1
    funext d
    rw [show k + 1 + i = k + (i + 1) by omega]
theorem enumD_len : ∀ (k : Nat) (ds : List D), (enumD k ds).length = ds.length
  | _, [] => rfl
  | k, x :: xs => by rw [enumD, List.length_cons, List.length_cons, enumD_len]
/-- a new tuple is yielded -/
theorem yld_tup {K : PySem.W.Frag} {H2 P2 : Hp} {T : Addr} {vs : List V} {ds : List D} (h2 : Same P2 H2) (hT : H2 T = none) (q : Rps K P2 vs ds) :
    ∃ P3, Same P2 P3 ∧ Same P3 (upd H2 T (.tup vs)) ∧ Same H2 (upd H2 T (.tup vs)) ∧ (∀ a, P2 a = none → P3 a ≠ none → H2 a = none) ∧ Rp K P3 (.ref T) (.tup ds) := by
  have pT : P2 T = none := h2.free hT
  refine ⟨upd P2 T (.tup vs), same_upd pT, fun b o e => ?_, same_upd hT, fun a h h' => ?_, .tup (.inl (.inl upd_same)) (q.mono (same_upd pT))⟩
  · by_cases hb : b = T
    · subst hb; rw [upd_same] at e ⊢; exact e
    · rw [upd_ne hb] at e ⊢; exact h2 _ _ e
  · by_cases ha : a = T
    · subst ha; exact hT
    · rw [upd_ne ha] at h'; exact absurd h h'
theorem jok_enum {K : PySem.W.Frag} {P : Hp} {a : Addr} {vs : List V} {ds : List D} (s : RL K P a vs) (q : Rps K P vs ds) : JOk K (Ite K a) P (enumD 0 ds) := fun H2 P2 h1 h2 i => by
  have s2 : SqL K H2 a vs := (same_rl (h1.trans h2) s).sq
  refine ⟨fun d hd => ?_, fun hl => ⟨vs, s2, by rw [q.length, ← enumD_len 0]; exact hl⟩⟩
  rw [enumD_get] at hd
  cases e : ds[i]? with
  | none => rw [e] at hd; cases hd
  | some d' =>
    rw [e] at hd
    cases hd
    obtain ⟨v, g1, g2⟩ := q.get e
    refine ⟨⟨vs, v, s2, g1⟩, fun x H3 y => ?_⟩
    obtain ⟨T, x', rfl, hT, rfl, y⟩ := y
    have := y vs s2
    rw [g1] at this
    cases this
    rw [Nat.zero_add]
    exact yld_tup h2 hT (.cons (.int _) (.cons (g2.mono h1) .nil))
theorem zipD_get : ∀ (xs ys : List D) (i : Nat) (d : D), (zipD xs ys)[i]? = some d → ∃ x y, xs[i]? = some x ∧ ys[i]? = some y ∧ d = .tup [x, y]
  | [], _, i, d, h => by simp [zipD] at h
  | _ :: _, [], i, d, h => by simp [zipD] at h
  | x :: xs, y :: ys, 0, d, h => by
    simp only [zipD, List.getElem?_cons_zero, Option.some.injEq] at h
    exact ⟨x, y, rfl, rfl, h.symm⟩
  | x :: xs, y :: ys, i + 1, d, h => by
    simp only [zipD, List.getElem?_cons_succ] at h ⊢
    exact zipD_get xs ys i d h
theorem zipD_len : ∀ (xs ys : List D), (zipD xs ys).length = min xs.length ys.length
  | [], _ => by simp [zipD]
  | _ :: _, [] => by simp [zipD]
  | x :: xs, y :: ys => by
    simp only [zipD, List.length_cons, zipD_len xs ys]
    omega
theorem jok_zipL {K : PySem.W.Frag} {P : Hp} {a b : Addr} {vs ws : List V} {ds es : List D} (s : RL K P a vs) (q : Rps K P vs ds) (s' : RL K P b ws) (q' : Rps K P ws es) : JOk K (Itz K a b) P (zipD ds es) := fun H2 P2 h1 h2 i => by
  have s2 : SqL K H2 a vs := (same_rl (h1.trans h2) s).sq
  have s3 : SqL K H2 b ws := (same_rl (h1.trans h2) s').sq
  refine ⟨fun d hd => ?_, fun hl => ⟨vs, ws, s2, s3, by rw [zipD_len] at hl; rw [q.length, q'.length]; omega⟩⟩
  obtain ⟨x, y, e1, e2, rfl⟩ := zipD_get _ _ _ _ hd
  obtain ⟨v, g1, g2⟩ := q.get e1
  obtain ⟨u, g3, g4⟩ := q'.get e2
  refine ⟨⟨vs, ws, v, u, s2, s3, g1, g3⟩, fun z H3 y => ?_⟩
  obtain ⟨T, x', y', rfl, hT, rfl, k1, k2⟩ := y
  have t1 := k1 vs s2
  rw [g1] at t1; cases t1
  have t2 := k2 ws s3
  rw [g3] at t2; cases t2
  exact yld_tup h2 hT (.cons (g2.mono h1) (.cons (g4.mono h1) .nil))
theorem jok_zipT {K : PySem.W.Frag} {P : Hp} {a b : Addr} {vs ws : List V} {ds es : List D} (s : SqT K P a vs) (q : Rps K P vs ds) (s' : SqT K P b ws) (q' : Rps K P ws es) : JOk K (RZ.ItzT K a b) P (zipD ds es) := fun H2 P2 h1 h2 i => by
  have s2 : SqT K H2 a vs := same_sqt (h1.trans h2) s
  have s3 : SqT K H2 b ws := same_sqt (h1.trans h2) s'
  refine ⟨fun d hd => ?_, fun hl => ⟨vs, ws, s2, s3, by rw [zipD_len] at hl; rw [q.length, q'.length]; omega⟩⟩
  obtain ⟨x, y, e1, e2, rfl⟩ := zipD_get _ _ _ _ hd
  obtain ⟨v, g1, g2⟩ := q.get e1
  obtain ⟨u, g3, g4⟩ := q'.get e2
  refine ⟨⟨vs, ws, v, u, s2, s3, g1, g3⟩, fun z H3 y => ?_⟩
  obtain ⟨T, x', y', rfl, hT, rfl, k1, k2⟩ := y
  have t1 := k1 vs s2
  rw [g1] at t1; cases t1
  have t2 := k2 ws s3
  rw [g3] at t2; cases t2
  exact yld_tup h2 hT (.cons (g2.mono h1) (.cons (g4.mono h1) .nil))

section
variable {tb : Tb} {cl : Nat → Addr} {call : Nat → List Slot → Out} {X : Cx} {N : List Str} {sc : Scope} {fnB : Str → Bool} {W : WX} {σ0 : L2.St} {tg : Expr}
abbrev CI (cl : Nat → Addr) (call : Nat → List Slot → Out) (X : Cx) (W : WX) (σ0 : L2.St) (it : I) : TI := Can X.K cl (rI X.K) W σ0 (evI call it)
theorem res_lift {β α : Type} {R : Rl β α} {K : PySem.W.Frag} {σ : L2.St} {ρ ρ1 : Env} {H P : Hp} {o : Option α} {Q : β → Hp → Prop} (h : Res K cl R W σ0 σ ρ H P (liftO o ρ1) Q) : ∃ a, o = some a ∧ Res K cl R W σ0 σ ρ H P (ok a ρ1) Q := by
  cases o with
  | none => exact (h : False).elim
  | some a => exact ⟨a, rfl, h⟩
/-- a list or a tuple, whichever it is -/
theorem pi_any {l : Expr} {tl : TE} (hl : PE X l tl) : PI X tg l (fun σ H R => tl σ H fun x H1 => ∃ a, x = .ref a ∧ (((∃ xs, SqL X.K H1 a xs) ∧ R (Itl X.K a) H1) ∨ ((∃ xs, SqT X.K H1 a xs) ∧ R (Itt X.K a) H1))) := by
  refine ⟨fun pl st σ G RR J hw => ?_⟩
  refine thn (hl.run pl st σ G _ J hw) fun u s2 ⟨y, G1, J1, r2, a, ey, z⟩ => ?_
  subst ey
  cases r2
  have new : ∀ b ∈ [s2.heap.objs.size], FpOk X pl G1 b := fun b hb => by
    cases List.mem_singleton.mp hb
    exact J1.fpOk (Nat.le_refl _) J1.fresh
  rcases z with ⟨⟨ys, hy⟩, z⟩ | ⟨⟨ys, hy⟩, z⟩
  · obtain ⟨_, _, pl', _⟩ := J1.list hy
    exact wpAny_pyIter_list pl'.isList ⟨_, _, _, _, G1, rfl, J1.kept (t' := s2.toks) fun _ _ h => Heap.get?_push_of_some _ h, turn_list a _, ⟨_, Heap.get?_push_size _ rfl, rfl, rfl⟩, new, z⟩
  · obtain ⟨us, _, pt, _⟩ := J1.tuple hy
    exact wpAny_pyIter_tuple (show s2.heap.IsTuple a us.toArray from pt) ⟨_, _, _, _, G1, rfl, J1.kept (t' := s2.toks) fun _ _ h => Heap.get?_push_of_some _ h, turn_tuple a _, ⟨_, Heap.get?_push_size _ rfl, rfl, rfl⟩, new, z⟩
theorem i_seq {c : C} {e : Expr} (h : PE X e (CA cl call X W σ0 c)) : PI X tg e (CI cl call X W σ0 (.seq c)) := by
  refine pi_imp (pi_any (pe_frz h)) fun σ H R h => ?_
  obtain ⟨ρ, P, F, R⟩ := h
  rw [evI] at R
  refine (Res.bnd (R1 := rD X.K) F Step.refl R).mono fun v H1 ⟨d, ρ1, P1, F1, S1, _, r1, R1⟩ => ?_
  have r1 : Rp X.K P1 v d := r1
  obtain ⟨ds, e, R2⟩ := res_lift R1
  unfold itemsD at e
  split at e
  · cases e
    obtain ⟨a, vs, rfl, s, q⟩ := r1.tup_inv
    exact ⟨a, rfl, .inr ⟨⟨vs, same_sqt F1.sub s⟩, Res.ret F1 S1 R2 (jok_tup' s q)⟩⟩
  · cases e
    obtain ⟨a, vs, rfl, s, q⟩ := r1.lst_inv
    exact ⟨a, rfl, .inl ⟨⟨vs, (same_rl F1.sub s).sq⟩, Res.ret F1 S1 R2 (jok_lst s q)⟩⟩
  · cases e
theorem small_of {i : Int} (h : smallI i = true) : -(2 ^ 62) ≤ i ∧ i < 2 ^ 62 := of_decide_eq_true h
theorem i_rng1 {c : C} {e : Expr} {p pos : Pos} (G : Gd tb cl call X N sc fnB W) (hg : glB sc "range" = true) (h : PE X e (CA cl call X W σ0 c)) (hs : star e = false) : PI X tg (.Call (.Name "range" p) [e] [] pos) (CI cl call X W σ0 (.rng1 c)) := by
  refine pi_imp (pi_range1 (show X.env.scope.names.lookup ("range" : Str) = _ by rw [G.sc]; exact gl_of hg) (G.blt _ (by decide +kernel)) (pa_cons h pa_nil (star_each hs _ _)) (star_each hs _ _)) fun σ H RR h => ?_
  obtain ⟨ρ, P, F, R⟩ := h
  rw [evI] at R
  refine (Res.bnd (R1 := rA X.K) F Step.refl R).mono fun v H1 ⟨a, ρ1, P1, F1, S1, _, ⟨r1, f1⟩, R1⟩ => ?_
  unfold rngD at R1
  cases e2 : view a ρ1 with
  | none => rw [e2] at R1; exact (R1 : False).elim
  | some d =>
    rw [e2] at R1
    cases d with
    | int j =>
      have R2 : Res X.K cl (rI X.K) W σ0 σ ρ H P (if (smallI 0 && smallI j) = true then ok (intsL 0 (j - 0).toNat) ρ1 else none) RR := R1
      split at R2
      · rename_i z
        rw [Bool.and_eq_true] at z
        obtain ⟨s1, s2⟩ := small_of z.2
        refine ⟨j, by rw [(r1.view F1 e2).int], s1, s2, ?_⟩
        rw [Int.sub_zero] at R2
        exact Res.ret F1 S1 R2 (jok_rng 0 _)
      · exact (R2 : False).elim
    | _ => exact (R1 : False).elim
theorem i_rng2 {c c2 : C} {e e2 : Expr} {p pos : Pos} (G : Gd tb cl call X N sc fnB W) (hg : glB sc "range" = true) (h : PE X e (CA cl call X W σ0 c)) (hs : star e = false) (h2 : PE X e2 (CA cl call X W σ0 c2)) (hs2 : star e2 = false) :
    PI X tg (.Call (.Name "range" p) [e, e2] [] pos) (CI cl call X W σ0 (.rng2 c c2)) := by
  refine pi_imp (pi_range2 (show X.env.scope.names.lookup ("range" : Str) = _ by rw [G.sc]; exact gl_of hg) (G.blt _ (by decide +kernel)) (pa_cons h (pa_cons h2 pa_nil (star_each hs2 _ _)) (star_each hs _ _)) (by rw [star_each hs, star_each hs2]; rfl) (star_each hs2 _ _)) fun σ H RR h => ?_
  obtain ⟨ρ, P, F, R⟩ := h
  rw [evI] at R
  refine (Res.bnd (R1 := rA X.K) F Step.refl R).mono fun v H1 ⟨a, ρ1, P1, F1, S1, _, ⟨r1, f1⟩, R1⟩ => ?_
  refine (Res.bnd (R1 := rA X.K) F1 S1 R1).mono fun u H2 ⟨b, ρ2, P2, F2, S2, S, ⟨r2, f2⟩, R2⟩ => ?_
  unfold rngD at R2
  cases e1 : view a ρ2 with
  | none => rw [e1] at R2; exact (R2 : False).elim
  | some d =>
    cases e2 : view b ρ2 with
    | none => rw [e1, e2] at R2; cases d <;> exact (R2 : False).elim
    | some d' =>
      rw [e1, e2] at R2
      cases d with
      | int i =>
        cases d' with
        | int j =>
          have R3 : Res X.K cl (rI X.K) W σ0 σ ρ H P (if (smallI i && smallI j) = true then ok (intsL i (j - i).toNat) ρ2 else none) RR := R2
          split at R3
          · rename_i z
            rw [Bool.and_eq_true] at z
            obtain ⟨s1, s2⟩ := small_of z.1
            obtain ⟨s3, s4⟩ := small_of z.2
            refine ⟨i, j, by rw [((r1.step S2).view F2 e1).int, (r2.view F2 e2).int], ⟨s1, s2, s3, s4⟩, ?_⟩
            exact Res.ret F2 S R3 (jok_rng i _)
          · exact (R3 : False).elim
        | _ => exact (R2 : False).elim
      | _ => exact (R2 : False).elim
theorem i_enum {c : C} {e : Expr} {p pos tpos : Pos} {elts : List Expr} {kk : Nat} (G : Gd tb cl call X N sc fnB W) (hg : glB sc "enumerate" = true) (h : PE X e (CA cl call X W σ0 c)) (hs : star e = false) :
    PI X (.Tuple elts kk tpos) (.Call (.Name "enumerate" p) [e] [] pos) (CI cl call X W σ0 (.enum c)) := by
  refine pi_imp (pi_enum (show X.env.scope.names.lookup ("enumerate" : Str) = _ by rw [G.sc]; exact gl_of hg) (G.blt _ (by decide +kernel)) (pa_cons (pe_frz h) pa_nil (star_each hs _ _)) (star_each hs _ _)) fun σ H R h => ?_
  obtain ⟨ρ, P, F, R⟩ := h
  rw [evI] at R
  refine (Res.bnd (R1 := rD X.K) F Step.refl R).mono fun v H1 ⟨d, ρ1, P1, F1, S1, _, r1, R1⟩ => ?_
  have r1 : Rp X.K P1 v d := r1
  obtain ⟨ds, e, R2⟩ := res_lift R1
  unfold enumO at e
  split at e
  · cases e
    obtain ⟨a, vs, rfl, s, q⟩ := r1.lst_inv
    exact ⟨a, vs, rfl, (same_rl F1.sub s).sq, Res.ret F1 S1 R2 (jok_enum s q)⟩
  · cases e
theorem i_zip {c c2 : C} {e e2 : Expr} {p pos tpos : Pos} {elts : List Expr} {kk : Nat} (G : Gd tb cl call X N sc fnB W) (hg : glB sc "zip" = true) (h : PE X e (CA cl call X W σ0 c)) (hs : star e = false) (h2 : PE X e2 (CA cl call X W σ0 c2)) (hs2 : star e2 = false) :
    PI X (.Tuple elts kk tpos) (.Call (.Name "zip" p) [e, e2] [] pos) (CI cl call X W σ0 (.zip c c2)) := by
  refine pi_imp (RZ.pi_zipA (show X.env.scope.names.lookup ("zip" : Str) = _ by rw [G.sc]; exact gl_of hg) (G.blt _ (by decide +kernel)) (pa_cons (pe_frz h) (pa_cons (pe_frz h2) pa_nil (star_each hs2 _ _)) (star_each hs _ _)) (star_each hs _ _)
    (back_any (es := [e2]) (by rw [List.any_cons, hs2]; rfl) _ _)) fun σ H R h => ?_
  obtain ⟨ρ, P, F, R⟩ := h
  rw [evI] at R
  refine (Res.bnd (R1 := rD X.K) F Step.refl R).mono fun v H1 ⟨d, ρ1, P1, F1, S1, _, r1, R1⟩ => ?_
  refine (Res.bnd (R1 := rD X.K) F1 S1 R1).mono fun u H2 ⟨d', ρ2, P2, F2, S2, S, r2, R2⟩ => ?_
  have r1 : Rp X.K P2 v d := Rp.mono S2.mono r1
  have r2 : Rp X.K P2 u d' := r2
  obtain ⟨ds, e, R3⟩ := res_lift R2
  unfold zipO at e
  split at e
  · cases e
    obtain ⟨a, vs, rfl, s, q⟩ := r1.tup_inv
    obtain ⟨b, ws, rfl, s', q'⟩ := r2.tup_inv
    exact ⟨a, b, vs, ws, rfl, .inr ⟨same_sqt F2.sub s, same_sqt F2.sub s', Res.ret F2 S R3 (jok_zipT s q s' q')⟩⟩
  · cases e
    obtain ⟨a, vs, rfl, s, q⟩ := r1.lst_inv
    obtain ⟨b, ws, rfl, s', q'⟩ := r2.lst_inv
    exact ⟨a, b, vs, ws, rfl, .inl ⟨(same_rl F2.sub s).sq, (same_rl F2.sub s').sq, Res.ret F2 S R3 (jok_zipL s q s' q')⟩⟩
  · cases e
end
end MP
set_option Elab.async false
set_option linter.all false
set_option maxRecDepth 100000
set_option maxHeartbeats 2000000
/-! MP: targets, comprehensions -/
namespace MP
open PySem PySem.Spec PyProof.Rows L2

section
variable {K : PySem.W.Frag} {σ0 σ : L2.St} {ρ : Env} {H P : Hp}
/-- a slot that takes shared data -/
theorem FR.put (F : FR K σ0 σ H P ρ) {i : Nat} {v : V} {d : D} (hi : i < ρ.length) (r : Rp K P v d) : FR K σ0 (σ.set i (some v)) H P (ρ.set i (.val false d)) := by
  have hs : i < σ.length := by rw [← F.len]; exact hi
  refine ⟨F.sub, by rw [List.length_set, List.length_set]; exact F.len, fun j t e h => ?_, fun j t e h => ?_, fun j k t t' e e' a h1 h2 h3 h4 => ?_, fun j e h => ?_⟩
  · rcases get_set h with ⟨rfl, z⟩ | ⟨n, h⟩
    · cases z
      exact ⟨v, List.getElem?_set_self hs, r⟩
    · rw [List.getElem?_set_ne n]
      exact F.val j t e h
  · rcases get_set h with ⟨rfl, z⟩ | ⟨n, h⟩
    · cases z
    · rw [List.getElem?_set_ne n]
      exact F.own j t e h
  · rcases get_set h1 with ⟨rfl, z⟩ | ⟨n, h1⟩
    · cases z
    · rcases get_set h2 with ⟨rfl, z⟩ | ⟨n', h2⟩
      · cases z
      · rw [List.getElem?_set_ne n] at h3
        rw [List.getElem?_set_ne n'] at h4
        exact F.inj j k t t' e e' a h1 h2 h3 h4
  · rcases h with h | h
    · rcases get_set h with ⟨rfl, z⟩ | ⟨n, h⟩
      · cases z
      · rw [List.getElem?_set_ne n]
        exact F.tag j e (.inl h)
    · rcases get_set h with ⟨rfl, z⟩ | ⟨n, h⟩
      · cases z
      · rw [List.getElem?_set_ne n]
        exact F.tag j e (.inr h)
theorem Step.put {i : Nat} {v : V} {d : D} : Step σ ρ H P (σ.set i (some v)) (ρ.set i (.val false d)) H P :=
  ⟨fun _ _ h _ => h, Same.refl _, fun _ h h' => absurd h h', fun a ⟨j, t, e, h1, h2⟩ => by
    rcases get_set h1 with ⟨rfl, z⟩ | ⟨n, h1⟩
    · cases z
    · rw [List.getElem?_set_ne n] at h2
      exact .inr ⟨j, t, e, h1, h2⟩⟩
end
mutual
def tgs : Tg → List Nat
  | .nm i => [i]
  | .tp ts => tgss ts
def tgss : Tgs → List Nat
  | .nil => []
  | .cons t ts => tgs t ++ tgss ts
end
def Off (l : List Nat) (σ σ' : L2.St) : Prop := ∀ i, i ∉ l → σ'[i]? = σ[i]?
def CG (K : PySem.W.Frag) (σ0 : L2.St) (tg : Tg) : TG := fun v σ H Q => ∃ ρ P d, FR K σ0 σ H P ρ ∧ Rp K P v d ∧ ∃ ρ', asgT tg d ρ = some ρ' ∧ ∀ σ', FR K σ0 σ' H P ρ' → Step σ ρ H P σ' ρ' H P → Off (tgs tg) σ σ' → Q σ' H
def CGs (K : PySem.W.Frag) (σ0 : L2.St) (ts : Tgs) : TGs := fun vs σ H Q => ∃ ρ P ds, FR K σ0 σ H P ρ ∧ Rps K P vs ds ∧ ∃ ρ', asgTs ts ds ρ = some ρ' ∧ ∀ σ', FR K σ0 σ' H P ρ' → Step σ ρ H P σ' ρ' H P → Off (tgss ts) σ σ' → Q σ' H
def locB (sc : Scope) (fnB : Str → Bool) (x : Str) : Bool := match sc.names.lookup x with
  | some .local => true
  | some .cell => fnB x
  | _ => false
theorem loc_of {sc : Scope} {fnB : Str → Bool} {x : Str} (h : locB sc fnB x = true) : L2.Loc sc x ∧ (fnB x = true ∨ sc.names.lookup x = some .local) := by
  unfold locB at h
  unfold L2.Loc
  split at h <;> simp_all
mutual
def trT (N : List Str) (sc : Scope) (fnB : Str → Bool) : Tg → Expr → Bool
  | .nm i, .Name x _ => decide (N[i]? = some x) && locB sc fnB x
  | .tp ts, .Tuple es _ _ => trTs N sc fnB ts es
  | _, _ => false
def trTs (N : List Str) (sc : Scope) (fnB : Str → Bool) : Tgs → List Expr → Bool
  | .nil, [] => true
  | .cons t ts, e :: es => trT N sc fnB t e && trTs N sc fnB ts es
  | _, _ => false
end
theorem asgTs_len : ∀ {ts : Tgs} {ds : List D} {ρ ρ' : Env} {N : List Str} {sc : Scope} {fnB : Str → Bool} {es : List Expr}, asgTs ts ds ρ = some ρ' → trTs N sc fnB ts es = true → ds.length = es.length
  | .nil, [], _, _, _, _, _, [], _, _ => rfl
  | .nil, [], _, _, _, _, _, _ :: _, _, h => by simp [trTs] at h
  | .nil, _ :: _, _, _, _, _, _, _, h, _ => by simp [asgTs] at h
  | .cons t ts, [], _, _, _, _, _, _, h, _ => by simp [asgTs] at h
  | .cons t ts, _ :: _, _, _, _, _, _, [], _, h => by simp [trTs] at h
  | .cons t ts, d :: ds, ρ, ρ', N, sc, fnB, e :: es, h, h' => by
    simp only [asgTs] at h
    simp only [trTs, Bool.and_eq_true] at h'
    split at h
    · rw [List.length_cons, List.length_cons, asgTs_len h h'.2]
    · cases h
theorem trT_star : ∀ {t : Tg} {e : Expr} {N : List Str} {sc : Scope} {fnB : Str → Bool}, trT N sc fnB t e = true → star e = false
  | t, e, _, _, _, h => by cases e <;> first | rfl | (cases t <;> simp [trT] at h)
theorem trTs_star : ∀ {ts : Tgs} {es : List Expr} {N : List Str} {sc : Scope} {fnB : Str → Bool}, trTs N sc fnB ts es = true → es.any star = false
  | .nil, [], _, _, _, _ => rfl
  | .nil, _ :: _, _, _, _, h => by simp [trTs] at h
  | .cons _ _, [], _, _, _, h => by simp [trTs] at h
  | .cons t ts, e :: es, _, _, _, h => by
    simp only [trTs, Bool.and_eq_true] at h
    rw [List.any_cons, trT_star h.1, trTs_star h.2]
    rfl
mutual
theorem asgT_len : ∀ {t : Tg} {d : D} {ρ ρ' : Env}, asgT t d ρ = some ρ' → ρ'.length = ρ.length
  | .nm i, d, ρ, ρ', h => by
    simp only [asgT, putD] at h
    split at h
    · cases h; rw [List.length_set]
    · cases h
  | .tp ts, .tup ds, ρ, ρ', h => asgTs_lenE (by simpa only [asgT] using h)
  | .tp ts, .non, _, _, h => by simp [asgT] at h
  | .tp ts, .bl _, _, _, h => by simp [asgT] at h
  | .tp ts, .int _, _, _, h => by simp [asgT] at h
  | .tp ts, .str _, _, _, h => by simp [asgT] at h
  | .tp ts, .lst _, _, _, h => by simp [asgT] at h
  | .tp ts, .dic _ _, _, _, h => by simp [asgT] at h
theorem asgTs_lenE : ∀ {ts : Tgs} {ds : List D} {ρ ρ' : Env}, asgTs ts ds ρ = some ρ' → ρ'.length = ρ.length
  | .nil, [], ρ, ρ', h => by simp only [asgTs] at h; cases h; rfl
  | .nil, _ :: _, _, _, h => by simp [asgTs] at h
  | .cons _ _, [], _, _, h => by simp [asgTs] at h
  | .cons t ts, d :: ds, ρ, ρ', h => by
    simp only [asgTs] at h
    split at h
    · rename_i ρ1 e
      rw [asgTs_lenE h, asgT_len e]
    · cases h
end
section
variable {tb : Tb} {cl : Nat → Addr} {call : Nat → List Slot → Out} {X : Cx} {N : List Str} {sc : Scope} {fnB : Str → Bool} {W : WX} {σ0 : L2.St}
mutual
theorem g_tg (G : Gd tb cl call X N sc fnB W) : ∀ {tg : Tg} {e : Expr}, trT N sc fnB tg e = true → PG X e (CG X.K σ0 tg)
  | .nm i, .Name x pos, h => by
    simp only [trT, Bool.and_eq_true, decide_eq_true_eq] at h
    obtain ⟨hi, hx⟩ := h
    obtain ⟨l1, l2⟩ := loc_of hx
    have p : PG X (.Name x pos) (gName i) := pg_name (by rw [G.hN]; exact G.nd) (by rw [G.hN]; exact hi) (by rw [G.sc]; exact l1) (by
      rcases l2 with z | z
      · exact .inl (G.fn x z)
      · exact .inr (by rw [G.sc]; exact z))
    refine ⟨fun pins s σ H v u Q I r h => p.run pins s σ H v u Q I r ?_⟩
    obtain ⟨ρ, P, d, F, rp, ρ', ha, q⟩ := h
    simp only [asgT, putD] at ha
    split at ha
    · rename_i hl
      cases ha
      refine q _ (F.put hl rp) Step.put fun j hj => ?_
      rw [List.getElem?_set_ne]
      intro z
      subst z
      exact hj (List.mem_singleton.mpr rfl)
    · cases ha
  | .tp ts, .Tuple es k pos, h => by
    have h : trTs N sc fnB ts es = true := by simpa only [trT] using h
    have ps := g_tgs G h
    have st := trTs_star h
    have p : PG X (.Tuple es k pos) (gTup X.K es.length (CGs X.K σ0 ts)) := pg_tup G.calm ps (each_len st _) (each_find st _)
    refine ⟨fun pins s σ H v u Q I r hh => p.run pins s σ H v u Q I r ?_⟩
    obtain ⟨ρ, P, d, F, rp, ρ', ha, q⟩ := hh
    cases d with
    | tup ds =>
      obtain ⟨a, vs, rfl, sq, qs⟩ := rp.tup_inv
      have ha' : asgTs ts ds ρ = some ρ' := by simpa only [asgT] using ha
      exact ⟨a, vs, rfl, same_sqt F.sub sq, by rw [qs.length]; exact asgTs_len ha' h, ρ, P, ds, F, qs, ρ', ha', fun σ' F' S' o => q σ' F' S' (by simpa only [tgs] using o)⟩
    | _ => simp [asgT] at ha
  | .nm _, .BoolOp .., h | .nm _, .NamedExpr .., h | .nm _, .BinOp .., h | .nm _, .UnaryOp .., h | .nm _, .Lambda .., h | .nm _, .IfExp .., h | .nm _, .Dict .., h | .nm _, .Set .., h | .nm _, .ListComp .., h | .nm _, .SetComp .., h | .nm _, .DictComp .., h
  | .nm _, .GeneratorExp .., h | .nm _, .Await .., h | .nm _, .Yield .., h | .nm _, .YieldFrom .., h | .nm _, .Compare .., h | .nm _, .Call .., h | .nm _, .FormattedValue .., h | .nm _, .JoinedStr .., h | .nm _, .Constant .., h | .nm _, .Attribute .., h
  | .nm _, .Subscript .., h | .nm _, .Starred .., h | .nm _, .List .., h | .nm _, .Tuple .., h | .nm _, .Slice .., h => by simp [trT] at h
  | .tp _, .BoolOp .., h | .tp _, .NamedExpr .., h | .tp _, .BinOp .., h | .tp _, .UnaryOp .., h | .tp _, .Lambda .., h | .tp _, .IfExp .., h | .tp _, .Dict .., h | .tp _, .Set .., h | .tp _, .ListComp .., h | .tp _, .SetComp .., h | .tp _, .DictComp .., h
  | .tp _, .GeneratorExp .., h | .tp _, .Await .., h | .tp _, .Yield .., h | .tp _, .YieldFrom .., h | .tp _, .Compare .., h | .tp _, .Call .., h | .tp _, .FormattedValue .., h | .tp _, .JoinedStr .., h | .tp _, .Constant .., h | .tp _, .Attribute .., h
  | .tp _, .Subscript .., h | .tp _, .Starred .., h | .tp _, .List .., h | .tp _, .Name .., h | .tp _, .Slice .., h => by simp [trT] at h
theorem g_tgs (G : Gd tb cl call X N sc fnB W) : ∀ {ts : Tgs} {es : List Expr}, trTs N sc fnB ts es = true → PGs X es (CGs X.K σ0 ts)
  | .nil, [], _ => by
    refine ⟨fun pins s σ H vs us Q I r h => pgs_nil.run pins s σ H vs us Q I r ?_⟩
    obtain ⟨ρ, P, ds, F, rp, ρ', ha, q⟩ := h
    cases ds with
    | nil =>
      cases rp
      simp only [asgTs] at ha
      cases ha
      exact ⟨rfl, q σ F Step.refl fun _ _ => rfl⟩
    | cons _ _ => simp [asgTs] at ha
  | .nil, _ :: _, h => by simp [trTs] at h
  | .cons _ _, [], h => by simp [trTs] at h
  | .cons t ts, e :: es, h => by
    simp only [trTs, Bool.and_eq_true] at h
    have p1 := g_tg G h.1
    have p2 := g_tgs G h.2
    have st := trT_star h.1
    have p := pgs_cons p1 p2 (by rw [each_assign st]; rfl)
    refine ⟨fun pins s σ H vs us Q I r hh => p.run pins s σ H vs us Q I r ?_⟩
    obtain ⟨ρ, P, ds, F, rp, ρ', ha, q⟩ := hh
    cases ds with
    | nil => simp [asgTs] at ha
    | cons d ds =>
      cases rp with
      | cons r1 r2 =>
        simp only [asgTs] at ha
        split at ha
        · rename_i ρ1 e1
          refine ⟨_, _, rfl, ρ, P, d, F, r1, ρ1, e1, fun σ1 F1 S1 o1 => ⟨ρ1, P, ds, F1, r2, ρ', ha, fun σ2 F2 S2 o2 => q σ2 F2 (S1.trans S2) fun i hi => ?_⟩⟩
          simp only [tgss, List.mem_append, not_or] at hi
          rw [o2 i hi.2, o1 i hi.1]
        · cases ha
end
end

/-! ### hidden slots -/
theorem wipeR_len (ρ : Env) : ∀ vs : List Nat, (wipeR ρ vs).length = ρ.length
  | [] => rfl
  | v :: vs => by rw [wipeR, List.length_set, wipeR_len ρ vs]
theorem wipeR_out {ρ : Env} {i : Nat} : ∀ {vs : List Nat}, i ∉ vs → (wipeR ρ vs)[i]? = ρ[i]?
  | [], _ => rfl
  | v :: vs, h => by
    have h1 : v ≠ i := fun e => h (by rw [e]; exact List.mem_cons_self)
    rw [wipeR, List.getElem?_set_ne h1]
    exact wipeR_out fun e => h (List.mem_cons_of_mem _ e)
theorem wipeR_some {ρ : Env} {i : Nat} {s : Slot} : ∀ {vs : List Nat}, (wipeR ρ vs)[i]? = some s → s = .non ∨ (i ∉ vs ∧ ρ[i]? = some s)
  | [], h => .inr ⟨List.not_mem_nil, h⟩
  | v :: vs, h => by
    rw [wipeR] at h
    rcases get_set h with ⟨rfl, z⟩ | ⟨n, h⟩
    · exact .inl z
    · rcases wipeR_some h with z | ⟨z, z2⟩
      · exact .inl z
      · refine .inr ⟨fun e => ?_, z2⟩
        rcases List.mem_cons.mp e with e | e
        · exact n e.symm
        · exact z e
theorem unwipe_len (ρ ρ' : Env) : ∀ vs : List Nat, (unwipe ρ ρ' vs).length = ρ'.length
  | [] => rfl
  | v :: vs => by rw [unwipe, List.length_set, unwipe_len ρ ρ' vs]
theorem unwipe_some {ρ ρ' : Env} (hl : ρ.length = ρ'.length) {i : Nat} {s : Slot} : ∀ {vs : List Nat}, (unwipe ρ ρ' vs)[i]? = some s → (i ∈ vs ∧ ρ[i]? = some s) ∨ (i ∉ vs ∧ ρ'[i]? = some s)
  | [], h => .inr ⟨List.not_mem_nil, h⟩
  | v :: vs, h => by
    rw [unwipe] at h
    by_cases n : v = i
    · subst n
      have hv : v < ρ'.length := by
        have := (List.getElem?_eq_some_iff.mp h).1
        rw [List.length_set, unwipe_len] at this
        exact this
      rw [List.getElem?_set_self (by rw [unwipe_len]; exact hv)] at h
      rw [List.getElem?_eq_getElem (by rw [hl]; exact hv)] at h ⊢
      exact .inl ⟨List.mem_cons_self, h⟩
    · rw [List.getElem?_set_ne n] at h
      rcases unwipe_some hl h with ⟨z, z2⟩ | ⟨z, z2⟩
      · exact .inl ⟨List.mem_cons_of_mem _ z, z2⟩
      · refine .inr ⟨fun e => ?_, z2⟩
        rcases List.mem_cons.mp e with e | e
        · exact n e.symm
        · exact z e
theorem wipe_eq {σ σ' : L2.St} {vs : List Nat} (hl : σ'.length = σ.length) (h : ∀ i, i ∉ vs → σ'[i]? = (wipe σ vs)[i]?) : wipe σ' vs = wipe σ vs := by
  have gen : ∀ (us : List Nat), (∀ i, i ∈ us → i ∈ vs) → ∀ i, (i ∈ us ∨ i ∉ vs) → (wipe σ' us)[i]? = (wipe σ us)[i]? := by
    intro us
    induction us with
    | nil => intro _ i hi; rcases hi with z | z; · cases z
             · show σ'[i]? = σ[i]?
               rw [h i z, wipe_out z]
    | cons u us ih =>
      intro hs i hi
      unfold wipe
      by_cases e : u = i
      · subst e
        by_cases hu : u < σ.length
        · rw [List.getElem?_set_self (by rw [wipe_length, hl]; exact hu), List.getElem?_set_self (by rw [wipe_length]; exact hu)]
        · rw [List.getElem?_eq_none (by rw [List.length_set, wipe_length, hl]; omega), List.getElem?_eq_none (by rw [List.length_set, wipe_length]; omega)]
      · rw [List.getElem?_set_ne e, List.getElem?_set_ne e]
        refine ih (fun i hi => hs i (List.mem_cons_of_mem _ hi)) i ?_
        rcases hi with z | z
        · rcases List.mem_cons.mp z with z | z
          · exact absurd z.symm e
          · exact .inl z
        · exact .inr z
  refine List.ext_getElem? fun i => gen vs (fun _ h => h) i ?_
  by_cases hi : i ∈ vs
  · exact .inl hi
  · exact .inr hi
section
variable {K : PySem.W.Frag} {σ0 σ σ2 : L2.St} {ρ ρ1 ρ2 : Env} {H P H1 P1 H2 P2 : Hp} {vs : List Nat}
theorem own_wipe {a : Addr} (o : Own (wipe σ vs) (wipeR ρ vs) a) : Own σ ρ a := by
  obtain ⟨i, t, d, h1, h2⟩ := o
  rcases wipeR_some h1 with z | ⟨z, z2⟩
  · cases z
  · rw [wipe_out z] at h2
    exact ⟨i, t, d, z2, h2⟩
theorem FR.wipe (F : FR K σ0 σ H P ρ) : FR K σ0 (L2.wipe σ vs) H P (wipeR ρ vs) where
  sub := F.sub
  len := by rw [wipeR_len, wipe_length, F.len]
  val := fun i t d h => by
    rcases wipeR_some h with z | ⟨z, z2⟩
    · cases z
    · rw [wipe_out z]; exact F.val i t d z2
  own := fun i t d h => by
    rcases wipeR_some h with z | ⟨z, z2⟩
    · cases z
    · rw [wipe_out z]; exact F.own i t d z2
  inj := fun i j t t' d d' a h1 h2 h3 h4 => by
    rcases wipeR_some h1 with z | ⟨z, z2⟩
    · cases z
    · rcases wipeR_some h2 with y | ⟨y, y2⟩
      · cases y
      · rw [wipe_out z] at h3
        rw [wipe_out y] at h4
        exact F.inj i j t t' d d' a z2 y2 h3 h4
  tag := fun i d h => by
    rcases h with h | h
    · rcases wipeR_some h with z | ⟨z, z2⟩
      · cases z
      · rw [wipe_out z]; exact F.tag i d (.inl z2)
    · rcases wipeR_some h with z | ⟨z, z2⟩
      · cases z
      · rw [wipe_out z]; exact F.tag i d (.inr z2)
theorem Step.wipeEnd (S : Step σ ρ H P σ2 ρ2 H2 P2) : Step σ ρ H P (L2.wipe σ2 vs) (wipeR ρ2 vs) H2 P2 := ⟨S.keep, S.mono, S.newP, fun a o => S.newO a (own_wipe o)⟩
/-- back from the block -/
theorem FR.unwipe (F1 : FR K σ0 σ H1 P1 ρ1) (F2 : FR K σ0 (L2.wipe σ vs) H2 P2 (wipeR ρ2 vs)) (S : Step (L2.wipe σ vs) (wipeR ρ1 vs) H1 P1 (L2.wipe σ vs) (wipeR ρ2 vs) H2 P2) :
    FR K σ0 σ H2 P2 (unwipe ρ1 ρ2 vs) ∧ Step σ ρ1 H1 P1 σ (unwipe ρ1 ρ2 vs) H2 P2 := by
  have hl : ρ1.length = ρ2.length := by
    have := F2.len
    rw [wipeR_len, wipe_length] at this
    rw [F1.len, this]
  have out : ∀ {i s}, i ∉ vs → ρ2[i]? = some s → (wipeR ρ2 vs)[i]? = some s := fun h e => by rw [wipeR_out h]; exact e
  have hid : ∀ i t d a, i ∈ vs → ρ1[i]? = some (.own t d) → σ[i]? = some (some (V.ref a)) → ¬ Own (L2.wipe σ vs) (wipeR ρ1 vs) a := fun i t d a hi h1 h2 o => by
    obtain ⟨j, t', d', h3, h4⟩ := o
    rcases wipeR_some h3 with z | ⟨z, z2⟩
    · cases z
    · rw [wipe_out z] at h4
      have := F1.inj i j t t' d d' a h1 z2 h2 h4
      subst this
      exact z hi
  have ho : ∀ a, Own σ (MP.unwipe ρ1 ρ2 vs) a → H1 a = Option.none ∨ Own σ ρ1 a := fun a ⟨i, t, d, h1, h2⟩ => by
    rcases unwipe_some hl h1 with ⟨z, z2⟩ | ⟨z, z2⟩
    · exact .inr ⟨i, t, d, z2, h2⟩
    · rcases S.newO a ⟨i, t, d, out z z2, by rw [wipe_out z]; exact h2⟩ with y | y
      · exact .inl y
      · exact .inr (own_wipe y)
  refine ⟨⟨F2.sub, by rw [unwipe_len, ← hl, F1.len], fun i t d h => ?_, fun i t d h => ?_, fun i j t t' d d' a h1 h2 h3 h4 => ?_, fun i d h => ?_⟩, ⟨fun a o h n => S.keep a o h fun o' => n (own_wipe o'), S.mono, fun a h h' => ?_, ho⟩⟩
  · rcases unwipe_some hl h with ⟨z, z2⟩ | ⟨z, z2⟩
    · obtain ⟨v, g1, g2⟩ := F1.val i t d z2
      exact ⟨v, g1, g2.mono S.mono⟩
    · have := F2.val i t d (out z z2)
      rw [wipe_out z] at this
      exact this
  · rcases unwipe_some hl h with ⟨z, z2⟩ | ⟨z, z2⟩
    · obtain ⟨v, g1, g2⟩ := F1.own i t d z2
      exact ⟨v, g1, (g2.step (fun a e => by subst e; exact hid i t d a z z2 g1) S).1⟩
    · have := F2.own i t d (out z z2)
      rw [wipe_out z] at this
      exact this
  · have mix : ∀ {i j t t' d d'}, i ∈ vs → ρ1[i]? = some (.own t d) → σ[i]? = some (some (V.ref a)) → j ∉ vs → ρ2[j]? = some (.own t' d') → σ[j]? = some (some (V.ref a)) → False := fun {i j t t' d d'} hi e1 e2 hj e3 e4 => by
      rcases S.newO a ⟨j, t', d', out hj e3, by rw [wipe_out hj]; exact e4⟩ with y | y
      · obtain ⟨vs', h5, _⟩ := F1.own_at ⟨i, t, d, e1, e2⟩
        rw [h5] at y
        cases y
      · exact hid i t d a hi e1 e2 y
    rcases unwipe_some hl h1 with ⟨z, z2⟩ | ⟨z, z2⟩
    · rcases unwipe_some hl h2 with ⟨y, y2⟩ | ⟨y, y2⟩
      · exact F1.inj i j t t' d d' a z2 y2 h3 h4
      · exact (mix z z2 h3 y y2 h4).elim
    · rcases unwipe_some hl h2 with ⟨y, y2⟩ | ⟨y, y2⟩
      · exact (mix y y2 h4 z z2 h3).elim
      · exact F2.inj i j t t' d d' a (out z z2) (out y y2) (by rw [wipe_out z]; exact h3) (by rw [wipe_out y]; exact h4)
  · rcases h with h | h
    · rcases unwipe_some hl h with ⟨z, z2⟩ | ⟨z, z2⟩
      · exact F1.tag i d (.inl z2)
      · have := F2.tag i d (.inl (out z z2))
        rw [wipe_out z] at this
        exact this
    · rcases unwipe_some hl h with ⟨z, z2⟩ | ⟨z, z2⟩
      · exact F1.tag i d (.inr z2)
      · have := F2.tag i d (.inr (out z z2))
        rw [wipe_out z] at this
        exact this
  · rcases S.newP a h h' with y | y
    · exact .inl y
    · exact .inr (own_wipe y)
/-- the heap grows, and so does what never changes -/
theorem FR.grow2 (F : FR K σ0 σ H P ρ) (h1 : Same H H1) (h2 : Same P P1) (h3 : Same P1 H1) (h4 : ∀ a, P a = Option.none → P1 a ≠ Option.none → H a = Option.none) : FR K σ0 σ H1 P1 ρ ∧ Step σ ρ H P σ ρ H1 P1 := by
  refine ⟨⟨h3, F.len, fun i t d h => ?_, fun i t d h => ?_, F.inj, F.tag⟩, ⟨fun a o h _ => h1 a o h, h2, fun a e1 e2 => .inl (h4 a e1 e2), fun a o => .inr o⟩⟩
  · obtain ⟨v, g1, g2⟩ := F.val i t d h
    exact ⟨v, g1, g2.mono h2⟩
  · obtain ⟨v, g1, a, us, ds, rfl, rfl, g2, g3, g4⟩ := F.own i t d h
    refine ⟨_, g1, a, us, ds, rfl, rfl, h1 _ _ g2, ?_, g4.mono h2⟩
    cases e : P1 a with
    | none => rfl
    | some u =>
      have := h4 a g3 (by rw [e]; exact fun z => nomatch z)
      rw [g2] at this
      cases this
end
section
variable {tb : Tb} {cl : Nat → Addr} {call : Nat → List Slot → Out} {X : Cx} {N : List Str} {sc : Scope} {fnB : Str → Bool} {W : WX} {σ0 : L2.St}
abbrev W0 : WX := fun _ _ _ _ => False
theorem comp_imp {elt : C} {tg : Tg} {it : I} {ifs : CO} {own : List Nat} {σ : L2.St} {H : Hp} {Q : VK} (ht : ∀ i, i ∈ tgs tg → i ∈ own) (h : CA cl call X W σ0 (.cmpr elt tg it ifs own) σ H Q) :
    tLc (CI cl call X W σ0 it) (CG X.K σ0 tg) (Can X.K cl rB W0 σ0 (evIf call ifs)) (Can X.K cl (rD X.K) W0 σ0 (fun ρ => bnd (ev call elt ρ) frzM)) own σ H Q := by
  obtain ⟨ρ, P, F, R⟩ := h
  rw [ev] at R
  refine (Res.bnd (R1 := rI X.K) F Step.refl R).mono fun J H1 ⟨ds, ρ1, P1, F1, S1, _, jok, R1⟩ => ?_
  have jok : JOk X.K J P1 ds := jok
  split at R1
  · rename_i hz
    intro D hD
    -- what the turns make
    cases ec : compL own tg (fun ρ => evIf call ifs ρ) (fun ρ => bnd (ev call elt ρ) frzM) ds ρ1 with
    | none => rw [ec] at R1; exact (R1 : False).elim
    | some q =>
      obtain ⟨x, ρ2⟩ := q
      rw [ec] at R1
      cases x with
      | error x => exact (R1 : False).elim
      | ok xs =>
        have R2 : Res X.K cl (rA X.K) W σ0 σ ρ H P (ok (.frs (.lst xs)) (unwipe ρ1 ρ2 own)) Q := R1
        refine ⟨fun i m H' => m = ds.length - i ∧ i ≤ ds.length ∧ ∃ ρi Pi acc don xsr, FR X.K σ0 (wipe σ own) H' Pi (wipeR ρi own) ∧ Step (wipe σ own) (wipeR ρ1 own) H1 P1 (wipe σ own) (wipeR ρi own) H' Pi ∧
          compL own tg (fun ρ => evIf call ifs ρ) (fun ρ => bnd (ev call elt ρ) frzM) (ds.drop i) ρi = some (.ok xsr, ρ2) ∧ don ++ xsr = xs ∧ don.length ≤ i ∧ H' D = some (.lst acc) ∧ Pi D = none ∧ Rps X.K Pi acc don ∧ ¬ Own (wipe σ own) (wipeR ρi own) D,
          ⟨ds.length, rfl, Nat.zero_le _, ρ1, P1, [], [], xs, F1.wipe.grow hD, Step.grow hD, ec, rfl, Nat.le_refl _, upd_same, F1.none hD, .nil, (F1.wipe (vs := own)).notOwn hD⟩, ?_⟩
        rintro i m H' ⟨rfl, hi, ρi, Pi, acc, don, xsr, Fi, Si, ei, ex, hd, hD', pD, racc, nD⟩
        by_cases hlt : i < ds.length
        · have hdr : ds.drop i = ds[i] :: ds.drop (i + 1) := List.drop_eq_getElem_cons hlt
          rw [hdr] at ei
          obtain ⟨go, yld⟩ := (jok H' Pi Si.mono Fi.sub i).1 ds[i] (List.getElem?_eq_getElem hlt)
          refine .inr ⟨go, fun H' => ∃ m', m' = ds.length - (i + 1) ∧ i + 1 ≤ ds.length ∧ ∃ ρi Pi acc don xsr, FR X.K σ0 (wipe σ own) H' Pi (wipeR ρi own) ∧ Step (wipe σ own) (wipeR ρ1 own) H1 P1 (wipe σ own) (wipeR ρi own) H' Pi ∧
            compL own tg (fun ρ => evIf call ifs ρ) (fun ρ => bnd (ev call elt ρ) frzM) (ds.drop (i + 1)) ρi = some (.ok xsr, ρ2) ∧ don ++ xsr = xs ∧ don.length ≤ i + 1 ∧ H' D = some (.lst acc) ∧ Pi D = none ∧ Rps X.K Pi acc don ∧ ¬ Own (wipe σ own) (wipeR ρi own) D,
            fun H' ⟨m', em, hh⟩ => ⟨m', by omega, em, hh⟩, fun x H3 y => ?_⟩
          obtain ⟨P3, p1, p2, p3, p4, rx⟩ := yld x H3 y
          obtain ⟨F3, S3⟩ := Fi.grow2 p3 p1 p2 p4
          rw [compL] at ei
          cases ea : asgT tg ds[i] (wipeR ρi own) with
          | none => rw [ea] at ei; cases ei
          | some ρa =>
            rw [ea] at ei
            dsimp only at ei
            refine ⟨wipeR ρi own, P3, ds[i], F3, rx, ρa, ea, fun σ2 F4 S4 off => ?_⟩
            have hw : wipe σ2 own = wipe σ own := by
              refine wipe_eq ?_ fun i hi => off i fun z => hi (ht i z)
              rw [← F4.len]
              have h1 := F3.len
              have h2 := asgT_len ea
              rw [wipe_length] at h1
              rw [h2, h1]
            refine ⟨hw, ?_⟩
            have C0 : Cont X.K H' Pi (.ref D) (.lst don) := ⟨D, acc, don, rfl, rfl, hD', pD, racc⟩
            have N0 : ∀ a, V.ref D = V.ref a → ¬ Own (wipe σ own) (wipeR ρi own) a := fun a e => by injection e with e; subst e; exact nD
            obtain ⟨C4, N4⟩ := C0.step N0 (S3.trans S4)
            obtain ⟨k, ρb, eb, ei⟩ := bnd_some ei
            refine ⟨ρa, P3, F4, ?_⟩
            rw [show evIf call ifs ρa = some (.ok k, ρb) from eb]
            intro b H5 P5 F5 S5 rb
            cases (show b = k from rb)
            obtain ⟨C5, N5⟩ := C4.step N4 S5
            cases k with
            | false =>
              rw [if_neg Bool.false_ne_true] at ei ⊢
              obtain ⟨a, acc', don', e1, e2, g1, g2, g3⟩ := C5
              cases e1
              cases e2
              refine ⟨_, rfl, hlt, ρb, P5, acc', don, xsr, by rw [← hw]; exact F5.wipe, ?_, ei, ex, by omega, g1, g2, g3, fun o => ?_⟩
              · have := ((Si.trans (S3.trans S4)).trans S5).wipeEnd (vs := own)
                rw [hw] at this
                exact this
              · rw [← hw] at o
                exact N5 D rfl (own_wipe o)
            | true =>
              rw [if_pos rfl] at ei ⊢
              obtain ⟨z, ρc, ee, ei⟩ := bnd_some ei
              obtain ⟨zs, ρd, ef, ei⟩ := bnd_some ei
              cases ei
              refine ⟨ρb, P5, F5, ?_⟩
              dsimp only
              rw [show bnd (ev call elt ρb) frzM = some (.ok z, ρc) from ee]
              intro y H6 P6 F6 S6 ry
              obtain ⟨C6, N6⟩ := C5.step N5 S6
              obtain ⟨a, acc', don', e1, e2, g1, g2, g3⟩ := C6
              cases e1
              cases e2
              have ry : Rp X.K P6 y z := ry
              have nD6 := N6 D rfl
              refine ⟨acc', g1, by rw [g3.length]; have : (sizeLine : Nat) = 16777216 := by decide
                                   omega, _, rfl, hlt, ρc, P6, acc' ++ [y], don ++ [z], zs, ?_, ?_, ef, by rw [List.append_assoc]; exact ex, by rw [List.length_append]; simp only [List.length_singleton]; omega, upd_same, g2, g3.append (.cons ry .nil), fun o => ?_⟩
              · rw [← hw]
                exact (F6.updH g2 nD6).wipe
              · have := (((Si.trans (S3.trans S4)).trans S5).trans S6).wipeEnd (vs := own)
                rw [hw] at this
                exact this.updH hD
              · rw [← hw] at o
                exact nD6 (own_wipe o)
        · have ei2 : ds.drop i = [] := List.drop_eq_nil_of_le (by omega)
          rw [ei2, compL] at ei
          cases ei
          rw [List.append_nil] at ex
          subst ex
          refine .inl ⟨(jok H' Pi Si.mono Fi.sub i).2 (by omega), ?_⟩
          obtain ⟨G1, G2⟩ := F1.unwipe Fi Si
          refine R2 _ _ _ G1 (S1.trans G2) ⟨⟨⟨D, acc, don, rfl, rfl, hD', pD, racc⟩, fun b e o => ?_⟩, fun _ _ b e => ?_⟩
          · injection e with e
            subst e
            rcases G2.newO _ o with z | z
            · obtain ⟨i', t, d, h1, h2⟩ := o
              have hl : ρ1.length = ρ2.length := by
                have h1 := Fi.len
                have h2 := F1.len
                rw [wipeR_len, wipe_length] at h1
                omega
              rcases unwipe_some hl h1 with ⟨y, y2⟩ | ⟨y, y2⟩
              · obtain ⟨us, q1, _⟩ := F1.own_at ⟨i', t, d, y2, h2⟩
                rw [hD] at q1
                cases q1
              · exact nD ⟨i', t, d, by rw [wipeR_out y]; exact y2, by rw [wipe_out y]; exact h2⟩
            · exact F1.notOwn hD z
          · injection e with e
            subst e
            exact S1.none hD
  · exact (R1 : False).elim
end
end MP
set_option Elab.async false
set_option linter.all false
set_option maxRecDepth 100000
set_option maxHeartbeats 2000000
/-! MP: which core expression a written one is -/
namespace MP
open PySem PySem.Spec PyProof.Rows L2

def ownL (N : List Str) (own : List Nat) : List (Str × Nat) := own.map fun i => (N.getD i Str.empty, i)
theorem ownL_snd (N : List Str) (own : List Nat) : (ownL N own).map (·.2) = own := by
  unfold ownL
  rw [List.map_map]
  exact List.map_id _
def isTup : Expr → Bool
  | .Tuple .. => true
  | _ => false
mutual
def trE (tb : Tb) (N : List Str) : Scope → Bool → C → Expr → Bool
  | _, _, .cst d, e => match e with
    | .Constant k _ _ => cstB d k
    | _ => false
  | sc, _, .var i, e => match e with
    | .Name x _ => decide (N[i]? = some x) && visB sc x && !oddB x
    | _ => false
  | sc, _, .glb y d, e => match e with
    | .Name x _ => match d with
      | .int i => decide (x = y) && glB sc x && !oddB x && decide ((x, i) ∈ tb.consts)
      | _ => false
    | _ => false
  | sc, _, .tup es, e => match e with
    | .Tuple xs _ _ => trEs tb N sc es xs && decide (csLen es ≤ 1000)
    | _ => false
  | sc, _, .lst es, e => match e with
    | .List xs _ => trEs tb N sc es xs && decide (csLen es ≤ 1000)
    | _ => false
  | sc, _, .dis0, e => match e with
    | .Dict ks vs _ => ks.isEmpty && vs.isEmpty
    | _ => false
  | sc, _, .dis1 a b, e => match e with
    | .Dict ks vs _ => match ks, vs with
      | [some k], [v] => trE tb N sc false a k && trE tb N sc false b v
      | _, _ => false
    | _ => false
  | sc, _, .bin op a b, e => match e with
    | .BinOp x o y _ => decide (o = opB op) && trE tb N sc false a x && trE tb N sc false b y
    | _ => false
  | sc, _, .neg a, e => match e with
    | .UnaryOp o x _ => decide (o = .USub) && trE tb N sc false a x
    | _ => false
  | sc, t, .boo k es, e => match e with
    | .BoolOp o xs _ => decide (o = opK k) && trBs tb N sc t es xs
    | _ => false
  | sc, t, .not_ a, e => match e with
    | .UnaryOp o x _ => decide (o = .Not) && trE tb N sc t a x
    | _ => false
  | sc, _, .cmp op a b, e => match e with
    | .Compare x ops ys _ => match ops, ys with
      | [o], [y] => decide (o = opC op) && !isSet y && trE tb N sc false a x && trE tb N sc false b y
      | _, _ => false
    | _ => false
  | sc, _, .chn op op' a b c, e => match e with
    | .Compare x ops ys _ => match ops, ys with
      | [o, o'], [y, z] => decide (o = opC op) && decide (o' = opC op') && !isSet z && trE tb N sc false a x && trE tb N sc false b y && trE tb N sc false c z
      | _, _ => false
    | _ => false
  | sc, t, .ite c a b, e => match e with
    | .IfExp x y z _ => !t && trE tb N sc true c x && trE tb N sc false a y && trE tb N sc false b z
    | _ => false
  | sc, _, .idx a i, e => match e with
    | .Subscript x y _ => !isSlice y && trE tb N sc false a x && trE tb N sc false i y
    | _ => false
  | sc, _, .slc a lo hi, e => match e with
    | .Subscript x y _ => match y with
      | .Slice l h s _ => match s with
        | none => trE tb N sc false a x && trO tb N sc lo l && trO tb N sc hi h
        | _ => false
      | _ => false
    | _ => false
  | sc, _, .call f fl es, e => match e with
    | .Call g xs ks _ => match g, ks with
      | .Name x _, [] => match tb.fns f with
        | some fd => decide (fd.name = x) && decide (csLen es = fd.np) && decide (0 < csLen es) && glB sc x && !oddB x && trEs tb N sc es xs
        | none => false
      | _, _ => false
    | _ => false
  | sc, _, .blt f es, e => match e with
    | .Call g xs ks _ => match g, ks with
      | .Name x _, [] => srvB tb f && decide (x = bltN f) && glB sc (bltN f) && decide (0 < csLen es) && trEs tb N sc es xs
      | _, _ => false
    | _ => false
  | sc, _, .isi ts c, e => match e with
    | .Call g xs ks _ => match g, ks, xs with
      | .Name x _, [], [y, T] => decide (x = ("isinstance" : Str)) && glB sc "isinstance" && !star y && trE tb N sc false c y && (match T with
        | .Tuple ns _ _ => tyNames sc ts ns && decide (ts.length ≤ 1000)
        | .Name n _ => match ts with
          | [t] => decide (n = tyS t) && glB sc (tyS t)
          | _ => false
        | _ => false)
      | _, _, _ => false
    | _ => false
  | sc, _, .lstI it, e => match e with
    | .Call g xs ks _ => match g, ks, xs with
      | .Name x _, [], [r] => decide (x = ("list" : Str)) && glB sc "list" && !star r && trR tb N sc it r
      | _, _, _ => false
    | _ => false
  | sc, _, .cmpr elt tg it ifs own, e => match e with
    | .ListComp x gens scope _ => match gens with
      | [⟨t, iter, cs, 0⟩] => !isSet iter && trI tb N sc it t iter && trT N (relS scope sc) (fun x => scope.names.lookup x == some .cell) tg t && trE tb N (relS scope sc) false elt x && trIf tb N (relS scope sc) ifs cs &&
        blkC N sc scope (ownL N own) && (tgs tg).all (fun i => own.contains i)
      | _ => false
    | _ => false
def trEs (tb : Tb) (N : List Str) : Scope → Cs → List Expr → Bool
  | _, .nil, xs => xs.isEmpty
  | sc, .cons c cs, xs => match xs with
    | x :: xs => !star x && trE tb N sc false c x && trEs tb N sc cs xs
    | [] => false
def trBs (tb : Tb) (N : List Str) : Scope → Bool → Cs → List Expr → Bool
  | _, _, .nil, _ => false
  | sc, t, .cons c cs, xs => match xs with
    | x :: xs => trE tb N sc t c x && (match cs, xs with
      | .nil, [] => true
      | .cons _ _, _ :: _ => trBs tb N sc t cs xs
      | _, _ => false)
    | [] => false
def trIf (tb : Tb) (N : List Str) : Scope → CO → List Expr → Bool
  | _, .none, xs => xs.isEmpty
  | sc, .some c, xs => match xs with
    | [x] => trE tb N sc true c x
    | _ => false
def trO (tb : Tb) (N : List Str) : Scope → CO → Option Expr → Bool
  | _, .none, o => o.isNone
  | sc, .some c, o => match o with
    | some x => trE tb N sc false c x
    | none => false
/-- a range -/
def trR (tb : Tb) (N : List Str) : Scope → I → Expr → Bool
  | sc, .rng1 a, e => match e with
    | .Call g xs ks _ => match g, ks, xs with
      | .Name x _, [], [y] => decide (x = ("range" : Str)) && glB sc "range" && !star y && trE tb N sc false a y
      | _, _, _ => false
    | _ => false
  | sc, .rng2 a b, e => match e with
    | .Call g xs ks _ => match g, ks, xs with
      | .Name x _, [], [y, z] => decide (x = ("range" : Str)) && glB sc "range" && !star y && !star z && trE tb N sc false a y && trE tb N sc false b z
      | _, _, _ => false
    | _ => false
  | _, _, _ => false
def trI (tb : Tb) (N : List Str) : Scope → I → Expr → Expr → Bool
  | sc, .seq a, _, e => trE tb N sc false a e
  | sc, .rng1 a, _, e => match e with
    | .Call g xs ks _ => match g, ks, xs with
      | .Name x _, [], [y] => decide (x = ("range" : Str)) && glB sc "range" && !star y && trE tb N sc false a y
      | _, _, _ => false
    | _ => false
  | sc, .rng2 a b, _, e => match e with
    | .Call g xs ks _ => match g, ks, xs with
      | .Name x _, [], [y, z] => decide (x = ("range" : Str)) && glB sc "range" && !star y && !star z && trE tb N sc false a y && trE tb N sc false b z
      | _, _, _ => false
    | _ => false
  | _, .rng3 _ _ _, _, _ => false
  | sc, .enum a, t, e => match e with
    | .Call g xs ks _ => match g, ks, xs with
      | .Name x _, [], [y] => isTup t && decide (x = ("enumerate" : Str)) && glB sc "enumerate" && !star y && trE tb N sc false a y
      | _, _, _ => false
    | _ => false
  | sc, .zip a b, t, e => match e with
    | .Call g xs ks _ => match g, ks, xs with
      | .Name x _, [], [y, z] => isTup t && decide (x = ("zip" : Str)) && glB sc "zip" && !star y && !star z && trE tb N sc false a y && trE tb N sc false b z
      | _, _, _ => false
    | _ => false
end
section
variable {tb : Tb} {cl : Nat → Addr} {call : Nat → List Slot → Out} {N : List Str} {σ0 : L2.St}
theorem trEs_cons {c : C} {cs : Cs} {xs : List Expr} {sc : Scope} (h : trEs tb N sc (.cons c cs) xs = true) : ∃ y ys, xs = y :: ys := by
  cases xs with
  | nil => simp [trEs] at h
  | cons y ys => exact ⟨y, ys, rfl⟩
theorem trEs_star : ∀ {cs : Cs} {xs : List Expr} {sc : Scope}, trEs tb N sc cs xs = true → xs.any star = false ∧ xs.length = csLen cs
  | .nil, [], _, _ => ⟨rfl, rfl⟩
  | .nil, _ :: _, _, h => by simp [trEs] at h
  | .cons _ _, [], _, h => by simp [trEs] at h
  | .cons c cs, x :: xs, _, h => by
    simp only [trEs, Bool.and_eq_true, Bool.not_eq_true'] at h
    obtain ⟨h1, h2⟩ := trEs_star h.2
    exact ⟨by rw [List.any_cons, h.1.1, h1]; rfl, by rw [List.length_cons, h2]; rfl⟩
theorem rgV_rps {K : PySem.W.Frag} {P : Hp} (a b : Int) : Rps K P (rgV a b) (intsL a (b - a).toNat) := by
  have gen : ∀ (n : Nat) (lo : Int), Rps K P ((List.range n).map fun i => V.int (lo + (i : Nat))) (intsL lo n) := by
    intro n
    induction n with
    | zero => intro lo; exact .nil
    | succ n ih =>
      intro lo
      rw [List.range_succ_eq_map, List.map_cons, List.map_map, intsL]
      refine .cons ?_ ?_
      · have : (lo + ((0 : Nat) : Int)) = lo := by simp
        rw [this]; exact .int _
      · have e : ((fun i : Nat => V.int (lo + (i : Nat))) ∘ Nat.succ) = fun i : Nat => V.int (lo + 1 + (i : Nat)) := by
          funext i
          simp only [Function.comp]
          congr 1
          omega
        rw [e]
        exact ih (lo + 1)
  exact gen _ _
variable {X : Cx} {sc : Scope} {fnB : Str → Bool} {W : WX}
theorem c_lst1 {a : C} {y : Expr} {p q pos pos' : Pos} (G : Gd tb cl call X N sc fnB W) (hl : glB sc "list" = true) (hg : glB sc "range" = true) (h : PE X y (CA cl call X W σ0 a)) (hs : star y = false) :
    PE X (.Call (.Name "list" p) [.Call (.Name "range" q) [y] [] pos'] [] pos) (CA cl call X W σ0 (.lstI (.rng1 a))) := by
  refine pe_imp (pe_listRg G.calm (show X.env.scope.names.lookup ("list" : Str) = _ by rw [G.sc]; exact gl_of hl) (G.blt _ (by decide +kernel))
    (prg_1 (show X.env.scope.names.lookup ("range" : Str) = _ by rw [G.sc]; exact gl_of hg) (G.blt _ (by decide +kernel)) h (star_each hs _ _)) rfl) fun σ H Q h => ?_
  obtain ⟨ρ, P, F, R⟩ := h
  simp only [ev, evI, bnd_assoc] at R
  refine (Res.bnd (R1 := rA X.K) F Step.refl R).mono fun v H1 ⟨x, ρ1, P1, F1, S1, _, ⟨r1, f1⟩, R1⟩ => ?_
  unfold rngD at R1
  cases e2 : view x ρ1 with
  | none => rw [e2] at R1; exact (R1 : False).elim
  | some d =>
    rw [e2] at R1
    cases d with
    | int j =>
      have R2 : Res X.K cl (rA X.K) W σ0 σ ρ H P (bnd (if (smallI 0 && smallI j) = true then ok (intsL 0 (j - 0).toNat) ρ1 else none) fun ds ρ => if ds.length ≤ 16777216 then ok (.frs (.lst ds)) ρ else none) Q := R1
      split at R2
      · rename_i z
        rw [Bool.and_eq_true] at z
        obtain ⟨s1, s2⟩ := small_of z.2
        have R3 : Res X.K cl (rA X.K) W σ0 σ ρ H P (if (intsL 0 (j - 0).toNat).length ≤ 16777216 then ok (.frs (.lst (intsL 0 (j - 0).toNat))) ρ1 else none) Q := R2
        split at R3
        · rename_i hz
          rw [intsL_len] at hz
          exact ⟨j, by rw [(r1.view F1 e2).int], ⟨by decide, by decide, s1, s2, hz⟩, fun q hq => Res.newLst F1 S1 R3 (rgV_rps 0 j) hq⟩
        · exact (R3 : False).elim
      · exact (R2 : False).elim
    | _ => exact (R1 : False).elim
theorem c_lst2 {a b : C} {y z : Expr} {p q pos pos' : Pos} (G : Gd tb cl call X N sc fnB W) (hl : glB sc "list" = true) (hg : glB sc "range" = true) (h : PE X y (CA cl call X W σ0 a)) (hs : star y = false) (h2 : PE X z (CA cl call X W σ0 b)) (hs2 : star z = false) :
    PE X (.Call (.Name "list" p) [.Call (.Name "range" q) [y, z] [] pos'] [] pos) (CA cl call X W σ0 (.lstI (.rng2 a b))) := by
  refine pe_imp (pe_listRg G.calm (show X.env.scope.names.lookup ("list" : Str) = _ by rw [G.sc]; exact gl_of hl) (G.blt _ (by decide +kernel))
    (prg_2 (show X.env.scope.names.lookup ("range" : Str) = _ by rw [G.sc]; exact gl_of hg) (G.blt _ (by decide +kernel)) h h2 (star_each hs _ _) (star_each hs2 _ _) (back_any (es := [z]) (by rw [List.any_cons, hs2]; rfl) _ _)) rfl) fun σ H Q h => ?_
  obtain ⟨ρ, P, F, R⟩ := h
  simp only [ev, evI, bnd_assoc] at R
  refine (Res.bnd (R1 := rA X.K) F Step.refl R).mono fun v H1 ⟨x, ρ1, P1, F1, S1, _, ⟨r1, f1⟩, R1⟩ => ?_
  refine (Res.bnd (R1 := rA X.K) F1 S1 R1).mono fun u H2 ⟨x', ρ2, P2, F2, S2, S, ⟨r2, f2⟩, R2⟩ => ?_
  unfold rngD at R2
  cases e1 : view x ρ2 with
  | none => rw [e1] at R2; exact (R2 : False).elim
  | some d =>
    cases e2 : view x' ρ2 with
    | none => rw [e1, e2] at R2; cases d <;> exact (R2 : False).elim
    | some d' =>
      rw [e1, e2] at R2
      cases d with
      | int i =>
        cases d' with
        | int j =>
          have R3 : Res X.K cl (rA X.K) W σ0 σ ρ H P (bnd (if (smallI i && smallI j) = true then ok (intsL i (j - i).toNat) ρ2 else none) fun ds ρ => if ds.length ≤ 16777216 then ok (.frs (.lst ds)) ρ else none) Q := R2
          split at R3
          · rename_i z
            rw [Bool.and_eq_true] at z
            obtain ⟨s1, s2⟩ := small_of z.1
            obtain ⟨s3, s4⟩ := small_of z.2
            have R4 : Res X.K cl (rA X.K) W σ0 σ ρ H P (if (intsL i (j - i).toNat).length ≤ 16777216 then ok (.frs (.lst (intsL i (j - i).toNat))) ρ2 else none) Q := R3
            split at R4
            · rename_i hz
              rw [intsL_len] at hz
              exact ⟨i, j, by rw [((r1.step S2).view F2 e1).int], by rw [(r2.view F2 e2).int], ⟨s1, s2, s3, s4, hz⟩, fun q hq => Res.newLst F2 S R4 (rgV_rps i j) hq⟩
            · exact (R4 : False).elim
          · exact (R3 : False).elim
        | _ => exact (R2 : False).elim
      | _ => exact (R2 : False).elim
end
end MP
set_option Elab.async false
set_option linter.all false
set_option maxRecDepth 100000
set_option maxHeartbeats 4000000
/-! MP: every expression that is told runs as the evaluator says -/
namespace MP
open PySem PySem.Spec PyProof.Rows L2
section
variable {tb : Tb} {cl : Nat → Addr} {call : Nat → List Slot → Out} {N : List Str} {σ0 : L2.St}
/-- an expression as a value, as a test -/
def EV (cl : Nat → Addr) (call : Nat → List Slot → Out) (σ0 : L2.St) (X : Cx) (W : WX) (t : Bool) (c : C) (e : Expr) : Prop := (t = false → PE X e (CA cl call X W σ0 c)) ∧ (t = true → PT X e (CT cl call X W σ0 c))
theorem ev_plain {X : Cx} {W : WX} {t : Bool} {c : C} {e : Expr} (h : PE X e (CA cl call X W σ0 c)) (he : ∀ whole, isTrue e X.env whole = (do let v ← whole; standAt e.pos; holding [v] (truthy v)) := by intro _; rfl) : EV cl call σ0 X W t c e :=
  ⟨fun _ => h, fun _ => t_plain h he⟩
mutual
theorem m_e : ∀ (c : C) {sc : Scope} {fnB : Str → Bool} {X : Cx} {W : WX} (t : Bool) (e : Expr), Gd tb cl call X N sc fnB W → trE tb N sc t c e = true → EV cl call σ0 X W t c e
  | .cst d, sc, fnB, X, W, t, e, G, h => by
    cases e <;> simp only [trE, Bool.false_eq_true] at h
    exact ev_plain (c_cst h)
  | .var i, sc, fnB, X, W, t, e, G, h => by
    cases e <;> simp only [trE, Bool.false_eq_true] at h
    simp only [Bool.and_eq_true, decide_eq_true_eq, Bool.not_eq_true'] at h
    exact ev_plain (c_var G h.1.1 h.1.2 h.2)
  | .glb y d, sc, fnB, X, W, t, e, G, h => by
    cases e <;> simp only [trE, Bool.false_eq_true] at h
    cases d <;> simp only [Bool.false_eq_true] at h
    simp only [Bool.and_eq_true, decide_eq_true_eq, Bool.not_eq_true'] at h
    obtain ⟨⟨⟨rfl, h2⟩, h3⟩, h4⟩ := h
    exact ev_plain (c_glb G h2 h3 h4)
  | .tup es, sc, fnB, X, W, t, e, G, h => by
    cases e <;> simp only [trE, Bool.false_eq_true] at h
    simp only [Bool.and_eq_true, decide_eq_true_eq] at h
    exact ev_plain (c_tup (m_ds es _ G h.1) h.2)
  | .lst es, sc, fnB, X, W, t, e, G, h => by
    cases e <;> simp only [trE, Bool.false_eq_true] at h
    simp only [Bool.and_eq_true, decide_eq_true_eq] at h
    exact ev_plain (c_lst (m_ds es _ G h.1) h.2)
  | .dis0, sc, fnB, X, W, t, e, G, h => by
    cases e <;> simp only [trE, Bool.false_eq_true] at h
    simp only [Bool.and_eq_true, List.isEmpty_iff] at h
    obtain ⟨rfl, rfl⟩ := h
    exact ev_plain c_dis0
  | .dis1 a b, sc, fnB, X, W, t, e, G, h => by
    cases e <;> simp only [trE, Bool.false_eq_true] at h
    split at h
    · simp only [Bool.and_eq_true] at h
      exact ev_plain (c_dis1 ((m_e a false _ G h.1).1 rfl) ((m_e b false _ G h.2).1 rfl))
    · cases h
  | .bin op a b, sc, fnB, X, W, t, e, G, h => by
    cases e <;> simp only [trE, Bool.false_eq_true] at h
    simp only [Bool.and_eq_true, decide_eq_true_eq] at h
    obtain ⟨⟨rfl, h2⟩, h3⟩ := h
    exact ev_plain (c_bin ((m_e a false _ G h2).1 rfl) ((m_e b false _ G h3).1 rfl))
  | .neg a, sc, fnB, X, W, t, e, G, h => by
    cases e <;> simp only [trE, Bool.false_eq_true] at h
    simp only [Bool.and_eq_true, decide_eq_true_eq] at h
    obtain ⟨rfl, h2⟩ := h
    exact ev_plain (c_neg ((m_e a false _ G h2).1 rfl))
  | .boo k es, sc, fnB, X, W, t, e, G, h => by
    cases e <;> simp only [trE, Bool.false_eq_true] at h
    simp only [Bool.and_eq_true, decide_eq_true_eq] at h
    obtain ⟨rfl, h2⟩ := h
    exact m_b es t _ G h2
  | .not_ a, sc, fnB, X, W, t, e, G, h => by
    cases e <;> simp only [trE, Bool.false_eq_true] at h
    simp only [Bool.and_eq_true, decide_eq_true_eq] at h
    obtain ⟨rfl, h2⟩ := h
    have ih := m_e a t _ G h2
    exact ⟨fun e => c_not (ih.1 e), fun e => t_not (ih.2 e)⟩
  | .cmp op a b, sc, fnB, X, W, t, e, G, h => by
    cases e <;> simp only [trE, Bool.false_eq_true] at h
    split at h
    · simp only [Bool.and_eq_true, decide_eq_true_eq, Bool.not_eq_true'] at h
      obtain ⟨⟨⟨rfl, h2⟩, h3⟩, h4⟩ := h
      exact ⟨fun _ => c_cmp G ((m_e a false _ G h3).1 rfl) ((m_e b false _ G h4).1 rfl) h2, fun _ => t_cmp G ((m_e a false _ G h3).1 rfl) ((m_e b false _ G h4).1 rfl) h2⟩
    · cases h
  | .chn op op' a b c, sc, fnB, X, W, t, e, G, h => by
    cases e <;> simp only [trE, Bool.false_eq_true] at h
    split at h
    · simp only [Bool.and_eq_true, decide_eq_true_eq, Bool.not_eq_true'] at h
      obtain ⟨⟨⟨⟨⟨rfl, rfl⟩, h2⟩, h3⟩, h4⟩, h5⟩ := h
      have p1 := (m_e a false _ G h3).1 rfl
      have p2 := (m_e b false _ G h4).1 rfl
      have p3 := (m_e c false _ G h5).1 rfl
      exact ⟨fun _ => c_chn G p1 p2 p3 h2, fun _ => t_chn G p1 p2 p3 h2⟩
    · cases h
  | .ite c a b, sc, fnB, X, W, t, e, G, h => by
    cases e <;> simp only [trE, Bool.false_eq_true] at h
    simp only [Bool.and_eq_true, Bool.not_eq_true'] at h
    obtain ⟨⟨⟨rfl, h2⟩, h3⟩, h4⟩ := h
    exact ⟨fun _ => c_ite ((m_e c true _ G h2).2 rfl) ((m_e a false _ G h3).1 rfl) ((m_e b false _ G h4).1 rfl), fun z => nomatch z⟩
  | .idx a i, sc, fnB, X, W, t, e, G, h => by
    cases e <;> simp only [trE, Bool.false_eq_true] at h
    simp only [Bool.and_eq_true, Bool.not_eq_true'] at h
    exact ev_plain (c_idx ((m_e a false _ G h.1.2).1 rfl) ((m_e i false _ G h.2).1 rfl) h.1.1)
  | .slc a lo hi, sc, fnB, X, W, t, e, G, h => by
    cases e <;> simp only [trE, Bool.false_eq_true] at h
    split at h
    · split at h
      · simp only [Bool.and_eq_true] at h
        exact ev_plain (c_slc ((m_e a false _ G h.1.1).1 rfl) (m_o lo _ G h.1.2) (m_o hi _ G h.2))
      · cases h
    · cases h
  | .call f fl es, sc, fnB, X, W, t, e, G, h => by
    cases e <;> simp only [trE, Bool.false_eq_true] at h
    split at h
    · split at h
      · rename_i fd hf
        simp only [Bool.and_eq_true, decide_eq_true_eq, Bool.not_eq_true'] at h
        obtain ⟨⟨⟨⟨⟨h1, h2⟩, h3⟩, h4⟩, h5⟩, h6⟩ := h
        cases es with
        | nil => simp [csLen] at h3
        | cons c cs =>
          obtain ⟨y, ys, rfl⟩ := trEs_cons h6
          exact ev_plain (c_call G hf h1 h2 h4 h5 (m_as fl (.cons c cs) _ G h6) (trEs_star h6).1)
      · cases h
    · cases h
  | .blt f es, sc, fnB, X, W, t, e, G, h => by
    cases e <;> simp only [trE, Bool.false_eq_true] at h
    split at h
    · simp only [Bool.and_eq_true, decide_eq_true_eq] at h
      obtain ⟨⟨⟨⟨h1, rfl⟩, h3⟩, h4⟩, h5⟩ := h
      cases es with
      | nil => simp [csLen] at h4
      | cons c cs =>
        obtain ⟨y, ys, rfl⟩ := trEs_cons h5
        exact ev_plain (c_blt G h1 h3 (m_as [] (.cons c cs) _ G h5) (trEs_star h5).1)
    · cases h
  | .isi ts c, sc, fnB, X, W, t, e, G, h => by
    cases e <;> simp only [trE, Bool.false_eq_true] at h
    split at h
    · simp only [Bool.and_eq_true, decide_eq_true_eq, Bool.not_eq_true'] at h
      obtain ⟨⟨⟨⟨rfl, h2⟩, h3⟩, h4⟩, h5⟩ := h
      have pe := (m_e c false _ G h4).1 rfl
      split at h5
      · simp only [Bool.and_eq_true, decide_eq_true_eq] at h5
        exact ev_plain (c_isiT G h2 h5.1 h5.2 pe h3)
      · split at h5
        · simp only [Bool.and_eq_true, decide_eq_true_eq] at h5
          obtain ⟨rfl, h6⟩ := h5
          exact ev_plain (c_isi1 G h2 h6 pe h3)
        · cases h5
      · cases h5
    · cases h
  | .lstI it, sc, fnB, X, W, t, e, G, h => by
    cases e <;> simp only [trE, Bool.false_eq_true] at h
    split at h
    · simp only [Bool.and_eq_true, decide_eq_true_eq, Bool.not_eq_true'] at h
      obtain ⟨⟨⟨rfl, h2⟩, h3⟩, h4⟩ := h
      exact ev_plain (m_r it _ G h2 h4)
    · cases h
  | .cmpr elt tg it ifs own, sc, fnB, X, W, t, e, G, h => by
    cases e <;> simp only [trE, Bool.false_eq_true] at h
    split at h
    · simp only [Bool.and_eq_true, Bool.not_eq_true'] at h
      obtain ⟨⟨⟨⟨⟨⟨h1, h2⟩, h3⟩, h4⟩, h5⟩, h6⟩, h7⟩ := h
      have he := fun (s : Shared) (H : Hp) (C : Addr) (c : List (Str × Addr)) (fp : List Addr) => pe_frz ((m_e elt false _ (G.blk s H _ C c fp) h4).1 rfl)
      refine ev_plain (pe_imp (pe_lc (g := CG X.K σ0 tg) (tt := Can X.K cl rB W0 σ0 (evIf call ifs)) (te := Can X.K cl (rD X.K) W0 σ0 (fun ρ => bnd (ev call elt ρ) frzM)) (own := ownL N own) G.calm (by rw [G.hN]; exact G.nd) (m_i it _ _ G h2) (by rw [G.hN, G.sc]; exact blkOk_by h6) (fun s H C c fp => g_tg (G.blk s H _ C c fp) h3)
        (fun s H C c fp => m_if ifs _ (G.blk s H _ C c fp) h5) (fun s H C c fp => he s H C c fp) (fun x => folded_of h1 _ x)) fun σ H Q hh => ?_)
      rw [ownL_snd]
      exact comp_imp (fun i hi => by
        have := List.all_eq_true.mp h7 i hi
        simpa using this) hh
    · cases h
theorem m_b : ∀ (es : Cs) {k : Bool} {sc : Scope} {fnB : Str → Bool} {X : Cx} {W : WX} {pos : Pos} (t : Bool) (xs : List Expr), Gd tb cl call X N sc fnB W → trBs tb N sc t es xs = true → EV cl call σ0 X W t (.boo k es) (.BoolOp (opK k) xs pos)
  | .nil, k, sc, fnB, X, W, pos, t, xs, G, h => by simp [trBs] at h
  | .cons c .nil, k, sc, fnB, X, W, pos, t, xs, G, h => by
    cases xs with
    | nil => simp [trBs] at h
    | cons x xs =>
      cases xs with
      | cons _ _ => simp [trBs] at h
      | nil =>
        simp only [trBs, Bool.and_eq_true] at h
        have ih := m_e c t _ G h.1
        exact ⟨fun e => c_boo1 (ih.1 e), fun e => (w_boo1 (ih.2 e)).pt⟩
  | .cons c (.cons c2 cs), k, sc, fnB, X, W, pos, t, xs, G, h => by
    cases xs with
    | nil => simp [trBs] at h
    | cons x xs =>
      cases xs with
      | nil => simp [trBs] at h
      | cons y ys =>
        rw [trBs] at h
        simp only [Bool.and_eq_true] at h
        have ih := m_e c t _ G h.1
        have ih2 := m_w (.cons c2 cs) (k := k) (pos := pos) t _ G h.2
        exact ⟨fun e => c_boo2 (ih.1 e) (ih2.1 e), fun e => (w_boo2 (ih.2 e) (ih2.2 e)).pt⟩
theorem m_w : ∀ (es : Cs) {k : Bool} {sc : Scope} {fnB : Str → Bool} {X : Cx} {W : WX} {pos : Pos} (t : Bool) (xs : List Expr), Gd tb cl call X N sc fnB W → trBs tb N sc t es xs = true →
    (t = false → PE X (.BoolOp (opK k) xs pos) (Can X.K cl (rA X.K) W σ0 (evB call k es))) ∧ (t = true → PW X (.BoolOp (opK k) xs pos) (Can X.K cl rB W σ0 (fun ρ => bnd (evB call k es ρ) tru)))
  | .nil, k, sc, fnB, X, W, pos, t, xs, G, h => by simp [trBs] at h
  | .cons c .nil, k, sc, fnB, X, W, pos, t, xs, G, h => by
    cases xs with
    | nil => simp [trBs] at h
    | cons x xs =>
      cases xs with
      | cons _ _ => simp [trBs] at h
      | nil =>
        simp only [trBs, Bool.and_eq_true] at h
        have ih := m_e c t _ G h.1
        exact ⟨fun e => c_boo1 (ih.1 e), fun e => w_boo1 (ih.2 e)⟩
  | .cons c (.cons c2 cs), k, sc, fnB, X, W, pos, t, xs, G, h => by
    cases xs with
    | nil => simp [trBs] at h
    | cons x xs =>
      cases xs with
      | nil => simp [trBs] at h
      | cons y ys =>
        rw [trBs] at h
        simp only [Bool.and_eq_true] at h
        have ih := m_e c t _ G h.1
        have ih2 := m_w (.cons c2 cs) (k := k) (pos := pos) t _ G h.2
        exact ⟨fun e => c_boo2 (ih.1 e) (ih2.1 e), fun e => w_boo2 (ih.2 e) (ih2.2 e)⟩
theorem m_ds : ∀ (es : Cs) {sc : Scope} {fnB : Str → Bool} {X : Cx} {W : WX} (xs : List Expr), Gd tb cl call X N sc fnB W → trEs tb N sc es xs = true → PA X xs (Can X.K cl (rDs X.K) W σ0 (evDs call es))
  | .nil, sc, fnB, X, W, xs, G, h => by
    cases xs with
    | nil => exact pa_ds_nil
    | cons _ _ => simp [trEs] at h
  | .cons c cs, sc, fnB, X, W, xs, G, h => by
    cases xs with
    | nil => simp [trEs] at h
    | cons x xs =>
      simp only [trEs, Bool.and_eq_true, Bool.not_eq_true'] at h
      exact pa_ds_cons ((m_e c false _ G h.1.2).1 rfl) (m_ds cs _ G h.2) h.1.1
theorem m_as : ∀ (fl : List Bool) (es : Cs) {sc : Scope} {fnB : Str → Bool} {X : Cx} {W : WX} (xs : List Expr), Gd tb cl call X N sc fnB W → trEs tb N sc es xs = true → PA X xs (Can X.K cl (rAs X.K) W σ0 (evAs call fl es))
  | fl, .nil, sc, fnB, X, W, xs, G, h => by
    cases xs with
    | nil => exact pa_as_nil
    | cons _ _ => simp [trEs] at h
  | fl, .cons c cs, sc, fnB, X, W, xs, G, h => by
    cases xs with
    | nil => simp [trEs] at h
    | cons x xs =>
      simp only [trEs, Bool.and_eq_true, Bool.not_eq_true'] at h
      exact pa_as_cons ((m_e c false _ G h.1.2).1 rfl) (m_as fl.tail cs _ G h.2) h.1.1
theorem m_if : ∀ (o : CO) {sc : Scope} {fnB : Str → Bool} {X : Cx} {W : WX} (xs : List Expr), Gd tb cl call X N sc fnB W → trIf tb N sc o xs = true → PTs X xs (Can X.K cl rB W σ0 (evIf call o))
  | .none, sc, fnB, X, W, xs, G, h => by
    cases xs with
    | nil =>
      refine ⟨fun pins s σ H Q I hh => pts_nil.run pins s σ H Q I ?_⟩
      obtain ⟨ρ, P, F, R⟩ := hh
      exact Res.ret F Step.refl R rfl
    | cons _ _ => simp [trIf] at h
  | .some c, sc, fnB, X, W, xs, G, h => by
    cases xs with
    | nil => simp [trIf] at h
    | cons x xs =>
      cases xs with
      | cons _ _ => simp [trIf] at h
      | nil =>
        simp only [trIf] at h
        exact pts_one ((m_e c true _ G h).2 rfl)
theorem m_o : ∀ (o : CO) {sc : Scope} {fnB : Str → Bool} {X : Cx} {W : WX} (x : Option Expr), Gd tb cl call X N sc fnB W → trO tb N sc o x = true → PO X x (Can X.K cl rO W σ0 (evO call o))
  | .none, sc, fnB, X, W, x, G, h => by
    cases x with
    | none => exact o_none
    | some _ => simp [trO] at h
  | .some c, sc, fnB, X, W, x, G, h => by
    cases x with
    | none => simp [trO] at h
    | some x =>
      simp only [trO] at h
      exact o_some ((m_e c false _ G h).1 rfl)
theorem m_r : ∀ (it : I) {sc : Scope} {fnB : Str → Bool} {X : Cx} {W : WX} {p pos : Pos} (r : Expr), Gd tb cl call X N sc fnB W → glB sc "list" = true → trR tb N sc it r = true → PE X (.Call (.Name "list" p) [r] [] pos) (CA cl call X W σ0 (.lstI it))
  | .rng1 a, sc, fnB, X, W, p, pos, r, G, hl, h => by
    cases r <;> simp only [trR, Bool.false_eq_true] at h
    split at h
    · simp only [Bool.and_eq_true, decide_eq_true_eq, Bool.not_eq_true'] at h
      obtain ⟨⟨⟨rfl, h2⟩, h3⟩, h4⟩ := h
      exact c_lst1 G hl h2 ((m_e a false _ G h4).1 rfl) h3
    · cases h
  | .rng2 a b, sc, fnB, X, W, p, pos, r, G, hl, h => by
    cases r <;> simp only [trR, Bool.false_eq_true] at h
    split at h
    · simp only [Bool.and_eq_true, decide_eq_true_eq, Bool.not_eq_true'] at h
      obtain ⟨⟨⟨⟨⟨rfl, h2⟩, h3⟩, h4⟩, h5⟩, h6⟩ := h
      exact c_lst2 G hl h2 ((m_e a false _ G h5).1 rfl) h3 ((m_e b false _ G h6).1 rfl) h4
    · cases h
  | .seq a, sc, fnB, X, W, p, pos, r, G, hl, h => by simp [trR] at h
  | .rng3 a b c, sc, fnB, X, W, p, pos, r, G, hl, h => by simp [trR] at h
  | .enum a, sc, fnB, X, W, p, pos, r, G, hl, h => by simp [trR] at h
  | .zip a b, sc, fnB, X, W, p, pos, r, G, hl, h => by simp [trR] at h
theorem m_i : ∀ (it : I) {sc : Scope} {fnB : Str → Bool} {X : Cx} {W : WX} (tg e : Expr), Gd tb cl call X N sc fnB W → trI tb N sc it tg e = true → PI X tg e (CI cl call X W σ0 it)
  | .seq a, sc, fnB, X, W, tg, e, G, h => by
    simp only [trI] at h
    exact i_seq ((m_e a false _ G h).1 rfl)
  | .rng1 a, sc, fnB, X, W, tg, e, G, h => by
    cases e <;> simp only [trI, Bool.false_eq_true] at h
    split at h
    · simp only [Bool.and_eq_true, decide_eq_true_eq, Bool.not_eq_true'] at h
      obtain ⟨⟨⟨rfl, h2⟩, h3⟩, h4⟩ := h
      exact i_rng1 G h2 ((m_e a false _ G h4).1 rfl) h3
    · cases h
  | .rng2 a b, sc, fnB, X, W, tg, e, G, h => by
    cases e <;> simp only [trI, Bool.false_eq_true] at h
    split at h
    · simp only [Bool.and_eq_true, decide_eq_true_eq, Bool.not_eq_true'] at h
      obtain ⟨⟨⟨⟨⟨rfl, h2⟩, h3⟩, h4⟩, h5⟩, h6⟩ := h
      exact i_rng2 G h2 ((m_e a false _ G h5).1 rfl) h3 ((m_e b false _ G h6).1 rfl) h4
    · cases h
  | .rng3 a b c, sc, fnB, X, W, tg, e, G, h => by simp [trI] at h
  | .enum a, sc, fnB, X, W, tg, e, G, h => by
    cases e <;> simp only [trI, Bool.false_eq_true] at h
    split at h
    · simp only [Bool.and_eq_true, decide_eq_true_eq, Bool.not_eq_true'] at h
      obtain ⟨⟨⟨⟨h1, rfl⟩, h2⟩, h3⟩, h4⟩ := h
      cases tg <;> simp only [isTup, Bool.false_eq_true] at h1
      exact i_enum G h2 ((m_e a false _ G h4).1 rfl) h3
    · cases h
  | .zip a b, sc, fnB, X, W, tg, e, G, h => by
    cases e <;> simp only [trI, Bool.false_eq_true] at h
    split at h
    · simp only [Bool.and_eq_true, decide_eq_true_eq, Bool.not_eq_true'] at h
      obtain ⟨⟨⟨⟨⟨⟨h1, rfl⟩, h2⟩, h3⟩, h4⟩, h5⟩, h6⟩ := h
      cases tg <;> simp only [isTup, Bool.false_eq_true] at h1
      exact i_zip G h2 ((m_e a false _ G h5).1 rfl) h3 ((m_e b false _ G h6).1 rfl) h4
    · cases h
end
end
end MP
set_option Elab.async false
set_option linter.all false
set_option maxRecDepth 100000
set_option maxHeartbeats 4000000
/-! MP: statements -/
namespace MP
open PySem PySem.Spec PyProof.Rows L2

section
variable (K : PySem.W.Frag) (cl : Nat → Addr)
/-- what is wanted behind a statement, from a start -/
def ResS (W : WX) (σ0 σ : L2.St) (ρ : Env) (H P : Hp) (m : Mr Flow) (D : Ends) : Prop :=
  match m with
  | none => False
  | some (.ok f, ρ') => ∀ σ' H' P', FR K σ0 σ' H' P' ρ' → Step σ ρ H P σ' ρ' H' P' → match f with
    | .nxt => D.nx σ' H'
    | .brk => D.bk σ' H'
    | .cnt => D.ct σ' H'
    | .ret a => ∀ v, AR K σ' H' P' ρ' v a → AF σ ρ H v a → D.rt v H'
  | some (.error x, ρ') => ∀ c d σ' H' P', FR K σ0 σ' H' P' ρ' → Step σ ρ H P σ' ρ' H' P' → ExR K cl P' x c d → W c d σ' H'
def CS (W : WX) (σ0 : L2.St) (m : Env → Mr Flow) : TS := fun D σ H => ∃ ρ P, FR K σ0 σ H P ρ ∧ ResS K cl W σ0 σ ρ H P (m ρ) D
end
section
variable {K : PySem.W.Frag} {cl : Nat → Addr} {W : WX} {σ0 σ σ1 : L2.St} {ρ ρ1 : Env} {H P H1 P1 : Hp} {D : Ends} {α β : Type}
theorem ResS.later {m : Mr Flow} (h : ResS K cl W σ0 σ ρ H P m D) (S : Step σ ρ H P σ1 ρ1 H1 P1) : ResS K cl W σ0 σ1 ρ1 H1 P1 m D := by
  unfold ResS at *
  split at h
  · exact h
  · intro σ' H' P' F2 S2
    have := h σ' H' P' F2 (S.trans S2)
    revert this
    split <;> intro this
    · exact this
    · exact this
    · exact this
    · exact fun v r f => this v r (f.back S)
  · exact fun c d σ' H' P' F2 S2 r => h c d σ' H' P' F2 (S.trans S2) r
/-- an expression, then more -/
theorem ResS.bnd {R1 : Rl β α} {m : Env → Mr α} {f : α → Env → Mr Flow} (F : FR K σ0 σ H1 P1 ρ1) (S : Step σ ρ H P σ ρ1 H1 P1) (h : ResS K cl W σ0 σ ρ H P (bnd (m ρ1) f) D) :
    Can K cl R1 W σ0 m σ H1 fun b H2 => ∃ a ρ2 P2, FR K σ0 σ H2 P2 ρ2 ∧ Step σ ρ1 H1 P1 σ ρ2 H2 P2 ∧ Step σ ρ H P σ ρ2 H2 P2 ∧ R1.r σ ρ1 H1 ρ2 H2 P2 b a ∧ ResS K cl W σ0 σ ρ H P (f a ρ2) D := by
  refine ⟨ρ1, P1, F, ?_⟩
  unfold Res
  unfold ResS MP.bnd at *
  cases e : m ρ1 with
  | none => rw [e] at h; exact h
  | some q =>
    obtain ⟨x, ρ'⟩ := q
    rw [e] at h
    cases x with
    | error x => exact fun c d H' P' F1 S1 r1 => h c d σ H' P' F1 (S.trans S1) r1
    | ok a => exact fun b H' P' F1 S1 r1 => ⟨a, ρ', P', F1, S1, S.trans S1, r1, h⟩
theorem ResS.next (F : FR K σ0 σ1 H1 P1 ρ1) (S : Step σ ρ H P σ1 ρ1 H1 P1) (h : ResS K cl W σ0 σ ρ H P (ok .nxt ρ1) D) : D.nx σ1 H1 := h σ1 H1 P1 F S
/-- a slot that takes a new list of its own -/
theorem FR.putOwn (F : FR K σ0 σ H P ρ) {i : Nat} {v : V} {d : MP.D} (hi : i < ρ.length) (r : Cont K H P v d) (n : ∀ b, v = V.ref b → ¬ Own σ ρ b) : FR K σ0 (σ.set i (some v)) H P (ρ.set i (.own false d)) := by
  have hs : i < σ.length := by rw [← F.len]; exact hi
  refine ⟨F.sub, by rw [List.length_set, List.length_set]; exact F.len, fun j t e h => ?_, fun j t e h => ?_, fun j k t t' e e' a h1 h2 h3 h4 => ?_, fun j e h => ?_⟩
  · rcases get_set h with ⟨rfl, z⟩ | ⟨n', h⟩
    · cases z
    · rw [List.getElem?_set_ne n']
      exact F.val j t e h
  · rcases get_set h with ⟨rfl, z⟩ | ⟨n', h⟩
    · cases z
      exact ⟨v, List.getElem?_set_self hs, r⟩
    · rw [List.getElem?_set_ne n']
      exact F.own j t e h
  · rcases get_set h1 with ⟨e1, z1⟩ | ⟨n1, h1⟩
    · rcases get_set h2 with ⟨e2, z2⟩ | ⟨n2, h2⟩
      · omega
      · subst e1
        rw [List.getElem?_set_self hs] at h3
        rw [List.getElem?_set_ne n2] at h4
        have h3 : v = V.ref a := Option.some.inj (Option.some.inj h3)
        exact absurd ⟨k, t', e', h2, h4⟩ (n a h3)
    · rcases get_set h2 with ⟨e2, z2⟩ | ⟨n2, h2⟩
      · subst e2
        rw [List.getElem?_set_self hs] at h4
        rw [List.getElem?_set_ne n1] at h3
        have h4 : v = V.ref a := Option.some.inj (Option.some.inj h4)
        exact absurd ⟨j, t, e, h1, h3⟩ (n a h4)
      · rw [List.getElem?_set_ne n1] at h3
        rw [List.getElem?_set_ne n2] at h4
        exact F.inj j k t t' e e' a h1 h2 h3 h4
  · rcases h with h | h
    · rcases get_set h with ⟨rfl, z⟩ | ⟨n', h⟩
      · cases z
      · rw [List.getElem?_set_ne n']
        exact F.tag j e (.inl h)
    · rcases get_set h with ⟨rfl, z⟩ | ⟨n', h⟩
      · cases z
      · rw [List.getElem?_set_ne n']
        exact F.tag j e (.inr h)
def noSlot : A → Bool
  | .slot _ => false
  | _ => true
/-- a name takes a result -/
theorem put_res {σs : L2.St} {ρs : Env} {Hs Ps : Hp} {i : Nat} {v : V} {a : A} {ρ' : Env} (F : FR K σ0 σ H P ρ) (S : Step σs ρs Hs Ps σ ρ H P) (r : AR K σ H P ρ v a) (f : AF σs ρs Hs v a) (na : noSlot a = true) (h : putA i a ρ = some ρ') :
    FR K σ0 (σ.set i (some v)) H P ρ' ∧ Step σs ρs Hs Ps (σ.set i (some v)) ρ' H P ∧ i < ρ.length ∧ ρ' = ρ.set i (slotOf a) := by
  unfold putA at h
  split at h
  · rename_i hi
    cases h
    cases a with
    | slot j => cases na
    | dat d => exact ⟨F.put hi r, S.trans Step.put, hi, rfl⟩
    | frs d =>
      refine ⟨F.putOwn hi r.1 r.2, ⟨S.keep, S.mono, S.newP, fun b o => ?_⟩, hi, rfl⟩
      obtain ⟨j, t, e, h1, h2⟩ := o
      rcases get_set h1 with ⟨rfl, z⟩ | ⟨n, h1⟩
      · rw [List.getElem?_set_self (by rw [← F.len]; exact hi)] at h2
        have h2 : v = V.ref b := Option.some.inj (Option.some.inj h2)
        exact f d rfl b h2
      · rw [List.getElem?_set_ne n] at h2
        exact S.newO b ⟨j, t, e, h1, h2⟩
  · cases h
def setAll : List Nat → List V → L2.St → L2.St
  | i :: is, v :: vs, σ => setAll is vs (σ.set i (some v))
  | _, _, σ => σ
theorem puts_res {σs : L2.St} {ρs : Env} {Hs Ps : Hp} : ∀ {is : List Nat} {as : List A} {vs : List V} {σ : L2.St} {ρ ρ' : Env}, FR K σ0 σ H P ρ → Step σs ρs Hs Ps σ ρ H P → ARs K σ H P ρ vs as → AFs σs ρs Hs vs as → as.all noSlot = true →
    putAs is as ρ = some ρ' → FR K σ0 (setAll is vs σ) H P ρ' ∧ Step σs ρs Hs Ps (setAll is vs σ) ρ' H P ∧ is.length = vs.length
  | [], [], _, σ, ρ, ρ', F, S, r, f, n, h => by
    cases r
    simp only [putAs] at h
    cases h
    exact ⟨F, S, rfl⟩
  | [], _ :: _, _, _, _, _, _, _, _, _, _, h => by simp [putAs] at h
  | _ :: _, [], _, _, _, _, _, _, _, _, _, h => by simp [putAs] at h
  | i :: is, a :: as, _, σ, ρ, ρ', F, S, .cons (v := v) (vs := vs) r t ap, .cons f fs, n, h => by
    rw [List.all_cons, Bool.and_eq_true] at n
    simp only [putAs] at h
    cases e : putA i a ρ with
    | none => rw [e] at h; cases h
    | some ρ1 =>
      rw [e] at h
      obtain ⟨F1, S1, hi, rfl⟩ := put_res F S r f n.1 e
      have t1 : ARs K (σ.set i (some v)) H P (ρ.set i (slotOf a)) vs as := by
        have gen : ∀ {us : List V} {bs : List A}, ARs K σ H P ρ us bs → (∀ d, a = .frs d → ∀ (j : Nat) d', bs[j]? = some (.frs d') → us[j]? ≠ some v) → bs.all noSlot = true → ARs K (σ.set i (some v)) H P (ρ.set i (slotOf a)) us bs := by
          intro us bs hh
          induction hh with
          | nil => intro _ _; exact .nil
          | @cons u us b bs r' t' ap' ih =>
            intro q nn
            rw [List.all_cons, Bool.and_eq_true] at nn
            refine .cons ?_ (ih (fun d e j d' ej => by simpa using q d e (j + 1) d' (by simpa using ej)) nn.2) ap'
            cases b with
            | slot j => cases nn.1
            | dat d => exact r'
            | frs d =>
              refine ⟨r'.1, fun c ec o => ?_⟩
              obtain ⟨j, t2, e2, h1, h2⟩ := o
              rcases get_set h1 with ⟨rfl, z⟩ | ⟨n3, h1⟩
              · rw [List.getElem?_set_self (by rw [← F.len]; exact hi)] at h2
                have h2 : v = V.ref c := Option.some.inj (Option.some.inj h2)
                cases a with
                | dat _ => cases z
                | slot _ => cases z
                | frs d2 => exact q d2 rfl 0 d rfl (by rw [h2, ← ec]; rfl)
              · rw [List.getElem?_set_ne n3] at h2
                exact r'.2 c ec ⟨j, t2, e2, h1, h2⟩
        exact gen t ap n.2
      obtain ⟨G1, G2, G3⟩ := puts_res F1 S1 t1 fs n.2 h
      exact ⟨G1, G2, by rw [List.length_cons, List.length_cons, G3]⟩
/-- a slot is forgotten -/
theorem FR.drop (F : FR K σ0 σ H P ρ) (i : Nat) : FR K σ0 σ H P (ρ.set i .non) := by
  refine ⟨F.sub, by rw [List.length_set]; exact F.len, fun j t e h => ?_, fun j t e h => ?_, fun j k t t' e e' a h1 h2 h3 h4 => ?_, fun j e h => ?_⟩
  · rcases get_set h with ⟨rfl, z⟩ | ⟨n', h⟩
    · cases z
    · exact F.val j t e h
  · rcases get_set h with ⟨rfl, z⟩ | ⟨n', h⟩
    · cases z
    · exact F.own j t e h
  · rcases get_set h1 with ⟨rfl, z⟩ | ⟨n, h1⟩
    · cases z
    · rcases get_set h2 with ⟨rfl, z⟩ | ⟨n', h2⟩
      · cases z
      · exact F.inj j k t t' e e' a h1 h2 h3 h4
  · rcases h with h | h
    · rcases get_set h with ⟨rfl, z⟩ | ⟨n', h⟩
      · cases z
      · exact F.tag j e (.inl h)
    · rcases get_set h with ⟨rfl, z⟩ | ⟨n', h⟩
      · cases z
      · exact F.tag j e (.inr h)
theorem own_drop {i : Nat} {a : Addr} (o : Own σ (ρ.set i .non) a) : Own σ ρ a := by
  obtain ⟨j, t, e, h1, h2⟩ := o
  rcases get_set h1 with ⟨rfl, z⟩ | ⟨n, h1⟩
  · cases z
  · exact ⟨j, t, e, h1, h2⟩
/-- a list of one's own is rewritten -/
theorem FR.setOwn (F : FR K σ0 σ H P ρ) {i : Nat} {t : Bool} {d : MP.D} {p : Addr} {vs : List V} {ds : List MP.D} (h : ρ[i]? = some (.own t d)) (hp : σ[i]? = some (some (V.ref p))) (q : Rps K P vs ds) :
    FR K σ0 σ (L2.upd H p (.lst vs)) P (ρ.set i (.own t (.lst ds))) := by
  have hi : i < ρ.length := (List.getElem?_eq_some_iff.mp h).1
  obtain ⟨us, _, pp⟩ := F.own_at ⟨i, t, d, h, hp⟩
  refine ⟨fun b x e => ?_, by rw [List.length_set]; exact F.len, fun j t e h => ?_, fun j t' e h' => ?_, fun j k t' t'' e e' a h1 h2 h3 h4 => ?_, fun j e h' => ?_⟩
  · rw [upd_ne (ne_of_none e pp)]
    exact F.sub _ _ e
  · rcases get_set h with ⟨rfl, z⟩ | ⟨n', h⟩
    · cases z
    · exact F.val j t e h
  · rcases get_set h' with ⟨rfl, z⟩ | ⟨n', h'⟩
    · cases z
      exact ⟨_, hp, p, vs, ds, rfl, rfl, upd_same, pp, q⟩
    · obtain ⟨v, g1, b, ws, es, rfl, rfl, g2, g3, g4⟩ := F.own j t' e h'
      have n : b ≠ p := fun z => by subst z; exact n' (F.inj i j t t' d _ b h h' hp g1)
      exact ⟨_, g1, b, ws, es, rfl, rfl, by rw [upd_ne n]; exact g2, g3, g4⟩
  · have e1 : ∃ t d, ρ[j]? = some (.own t d) := by
      rcases get_set h1 with ⟨rfl, z⟩ | ⟨n, h1⟩
      · exact ⟨_, _, h⟩
      · exact ⟨_, _, h1⟩
    have e2 : ∃ t d, ρ[k]? = some (.own t d) := by
      rcases get_set h2 with ⟨rfl, z⟩ | ⟨n, h2⟩
      · exact ⟨_, _, h⟩
      · exact ⟨_, _, h2⟩
    obtain ⟨_, _, e1⟩ := e1
    obtain ⟨_, _, e2⟩ := e2
    exact F.inj j k _ _ _ _ a e1 e2 h3 h4
  · rcases h' with h' | h'
    · rcases get_set h' with ⟨rfl, z⟩ | ⟨n', h'⟩
      · cases z
      · exact F.tag j e (.inl h')
    · rcases get_set h' with ⟨rfl, z⟩ | ⟨n', h'⟩
      · cases z
        exact F.tag i d (.inr h)
      · exact F.tag j e (.inr h')
theorem Step.setOwn {σs : L2.St} {ρs : Env} {Hs Ps : Hp} (S : Step σs ρs Hs Ps σ ρ H P) {i : Nat} {t : Bool} {d d' : MP.D} {p : Addr} {o : HO} (h : ρ[i]? = some (.own t d)) (hp : σ[i]? = some (some (V.ref p))) :
    Step σs ρs Hs Ps σ (ρ.set i (.own t d')) (L2.upd H p o) P := by
  have op : Own σ ρ p := ⟨i, t, d, h, hp⟩
  refine ⟨fun a u e n => ?_, S.mono, S.newP, fun a o' => ?_⟩
  · have na : a ≠ p := fun z => by
      subst z
      rcases S.newO _ op with y | y
      · rw [e] at y; cases y
      · exact n y
    rw [upd_ne na]
    exact S.keep a u e n
  · obtain ⟨j, t', e', h1, h2⟩ := o'
    rcases get_set h1 with ⟨rfl, z⟩ | ⟨n, h1⟩
    · rw [hp] at h2
      cases h2
      exact S.newO _ op
    · exact S.newO a ⟨j, t', e', h1, h2⟩
end
section
variable {tb : Tb} {cl : Nat → Addr} {call : Nat → List Slot → Out} {N : List Str} {σ0 : L2.St} {X : Cx} {sc : Scope} {W : WX}
theorem ps_imp {st : Stmt} {t t' : TS} (h : PS X st t) (f : ∀ D σ H, t' D σ H → t D σ H) : PS X st t' := ⟨fun pins s σ H D I q => h.run pins s σ H D I (f D σ H q)⟩
theorem pss_imp {st : List Stmt} {t t' : TS} (h : PSs X st t) (f : ∀ D σ H, t' D σ H → t D σ H) : PSs X st t' := ⟨fun pins s σ H D I q => h.run pins s σ H D I (f D σ H q)⟩
theorem s_nil : PSs X [] (CS X.K cl W σ0 (execs call .nil)) := pss_imp pss_nil fun D σ H h => by
  obtain ⟨ρ, P, F, R⟩ := h
  rw [execs] at R
  exact R.next F Step.refl
theorem s_cons {s : S} {ss : Ss} {st : Stmt} {sts : List Stmt} (h1 : PS X st (CS X.K cl W σ0 (exec call s))) (h2 : PSs X sts (CS X.K cl W σ0 (execs call ss))) : PSs X (st :: sts) (CS X.K cl W σ0 (execs call (.cons s ss))) := by
  refine pss_imp (pss_cons h1 h2) fun D σ H h => ?_
  obtain ⟨ρ, P, F, R⟩ := h
  rw [execs] at R
  refine ⟨ρ, P, F, ?_⟩
  unfold ResS bnd at *
  cases e : exec call s ρ with
  | none => rw [e] at R; exact R
  | some q =>
    obtain ⟨x, ρ'⟩ := q
    rw [e] at R
    cases x with
    | error x => exact R
    | ok f =>
      cases f with
      | nxt =>
        intro σ' H' P' F1 S1
        have R' : ResS X.K cl W σ0 σ ρ H P (execs call ss ρ') D := R
        exact ⟨ρ', P', F1, R'.later S1⟩
      | brk => exact R
      | cnt => exact R
      | ret a => exact R
theorem s_ret {c : C} {e : Expr} {pos : Pos} (h : PE X e (CA cl call X W σ0 c)) : PS X (.Return (some e) pos) (CS X.K cl W σ0 (exec call (.ret c))) := by
  refine ps_imp (ps_ret h) fun D σ H h => ?_
  obtain ⟨ρ, P, F, R⟩ := h
  rw [exec] at R
  refine (ResS.bnd (R1 := rA X.K) F Step.refl R).mono fun v H1 ⟨a, ρ1, P1, F1, S1, _, ⟨r1, f1⟩, R1⟩ => ?_
  cases a with
  | dat d => exact R1 σ H1 P1 F1 S1 v r1 f1
  | frs d => exact R1 σ H1 P1 F1 S1 v r1 f1
  | slot i =>
    unfold retA at R1
    dsimp only at R1
    have r1 : σ[i]? = some (some v) := r1
    split at R1
    · rename_i d e
      obtain ⟨w, e2, c0⟩ := F1.own i false d e
      rw [r1] at e2; cases e2
      obtain ⟨b, vs, ds, rfl, rfl, g1, g2, g3⟩ := c0
      refine R1 σ H1 P1 (F1.drop i) ⟨S1.keep, S1.mono, S1.newP, fun a o => S1.newO a (own_drop o)⟩ _ ⟨⟨b, vs, ds, rfl, rfl, g1, g2, g3⟩, fun b' eb o => ?_⟩ fun _ _ b' eb => ?_
      · cases eb
        obtain ⟨j, t, e', h1, h2⟩ := o
        rcases get_set h1 with ⟨rfl, z⟩ | ⟨n, h1⟩
        · cases z
        · exact n (F1.inj i j _ _ _ _ b e h1 r1 h2)
      · cases eb
        exact S1.newO b ⟨i, false, _, e, r1⟩
    · rename_i d e
      have hz : frz (.slot i) ρ1 = some (d, ρ1.set i (.val true d)) := by simp only [frz, e]
      obtain ⟨P2, F2, S2, r2⟩ := freeze F1 S1 (show AR X.K σ H1 P1 ρ1 v (.slot i) from r1) f1 hz
      exact R1 σ H1 P2 F2 S2 v r2 fun _ z => nomatch z
    · rename_i t d e
      obtain ⟨w, e2, r2⟩ := F1.val i t d e
      rw [r1] at e2; cases e2
      exact R1 σ H1 P1 F1 S1 v r2 fun _ z => nomatch z
    · exact (R1 : False).elim
theorem s_retN {pos : Pos} : PS X (.Return none pos) (CS X.K cl W σ0 (exec call .retN)) := ps_imp ps_retN fun D σ H h => by
  obtain ⟨ρ, P, F, R⟩ := h
  rw [exec] at R
  exact R σ H P F Step.refl .non .non fun _ z => nomatch z
theorem s_pas {pos : Pos} : PS X (.Pass pos) (CS X.K cl W σ0 (exec call .pas)) := ps_imp ps_pass fun D σ H h => by
  obtain ⟨ρ, P, F, R⟩ := h
  rw [exec] at R
  exact R.next F Step.refl
theorem s_brk {pos : Pos} : PS X (.Break pos) (CS X.K cl W σ0 (exec call .brk)) := ps_imp ps_break fun D σ H h => by
  obtain ⟨ρ, P, F, R⟩ := h
  rw [exec] at R
  exact R σ H P F Step.refl
theorem s_cnt {pos : Pos} : PS X (.Continue pos) (CS X.K cl W σ0 (exec call .cnt)) := ps_imp ps_continue fun D σ H h => by
  obtain ⟨ρ, P, F, R⟩ := h
  rw [exec] at R
  exact R σ H P F Step.refl
theorem s_rse {k : Nat} {e : CO} {st : Stmt} : PS X st (CS X.K cl W σ0 (exec call (.rse k e))) := ps_imp ps_never fun D σ H h => by
  obtain ⟨ρ, P, F, R⟩ := h
  rw [exec] at R
  exact (R : False).elim
def isComp : Expr → Bool
  | .ListComp .. => true | .SetComp .. => true | .DictComp .. => true
  | _ => false
theorem swaps_no {e : Expr} (h : isComp e = false) (t : Option Expr) (l : Nat) (env : PySem.Env) : swapsWith e t l env = pure false := by
  cases e <;> first | rfl | exact nomatch h
theorem s_expr {c : C} {e : Expr} {pos : Pos} (h : PE X e (CA cl call X W σ0 c)) (hc : isComp e = false) : PS X (.Expr e pos) (CS X.K cl W σ0 (exec call (.expr c))) := by
  refine ps_imp (ps_expr h (swaps_no hc _ _ _)) fun D σ H h => ?_
  obtain ⟨ρ, P, F, R⟩ := h
  rw [exec] at R
  exact (ResS.bnd (R1 := rA X.K) F Step.refl R).mono fun v H1 ⟨a, ρ1, P1, F1, S1, _, r1, R1⟩ => R1.next F1 S1
theorem s_ife {c : C} {a b : Ss} {e : Expr} {x y : List Stmt} {pos : Pos} (h : PT X e (CT cl call X W σ0 c)) (h1 : PSs X x (CS X.K cl W σ0 (execs call a))) (h2 : PSs X y (CS X.K cl W σ0 (execs call b))) : PS X (.If e x y pos) (CS X.K cl W σ0 (exec call (.ife c a b))) := by
  refine ps_imp (ps_if h h1 h2) fun D σ H h => ?_
  obtain ⟨ρ, P, F, R⟩ := h
  rw [exec] at R
  refine (ResS.bnd (R1 := rB) F Step.refl R).mono fun k H1 ⟨t, ρ1, P1, F1, S1, _, r1, R1⟩ => ?_
  have r1 : k = t := r1
  rw [← r1] at R1
  cases k with
  | true => exact ⟨ρ1, P1, F1, R1.later S1⟩
  | false => exact ⟨ρ1, P1, F1, R1.later S1⟩
/-- results without slots -/
theorem can_uns {c : C} {σ : L2.St} {H : Hp} {Q : V → Hp → Prop} (h : Can X.K cl ⟨fun σ ρ0 H0 ρ H P v a => (AR X.K σ H P ρ v a ∧ AF σ ρ0 H0 v a) ∧ noSlot a = true, fun s h => ⟨⟨h.1.1, h.1.2.back s⟩, h.2⟩⟩ W σ0 (fun ρ => bnd (ev call c ρ) unslot) σ H Q) : CA cl call X W σ0 c σ H Q := by
  obtain ⟨ρ, P, F, R⟩ := h
  refine (Res.bnd (R1 := rA X.K) F Step.refl R).mono fun v H1 ⟨a, ρ1, P1, F1, S1, _, ⟨r1, f1⟩, R1⟩ => ?_
  cases a with
  | dat d => exact R1 v H1 P1 F1 S1 ⟨⟨r1, f1⟩, rfl⟩
  | frs d => exact R1 v H1 P1 F1 S1 ⟨⟨r1, f1⟩, rfl⟩
  | slot i =>
    cases e : frz (.slot i) ρ1 with
    | none => rw [unslot, frzM, e] at R1; exact (R1 : False).elim
    | some q =>
      obtain ⟨d, ρ2⟩ := q
      rw [unslot, frzM, e] at R1
      obtain ⟨P2, F2, S2, r2⟩ := freeze F1 S1 r1 f1 e
      exact R1 v H1 P2 F2 S2 ⟨⟨r2, fun _ z => nomatch z⟩, rfl⟩
def rU (K : PySem.W.Frag) : Rl V A := ⟨fun σ ρ0 H0 ρ H P v a => (AR K σ H P ρ v a ∧ AF σ ρ0 H0 v a) ∧ noSlot a = true, fun s h => ⟨⟨h.1.1, h.1.2.back s⟩, h.2⟩⟩
theorem nm_imp {c : C} {i : Nat} {D : Ends} {σ : L2.St} {H : Hp} (h : CS X.K cl W σ0 (exec call (.asg (.nm i) c)) D σ H) : CA cl call X W σ0 c σ H fun v H1 => D.nx (σ.set i (some v)) H1 := by
  obtain ⟨ρ, P, F, R⟩ := h
  rw [exec] at R
  refine can_uns ((ResS.bnd (R1 := rU X.K) (m := fun ρ => bnd (ev call c ρ) unslot) F Step.refl R).mono fun v H1 ⟨a, ρ1, P1, F1, S1, _, ⟨⟨r1, f1⟩, na⟩, R1⟩ => ?_)
  cases e : putA i a ρ1 with
  | none => rw [e] at R1; exact (R1 : False).elim
  | some ρ2 =>
    rw [e] at R1
    obtain ⟨F2, S2, hi, _⟩ := put_res F1 S1 r1 f1 na e
    exact ResS.next F2 S2 R1
theorem s_set {c : C} {i : Nat} {x : Str} {e : Expr} {pos pos' : Pos} (G : Gd tb cl call X N sc (fun _ => true) W) (hi : N[i]? = some x) (hx : locB sc (fun _ => true) x = true) (h : PE X e (CA cl call X W σ0 c)) (hs : swapsWith e (some (.Name x pos')) pos.line X.env = pure false) :
    PS X (.Assign [.Name x pos'] e pos) (CS X.K cl W σ0 (exec call (.asg (.nm i) c))) :=
  ps_imp (ps_set (i := i) (by rw [G.hN]; exact G.nd) (by rw [G.hN]; exact hi) (by rw [G.sc]; exact (loc_of hx).1) h hs (.inl (G.fn x rfl))) fun D σ H h => nm_imp h
theorem s_asg {c : C} {ts : Tgs} {tg e : Expr} {pos : Pos} (hg : PG X tg (CG X.K σ0 (.tp ts))) (h : PE X e (CA cl call X W σ0 c)) (ht : star tg = false) (hs : swapsWithSole [tg] e pos.line X.env = pure false) (hw : swappedStores [tg] e X.env = pure none) :
    PS X (.Assign [tg] e pos) (CS X.K cl W σ0 (exec call (.asg (.tp ts) c))) := by
  refine ps_imp (ps_asg (pe_frz h) hg hs hw (by rw [each_assign ht]; rfl)) fun D σ H h => ?_
  obtain ⟨ρ, P, F, R⟩ := h
  simp only [exec] at R
  refine (ResS.bnd (R1 := rD X.K) F Step.refl R).mono fun v H1 ⟨d, ρ1, P1, F1, S1, _, r1, R1⟩ => ?_
  cases e : asgT (.tp ts) d ρ1 with
  | none => rw [e] at R1; exact (R1 : False).elim
  | some ρ2 =>
    rw [e] at R1
    exact ⟨ρ1, P1, d, F1, r1, ρ2, e, fun σ' F2 S2 _ => ResS.next F2 (S1.trans S2) R1⟩
theorem s_aug {c : C} {op : BOp} {r : TIp} {i : Nat} {x : Str} {e : Expr} {pos pos' : Pos} (G : Gd tb cl call X N sc (fun _ => true) W) (hi : N[i]? = some x) (hx : locB sc (fun _ => true) x = true) (h : PE X e (CA cl call X W σ0 c)) (hp : PIp X (opB op) r)
    (hr : ∀ (i j k : Int) (H : Hp) (Q : VK), binD op (.int i) (.int j) = some (.dat (.int k)) → Q (.int k) H → r (.int i) (.int j) H Q) (hd : ∀ i j z, binD op (.int i) (.int j) = some z → ∃ k, z = .dat (.int k)) :
    PS X (.AugAssign (.Name x pos') (opB op) e pos) (CS X.K cl W σ0 (exec call (.aug i op c))) := by
  refine ps_imp (ps_aug (i := i) (by rw [G.hN]; exact G.nd) (by rw [G.hN]; exact hi) (by rw [G.sc]; exact (loc_of hx).1) h hp (.inl (G.fn x rfl))) fun D σ H h => ?_
  obtain ⟨ρ, P, F, R⟩ := h
  rw [exec] at R
  split at R
  · rename_i t y e
    obtain ⟨v, e2, r2⟩ := F.val i t _ e
    cases r2.int_inv
    refine ⟨_, e2, (ResS.bnd (R1 := rA X.K) F Step.refl R).mono fun u H1 ⟨a, ρ1, P1, F1, S1, _, ⟨r1, f1⟩, R1⟩ => ?_⟩
    unfold augD at R1
    cases e3 : view a ρ1 with
    | none => rw [e3] at R1; exact (R1 : False).elim
    | some d =>
      rw [e3] at R1
      cases d with
      | int j =>
        dsimp only at R1
        cases e4 : binD op (.int y) (.int j) with
        | none => rw [e4] at R1; exact (R1 : False).elim
        | some z =>
          obtain ⟨k, rfl⟩ := hd _ _ _ e4
          rw [e4] at R1
          cases (r1.view F1 e3).int
          refine hr y j k H1 _ e4 ?_
          dsimp only at R1
          cases e5 : putD i (.int k) ρ1 with
          | none => rw [e5] at R1; exact (R1 : False).elim
          | some ρ2 =>
            rw [e5] at R1
            unfold putD at e5
            split at e5
            · rename_i hl
              cases e5
              exact ResS.next (F1.put hl (.int k)) (S1.trans Step.put) R1
            · cases e5
      | _ => exact (R1 : False).elim
  · exact (R : False).elim
end
end MP
set_option Elab.async false
set_option linter.all false
set_option maxRecDepth 100000
set_option maxHeartbeats 4000000
/-! MP: lists written, loops, stores of pairs -/
namespace MP
open PySem PySem.Spec PyProof.Rows L2

section
variable {tb : Tb} {cl : Nat → Addr} {call : Nat → List Slot → Out} {N : List Str} {σ0 : L2.St} {X : Cx} {sc : Scope} {W : WX}

/-! ### a op= b -/
def ipR : BOp → TIp
  | .add => rI0 fun i j => .int (i + j)
  | .sub => rI0 fun i j => .int (i - j)
  | .mul => L2.rI CMulW fun i j => .int (i * j)
  | .fdiv => L2.rI (fun _ j => j ≠ 0 ∧ bits j < 9000) fun i j => .int (i.fdiv j)
  | .mod => L2.rI (fun _ j => j ≠ 0) fun i j => .int (i.fmod j)
  | _ => fun _ _ _ _ => False
theorem ip_ok : ∀ op : BOp, PIp X (opB op) (ipR op)
  | .add => fun pins s σ H x y v u Q I rx ry h => by
    obtain ⟨i, j, rfl, rfl, q⟩ := h
    obtain ⟨t, rfl⟩ := rx
    obtain ⟨t', rfl⟩ := ry
    exact iadd_int ⟨.int _, H, I.tok _, ⟨_, rfl⟩, q⟩
  | .sub => fun pins s σ H x y v u Q I rx ry h => by
    obtain ⟨i, j, rfl, rfl, q⟩ := h
    obtain ⟨t, rfl⟩ := rx
    obtain ⟨t', rfl⟩ := ry
    exact isub_int ⟨.int _, H, I.tok _, ⟨_, rfl⟩, q⟩
  | .mul => fun pins s σ H x y v u Q I rx ry h => by
    obtain ⟨i, j, rfl, rfl, c, q⟩ := h
    obtain ⟨t, rfl⟩ := rx
    obtain ⟨t', rfl⟩ := ry
    exact imul_int ⟨.int _, H, I.tok _, ⟨_, rfl⟩, q⟩ c.ok
  | .fdiv => fun pins s σ H x y v u Q I rx ry h => by
    obtain ⟨i, j, rfl, rfl, c, q⟩ := h
    obtain ⟨t, rfl⟩ := rx
    obtain ⟨t', rfl⟩ := ry
    exact ifloordiv_int c.1 ⟨.int _, H, I.tok _, ⟨_, rfl⟩, q⟩ (.inl (PyProof.noPylong_of_log2 c.2))
  | .mod => fun pins s σ H x y v u Q I rx ry h => by
    obtain ⟨i, j, rfl, rfl, c, q⟩ := h
    obtain ⟨t, rfl⟩ := rx
    obtain ⟨t', rfl⟩ := ry
    exact imod_int c ⟨.int _, H, I.tok _, ⟨_, rfl⟩, q⟩
  | .pow => fun _ _ _ _ _ _ _ _ _ _ _ _ h => h.elim
  | .shl => fun _ _ _ _ _ _ _ _ _ _ _ _ h => h.elim
  | .shr => fun _ _ _ _ _ _ _ _ _ _ _ _ h => h.elim
  | .band => fun _ _ _ _ _ _ _ _ _ _ _ _ h => h.elim
def ipB : BOp → Bool
  | .add => true | .sub => true | .mul => true | .fdiv => true | .mod => true | _ => false
theorem ip_run : ∀ {op : BOp}, ipB op = true → ∀ (i j k : Int) (H : Hp) (Q : VK), binD op (.int i) (.int j) = some (.dat (.int k)) → Q (.int k) H → ipR op (.int i) (.int j) H Q
  | .add, _, i, j, k, H, Q, e, q => by cases e; exact ⟨i, j, rfl, rfl, q⟩
  | .sub, _, i, j, k, H, Q, e, q => by cases e; exact ⟨i, j, rfl, rfl, q⟩
  | .mul, _, i, j, k, H, Q, e, q => by
    simp only [binD] at e
    split at e
    · rename_i c; cases e; exact ⟨i, j, rfl, rfl, c, q⟩
    · cases e
  | .fdiv, _, i, j, k, H, Q, e, q => by
    simp only [binD] at e
    split at e
    · rename_i c; cases e; exact ⟨i, j, rfl, rfl, c, q⟩
    · cases e
  | .mod, _, i, j, k, H, Q, e, q => by
    simp only [binD] at e
    split at e
    · rename_i c; cases e; exact ⟨i, j, rfl, rfl, c, q⟩
    · cases e
theorem ip_int : ∀ {op : BOp}, ipB op = true → ∀ i j z, binD op (.int i) (.int j) = some z → ∃ k, z = .dat (.int k)
  | .add, _, i, j, z, e => by cases e; exact ⟨_, rfl⟩
  | .sub, _, i, j, z, e => by cases e; exact ⟨_, rfl⟩
  | .mul, _, i, j, z, e => by simp only [binD] at e; split at e <;> cases e; exact ⟨_, rfl⟩
  | .fdiv, _, i, j, z, e => by simp only [binD] at e; split at e <;> cases e; exact ⟨_, rfl⟩
  | .mod, _, i, j, z, e => by simp only [binD] at e; split at e <;> cases e; exact ⟨_, rfl⟩

/-! ### append, o[i] = .. -/
theorem own_ref {K : PySem.W.Frag} {σ : L2.St} {ρ : Env} {H P : Hp} {i : Nat} {t : Bool} {d : D} (F : FR K σ0 σ H P ρ) (h : ρ[i]? = some (.own t d)) :
    ∃ p vs ds, d = .lst ds ∧ σ[i]? = some (some (V.ref p)) ∧ H p = some (.lst vs) ∧ P p = none ∧ Rps K P vs ds := by
  obtain ⟨v, e, p, vs, ds, rfl, rfl, h1, h2, h3⟩ := F.own i t d h
  exact ⟨p, vs, ds, rfl, e, h1, h2, h3⟩
theorem s_app {c : C} {i : Nat} {x : Str} {e : Expr} {p apos cpos pos : Pos} (G : Gd tb cl call X N sc (fun _ => true) W) (hi : N[i]? = some x) (hx : visB sc x = true) (ho : oddB x = false) (h : PE X e (CA cl call X W σ0 c)) (hs : star e = false) (hl : (apos.endLine == cpos.line) = true) :
    PS X (.Expr (.Call (.Attribute (.Name x p) "append" apos) [e] [] cpos) pos) (CS X.K cl W σ0 (exec call (.app i c))) := by
  obtain ⟨o1, o2, o3⟩ := odd_of ho
  refine ps_imp (ps_expr (pe_bm PySem.F.plainAttrs_list PySem.F.slot_list_append PySem.F.type_list_append mt_append (pe_var (i := i) (by rw [G.hN]; exact hi) (by rw [G.sc]; exact vis_of hx) o1 o2) (pa_cons (pe_frz h) pa_nil (star_each hs _ _)) rfl (by
      rw [star_each hs]; rfl) hl (star_each hs _ _) (back_any (es := []) rfl _ _)) rfl) fun D σ H h => ?_
  obtain ⟨ρ, P, F, R⟩ := h
  rw [exec] at R
  cases e1 : ρ[i]? with
  | none => rw [e1] at R; exact (R : False).elim
  | some s =>
    rw [e1] at R
    cases s with
    | non => exact (R : False).elim
    | val t d => exact (R : False).elim
    | own t d =>
      obtain ⟨q, vs, ds, rfl, e2, hH, hP, rr⟩ := own_ref F e1
      refine ⟨_, e2, .inl ⟨rfl, vs, .inl (.inl hH)⟩, ?_⟩
      refine (ResS.bnd (R1 := rD X.K) F Step.refl R).mono fun v H1 ⟨d, ρ1, P1, F1, S1, _, r1, R1⟩ => ?_
      unfold appD at R1
      split at R1
      · rename_i t1 xs e3
        obtain ⟨q1, vs1, ds1, e4, e5, hH1, hP1, rr1⟩ := own_ref F1 e3
        cases e4
        rw [e2] at e5
        cases e5
        split at R1
        · rename_i hz
          have hz : vs1.length < sizeLine := by rw [rr1.length]; exact hz
          exact ⟨q, vs1, v, rfl, rfl, hH1, hz, ResS.next (F1.setOwn e3 e2 (rr1.append (.cons r1 .nil))) (S1.setOwn e3 e2) R1⟩
        · exact (R1 : False).elim
      · exact (R1 : False).elim
theorem ix_ixN {n : Nat} {k : Int} {j : Nat} (h : ixD n k = some j) : ixN n k = some j := by
  unfold ixD at h
  unfold ixN
  first
  | exact h
  | (split at h
     · split at h
       · cases h; simp_all
       · cases h
     · split at h
       · cases h; simp_all
       · cases h)
theorem s_seti {c k : C} {i : Nat} {x : Str} {e ix : Expr} {p pos pos' : Pos} (G : Gd tb cl call X N sc (fun _ => true) W) (hi : N[i]? = some x) (hx : visB sc x = true) (ho : oddB x = false) (h : PE X e (CA cl call X W σ0 c)) (hk : PE X ix (CA cl call X W σ0 k)) (hs : isSlice ix = false) :
    PS X (.Assign [.Subscript (.Name x p) ix pos'] e pos) (CS X.K cl W σ0 (exec call (.seti i k c))) := by
  obtain ⟨o1, o2, o3⟩ := odd_of ho
  refine ps_imp (ps_asg (pe_frz h) (pg_sub (pe_var (i := i) (by rw [G.hN]; exact hi) (by rw [G.sc]; exact vis_of hx) o1 o2) hk set_list (by intro v; cases ix <;> first | rfl | exact nomatch hs)) (by cases e <;> rfl) (by cases e <;> rfl)) fun D σ H h => ?_
  obtain ⟨ρ, P, F, R⟩ := h
  rw [exec] at R
  refine (ResS.bnd (R1 := rD X.K) F Step.refl R).mono fun v H1 ⟨d, ρ1, P1, F1, S1, _, r1, R1⟩ => ?_
  split at R1
  · rename_i t xs e1
    obtain ⟨q, vs, ds, e0, e2, hH, hP, rr⟩ := own_ref F1 e1
    cases e0
    refine ⟨_, e2, ?_⟩
    refine (ResS.bnd (R1 := rA X.K) F1 S1 R1).mono fun u H2 ⟨a, ρ2, P2, F2, S2, S3, ⟨r2, _⟩, R2⟩ => ?_
    unfold setiD at R2
    split at R2
    · rename_i t1 xs1 k1 e3 e4
      obtain ⟨q1, vs1, ds1, e5, e6, hH1, hP1, rr1⟩ := own_ref F2 e3
      cases e5
      rw [e2] at e6
      cases e6
      split at R2
      · rename_i j e7
        have hj : ixN vs1.length k1 = some j := by rw [rr1.length]; exact ix_ixN e7
        have r1 : Rp X.K P1 v d := r1
        exact ⟨q, vs1, k1, j, rfl, (r2.view F2 e4).int, hH1, hj, ResS.next (F2.setOwn e3 e2 (Rps.set (Rp.mono S2.mono r1) _ rr1)) (S3.setOwn e3 e2) R2⟩
      · exact (R2 : False).elim
    · exact (R2 : False).elim
  · exact (R1 : False).elim

/-! ### for, while -/
theorem s_for {tg : Tg} {it : I} {b : Ss} {te ie : Expr} {body : List Stmt} {pos : Pos} (G : Gd tb cl call X N sc (fun _ => true) W) (hi : PI X te ie (CI cl call X W σ0 it)) (hg : PG X te (CG X.K σ0 tg)) (hb : PSs X body (CS X.K cl W σ0 (execs call b))) (hs : isSet ie = false) :
    PS X (.For te ie body [] pos) (CS X.K cl W σ0 (exec call (.for_ tg it b))) := by
  refine ps_imp (ps_for G.passes G.calm hi hg hb (folded_of hs _)) fun D σ H h => ?_
  obtain ⟨ρ, P, F, R⟩ := h
  rw [exec] at R
  refine (ResS.bnd (R1 := MP.rI X.K) F Step.refl R).mono fun J H1 ⟨ds, ρ1, P1, F1, S1, _, jok, R1⟩ => ?_
  have jok : JOk X.K J P1 ds := jok
  refine ⟨fun i m σ' H' => m = ds.length - i ∧ i ≤ ds.length ∧ ∃ ρi Pi, FR X.K σ0 σ' H' Pi ρi ∧ Step σ ρ1 H1 P1 σ' ρi H' Pi ∧ ResS X.K cl W σ0 σ ρ H P (forL tg (fun ρ => execs call b ρ) (ds.drop i) ρi) D,
    ⟨ds.length, rfl, Nat.zero_le _, ρ1, P1, F1, Step.refl, R1⟩, ?_⟩
  rintro i m σ' H' ⟨rfl, hi, ρi, Pi, Fi, Si, Ri⟩
  by_cases hlt : i < ds.length
  · have hdr : ds.drop i = ds[i] :: ds.drop (i + 1) := List.drop_eq_getElem_cons hlt
    rw [hdr] at Ri
    obtain ⟨go, yld⟩ := (jok H' Pi Si.mono Fi.sub i).1 ds[i] (List.getElem?_eq_getElem hlt)
    refine .inr ⟨go, fun σ' H' => i + 1 ≤ ds.length ∧ ∃ ρi Pi, FR X.K σ0 σ' H' Pi ρi ∧ Step σ ρ1 H1 P1 σ' ρi H' Pi ∧ ResS X.K cl W σ0 σ ρ H P (forL tg (fun ρ => execs call b ρ) (ds.drop (i + 1)) ρi) D,
      fun σ' H' ⟨em, hh⟩ => ⟨ds.length - (i + 1), by omega, rfl, em, hh⟩, fun x H3 y => ?_⟩
    obtain ⟨P3, p1, p2, p3, p4, rx⟩ := yld x H3 y
    obtain ⟨F3, S3⟩ := Fi.grow2 p3 p1 p2 p4
    rw [forL] at Ri
    cases ea : asgT tg ds[i] ρi with
    | none => rw [ea] at Ri; exact (Ri : False).elim
    | some ρa =>
      rw [ea] at Ri
      refine ⟨ρi, P3, ds[i], F3, rx, ρa, ea, fun σ2 F4 S4 off => ⟨ρa, P3, F4, ?_⟩⟩
      have Sa := Si.trans (S3.trans S4)
      unfold ResS bnd at Ri
      unfold ResS
      dsimp only at Ri
      cases eb : execs call b ρa with
      | none => rw [eb] at Ri; exact Ri
      | some q =>
        obtain ⟨z, ρb⟩ := q
        rw [eb] at Ri
        cases z with
        | error z => exact fun c d σ5 H5 P5 F5 S5 r5 => Ri c d σ5 H5 P5 F5 ((S1.trans Sa).trans S5) r5
        | ok f =>
          intro σ5 H5 P5 F5 S5
          cases f with
          | nxt => exact ⟨hlt, ρb, P5, F5, Sa.trans S5, Ri⟩
          | cnt => exact ⟨hlt, ρb, P5, F5, Sa.trans S5, Ri⟩
          | brk => exact Ri σ5 H5 P5 F5 ((S1.trans Sa).trans S5)
          | ret r => exact fun v r1 f1 => Ri σ5 H5 P5 F5 ((S1.trans Sa).trans S5) v r1 (f1.back (S1.trans Sa))
  · have ei2 : ds.drop i = [] := List.drop_eq_nil_of_le (by omega)
    rw [ei2, forL] at Ri
    exact .inl ⟨(jok H' Pi Si.mono Fi.sub i).2 (by omega), ResS.next Fi (S1.trans Si) Ri⟩
theorem whl_spec {c : Env → Mr Bool} {b : Env → Mr Flow} {ρ : Env} : (whlM c b ρ = none) ∨ ∃ n r, whlN c b n ρ = some r ∧ whlM c b ρ = some r := by
  unfold whlM
  split
  · rename_i h
    exact .inr ⟨_, _, Classical.choose_spec (Classical.choose_spec h), rfl⟩
  · exact .inl rfl
theorem s_whl {c : C} {b : Ss} {e : Expr} {body : List Stmt} {pos : Pos} (G : Gd tb cl call X N sc (fun _ => true) W) (h : PT X e (CT cl call X W σ0 c)) (hb : PSs X body (CS X.K cl W σ0 (execs call b))) :
    PS X (.While e body [] pos) (CS X.K cl W σ0 (exec call (.whl c b))) := by
  refine ps_imp (ps_while G.passes h hb) fun D σ H h => ?_
  obtain ⟨ρ, P, F, R⟩ := h
  rw [exec] at R
  rcases whl_spec (c := evT call c) (b := fun ρ => execs call b ρ) (ρ := ρ) with e0 | ⟨n, r, en, e0⟩
  · rw [e0] at R; exact (R : False).elim
  rw [e0] at R
  refine ⟨fun m σ' H' => ∃ ρi Pi, FR X.K σ0 σ' H' Pi ρi ∧ Step σ ρ H P σ' ρi H' Pi ∧ whlN (evT call c) (fun ρ => execs call b ρ) m ρi = some r, ⟨n, ρ, P, F, Step.refl, en⟩, ?_⟩
  rintro m σ' H' ⟨ρi, Pi, Fi, Si, ei⟩
  cases m with
  | zero => cases ei
  | succ m =>
    rw [whlN] at ei
    refine ⟨ρi, Pi, Fi, ?_⟩
    unfold Res
    unfold bnd at ei
    cases ec : evT call c ρi with
    | none => rw [ec] at ei; cases ei
    | some q =>
      obtain ⟨z, ρc⟩ := q
      rw [ec] at ei
      cases z with
      | error z =>
        cases ei
        exact fun c d H5 P5 F5 S5 r5 => R c d σ' H5 P5 F5 (Si.trans S5) r5
      | ok k =>
        intro k' H5 P5 F5 S5 rk
        cases (show k' = k from rk)
        dsimp only at ei ⊢
        cases k with
        | false =>
          rw [if_neg Bool.false_ne_true] at ei ⊢
          cases ei
          exact ResS.next F5 (Si.trans S5) R
        | true =>
          rw [if_pos rfl] at ei ⊢
          have Sc := Si.trans S5
          refine ⟨fun σ' H' => ∃ ρi Pi, FR X.K σ0 σ' H' Pi ρi ∧ Step σ ρ H P σ' ρi H' Pi ∧ whlN (evT call c) (fun ρ => execs call b ρ) m ρi = some r, fun σ' H' hh => ⟨m, by omega, hh⟩, ρc, P5, F5, ?_⟩
          unfold ResS
          cases eb : execs call b ρc with
          | none => rw [eb] at ei; cases ei
          | some q =>
            obtain ⟨z, ρb⟩ := q
            rw [eb] at ei
            cases z with
            | error z =>
              cases ei
              exact fun c d σ6 H6 P6 F6 S6 r6 => R c d σ6 H6 P6 F6 (Sc.trans S6) r6
            | ok f =>
              intro σ6 H6 P6 F6 S6
              cases f with
              | nxt => exact ⟨ρb, P6, F6, Sc.trans S6, ei⟩
              | cnt => exact ⟨ρb, P6, F6, Sc.trans S6, ei⟩
              | brk =>
                cases ei
                exact R σ6 H6 P6 F6 (Sc.trans S6)
              | ret a =>
                cases ei
                exact fun v r1 f1 => R σ6 H6 P6 F6 (Sc.trans S6) v r1 (f1.back Sc)
end
end MP
set_option Elab.async false
set_option linter.all false
set_option maxRecDepth 100000
set_option maxHeartbeats 4000000
/-! MP: which core statement a written one is -/
namespace MP
open PySem PySem.Spec PyProof.Rows L2

section
variable {tb : Tb} {cl : Nat → Addr} {call : Nat → List Slot → Out} {N : List Str} {σ0 : L2.St} {X : Cx} {sc : Scope} {W : WX}
def rUs (K : PySem.W.Frag) : Rl (List V) (List A) := ⟨fun σ ρ0 H0 ρ H P vs as => (ARs K σ H P ρ vs as ∧ AFs σ ρ0 H0 vs as) ∧ as.all noSlot = true, fun s h => ⟨⟨h.1.1, h.1.2.back s⟩, h.2⟩⟩
theorem pa_rs_nil : PA X [] (Can X.K cl (rUs X.K) W σ0 (evRs call .nil)) := pa_imp pa_nil fun σ H Q h => by
  obtain ⟨ρ, P, F, R⟩ := h
  exact Res.ret F Step.refl R ⟨⟨.nil, .nil⟩, rfl⟩
theorem pa_rs_cons {c : C} {cs : Cs} {e : Expr} {es : List Expr} (h1 : PE X e (CA cl call X W σ0 c)) (h2 : PA X es (Can X.K cl (rUs X.K) W σ0 (evRs call cs))) (hs : star e = false) :
    PA X (e :: es) (Can X.K cl (rUs X.K) W σ0 (evRs call (.cons c cs))) := by
  have p1 : PE X e (Can X.K cl (rU X.K) W σ0 (fun ρ => bnd (ev call c ρ) unslot)) := pe_imp h1 fun _ _ _ => can_uns
  refine pa_imp (pa_cons p1 h2 (star_each hs _ _)) fun σ H Q h => ?_
  obtain ⟨ρ, P, F, R⟩ := h
  simp only [evRs] at R
  refine (Res.bnd (R1 := rU X.K) F Step.refl R).mono fun v H1 ⟨d, ρ1, P1, F1, S1, _, ⟨⟨r1, f1⟩, n1⟩, R1⟩ => ?_
  refine (Res.bnd (R1 := rUs X.K) F1 S1 R1).mono fun vs H2 ⟨ds, ρ2, P2, F2, S2, S, ⟨⟨r2, f2⟩, n2⟩, R2⟩ => ?_
  exact Res.ret F2 S R2 ⟨ars_cons r1 f1 r2 f2 S1 S2, by rw [List.all_cons, n1, n2]; rfl⟩
theorem m_rs : ∀ (es : Cs) (xs : List Expr), Gd tb cl call X N sc (fun _ => true) W → trEs tb N sc es xs = true → PA X xs (Can X.K cl (rUs X.K) W σ0 (evRs call es))
  | .nil, xs, G, h => by
    cases xs with
    | nil => exact pa_rs_nil
    | cons x xs => simp [trEs] at h
  | .cons c cs, xs, G, h => by
    cases xs with
    | nil => simp [trEs] at h
    | cons x xs =>
      simp only [trEs, Bool.and_eq_true, Bool.not_eq_true'] at h
      exact pa_rs_cons ((m_e c false _ G h.1.2).1 rfl) (m_rs cs xs G h.2) h.1.1

/-! ### pairs -/
theorem par_imp {is : List Nat} {es : Cs} {D : Ends} {σ : L2.St} {H : Hp} (h : CS X.K cl W σ0 (exec call (.par is es)) D σ H) : Can X.K cl (rUs X.K) W σ0 (evRs call es) σ H fun vs H1 => is.length = vs.length ∧ D.nx (setAll is vs σ) H1 := by
  obtain ⟨ρ, P, F, R⟩ := h
  rw [exec] at R
  refine (ResS.bnd (R1 := rUs X.K) F Step.refl R).mono fun vs H1 ⟨as, ρ1, P1, F1, S1, _, ⟨⟨r1, f1⟩, n1⟩, R1⟩ => ?_
  cases e : putAs is as ρ1 with
  | none => rw [e] at R1; exact (R1 : False).elim
  | some ρ2 =>
    rw [e] at R1
    obtain ⟨F2, S2, hl⟩ := puts_res F1 S1 r1 f1 n1 e
    exact ⟨hl, ResS.next F2 S2 R1⟩
def swB (sc : Scope) (xs : List (Str × Pos)) (vs : List Expr) : Bool :=
  (sc.kind == .function) && !(vs.any star) && !(vs.all (foldedForSure 8)) && !(vs.all (constantsAlone 8)) && (xs.all fun x => sc.names.lookup x.1 == some .local && (x.2.line == (xs.head?.map (·.2.line)).getD 0))
theorem bk_of {env : PySem.Env} (h : (env.scope.kind == .function) = true) : env.blockKind = .function := by
  have h : env.scope.kind = .function := by simpa using h
  unfold PySem.Env.blockKind
  rw [h]
  rfl
theorem any_star (vs : List Expr) : (vs.any fun | .Starred .. => true | _ => false) = vs.any star := by
  congr 1
theorem sw2 {env : PySem.Env} {x y : Str} {px py p q : Pos} {k k2} {a b : Expr} (h : swB env.scope [(x, px), (y, py)] [a, b] = true) (n : x ≠ y) :
    swappedStores [.Tuple [.Name x px, .Name y py] k p] (.Tuple [a, b] k2 q) env = pure (some [x, y]) := by
  unfold swB at h
  simp only [Bool.and_eq_true, Bool.not_eq_true', List.all_cons, List.all_nil, List.any_cons, List.any_nil, Bool.or_false, Bool.and_true, List.head?_cons, Option.map_some, Option.getD_some] at h
  obtain ⟨⟨⟨⟨h1, h2⟩, h3⟩, h4⟩, ⟨h5, h6⟩, h7, h8⟩ := h
  have hb := bk_of h1
  have e1 : (env.kindOf x == some .local) = true := h5
  have e2 : (env.kindOf y == some .local) = true := h7
  have e3 : (py.line == px.line) = true := h8
  have e4 : (px.line == px.line) = true := h6
  have hs : ([a, b].any fun | .Starred .. => true | _ => false) = false := by rw [any_star]; simpa using h2
  have ny : (y == x) = false := by simpa using fun e => n e.symm
  unfold swappedStores
  simp only [hb, hs, List.length_cons, List.length_nil, List.head?_cons, Option.map_some, Option.getD_some, Expr.pos, List.filterMap_cons, List.filterMap_nil, e1, e2, e3, e4, List.all_cons, List.all_nil, Bool.and_true, h3, h4]
  have n' : (x == y) = false := by simpa using n
  rw [Bool.or_eq_false_iff] at h2
  simp [List.eraseDups_cons, ny, n']
  rintro (z | z)
  · exact absurd (show star a = true from z) (by rw [h2.1]; exact Bool.false_ne_true)
  · exact absurd (show star b = true from z) (by rw [h2.2]; exact Bool.false_ne_true)
theorem s_par2 {i j : Nat} {x y : Str} {a b : Expr} {es : Cs} {px py p q pos : Pos} {k k2} (G : Gd tb cl call X N sc (fun _ => true) W) (hi : N[i]? = some x) (hj : N[j]? = some y) (hij : i ≠ j) (hx : sc.names.lookup x = some .local) (hy : sc.names.lookup y = some .local)
    (h : trEs tb N sc es [a, b] = true) (hs : swB sc [(x, px), (y, py)] [a, b] = true) : PS X (.Assign [.Tuple [.Name x px, .Name y py] k p] (.Tuple [a, b] k2 q) pos) (CS X.K cl W σ0 (exec call (.par [i, j] es))) := by
  have n : x ≠ y := fun e => by
    subst e
    have hi' := List.getElem?_eq_some_iff.mp hi
    have hj' := List.getElem?_eq_some_iff.mp hj
    exact hij ((List.getElem_inj (h₀ := hi'.1) (h₁ := hj'.1) G.nd).mp (hi'.2.trans hj'.2.symm))
  refine ps_imp (ps_par (i := i) (j := j) G.calm (by rw [G.hN]; exact G.nd) (by rw [G.hN]; exact hi) (by rw [G.hN]; exact hj) hij (by rw [G.sc]; exact hx) (by rw [G.sc]; exact hy) (m_rs (σ0 := σ0) es _ G h) (sw2 (by rw [G.sc]; exact hs) n) rfl) fun D σ H h => ?_
  refine (par_imp h).mono fun vs H1 ⟨hl, hh⟩ => ?_
  match vs, hl with
  | [v, w], _ => exact ⟨v, w, rfl, hh⟩
theorem sw3 {env : PySem.Env} {x y z : Str} {px py pz p q : Pos} {k k2} {a b c : Expr} (h : swB env.scope [(x, px), (y, py), (z, pz)] [a, b, c] = true) (n : x ≠ y) (n2 : x ≠ z) (n3 : y ≠ z) :
    swappedStores [.Tuple [.Name x px, .Name y py, .Name z pz] k p] (.Tuple [a, b, c] k2 q) env = pure (some [x, y, z]) := by
  unfold swB at h
  simp only [Bool.and_eq_true, Bool.not_eq_true', List.all_cons, List.all_nil, List.any_cons, List.any_nil, Bool.or_false, Bool.and_true, List.head?_cons, Option.map_some, Option.getD_some] at h
  obtain ⟨⟨⟨⟨h1, h2⟩, h3⟩, h4⟩, ⟨h5, h6⟩, ⟨h7, h8⟩, h9, h10⟩ := h
  have hb := bk_of h1
  have e1 : (env.kindOf x == some .local) = true := h5
  have e2 : (env.kindOf y == some .local) = true := h7
  have e5 : (env.kindOf z == some .local) = true := h9
  have e3 : (py.line == px.line) = true := h8
  have e6 : (pz.line == px.line) = true := h10
  have e4 : (px.line == px.line) = true := h6
  have hs : ([a, b, c].any fun | .Starred .. => true | _ => false) = false := by rw [any_star]; simpa using h2
  have ny : (y == x) = false := by simpa using fun e => n e.symm
  have nz : (z == x) = false := by simpa using fun e => n2 e.symm
  have nzy : (z == y) = false := by simpa using fun e => n3 e.symm
  unfold swappedStores
  simp only [hb, hs, List.length_cons, List.length_nil, List.head?_cons, Option.map_some, Option.getD_some, Expr.pos, List.filterMap_cons, List.filterMap_nil, e1, e2, e3, e4, e5, e6, List.all_cons, List.all_nil, Bool.and_true, h3, h4]
  rw [Bool.or_eq_false_iff, Bool.or_eq_false_iff] at h2
  simp [List.eraseDups_cons, ny, nz, nzy]
  rintro (z | z | z)
  · exact absurd (show star a = true from z) (by rw [h2.1]; exact Bool.false_ne_true)
  · exact absurd (show star b = true from z) (by rw [h2.2.1]; exact Bool.false_ne_true)
  · exact absurd (show star c = true from z) (by rw [h2.2.2]; exact Bool.false_ne_true)
theorem s_par3 {i j l : Nat} {x y z : Str} {a b c : Expr} {es : Cs} {px py pz p q pos : Pos} {k k2} (G : Gd tb cl call X N sc (fun _ => true) W) (hi : N[i]? = some x) (hj : N[j]? = some y) (hl : N[l]? = some z) (hij : i ≠ j) (hil : i ≠ l) (hjl : j ≠ l)
    (hx : sc.names.lookup x = some .local) (hy : sc.names.lookup y = some .local) (hz : sc.names.lookup z = some .local)
    (h : trEs tb N sc es [a, b, c] = true) (hs : swB sc [(x, px), (y, py), (z, pz)] [a, b, c] = true) : PS X (.Assign [.Tuple [.Name x px, .Name y py, .Name z pz] k p] (.Tuple [a, b, c] k2 q) pos) (CS X.K cl W σ0 (exec call (.par [i, j, l] es))) := by
  have n : ∀ {i j : Nat} {x y : Str}, N[i]? = some x → N[j]? = some y → i ≠ j → x ≠ y := fun {i j x y} hi hj hij e => by
    subst e
    have hi' := List.getElem?_eq_some_iff.mp hi
    have hj' := List.getElem?_eq_some_iff.mp hj
    exact hij ((List.getElem_inj (h₀ := hi'.1) (h₁ := hj'.1) G.nd).mp (hi'.2.trans hj'.2.symm))
  refine ps_imp (ps_par3 (i := i) (j := j) (l := l) G.calm (by rw [G.hN]; exact G.nd) (by rw [G.hN]; exact hi) (by rw [G.hN]; exact hj) (by rw [G.hN]; exact hl) hij hil hjl (by rw [G.sc]; exact hx) (by rw [G.sc]; exact hy) (by rw [G.sc]; exact hz) (m_rs (σ0 := σ0) es _ G h)
    (sw3 (by rw [G.sc]; exact hs) (n hi hj hij) (n hi hl hil) (n hj hl hjl)) rfl) fun D σ H h => ?_
  refine (par_imp h).mono fun vs H1 ⟨hl, hh⟩ => ?_
  match vs, hl with
  | [u, v, w], _ => exact ⟨u, v, w, rfl, hh⟩

/-! ### name = [.. for ..] -/
def lcB (sc : Scope) (y : Str) (py : Pos) : Expr → Bool
  | .ListComp _ _ scope pos => (sc.kind == .function) && sc.names.lookup y == some .local && py.line == pos.line && !(scope.names.any fun z => z.1 == y && (z.2 == .local || z.2 == .cell))
  | _ => false
theorem bk_no {env : PySem.Env} (h : (env.scope.kind == .function) = true) : (env.blockKind == .function) = true := by rw [bk_of h]; rfl
def kindB (sc : Scope) : Bool := sc.kind == .function
theorem lc_sw {env : PySem.Env} {y : Str} {py : Pos} {e : Expr} {l : Nat} (hk : kindB env.scope = true) (h : ∃ a b c d, e = .ListComp a b c d) : swapsWith e (some (.Name y py)) l env = pure (lcB env.scope y py e) := by
  obtain ⟨a, b, c, d, rfl⟩ := h
  unfold swapsWith lcB
  rw [show (env.scope.kind == ScopeKind.function) = true from hk]
  simp only [bk_no hk, Bool.true_and]
  rfl
def isLC : Expr → Bool
  | .ListComp .. => true
  | _ => false
theorem s_lc {elt : C} {tg : Tg} {it : I} {ifs : CO} {own : List Nat} {i : Nat} {y : Str} {e : Expr} {py pos : Pos} (G : Gd tb cl call X N sc (fun _ => true) W) (hi : N[i]? = some y) (hl : locB sc (fun _ => true) y = true) (hk : kindB sc = true) (h : trE tb N sc false (.cmpr elt tg it ifs own) e = true) :
    PS X (.Assign [.Name y py] e pos) (CS X.K cl W σ0 (exec call (.asg (.nm i) (.cmpr elt tg it ifs own)))) := by
  have hL : ∃ a b c d, e = .ListComp a b c d := by
    cases e <;> simp only [trE, Bool.false_eq_true] at h
    exact ⟨_, _, _, _, rfl⟩
  have hsw : swapsWith e (some (.Name y py)) pos.line X.env = pure (lcB sc y py e) := by rw [lc_sw (by rw [G.sc]; exact hk) hL, G.sc]
  cases hb : lcB sc y py e with
  | false => exact s_set G hi hl ((m_e _ false _ G h).1 rfl) (by rw [hsw, hb])
  | true =>
    rw [hb] at hsw
    cases e <;> simp only [trE, Bool.false_eq_true] at h
    split at h
    · simp only [Bool.and_eq_true, Bool.not_eq_true'] at h
      obtain ⟨⟨⟨⟨⟨⟨h1, h2⟩, h3⟩, h4⟩, h5⟩, h6⟩, h7⟩ := h
      have hy : sc.names.lookup y = some .local := by
        unfold lcB at hb
        simp only [Bool.and_eq_true] at hb
        simpa using hb.1.1.2
      have he := fun (s : Shared) (H : Hp) (C : Addr) (c : List (Str × Addr)) (fp : List Addr) => pe_frz ((m_e (σ0 := σ0) elt false _ (G.blk s H _ C c fp) h4).1 rfl)
      refine ps_imp (ps_setLc (i := i) (g := CG X.K σ0 tg) (tt := Can X.K cl rB W0 σ0 (evIf call ifs)) (te := Can X.K cl (rD X.K) W0 σ0 (fun ρ => bnd (ev call elt ρ) frzM)) (own := ownL N own) G.calm (by rw [G.hN]; exact G.nd) (by rw [G.hN]; exact hi) (by rw [G.sc]; exact hy) hsw (m_i (σ0 := σ0) it _ _ G h2)
        (by rw [G.hN, G.sc]; exact blkOk_by h6) (fun s H C c fp => g_tg (G.blk s H _ C c fp) h3)
        (fun s H C c fp => m_if ifs _ (G.blk s H _ C c fp) h5) (fun s H C c fp => he s H C c fp) (fun x => folded_of h1 _ x)) fun D σ H hh => ?_
      rw [ownL_snd]
      exact comp_imp (fun i hi => by
        have := List.all_eq_true.mp h7 i hi
        simpa using this) (nm_imp hh)
    · cases h

/-! ### (a, b) = .. without the swap -/
def swN (tg e : Expr) : Bool := match tg with
  | .Tuple ts _ _ => match e with
    | .Tuple vs _ _ => (ts.length != 2 && ts.length != 3) || vs.length != ts.length || vs.any star || vs.all (foldedForSure 8)
    | _ => true
  | _ => false
theorem sw_none {tg e : Expr} {env : PySem.Env} (h : swN tg e = true) : swappedStores [tg] e env = pure none := by
  cases tg <;> simp only [swN, Bool.false_eq_true] at h
  rename_i ts k p
  cases e <;> first | rfl | skip
  rename_i vs k2 p2
  simp only [Bool.or_eq_true, Bool.and_eq_true] at h
  unfold swappedStores
  simp only []
  split
  · rfl
  · rename_i h1
    split
    · rfl
    · rename_i h2
      split
      · rfl
      · split
        · rfl
        · rename_i h3 h4
          exfalso
          rcases h with ((h | h) | h) | h
          · simp_all
          · simp_all
          · exact h2 ((any_star vs).trans h)
          · exact h4 h
theorem sole_no {tg e : Expr} (h : swN tg e = true) (l : Nat) (env : PySem.Env) : swapsWithSole [tg] e l env = pure false := by
  cases tg <;> simp only [swN, Bool.false_eq_true] at h
  cases e <;> rfl

/-! ### the written statement -/
mutual
def trS (tb : Tb) (N : List Str) (sc : Scope) : S → Stmt → Bool
  | .asg tg c, st => match st with
    | .Assign ts e _ => match ts with
      | [t] => trE tb N sc false c e && (match tg with
        | .nm i => match t with
          | .Name y py => decide (N[i]? = some y) && locB sc (fun _ => true) y && (!isComp e || (kindB sc && (match c with | .cmpr .. => true | _ => false)))
          | _ => false
        | .tp us => trT N sc (fun _ => true) (.tp us) t && swN t e)
      | _ => false
    | _ => false
  | .par is es, st => match st with
    | .Assign ts e _ => match ts, e with
      | [.Tuple ns _ _], .Tuple vs _ _ => match is, ns, vs with
        | [i, j], [.Name x px, .Name y py], [a, b] => decide (N[i]? = some x) && decide (N[j]? = some y) && decide (i ≠ j) && swB sc [(x, px), (y, py)] [a, b] && trEs tb N sc es [a, b]
        | [i, j, l], [.Name x px, .Name y py, .Name z pz], [a, b, c] => decide (N[i]? = some x) && decide (N[j]? = some y) && decide (N[l]? = some z) && decide (i ≠ j) && decide (i ≠ l) && decide (j ≠ l) && swB sc [(x, px), (y, py), (z, pz)] [a, b, c] && trEs tb N sc es [a, b, c]
        | _, _, _ => false
      | _, _ => false
    | _ => false
  | .aug i op c, st => match st with
    | .AugAssign t o e _ => match t with
      | .Name x _ => ipB op && decide (o = opB op) && decide (N[i]? = some x) && locB sc (fun _ => true) x && trE tb N sc false c e
      | _ => false
    | _ => false
  | .seti i k c, st => match st with
    | .Assign ts e _ => match ts with
      | [.Subscript o ix _] => match o with
        | .Name x _ => decide (N[i]? = some x) && visB sc x && !oddB x && !isSlice ix && trE tb N sc false c e && trE tb N sc false k ix
        | _ => false
      | _ => false
    | _ => false
  | .app i c, st => match st with
    | .Expr e _ => match e with
      | .Call g xs ks cpos => match g, xs, ks with
        | .Attribute o m apos, [y], [] => match o with
          | .Name x _ => decide (m = "append") && decide (N[i]? = some x) && visB sc x && !oddB x && !star y && (apos.endLine == cpos.line) && trE tb N sc false c y
          | _ => false
        | _, _, _ => false
      | _ => false
    | _ => false
  | .expr c, st => match st with
    | .Expr e _ => !isComp e && trE tb N sc false c e
    | _ => false
  | .ife c a b, st => match st with
    | .If e x y _ => trE tb N sc true c e && trSs tb N sc a x && trSs tb N sc b y
    | _ => false
  | .for_ tg it b, st => match st with
    | .For te ie x y _ => y.isEmpty && !isSet ie && trI tb N sc it te ie && trT N sc (fun _ => true) tg te && trSs tb N sc b x
    | _ => false
  | .whl c b, st => match st with
    | .While e x y _ => y.isEmpty && trE tb N sc true c e && trSs tb N sc b x
    | _ => false
  | .ret c, st => match st with
    | .Return o _ => match o with
      | some e => trE tb N sc false c e
      | none => false
    | _ => false
  | .retN, st => match st with
    | .Return o _ => o.isNone
    | _ => false
  | .pas, st => match st with
    | .Pass _ => true
    | _ => false
  | .brk, st => match st with
    | .Break _ => true
    | _ => false
  | .cnt, st => match st with
    | .Continue _ => true
    | _ => false
  | .rse _ _, _ => true
def trSs (tb : Tb) (N : List Str) (sc : Scope) : Ss → List Stmt → Bool
  | .nil, xs => xs.isEmpty
  | .cons s ss, xs => match xs with
    | x :: xs => trS tb N sc s x && trSs tb N sc ss xs
    | [] => false
end
mutual
theorem m_s : ∀ (s : S) (st : Stmt), Gd tb cl call X N sc (fun _ => true) W → trS tb N sc s st = true → PS X st (CS X.K cl W σ0 (exec call s))
  | .asg tg c, st, G, h => by
    cases st <;> simp only [trS, Bool.false_eq_true] at h
    split at h
    · simp only [Bool.and_eq_true] at h
      obtain ⟨h1, h2⟩ := h
      cases tg with
      | nm i =>
        dsimp only at h2
        split at h2
        · simp only [Bool.and_eq_true, decide_eq_true_eq, Bool.or_eq_true, Bool.not_eq_true'] at h2
          obtain ⟨⟨h3, h4⟩, h5⟩ := h2
          rcases h5 with h5 | h5
          · exact s_set G h3 h4 ((m_e c false _ G h1).1 rfl) (swaps_no h5 _ _ _)
          · cases c <;> simp only [and_false, Bool.false_eq_true] at h5
            exact s_lc G h3 h4 h5.1 h1
        · cases h2
      | tp us =>
        dsimp only at h2
        simp only [Bool.and_eq_true] at h2
        exact s_asg (g_tg G h2.1) ((m_e c false _ G h1).1 rfl) (trT_star h2.1) (sole_no h2.2 _ _) (sw_none h2.2)
    · cases h
  | .par is es, st, G, h => by
    cases st <;> simp only [trS, Bool.false_eq_true] at h
    split at h
    · split at h
      · simp only [Bool.and_eq_true, decide_eq_true_eq] at h
        obtain ⟨⟨⟨⟨h1, h2⟩, h3⟩, h4⟩, h5⟩ := h
        have h6 := h4
        simp only [swB, Bool.and_eq_true, List.all_cons, List.all_nil] at h6
        exact s_par2 G h1 h2 h3 (by simpa using h6.2.1.1) (by simpa using h6.2.2.1.1) h5 h4
      · simp only [Bool.and_eq_true, decide_eq_true_eq] at h
        obtain ⟨⟨⟨⟨⟨⟨⟨h1, h2⟩, h3⟩, h4⟩, h5⟩, h6⟩, h7⟩, h8⟩ := h
        have h9 := h7
        simp only [swB, Bool.and_eq_true, List.all_cons, List.all_nil] at h9
        exact s_par3 G h1 h2 h3 h4 h5 h6 (by simpa using h9.2.1.1) (by simpa using h9.2.2.1.1) (by simpa using h9.2.2.2.1.1) h8 h7
      · cases h
    · cases h
  | .aug i op c, st, G, h => by
    cases st <;> simp only [trS, Bool.false_eq_true] at h
    split at h
    · simp only [Bool.and_eq_true, decide_eq_true_eq] at h
      obtain ⟨⟨⟨⟨h1, rfl⟩, h3⟩, h4⟩, h5⟩ := h
      exact s_aug G h3 h4 ((m_e c false _ G h5).1 rfl) (ip_ok op) (ip_run h1) (ip_int h1)
    · cases h
  | .seti i k c, st, G, h => by
    cases st <;> simp only [trS, Bool.false_eq_true] at h
    split at h
    · split at h
      · simp only [Bool.and_eq_true, decide_eq_true_eq, Bool.not_eq_true'] at h
        obtain ⟨⟨⟨⟨⟨h1, h2⟩, h3⟩, h4⟩, h5⟩, h6⟩ := h
        exact s_seti G h1 h2 h3 ((m_e c false _ G h5).1 rfl) ((m_e k false _ G h6).1 rfl) h4
      · cases h
    · cases h
  | .app i c, st, G, h => by
    cases st <;> simp only [trS, Bool.false_eq_true] at h
    split at h
    · split at h
      · split at h
        · simp only [Bool.and_eq_true, decide_eq_true_eq, Bool.not_eq_true'] at h
          obtain ⟨⟨⟨⟨⟨⟨rfl, h1⟩, h2⟩, h3⟩, h4⟩, h5⟩, h6⟩ := h
          exact s_app G h1 h2 h3 ((m_e c false _ G h6).1 rfl) h4 h5
        · cases h
      · cases h
    · cases h
  | .expr c, st, G, h => by
    cases st <;> simp only [trS, Bool.false_eq_true] at h
    simp only [Bool.and_eq_true, Bool.not_eq_true'] at h
    exact s_expr ((m_e c false _ G h.2).1 rfl) h.1
  | .ife c a b, st, G, h => by
    cases st <;> simp only [trS, Bool.false_eq_true] at h
    simp only [Bool.and_eq_true] at h
    exact s_ife ((m_e c true _ G h.1.1).2 rfl) (m_ss a _ G h.1.2) (m_ss b _ G h.2)
  | .for_ tg it b, st, G, h => by
    cases st <;> simp only [trS, Bool.false_eq_true] at h
    simp only [Bool.and_eq_true, Bool.not_eq_true', List.isEmpty_iff] at h
    obtain ⟨⟨⟨⟨rfl, h1⟩, h2⟩, h3⟩, h4⟩ := h
    exact s_for G (m_i it _ _ G h2) (g_tg G h3) (m_ss b _ G h4) h1
  | .whl c b, st, G, h => by
    cases st <;> simp only [trS, Bool.false_eq_true] at h
    simp only [Bool.and_eq_true, List.isEmpty_iff] at h
    obtain ⟨⟨rfl, h1⟩, h2⟩ := h
    exact s_whl G ((m_e c true _ G h1).2 rfl) (m_ss b _ G h2)
  | .ret c, st, G, h => by
    cases st <;> simp only [trS, Bool.false_eq_true] at h
    split at h
    · exact s_ret ((m_e c false _ G h).1 rfl)
    · cases h
  | .retN, st, G, h => by
    cases st <;> simp only [trS, Bool.false_eq_true] at h
    rename_i o p
    cases o with
    | none => exact s_retN
    | some _ => cases h
  | .pas, st, G, h => by
    cases st <;> simp only [trS, Bool.false_eq_true] at h
    exact s_pas
  | .brk, st, G, h => by
    cases st <;> simp only [trS, Bool.false_eq_true] at h
    exact s_brk
  | .cnt, st, G, h => by
    cases st <;> simp only [trS, Bool.false_eq_true] at h
    exact s_cnt
  | .rse _ _, st, G, h => s_rse
theorem m_ss : ∀ (ss : Ss) (sts : List Stmt), Gd tb cl call X N sc (fun _ => true) W → trSs tb N sc ss sts = true → PSs X sts (CS X.K cl W σ0 (execs call ss))
  | .nil, sts, G, h => by
    cases sts with
    | nil => exact s_nil
    | cons x xs => simp [trSs] at h
  | .cons s ss, sts, G, h => by
    cases sts with
    | nil => simp [trSs] at h
    | cons x xs =>
      simp only [trSs, Bool.and_eq_true] at h
      exact s_cons (m_s s x G h.1) (m_ss ss xs G h.2)
end
end
end MP
set_option Elab.async false
set_option linter.all false
set_option maxRecDepth 100000
set_option maxHeartbeats 4000000
/-! MP: defs, and the law -/
namespace MP
open PySem PySem.Spec PyProof.Rows L2

section
variable {K : PySem.W.Frag} {cl : Nat → Addr} {N : List Str} {vs : List V} {ρ ρ' : Env} {H P H' P' : Hp} {σ' : L2.St}
def pad (N : List Str) (ρ : Env) : Env := ρ ++ List.replicate (N.length - ρ.length) .non
theorem start_at {i : Nat} {v : V} (h : (vs.map some)[i]? = some (some v)) : (L2.start N vs)[i]? = some (some v) := by
  unfold L2.start
  rw [List.getElem?_append_left (by
    have := (List.getElem?_eq_some_iff.mp h).1
    exact this)]
  exact h
theorem start_back {i : Nat} {x : Option V} (hi : i < vs.length) (h : (L2.start N vs)[i]? = some x) : (vs.map some)[i]? = some x := by
  unfold L2.start at h
  rw [List.getElem?_append_left (by rw [List.length_map]; exact hi)] at h
  exact h
theorem pad_at {i : Nat} {s : Slot} (h : (pad N ρ)[i]? = some s) : s = .non ∨ ρ[i]? = some s := by
  unfold pad at h
  by_cases hi : i < ρ.length
  · rw [List.getElem?_append_left hi] at h
    exact .inr h
  · rw [List.getElem?_append_right (by omega)] at h
    exact .inl (List.eq_of_mem_replicate (List.mem_of_getElem? h))
theorem pad_of {i : Nat} {s : Slot} (h : ρ[i]? = some s) : (pad N ρ)[i]? = some s := by
  unfold pad
  rw [List.getElem?_append_left (List.getElem?_eq_some_iff.mp h).1]
  exact h
theorem own_pad {a : Addr} (hl : ρ.length = vs.length) (o : Own (L2.start N vs) (pad N ρ) a) : Own (vs.map some) ρ a := by
  obtain ⟨i, t, d, h1, h2⟩ := o
  rcases pad_at h1 with z | z
  · cases z
  · have hi : i < vs.length := by rw [← hl]; exact (List.getElem?_eq_some_iff.mp z).1
    exact ⟨i, t, d, z, start_back hi h2⟩
theorem own_pad2 {a : Addr} (o : Own (vs.map some) ρ a) : Own (L2.start N vs) (pad N ρ) a := by
  obtain ⟨i, t, d, h1, h2⟩ := o
  exact ⟨i, t, d, pad_of h1, start_at h2⟩
theorem FR.pad (F : FR K (vs.map some) (vs.map some) H P ρ) : FR K (L2.start N vs) (L2.start N vs) H P (pad N ρ) := by
  have hl : ρ.length = vs.length := by have := F.len; rwa [List.length_map] at this
  refine ⟨F.sub, ?_, fun i t d h => ?_, fun i t d h => ?_, fun i j t t' d d' a h1 h2 h3 h4 => ?_, fun _ _ _ => rfl⟩
  · unfold MP.pad L2.start
    rw [List.length_append, List.length_append, List.length_replicate, List.length_replicate, List.length_map, hl]
  · rcases pad_at h with z | z
    · cases z
    · obtain ⟨v, e, r⟩ := F.val i t d z
      exact ⟨v, start_at e, r⟩
  · rcases pad_at h with z | z
    · cases z
    · obtain ⟨v, e, r⟩ := F.own i t d z
      exact ⟨v, start_at e, r⟩
  · rcases pad_at h1 with z | z
    · cases z
    · rcases pad_at h2 with y | y
      · cases y
      · have hi : i < vs.length := by rw [← hl]; exact (List.getElem?_eq_some_iff.mp z).1
        have hj : j < vs.length := by rw [← hl]; exact (List.getElem?_eq_some_iff.mp y).1
        exact F.inj i j t t' d d' a z y (start_back hi h3) (start_back hj h4)
/-- what a callee gives back -/
theorem mask1_of {a s : Slot} {o : Option Slot} (h : mask1 a o = s) : s = .non ∨ ((∃ d, a = .own true d) ∧ o = some s ∧ ((∃ d, s = .own true d) ∨ ∃ d, s = .val true d)) := by
  unfold mask1 at h
  split at h
  · subst h; exact .inr ⟨⟨_, rfl⟩, rfl, .inl ⟨_, rfl⟩⟩
  · subst h; exact .inr ⟨⟨_, rfl⟩, rfl, .inr ⟨_, rfl⟩⟩
  · exact .inl h.symm
theorem mask_at : ∀ {ρ ρ' : Env} {i : Nat} {s : Slot}, (maskS ρ ρ')[i]? = some s → s = .non ∨ ((∃ d, ρ[i]? = some (.own true d)) ∧ ρ'[i]? = some s ∧ ((∃ d, s = .own true d) ∨ ∃ d, s = .val true d))
  | [], ρ', i, s, h => by simp [maskS] at h
  | a :: ρ, ρ', 0, s, h => by
    simp only [maskS, List.getElem?_cons_zero, Option.some.injEq] at h
    rcases mask1_of h with z | ⟨⟨d, z1⟩, z2, z3⟩
    · exact .inl z
    · exact .inr ⟨⟨d, by rw [z1]; rfl⟩, by rw [← List.head?_eq_getElem?]; exact z2, z3⟩
  | a :: ρ, ρ', i + 1, s, h => by
    simp only [maskS, List.getElem?_cons_succ] at h ⊢
    rcases mask_at h with z | ⟨z1, z2, z3⟩
    · exact .inl z
    · exact .inr ⟨z1, by rw [List.getElem?_tail] at z2; exact z2, z3⟩
theorem mask_len : ∀ {ρ ρ' : Env}, (maskS ρ ρ').length = ρ.length
  | [], ρ' => rfl
  | x :: ρ, ρ' => by rw [maskS, List.length_cons, List.length_cons, mask_len]
theorem own_mask {a : Addr} (hl : ρ.length = vs.length) (F' : FR K (L2.start N vs) σ' H' P' ρ') (o : Own (vs.map some) (maskS ρ ρ') a) : Own σ' ρ' a := by
  obtain ⟨i, t, d, h1, h2⟩ := o
  rcases mask_at h1 with z | ⟨_, z, y⟩
  · cases z
  · rcases y with ⟨e, y⟩ | ⟨e, y⟩
    · cases y
      exact ⟨i, true, _, z, by rw [F'.tag i _ (.inr z)]; exact start_at h2⟩
    · cases y
theorem FR.mask (hl : ρ.length = vs.length) (F' : FR K (L2.start N vs) σ' H' P' ρ') : FR K (vs.map some) (vs.map some) H' P' (maskS ρ ρ') := by
  have bound : ∀ {i : Nat} {d : D}, ρ[i]? = some (.own true d) → i < vs.length := fun {i d} h => by rw [← hl]; exact (List.getElem?_eq_some_iff.mp h).1
  refine ⟨F'.sub, ?_, fun i t d h => ?_, fun i t d h => ?_, fun i j t t' d d' a h1 h2 h3 h4 => ?_, fun _ _ _ => rfl⟩
  · rw [mask_len, List.length_map, hl]
  · rcases mask_at h with z | ⟨⟨e, z0⟩, z, y⟩
    · cases z
    · rcases y with ⟨e', y⟩ | ⟨e', y⟩
      · cases y
      · cases y
        obtain ⟨v, e1, r⟩ := F'.val i true d z
        rw [F'.tag i d (.inl z)] at e1
        exact ⟨v, start_back (bound z0) e1, r⟩
  · rcases mask_at h with z | ⟨⟨e, z0⟩, z, y⟩
    · cases z
    · rcases y with ⟨e', y⟩ | ⟨e', y⟩
      · cases y
        obtain ⟨v, e1, r⟩ := F'.own i true d z
        rw [F'.tag i d (.inr z)] at e1
        exact ⟨v, start_back (bound z0) e1, r⟩
      · cases y
  · rcases mask_at h1 with z | ⟨_, z, y⟩
    · cases z
    · rcases mask_at h2 with z' | ⟨_, z', y'⟩
      · cases z'
      · rcases y with ⟨e', y⟩ | ⟨e', y⟩
        · cases y
          rcases y' with ⟨e2, y'⟩ | ⟨e2, y'⟩
          · cases y'
            exact F'.inj i j true true d d' a z z' (by rw [F'.tag i _ (.inr z)]; exact start_at h3) (by rw [F'.tag j _ (.inr z')]; exact start_at h4)
          · cases y'
        · cases y
theorem Step.mask (hl : ρ.length = vs.length) (F' : FR K (L2.start N vs) σ' H' P' ρ') (S : Step (L2.start N vs) (pad N ρ) H P σ' ρ' H' P') : Step (vs.map some) ρ H P (vs.map some) (maskS ρ ρ') H' P' := by
  refine ⟨fun a u e n => S.keep a u e fun o => n (own_pad hl o), S.mono, fun a h h' => ?_, fun a o => ?_⟩
  · rcases S.newP a h h' with z | z
    · exact .inl z
    · exact .inr (own_pad hl z)
  · rcases S.newO a (own_mask hl F' o) with z | z
    · exact .inl z
    · exact .inr (own_pad hl z)
end

/-! ### defs -/
/-- a def of the module: its core, its text -/
structure Dn (K : PySem.W.Frag) (mg : Str → Option Value) (fd : Fd) (st : Stmt) (ad : Addr) (fdt : FuncData) : Prop where
  fn : L2.Fun K fd.name fd.name st ad fdt
  mgf : mg fd.name = some (.ref ad)
  binds : ∀ us : List Value, us.length = (fd.N.take fd.np).length → bindArgs fdt ⟨us, []⟩ = pure ((fd.N.take fd.np).zip us)
/-- what is looked at once: the text is the core's -/
def dnC (tb : Tb) (fd : Fd) (st : Stmt) : Bool :=
  decide ((fd.N.take fd.np).length = fd.np) && C8.scC fd.N (fd.N.take fd.np) (defScope st) && trSs tb fd.N (defScope st) fd.body (defBody st)
theorem dn_mk {K : PySem.W.Frag} {h : Heap} {mg : Str → Option Value} (X : K.In h) (G : h.Ns mainGlobals mg) {fd : Fd} {st : Stmt} {f : Addr} {od an : Option Addr} {sl : Array (Option Value)} {oc kv dc pm cd ct : Value}
    (a : PySem.W.nsIn K mainGlobals fd.name = some (some (.ref f))) (l : K.lookup f = some ⟨oc, od, .func (PySem.W.fnOf fd.name fd.name (defArgs st) (defBody st) (defScope st) .none kv dc pm an cd ct), sl⟩) (c : PySem.W.codeIn K cd fd.name = true) (k : PySem.W.keepIn K (.ref f) = true)
    (b : ∀ us : List Value, us.length = (fd.N.take fd.np).length → bindArgs (PySem.W.fnOf fd.name fd.name (defArgs st) (defBody st) (defScope st) .none kv dc pm an cd ct) ⟨us, []⟩ = pure ((fd.N.take fd.np).zip us)) : ∃ ad fdt, Dn K mg fd st ad fdt :=
  ⟨_, _, fun_mk l c k, PySem.W.mg_of X G a, b⟩
structure Txt (tb : Tb) (K : PySem.W.Frag) (mg : Str → Option Value) (tops : Nat → Stmt) : Prop where
  dn : ∀ f fd, tb.fns f = some fd → dnC tb fd (tops f) = true ∧ ∃ ad fdt, Dn K mg fd (tops f) ad fdt
  consts : ∀ x i, (x, i) ∈ tb.consts → ∃ t, mg x = some (.int i t)
  blt : ∀ x ∈ bltL, mg x = none
  gcd : tb.gcd = true → mg "gcd" = some (.builtin "math.gcd")
section
variable {tb : Tb} {cl : Nat → Addr} {P : Program} {w : World} {K : PySem.W.Frag} {mg : Str → Option Value} {base : Heap} {tops : Nat → Stmt}
theorem res_none {n : Nat} {f : Nat} {vs : List V} {H : Hp} {Q : VK} {E : XK} (h : spOf K cl n (callN tb.fns 0 f) vs H Q E) : False := by
  obtain ⟨_, ρ, P0, F, R⟩ := h
  exact R
theorem body_res {fd : Fd} {call : Nat → List Slot → Out} {vs : List V} {H P0 : Hp} {ρ : Env} {Q : VK} {E : XK} {D : Ends} (hl : vs.length = fd.np) (F : FR K (vs.map some) (vs.map some) H P0 ρ)
    (R : Res K cl (rA K) (fun c d _ H => E c d H) (vs.map some) (vs.map some) ρ H P0 (runF call fd ρ) Q) (dn : D.nx = fun _ H' => Q .non H') (dr : D.rt = Q) :
    ResS K cl (fun c d _ H => E c d H) (L2.start fd.N vs) (L2.start fd.N vs) (pad fd.N ρ) H P0 (execs call fd.body (pad fd.N ρ)) D := by
  have hρ : ρ.length = vs.length := by have := F.len; rwa [List.length_map] at this
  have e0 : ρ ++ List.replicate (fd.N.length - fd.np) .non = pad fd.N ρ := by unfold pad; rw [hρ, hl]
  unfold runF at R
  rw [if_pos (hρ.trans hl), e0] at R
  unfold ResS
  cases e : execs call fd.body (pad fd.N ρ) with
  | none => rw [e] at R; exact (R : False).elim
  | some q =>
    obtain ⟨x, ρ'⟩ := q
    rw [e] at R
    cases x with
    | error x => exact fun c d σ' H' P' F' S' r => R c d H' P' (F'.mask hρ) (S'.mask hρ F') r
    | ok fl =>
      intro σ' H' P' F' S'
      cases fl with
      | nxt =>
        show D.nx σ' H'
        rw [dn]
        exact R .non H' P' (F'.mask hρ) (S'.mask hρ F') ⟨.non, fun _ z => nomatch z⟩
      | brk => exact (R : False).elim
      | cnt => exact (R : False).elim
      | ret a =>
        intro v r f
        show D.rt v H'
        rw [dr]
        cases a with
        | slot i => exact (R : False).elim
        | dat d => exact R v H' P' (F'.mask hρ) (S'.mask hρ F') ⟨r, fun _ z => nomatch z⟩
        | frs d =>
          refine R v H' P' (F'.mask hρ) (S'.mask hρ F') ⟨⟨r.1, fun b e o => r.2 b e (own_mask hρ F' o)⟩, fun d' e b eb => ?_⟩
          rcases f d' e b eb with z | z
          · exact .inl z
          · exact .inr (own_pad hρ z)
theorem fn_ok (T : Txt tb K mg tops) : ∀ (n f : Nat) (fd : Fd) (ad : Addr) (fdt : FuncData), tb.fns f = some fd → Dn K mg fd (tops f) ad fdt → FnOk P w K mg base (L2.CX P w) n ad fdt (fd.N.take fd.np) (spOf K cl fd.np (callN tb.fns n f))
  | 0, f, fd, ad, fdt, hf, hd => by
    obtain ⟨hc, _⟩ := T.dn f fd hf
    simp only [dnC, Bool.and_eq_true, decide_eq_true_eq] at hc
    exact ⟨fun vs H Q E h => by rw [hc.1.1]; exact h.1, fun A outer s H args us vs Q E hr he hb hv hs => (res_none hs).elim⟩
  | n + 1, f, fd, ad, fdt, hf, hd => by
    obtain ⟨hc, _⟩ := T.dn f fd hf
    simp only [dnC, Bool.and_eq_true, decide_eq_true_eq] at hc
    obtain ⟨⟨h1, h2⟩, h3⟩ := hc
    have S := C8.fnScope_by h2
    refine hd.fn.okX S (fun vs H Q E h => by rw [h1]; exact h.1) fun cdv A outer s H vs Q E hr hsp => ?_
    obtain ⟨hl, ρ, P0, F, R⟩ := hsp
    have G : Gd tb cl (callN tb.fns n) (cxOf (L2.CX P w) P w K mg base fd.N fd.name (defScope (tops f)) ad cdv A outer s H E) fd.N (defScope (tops f)) (fun _ => true) (fun c d _ H => E c d H) :=
      { calm := rfl
        hN := rfl
        nd := S.nd
        sc := rfl
        fn := fun _ _ => rfl
        takes := L2.takes_of rfl rfl rfl rfl
        passes := L2.passes_of rfl
        units := by have := hr.un; show (A.deeper _).units + 65 < cLine; omega
        calls := fun g gd hg => by
          obtain ⟨_, a2, t2, d2⟩ := T.dn g gd hg
          exact ⟨a2, t2, n, fn_ok T n g gd a2 t2 hg d2, hr, d2.mgf, d2.fn.kp, .all d2.binds⟩
        consts := T.consts
        blt := T.blt
        gcd := T.gcd }
    refine ⟨_, m_ss (σ0 := L2.start fd.N vs) fd.body _ G h3, pad fd.N ρ, P0, F.pad, body_res hl F ?_ rfl rfl⟩
    have e : callN tb.fns (n + 1) f ρ = runF (callN tb.fns n) fd ρ := by rw [callN, hf]
    rw [← e]
    exact R
end

/-! ### the law -/
def scriptD (ns : List Int) : D := .lst (ns.map .int)
theorem rps_ints {K : PySem.W.Frag} {P : Hp} : ∀ ns : List Int, Rps K P (ns.map V.int) (ns.map D.int)
  | [] => .nil
  | n :: ns => .cons (.int n) (rps_ints ns)
/-- what the core must answer -/
def Yes (tb : Tb) (n f : Nat) (ns : List Int) : Prop := ∃ ρ, callN tb.fns n f [.val false (scriptD ns)] = some (.ok (.dat (.bl true)), ρ)
theorem sp_yes {tb : Tb} {cl : Nat → Addr} {K : PySem.W.Frag} {n f : Nat} {ns : List Int} {H : Hp} {a : Addr} (hr : RL K H a (ns.map V.int)) (y : Yes tb n f ns) : spOf K cl 1 (callN tb.fns n f) [.ref a] H (fun v _ => v = .bl true) fun _ _ _ => False := by
  obtain ⟨ρ, e⟩ := y
  refine ⟨rfl, [.val false (scriptD ns)], H, ⟨Same.refl _, rfl, fun i t d h => ?_, fun i t d h => ?_, fun i j t t' d d' a h => ?_, fun _ _ _ => rfl⟩, ?_⟩
  · cases i with
    | zero =>
      cases h
      exact ⟨_, rfl, .lst hr (rps_ints ns)⟩
    | succ i => simp at h
  · cases i with
    | zero => cases h
    | succ i => simp at h
  · cases i with
    | zero => cases h
    | succ i => simp at h
  · unfold Res
    rw [e]
    intro v H' P' F S r
    exact (show Rp K P' v (.bl true) from r.1).bl_inv
theorem rl_of {K : PySem.W.Frag} {h : Heap} {H : Hp} {a : Addr} {us : List Value} {ns : List Int} (kin : K.In h) (ha : h.get? a = some { cls := .type "list", data := .seq us.toArray }) (hs : SqL K H a (ns.map V.int)) : RL K H a (ns.map V.int) := by
  rcases hs with hs | ⟨o, its, n, hk, hc, hd, hq, hz, hv⟩
  · exact .inl hs
  · have e := kin a o hk
    rw [ha] at e
    cases e
    have hq : Data.seq us.toArray _ = Data.seq its n := hq
    cases hq
    exact .inr ⟨_, _, hk, hz, hv⟩
/-- the law's row, behind its head -/
theorem walk_mp {l : PySem.W.OpenLaw} {m n f : Nat} {q : Program} {loose : List Str} {XP : (Str → Option Value) → Heap → Prop} {YP : World → Heap → Prop} {d : DefRec} {K : Params → PySem.W.Frag} {tb : Tb} {fd : Fd} {tops : Nat → Stmt}
    (hm : l.most = some m) (hm2 : m ≤ sizeLine) (hdf : d.params.defaults = []) (hr : Room n callerA)
    (hY : ∀ (w : World) (h : Heap), YP w h → (K w.params).In h) (hf : tb.fns f = some fd) (hnp : fd.np = 1) (hname : fd.name = d.name)
    (T : ∀ (w : World) (mg : Str → Option Value) (h : Heap), (K w.params).In h → h.Ns mainGlobals mg → Txt tb (K w.params) mg tops)
    (yes : ∀ ns : List Int, ns.length ≤ m → Yes tb n f ns) :
    PySem.W.WalkO q loose XP YP l.row.toRowW d [] (fun f vs => PySem.call f vs) := by
  refine Att.attach_call hm hdf fun w s0 s1 mg mb fa o pm cd doc a us ns G Y ho hd hcd hmg hobj hints hlen hg => ?_
  have kin := hY w _ Y
  have T1 := T w mg _ kin G.T.g
  obtain ⟨hc, ad, fdt, dn⟩ := T1.dn f fd hf
  have ea : ad = fa := by
    have h1 := dn.mgf
    rw [hname, hmg] at h1
    cases h1
    rfl
  subst ea
  simp only [dnC, Bool.and_eq_true, decide_eq_true_eq] at hc
  obtain ⟨x, hx⟩ : ∃ x, fd.N.take fd.np = [x] := by
    have h1 := hc.1.1
    rw [hnp] at h1 ⊢
    match hh : fd.N.take 1, h1 with
    | [x], _ => exact ⟨x, rfl⟩
  have bx := dn.binds
  rw [hx] at bx
  refine law_call (k := n) (fd := fdt) (CX := L2.CX l.prog w) (x := x) (sp := spOf (K w.params) (fun _ => 0) 1 (callN tb.fns n f)) kin G.T.g G.T.b G.T.builtins G.T.nolimit hg hobj hints (Nat.le_trans hlen hm2) hr (fun base kb gb => ?_) (fun s u => ?_) (fun H hO hS => sp_yes (rl_of kin hobj hS) (yes ns hlen)) fun H e s' c => ?_
  · have := fn_ok (P := l.prog) (w := w) (base := base) (cl := fun _ => 0) (T w mg base kb gb) n f fd ad fdt hf dn
    rw [hx, hnp] at this
    exact this
  · exact .of_eq (bx [u] rfl)
  · obtain ⟨_, _, _, _, _, _, _, _, _, _, _, _, z⟩ := c
    exact z
end MP
set_option Elab.async false
set_option linter.all false
set_option maxRecDepth 100000
/-! MP: how the core runs (no model here) -/
namespace MP
open PySem

/-! ### while -/
theorem whlN_mono (c : Env → Mr Bool) (b : Env → Mr Flow) : ∀ (n : Nat) (ρ : Env) (r), whlN c b n ρ = some r → whlN c b (n + 1) ρ = some r
  | 0, ρ, r, h => by simp [whlN] at h
  | n + 1, ρ, r, h => by
    rw [whlN] at h ⊢
    unfold bnd at *
    split at h
    · cases h
    · exact h
    · rename_i k ρ1 e
      dsimp only at h ⊢
      split at h
      · rename_i hk
        rw [if_pos hk]
        revert h
        cases hb : b ρ1 with
        | none => intro h; cases h
        | some q =>
          obtain ⟨z, ρ2⟩ := q
          cases z with
          | error z => intro h; exact h
          | ok f =>
            cases f with
            | nxt => exact whlN_mono c b n ρ2 r
            | cnt => exact whlN_mono c b n ρ2 r
            | brk => exact id
            | ret a => exact id
      · rename_i hk
        rw [if_neg hk]
        exact h
theorem whlN_le (c : Env → Mr Bool) (b : Env → Mr Flow) {n m : Nat} {ρ : Env} {r} (h : whlN c b n ρ = some r) (l : n ≤ m) : whlN c b m ρ = some r := by
  induction l with
  | refl => exact h
  | step _ ih => exact whlN_mono c b _ ρ r ih
theorem whlM_of {c : Env → Mr Bool} {b : Env → Mr Flow} {n : Nat} {ρ : Env} {r} (h : whlN c b n ρ = some r) : whlM c b ρ = some r := by
  unfold whlM
  split
  · rename_i hh
    have h2 := Classical.choose_spec (Classical.choose_spec hh)
    have a := whlN_le c b h (Nat.le_add_right n (Classical.choose hh))
    have d := whlN_le c b h2 (Nat.le_add_left (Classical.choose hh) n)
    rw [a] at d
    exact d.symm
  · rename_i hh
    exact absurd ⟨n, r, h⟩ hh
theorem whlM_some {c : Env → Mr Bool} {b : Env → Mr Flow} {ρ : Env} {r} (h : whlM c b ρ = some r) : ∃ n, whlN c b n ρ = some r := by
  unfold whlM at h
  split at h
  · rename_i hh
    have h2 := Classical.choose_spec (Classical.choose_spec hh)
    cases h
    exact ⟨_, h2⟩
  · cases h
/-- the loop is left -/
theorem whl_stop {c : Env → Mr Bool} {b : Env → Mr Flow} {ρ ρ1 : Env} (h : c ρ = some (.ok false, ρ1)) : whlM c b ρ = some (.ok .nxt, ρ1) :=
  whlM_of (n := 1) (by rw [whlN, h]; rfl)
/-- one more turn -/
theorem whl_turn {c : Env → Mr Bool} {b : Env → Mr Flow} {ρ ρ1 ρ2 : Env} {r} (h : c ρ = some (.ok true, ρ1)) (hb : b ρ1 = some (.ok .nxt, ρ2)) (t : whlM c b ρ2 = some r) : whlM c b ρ = some r := by
  obtain ⟨n, e⟩ := whlM_some t
  exact whlM_of (n := n + 1) (by rw [whlN, h]; simp [bnd, hb, e])
theorem whl_ret {c : Env → Mr Bool} {b : Env → Mr Flow} {ρ ρ1 ρ2 : Env} {a : A} (h : c ρ = some (.ok true, ρ1)) (hb : b ρ1 = some (.ok (.ret a), ρ2)) : whlM c b ρ = some (.ok (.ret a), ρ2) :=
  whlM_of (n := 1) (by rw [whlN, h]; simp [bnd, hb, ok])

/-! ### for -/
theorem for_nil {tg : Tg} {b : Env → Mr Flow} {ρ : Env} : forL tg b [] ρ = some (.ok .nxt, ρ) := rfl
theorem for_next {tg : Tg} {b : Env → Mr Flow} {d : D} {ds : List D} {ρ ρ1 ρ2 : Env} (h : asgT tg d ρ = some ρ1) (hb : b ρ1 = some (.ok .nxt, ρ2)) : forL tg b (d :: ds) ρ = forL tg b ds ρ2 := by
  rw [forL, h]
  show bnd (b ρ1) _ = _
  rw [hb]
  rfl
theorem for_ret {tg : Tg} {b : Env → Mr Flow} {d : D} {ds : List D} {ρ ρ1 ρ2 : Env} {a : A} (h : asgT tg d ρ = some ρ1) (hb : b ρ1 = some (.ok (.ret a), ρ2)) : forL tg b (d :: ds) ρ = some (.ok (.ret a), ρ2) := by
  rw [forL, h]
  show bnd (b ρ1) _ = _
  rw [hb]
  rfl
/-- a loop in which no turn returns: an invariant of the state -/
theorem for_inv {tg : Tg} {b : Env → Mr Flow} (I : List D → Env → Prop) : ∀ {ds : List D} {ρ : Env}, I ds ρ → (∀ d ds ρ, I (d :: ds) ρ → ∃ ρ1 ρ2, asgT tg d ρ = some ρ1 ∧ b ρ1 = some (.ok .nxt, ρ2) ∧ I ds ρ2) → ∃ ρ', forL tg b ds ρ = some (.ok .nxt, ρ') ∧ I [] ρ'
  | [], ρ, h, _ => ⟨ρ, rfl, h⟩
  | d :: ds, ρ, h, st => by
    obtain ⟨ρ1, ρ2, h1, h2, h3⟩ := st d ds ρ h
    rw [for_next h1 h2]
    exact for_inv I h3 st

/-! ### comprehensions -/
theorem wipeR_get {ρ : Env} : ∀ {vs : List Nat} {i : Nat}, (wipeR ρ vs)[i]? = if i ∈ vs ∧ i < ρ.length then some .non else ρ[i]?
  | [], i => by simp [wipeR]
  | v :: vs, i => by
    have hl : ∀ vs : List Nat, (wipeR ρ vs).length = ρ.length := fun vs => by
      induction vs with
      | nil => rfl
      | cons a b ih => rw [wipeR, List.length_set, ih]
    rw [wipeR, List.getElem?_set, hl, wipeR_get]
    by_cases h : v = i
    · subst h
      by_cases h2 : v < ρ.length
      · simp [h2]
      · simp [h2]
    · have h' : i ≠ v := fun e => h e.symm
      simp [h, h']
theorem wipeL (ρ : Env) : ∀ vs : List Nat, (wipeR ρ vs).length = ρ.length
  | [] => rfl
  | a :: b => by rw [wipeR, List.length_set, wipeL ρ b]
theorem unwipe_back {ρ ρ' : Env} (hl : ρ'.length = ρ.length) : ∀ {vs : List Nat}, (∀ i, i ∉ vs → ρ'[i]? = ρ[i]?) → unwipe ρ ρ' vs = ρ := by
  have key : ∀ {vs : List Nat} {i : Nat}, (unwipe ρ ρ' vs)[i]? = if i ∈ vs then ρ[i]? else ρ'[i]? := by
    intro vs
    induction vs with
    | nil => intro i; simp [unwipe]
    | cons v vs ih =>
      intro i
      have hu : (unwipe ρ ρ' vs).length = ρ'.length := by
        clear ih
        induction vs with
        | nil => rfl
        | cons a b ih2 => rw [unwipe, List.length_set, ih2]
      rw [unwipe, List.getElem?_set, hu, ih]
      by_cases h : v = i
      · subst h
        by_cases h2 : v < ρ.length
        · rw [if_pos rfl, if_pos (by omega), if_pos (by simp), List.getElem?_eq_getElem h2]
          rfl
        · rw [if_pos rfl, if_neg (by omega), if_pos (by simp), List.getElem?_eq_none (by omega)]
      · have h' : i ≠ v := fun e => h e.symm
        simp [h, h']
  intro vs h
  apply List.ext_getElem?
  intro i
  rw [key]
  split
  · rfl
  · rename_i hi
    exact h i hi
theorem comp_run {own : List Nat} {tg : Tg} {t : Env → Mr Bool} {e : Env → Mr D} (ρ0 : Env) (k : D → Bool) (f : D → D) : ∀ (ds : List D), (∀ d ∈ ds, ∃ ρ1, asgT tg d (wipeR ρ0 own) = some ρ1 ∧ ∃ ρ2, t ρ1 = some (.ok (k d), ρ2) ∧
      if k d = true then ∃ ρ3, e ρ2 = some (.ok (f d), ρ3) ∧ wipeR ρ3 own = wipeR ρ0 own else wipeR ρ2 own = wipeR ρ0 own) →
    ∀ ρ, wipeR ρ own = wipeR ρ0 own → ∃ ρ', compL own tg t e ds ρ = some (.ok ((ds.filter k).map f), ρ') ∧ wipeR ρ' own = wipeR ρ0 own
  | [], _, ρ, h => ⟨ρ, rfl, h⟩
  | d :: ds, hh, ρ, h => by
    obtain ⟨ρ1, h1, ρ2, h2, h3⟩ := hh d (List.mem_cons_self ..)
    rw [compL, h, h1]
    dsimp only
    rw [h2]
    cases hk : k d with
    | false =>
      rw [hk] at h3
      obtain ⟨ρ', g1, g2⟩ := comp_run ρ0 k f ds (fun d hd => hh d (List.mem_cons_of_mem _ hd)) ρ2 h3
      refine ⟨ρ', ?_, g2⟩
      rw [List.filter_cons, hk]
      exact g1
    | true =>
      rw [hk, if_pos rfl] at h3
      obtain ⟨ρ3, h4, h5⟩ := h3
      obtain ⟨ρ', g1, g2⟩ := comp_run ρ0 k f ds (fun d hd => hh d (List.mem_cons_of_mem _ hd)) ρ3 h5
      refine ⟨ρ', ?_, g2⟩
      rw [List.filter_cons, hk]
      show bnd (e ρ2) _ = _
      rw [h4]
      show bnd (compL own tg t e ds ρ3) _ = _
      rw [g1]
      rfl
theorem ev_comp {call : Nat → List Slot → Out} {elt : C} {tg : Tg} {it : I} {ifs : CO} {own : List Nat} {ρ ρ1 : Env} {ds : List D} (k : D → Bool) (f : D → D) (hi : evI call it ρ = some (.ok ds, ρ1)) (hl : ds.length ≤ 16777216)
    (h : ∀ d ∈ ds, ∃ ρ2, asgT tg d (wipeR ρ1 own) = some ρ2 ∧ ∃ ρ3, evIf call ifs ρ2 = some (.ok (k d), ρ3) ∧ if k d = true then ∃ ρ4, bnd (ev call elt ρ3) frzM = some (.ok (f d), ρ4) ∧ wipeR ρ4 own = wipeR ρ1 own else wipeR ρ3 own = wipeR ρ1 own) :
    ev call (.cmpr elt tg it ifs own) ρ = some (.ok (.frs (.lst ((ds.filter k).map f))), ρ1) := by
  obtain ⟨ρ', e1, e2⟩ := comp_run ρ1 k f ds h ρ1 rfl
  rw [ev, hi]
  show (if ds.length ≤ 16777216 then _ else _) = _
  rw [if_pos hl, e1]
  show ok _ (unwipe ρ1 ρ' own) = _
  have hlen : ρ'.length = ρ1.length := by
    have := congrArg List.length e2
    rwa [wipeL, wipeL] at this
  rw [unwipe_back hlen fun i hi => by
    have := congrArg (·[i]?) e2
    simp only [wipeR_get] at this
    simpa [hi] using this]
  rfl
/-! ### the evaluator's equations, one by one (comprehensions and loops apart) -/
section
variable (call : Nat → List Slot → Out)
theorem ev_cst (d : D) (ρ : Env) : ev call (.cst d) ρ = ok (.dat d) ρ := by first | (rw [ev]; rfl) | rw [ev]
theorem ev_glb (x : Str) (d : D) (ρ : Env) : ev call (.glb x d) ρ = ok (.dat d) ρ := by first | (rw [ev]; rfl) | rw [ev]
theorem ev_var (i : Nat) (ρ : Env) : ev call (.var i) ρ = match ρ[i]? with
    | some (.val _ d) => ok (.dat d) ρ
    | some (.own _ _) => ok (.slot i) ρ
    | _ => none := by first | (rw [ev]; rfl) | rw [ev]
theorem ev_tup (es : Cs) (ρ : Env) : ev call (.tup es) ρ = bnd (evDs call es ρ) fun ds ρ => ok (.dat (.tup ds)) ρ := by first | (rw [ev]; rfl) | rw [ev]
theorem ev_lst (es : Cs) (ρ : Env) : ev call (.lst es) ρ = bnd (evDs call es ρ) fun ds ρ => ok (.frs (.lst ds)) ρ := by first | (rw [ev]; rfl) | rw [ev]
theorem ev_dis0  (ρ : Env) : ev call (.dis0) ρ = ok (.dat (.dic [] [])) ρ := by first | (rw [ev]; rfl) | rw [ev]
theorem ev_dis1 (k v : C) (ρ : Env) : ev call (.dis1 k v) ρ = bnd (bnd (ev call k ρ) frzM) fun x ρ => bnd (bnd (ev call v ρ) frzM) fun y ρ => if keyB x = true then ok (.dat (.dic [x] [y])) ρ else none := by first | (rw [ev]; rfl) | rw [ev]
theorem ev_bin (op : BOp) (a b : C) (ρ : Env) : ev call (.bin op a b) ρ = bnd (ev call a ρ) fun x ρ => bnd (ev call b ρ) fun y ρ => op2 (binD op) x y ρ := by first | (rw [ev]; rfl) | rw [ev]
theorem ev_neg (a : C) (ρ : Env) : ev call (.neg a) ρ = bnd (ev call a ρ) fun x ρ => op1 negD x ρ := by first | (rw [ev]; rfl) | rw [ev]
theorem ev_boo (k : Bool) (es : Cs) (ρ : Env) : ev call (.boo k es) ρ = evB call k es ρ := by first | (rw [ev]; rfl) | rw [ev]
theorem ev_not (a : C) (ρ : Env) : ev call (.not_ a) ρ = bnd (ev call a ρ) fun x ρ => bnd (tru x ρ) fun k ρ => ok (.dat (.bl (!k))) ρ := by first | (rw [ev]; rfl) | rw [ev]
theorem ev_cmp (op : COp) (a b : C) (ρ : Env) : ev call (.cmp op a b) ρ = bnd (ev call a ρ) fun x ρ => bnd (ev call b ρ) fun y ρ => op2 (fun x y => datB (cmpO op x y)) x y ρ := by first | (rw [ev]; rfl) | rw [ev]
theorem ev_chn (op op' : COp) (a b c : C) (ρ : Env) : ev call (.chn op op' a b c) ρ = bnd (ev call a ρ) fun x ρ => bnd (ev call b ρ) fun y ρ => bnd (op2 (fun x y => datB (cmpO op x y)) x y ρ) fun z ρ => bnd (tru z ρ) fun k ρ =>
      if k = true then bnd (ev call c ρ) fun z ρ => op2 (fun x y => datB (cmpO op' x y)) y z ρ else ok (.dat (.bl false)) ρ := by rw [ev]
theorem ev_ite (c a b : C) (ρ : Env) : ev call (.ite c a b) ρ = bnd (ev call c ρ) fun x ρ => bnd (tru x ρ) fun k ρ => if k = true then ev call a ρ else ev call b ρ := by first | (rw [ev]; rfl) | rw [ev]
theorem ev_idx (a i : C) (ρ : Env) : ev call (.idx a i) ρ = bnd (ev call a ρ) fun x ρ => bnd (ev call i ρ) fun y ρ => op2 idxD x y ρ := by first | (rw [ev]; rfl) | rw [ev]
theorem ev_slc (a : C) (lo hi : CO) (ρ : Env) : ev call (.slc a lo hi) ρ = bnd (ev call a ρ) fun x ρ => bnd (evO call lo ρ) fun l ρ => bnd (evO call hi ρ) fun h ρ => op1 (slcD l h) x ρ := by first | (rw [ev]; rfl) | rw [ev]
theorem ev_call (f : Nat) (fl : List Bool) (es : Cs) (ρ : Env) : ev call (.call f fl es) ρ = bnd (evAs call fl es ρ) fun as ρ => doCall call f as ρ := by first | (rw [ev]; rfl) | rw [ev]
theorem ev_blt (f : Blt) (es : Cs) (ρ : Env) : ev call (.blt f es) ρ = bnd (evAs call [] es ρ) fun as ρ => blts f as ρ := by first | (rw [ev]; rfl) | rw [ev]
theorem ev_isi (ts : List Ty) (e : C) (ρ : Env) : ev call (.isi ts e) ρ = bnd (ev call e ρ) fun x ρ => op1 (isiD ts) x ρ := by first | (rw [ev]; rfl) | rw [ev]
theorem ev_lstI (it : I) (ρ : Env) : ev call (.lstI it) ρ = bnd (evI call it ρ) fun ds ρ => if ds.length ≤ 16777216 then ok (.frs (.lst ds)) ρ else none := by first | (rw [ev]; rfl) | rw [ev]
theorem x_par (is : List Nat) (es : Cs) (ρ : Env) : MP.exec call (.par is es) ρ = bnd (evRs call es ρ) fun as ρ => nxtO (putAs is as ρ) := by first | (rw [MP.exec]; rfl) | rw [MP.exec]
theorem x_aug (i : Nat) (op : BOp) (e : C) (ρ : Env) : MP.exec call (.aug i op e) ρ = match ρ[i]? with
    | some (.val _ (.int x)) => bnd (ev call e ρ) fun a ρ => augD i op x a ρ
    | _ => none := by first | (rw [MP.exec]; rfl) | rw [MP.exec]
theorem x_seti (i : Nat) (ix e : C) (ρ : Env) : MP.exec call (.seti i ix e) ρ = bnd (bnd (ev call e ρ) frzM) fun d ρ => match ρ[i]? with
    | some (.own _ (.lst _)) => bnd (ev call ix ρ) fun k ρ => setiD i d k ρ
    | _ => none := by first | (rw [MP.exec]; rfl) | rw [MP.exec]
theorem x_app (i : Nat) (e : C) (ρ : Env) : MP.exec call (.app i e) ρ = match ρ[i]? with
    | some (.own _ (.lst _)) => bnd (bnd (ev call e ρ) frzM) fun d ρ => appD i d ρ
    | _ => none := by first | (rw [MP.exec]; rfl) | rw [MP.exec]
theorem x_expr (e : C) (ρ : Env) : MP.exec call (.expr e) ρ = bnd (ev call e ρ) fun _ ρ => ok .nxt ρ := by first | (rw [MP.exec]; rfl) | rw [MP.exec]
theorem x_ife (c : C) (a b : Ss) (ρ : Env) : MP.exec call (.ife c a b) ρ = bnd (evT call c ρ) fun k ρ => if k = true then MP.execs call a ρ else MP.execs call b ρ := by first | (rw [MP.exec]; rfl) | rw [MP.exec]
theorem x_ret (e : C) (ρ : Env) : MP.exec call (.ret e) ρ = bnd (ev call e ρ) fun a ρ => retA a ρ := by first | (rw [MP.exec]; rfl) | rw [MP.exec]
theorem x_retN  (ρ : Env) : MP.exec call (.retN) ρ = ok (.ret (.dat .non)) ρ := by first | (rw [MP.exec]; rfl) | rw [MP.exec]
theorem x_pas  (ρ : Env) : MP.exec call (.pas) ρ = ok .nxt ρ := by first | (rw [MP.exec]; rfl) | rw [MP.exec]
theorem x_brk  (ρ : Env) : MP.exec call (.brk) ρ = ok .brk ρ := by first | (rw [MP.exec]; rfl) | rw [MP.exec]
theorem x_cnt  (ρ : Env) : MP.exec call (.cnt) ρ = ok .cnt ρ := by first | (rw [MP.exec]; rfl) | rw [MP.exec]
theorem x_rse (k : Nat) (e : CO) (ρ : Env) : MP.exec call (.rse k e) ρ = none := by first | (rw [MP.exec]; rfl) | rw [MP.exec]
theorem x_nm (i : Nat) (e : C) (ρ : Env) : MP.exec call (.asg (.nm i) e) ρ = bnd (bnd (ev call e ρ) unslot) fun a ρ => nxtO (putA i a ρ) := by first | (rw [MP.exec]; rfl) | rw [MP.exec]
theorem x_tp (ts : Tgs) (e : C) (ρ : Env) : MP.exec call (.asg (.tp ts) e) ρ = bnd (bnd (ev call e ρ) frzM) fun d ρ => nxtO (asgT (.tp ts) d ρ) := by simp only [MP.exec]
end
end MP
set_option Elab.async false
set_option linter.all false
set_option maxRecDepth 100000
set_option maxHeartbeats 1000000
/-! MP: the dice of the laws, the common divisor -/
namespace MP
open PySem
theorem bits_small {i : Int} {k : Nat} (h : i.natAbs < 2 ^ k) (hk : 0 < k) : bits i < k := by
  unfold bits
  by_cases h0 : i.natAbs = 0
  · rw [h0]; simpa using hk
  · exact (Nat.log2_lt h0).mpr h
def diceFd : Fd := ⟨"_law_dice", 2, ["_law_script", "_law_spot", "_law_cell", "_law_left"], (Ss.cons (S.asg (Tg.nm 2) (C.ite (C.cmp .lt (C.var 1) (C.blt .len (Cs.cons (C.var 0) Cs.nil))) (C.blt .int1 (Cs.cons (C.idx (C.var 0) (C.var 1)) Cs.nil)) (C.bin .add (C.bin .mul (C.cst (D.int 97)) (C.var 1)) (C.cst (D.int 59))))) (Ss.cons (S.asg (Tg.nm 3) (C.bin .mod (C.blt .max2 (Cs.cons (C.cst (D.int 0)) (Cs.cons (C.bin .sub (C.blt .abs (Cs.cons (C.var 2) Cs.nil)) (C.bin .pow (C.cst (D.int 10)) (C.cst (D.int 16)))) Cs.nil))) (C.bin .mul (C.bin .pow (C.cst (D.int 10)) (C.cst (D.int 58))) (C.bin .pow (C.cst (D.int 10)) (C.cst (D.int 60)))))) (Ss.cons (S.ret (C.lst (Cs.cons (C.var 3) (Cs.cons (C.bin .add (C.bin .add (C.bin .add (C.bin .mul (C.bin .mod (C.blt .abs (Cs.cons (C.var 2) Cs.nil)) (C.cst (D.int 1152921504606846733))) (C.cst (D.int 83))) (C.bin .mul (C.cst (D.int 1033)) (C.var 1))) (C.bin .mul (C.cst (D.int 61)) (C.blt .int1 (Cs.cons (C.cmp .lt (C.var 2) (C.cst (D.int 0))) Cs.nil)))) (C.cst (D.int 29))) (Cs.cons (C.cst (D.int 0)) Cs.nil))))) Ss.nil)))⟩
def rollFd : Fd := ⟨"_law_roll", 2, ["_law_dice_here", "_law_most", "_law_one", "_law_two", "_law_found"], (Ss.cons (S.ife (C.cmp .gt (C.idx (C.var 0) (C.cst (D.int 0))) (C.cst (D.int 0))) (Ss.cons (S.asg (Tg.nm 4) (C.bin .mod (C.blt .int1 (Cs.cons (C.idx (C.var 0) (C.cst (D.int 0))) Cs.nil)) (C.var 1))) (Ss.cons (S.seti 0 (C.cst (D.int 0)) (C.bin .fdiv (C.idx (C.var 0) (C.cst (D.int 0))) (C.var 1))) (Ss.cons (S.ret (C.var 4)) Ss.nil))) Ss.nil) (Ss.cons (S.seti 0 (C.cst (D.int 2)) (C.bin .add (C.idx (C.var 0) (C.cst (D.int 2))) (C.cst (D.int 1)))) (Ss.cons (S.asg (Tg.nm 2) (C.bin .mod (C.blt .int1 (Cs.cons (C.bin .add (C.idx (C.var 0) (C.cst (D.int 1))) (C.bin .mul (C.cst (D.int 86028121)) (C.idx (C.var 0) (C.cst (D.int 2))))) Cs.nil)) (C.cst (D.int 2305843009213693561)))) (Ss.cons (S.asg (Tg.nm 3) (C.bin .mod (C.blt .int1 (Cs.cons (C.bin .add (C.bin .mul (C.var 2) (C.var 2)) (C.bin .mul (C.cst (D.int 103)) (C.idx (C.var 0) (C.cst (D.int 2))))) Cs.nil)) (C.cst (D.int 2305843009213693669)))) (Ss.cons (S.ret (C.bin .mod (C.blt .int1 (Cs.cons (C.bin .fdiv (C.bin .add (C.bin .mul (C.var 3) (C.cst (D.int 7654321))) (C.var 2)) (C.cst (D.int 65557))) Cs.nil)) (C.var 1))) Ss.nil)))))⟩
def pickFd (r : Nat) : Fd := ⟨"_law_pick", 2, ["_law_dice_here", "_law_items"], (Ss.cons (S.ret (C.idx (C.var 1) (C.call r [true, false] (Cs.cons (C.var 0) (Cs.cons (C.blt .len (Cs.cons (C.var 1) Cs.nil)) Cs.nil))))) Ss.nil)⟩
def gcdFd : Fd := ⟨"_law_gcd", 2, ["_law_one", "_law_other"], (Ss.cons (S.par [0, 1] (Cs.cons (C.blt .abs (Cs.cons (C.var 0) Cs.nil)) (Cs.cons (C.blt .abs (Cs.cons (C.var 1) Cs.nil)) Cs.nil))) (Ss.cons (S.whl (C.cmp .gt (C.var 1) (C.cst (D.int 0))) (Ss.cons (S.par [0, 1] (Cs.cons (C.var 1) (Cs.cons (C.bin .mod (C.blt .int1 (Cs.cons (C.var 0) Cs.nil)) (C.var 1)) Cs.nil))) Ss.nil)) (Ss.cons (S.ret (C.var 0)) Ss.nil)))⟩

def Dice (L : Int) (d : D) : Prop := ∃ a b c : Int, d = .lst [.int a, .int b, .int c] ∧ 0 ≤ c ∧ c ≤ L
theorem fmod_pos (x : Int) {m : Int} (h : 0 < m) : 0 ≤ x.fmod m ∧ x.fmod m < m := by
  rw [Int.fmod_eq_emod_of_nonneg x (by omega)]
  exact ⟨Int.emod_nonneg x (by omega), Int.emod_lt_of_pos x h⟩
theorem run_roll {P : Nat → Option Fd} {f : Nat} (hP : P f = some rollFd) (n : Nat) {d : D} {L : Int} (hd : Dice L d) (hL : L < 2 ^ 60) (t : Bool) {m : Int} (hm : 0 < m) (hb : bits m < 9000) :
    ∃ r d', callN P (n + 1) f [.own true d, .val t (.int m)] = some (.ok (.dat (.int r)), [.own true d', .non]) ∧ 0 ≤ r ∧ r < m ∧ Dice (L + 1) d' := by
  obtain ⟨a, b, c, rfl, h1, h2⟩ := hd
  have hm0 : m ≠ 0 := by omega
  rw [callN, hP]
  by_cases ha : 0 < a
  · refine ⟨a.fmod m, .lst [.int (a.fdiv m), .int b, .int c], ?_, (fmod_pos a hm).1, (fmod_pos a hm).2, _, _, _, rfl, h1, by omega⟩
    simp [rollFd, runF, MP.execs, ev_cst, ev_glb, ev_var, ev_tup, ev_lst, ev_dis0, ev_dis1, ev_bin, ev_neg, ev_boo, ev_not, ev_cmp, ev_chn, ev_ite, ev_idx, ev_slc, ev_call, ev_blt, ev_isi, ev_lstI, x_par, x_aug, x_seti, x_app, x_expr, x_ife, x_ret, x_retN, x_pas, x_brk, x_cnt, x_rse, x_nm, x_tp, evB, evIf, evO, evAs, evDs, evI, evT, evRs, bnd, ok, op1, op2, view, views, tru, frzM, frz, keepA, unslot, slotOf, putA, putAs, putD, nxtO, augD, setiD, appD, retA, asgT, asgTs, blts, liftO, bltD, absD, maxD, minD, int1D, lenD, gcdD, isiD, blsD, intsD, anyD, allD, sumD, tupleD, listD, strD, reprD, keyB, binD, cmpO, cmpD, datB, negD, idxD, getD, ixD, slcD, tyD, D.truth, D.shp, D.shps, D.eqv, D.eqvs, itemsD, rngD, zipO, enumO, intO, isND, doCall, lends, lendA, lentIx, backs, backS, maskS, mask1, ha, hm0, hb]
  · have k1 : bits 86028121 + bits (c + 1) < 1000000 := by
      have : bits (c + 1) < 64 := bits_small (by omega) (by omega)
      have h2 : bits 86028121 < 64 := by decide +kernel
      omega
    have k2 : bits 103 + bits (c + 1) < 1000000 := by
      have : bits (c + 1) < 64 := bits_small (by omega) (by omega)
      have h2 : bits 103 < 64 := by decide +kernel
      omega
    have k3 : ∀ x : Int, bits (x.fmod 2305843009213693561) + bits (x.fmod 2305843009213693561) < 1000000 := fun x => by
      have := fmod_pos x (m := 2305843009213693561) (by omega)
      have : bits (x.fmod 2305843009213693561) < 64 := bits_small (by omega) (by omega)
      omega
    have k4 : ∀ x : Int, bits (x.fmod 2305843009213693669) + bits 7654321 < 1000000 := fun x => by
      have := fmod_pos x (m := 2305843009213693669) (by omega)
      have : bits (x.fmod 2305843009213693669) < 64 := bits_small (by omega) (by omega)
      have h2 : bits 7654321 < 64 := by decide +kernel
      omega
    have k5 : bits 65557 < 9000 := by decide +kernel
    refine ⟨(((((b + 86028121 * (c + 1)).fmod 2305843009213693561) * ((b + 86028121 * (c + 1)).fmod 2305843009213693561) + 103 * (c + 1)).fmod 2305843009213693669 * 7654321 + (b + 86028121 * (c + 1)).fmod 2305843009213693561).fdiv 65557).fmod m, .lst [.int a, .int b, .int (c + 1)], ?_, (fmod_pos _ hm).1, (fmod_pos _ hm).2, a, b, c + 1, rfl, by omega, by omega⟩
    simp [rollFd, runF, MP.execs, ev_cst, ev_glb, ev_var, ev_tup, ev_lst, ev_dis0, ev_dis1, ev_bin, ev_neg, ev_boo, ev_not, ev_cmp, ev_chn, ev_ite, ev_idx, ev_slc, ev_call, ev_blt, ev_isi, ev_lstI, x_par, x_aug, x_seti, x_app, x_expr, x_ife, x_ret, x_retN, x_pas, x_brk, x_cnt, x_rse, x_nm, x_tp, evB, evIf, evO, evAs, evDs, evI, evT, evRs, bnd, ok, op1, op2, view, views, tru, frzM, frz, keepA, unslot, slotOf, putA, putAs, putD, nxtO, augD, setiD, appD, retA, asgT, asgTs, blts, liftO, bltD, absD, maxD, minD, int1D, lenD, gcdD, isiD, blsD, intsD, anyD, allD, sumD, tupleD, listD, strD, reprD, keyB, binD, cmpO, cmpD, datB, negD, idxD, getD, ixD, slcD, tyD, D.truth, D.shp, D.shps, D.eqv, D.eqvs, itemsD, rngD, zipO, enumO, intO, isND, doCall, lends, lendA, lentIx, backs, backS, maskS, mask1, ha, hm0, hb, k1, k2, k3, k4, k5]
theorem run_pick {P : Nat → Option Fd} {f r : Nat} (hP : P f = some (pickFd r)) (hR : P r = some rollFd) (n : Nat) {d : D} {L : Int} (hd : Dice L d) (hL : L < 2 ^ 60) (t : Bool) {xs : List D} (h0 : 0 < xs.length) (hl : xs.length < 2 ^ 60) :
    ∃ x d', x ∈ xs ∧ callN P (n + 2) f [.own true d, .val t (.lst xs)] = some (.ok (.dat x), [.own true d', .non]) ∧ Dice (L + 1) d' := by
  obtain ⟨k, d', e, h1, h2, h3⟩ := run_roll hR n hd hL false (m := (xs.length : Int)) (by omega) (Nat.lt_trans (bits_small (k := 64) (by omega) (by omega)) (by decide))
  have hk : k.toNat < xs.length := by omega
  refine ⟨xs[k.toNat], d', List.getElem_mem hk, ?_, h3⟩
  rw [callN, hP]
  simp [pickFd, runF, MP.execs, ev_cst, ev_glb, ev_var, ev_tup, ev_lst, ev_dis0, ev_dis1, ev_bin, ev_neg, ev_boo, ev_not, ev_cmp, ev_chn, ev_ite, ev_idx, ev_slc, ev_call, ev_blt, ev_isi, ev_lstI, x_par, x_aug, x_seti, x_app, x_expr, x_ife, x_ret, x_retN, x_pas, x_brk, x_cnt, x_rse, x_nm, x_tp, evB, evIf, evO, evAs, evDs, evI, evT, evRs, bnd, ok, op1, op2, view, views, tru, frzM, frz, keepA, unslot, slotOf, putA, putAs, putD, nxtO, augD, setiD, appD, retA, asgT, asgTs, blts, liftO, bltD, absD, maxD, minD, int1D, lenD, gcdD, isiD, blsD, intsD, anyD, allD, sumD, tupleD, listD, strD, reprD, keyB, binD, cmpO, cmpD, datB, negD, idxD, getD, ixD, slcD, tyD, D.truth, D.shp, D.shps, D.eqv, D.eqvs, itemsD, rngD, zipO, enumO, intO, isND, doCall, lends, lendA, lentIx, backs, backS, maskS, mask1, e, h1, h2, List.getElem?_eq_getElem hk]
theorem gcd_loop (call : Nat → List Slot → Out) : ∀ (y x : Nat), whlM (evT call (C.cmp .gt (C.var 1) (C.cst (D.int 0)))) (fun ρ => MP.execs call (Ss.cons (S.par [0, 1] (Cs.cons (C.var 1) (Cs.cons (C.bin .mod (C.blt .int1 (Cs.cons (C.var 0) Cs.nil)) (C.var 1)) Cs.nil))) Ss.nil) ρ)
    [.val false (.int x), .val false (.int y)] = some (.ok .nxt, [.val false (.int (Nat.gcd x y : Nat)), .val false (.int 0)]) := by
  intro y
  induction y using Nat.strongRecOn with
  | _ y ih =>
    intro x
    by_cases h : y = 0
    · subst h
      rw [Nat.gcd_zero_right]
      exact whl_stop (by simp [runF, MP.execs, ev_cst, ev_glb, ev_var, ev_tup, ev_lst, ev_dis0, ev_dis1, ev_bin, ev_neg, ev_boo, ev_not, ev_cmp, ev_chn, ev_ite, ev_idx, ev_slc, ev_call, ev_blt, ev_isi, ev_lstI, x_par, x_aug, x_seti, x_app, x_expr, x_ife, x_ret, x_retN, x_pas, x_brk, x_cnt, x_rse, x_nm, x_tp, evB, evIf, evO, evAs, evDs, evI, evT, evRs, bnd, ok, op1, op2, view, views, tru, frzM, frz, keepA, unslot, slotOf, putA, putAs, putD, nxtO, augD, setiD, appD, retA, asgT, asgTs, blts, liftO, bltD, absD, maxD, minD, int1D, lenD, gcdD, isiD, blsD, intsD, anyD, allD, sumD, tupleD, listD, strD, reprD, keyB, binD, cmpO, cmpD, datB, negD, idxD, getD, ixD, slcD, tyD, D.truth, D.shp, D.shps, D.eqv, D.eqvs, itemsD, rngD, zipO, enumO, intO, isND, doCall, lends, lendA, lentIx, backs, backS, maskS, mask1])
    · have hp : (0 : Int) < (y : Int) := by omega
      have hp0 : ¬ (y : Int) = 0 := by omega
      have e := ih (x % y) (Nat.mod_lt _ (by omega)) y
      have e2 : Nat.gcd y (x % y) = Nat.gcd x y := by rw [Nat.gcd_comm x y, Nat.gcd_rec y x, Nat.gcd_comm]
      rw [e2] at e
      have em : (x : Int).fmod (y : Int) = ((x % y : Nat) : Int) := by rw [Int.fmod_eq_emod_of_nonneg _ (by omega)]; exact (Int.natCast_emod x y).symm
      exact whl_turn (ρ1 := [.val false (.int x), .val false (.int y)]) (ρ2 := [.val false (.int y), .val false (.int (x % y : Nat))]) (by simp [runF, MP.execs, ev_cst, ev_glb, ev_var, ev_tup, ev_lst, ev_dis0, ev_dis1, ev_bin, ev_neg, ev_boo, ev_not, ev_cmp, ev_chn, ev_ite, ev_idx, ev_slc, ev_call, ev_blt, ev_isi, ev_lstI, x_par, x_aug, x_seti, x_app, x_expr, x_ife, x_ret, x_retN, x_pas, x_brk, x_cnt, x_rse, x_nm, x_tp, evB, evIf, evO, evAs, evDs, evI, evT, evRs, bnd, ok, op1, op2, view, views, tru, frzM, frz, keepA, unslot, slotOf, putA, putAs, putD, nxtO, augD, setiD, appD, retA, asgT, asgTs, blts, liftO, bltD, absD, maxD, minD, int1D, lenD, gcdD, isiD, blsD, intsD, anyD, allD, sumD, tupleD, listD, strD, reprD, keyB, binD, cmpO, cmpD, datB, negD, idxD, getD, ixD, slcD, tyD, D.truth, D.shp, D.shps, D.eqv, D.eqvs, itemsD, rngD, zipO, enumO, intO, isND, doCall, lends, lendA, lentIx, backs, backS, maskS, mask1, h]; omega) (by simp [runF, MP.execs, ev_cst, ev_glb, ev_var, ev_tup, ev_lst, ev_dis0, ev_dis1, ev_bin, ev_neg, ev_boo, ev_not, ev_cmp, ev_chn, ev_ite, ev_idx, ev_slc, ev_call, ev_blt, ev_isi, ev_lstI, x_par, x_aug, x_seti, x_app, x_expr, x_ife, x_ret, x_retN, x_pas, x_brk, x_cnt, x_rse, x_nm, x_tp, evB, evIf, evO, evAs, evDs, evI, evT, evRs, bnd, ok, op1, op2, view, views, tru, frzM, frz, keepA, unslot, slotOf, putA, putAs, putD, nxtO, augD, setiD, appD, retA, asgT, asgTs, blts, liftO, bltD, absD, maxD, minD, int1D, lenD, gcdD, isiD, blsD, intsD, anyD, allD, sumD, tupleD, listD, strD, reprD, keyB, binD, cmpO, cmpD, datB, negD, idxD, getD, ixD, slcD, tyD, D.truth, D.shp, D.shps, D.eqv, D.eqvs, itemsD, rngD, zipO, enumO, intO, isND, doCall, lends, lendA, lentIx, backs, backS, maskS, mask1, h, em]) e
theorem x_whl (call : Nat → List Slot → Out) (c : C) (b : Ss) (ρ : Env) : MP.exec call (.whl c b) ρ = whlM (evT call c) (fun ρ => MP.execs call b ρ) ρ := by
  first | (rw [MP.exec]; rfl) | rw [MP.exec]
theorem run_gcd {P : Nat → Option Fd} {f : Nat} (hP : P f = some gcdFd) (n : Nat) (t t1 : Bool) (a b : Int) : callN P (n + 1) f [.val t (.int a), .val t1 (.int b)] = some (.ok (.dat (.int (Nat.gcd a.natAbs b.natAbs : Nat))), [.non, .non]) := by
  have e : ∀ i : Int, (if i < 0 then -i else i) = (i.natAbs : Nat) := fun i => by split <;> omega
  have hw : MP.exec (callN P n) (S.whl (C.cmp .gt (C.var 1) (C.cst (D.int 0))) (Ss.cons (S.par [0, 1] (Cs.cons (C.var 1) (Cs.cons (C.bin .mod (C.blt .int1 (Cs.cons (C.var 0) Cs.nil)) (C.var 1)) Cs.nil))) Ss.nil)) [.val false (.int a.natAbs), .val false (.int b.natAbs)] = some (.ok .nxt, [.val false (.int (Nat.gcd a.natAbs b.natAbs : Nat)), .val false (.int 0)]) := by
    rw [x_whl]
    exact gcd_loop (callN P n) b.natAbs a.natAbs
  rw [callN, hP]
  simp [gcdFd, runF, MP.execs, ev_cst, ev_glb, ev_var, ev_tup, ev_lst, ev_dis0, ev_dis1, ev_bin, ev_neg, ev_boo, ev_not, ev_cmp, ev_chn, ev_ite, ev_idx, ev_slc, ev_call, ev_blt, ev_isi, ev_lstI, x_par, x_aug, x_seti, x_app, x_expr, x_ife, x_ret, x_retN, x_pas, x_brk, x_cnt, x_rse, x_nm, x_tp, evB, evIf, evO, evAs, evDs, evI, evT, evRs, bnd, ok, op1, op2, view, views, tru, frzM, frz, keepA, unslot, slotOf, putA, putAs, putD, nxtO, augD, setiD, appD, retA, asgT, asgTs, blts, liftO, bltD, absD, maxD, minD, int1D, lenD, gcdD, isiD, blsD, intsD, anyD, allD, sumD, tupleD, listD, strD, reprD, keyB, binD, cmpO, cmpD, datB, negD, idxD, getD, ixD, slcD, tyD, D.truth, D.shp, D.shps, D.eqv, D.eqvs, itemsD, rngD, zipO, enumO, intO, isND, doCall, lends, lendA, lentIx, backs, backS, maskS, mask1, e, hw]
theorem run_dice {P : Nat → Option Fd} {f : Nat} (hP : P f = some diceFd) (n : Nat) (t t1 : Bool) (ns : List Int) (k : Nat) (hk : k < 64) : ∃ d, callN P (n + 1) f [.val t (.lst (ns.map .int)), .val t1 (.int k)] = some (.ok (.frs d), [.non, .non]) ∧ Dice 0 d := by
  have hkb : bits 97 + bits (k : Int) < 1000000 := by
    have : bits (k : Int) < 64 := bits_small (by omega) (by omega)
    have h2 : bits 97 < 64 := by decide +kernel
    omega
  have hkb2 : bits 1033 + bits (k : Int) < 1000000 := by
    have : bits (k : Int) < 64 := bits_small (by omega) (by omega)
    have h2 : bits 1033 < 64 := by decide +kernel
    omega
  have p1 : bits (10000000000000000000000000000000000000000000000000000000000 : Int) + bits (1000000000000000000000000000000000000000000000000000000000000 : Int) < 1000000 := by decide +kernel
  have k3 : ∀ x : Int, bits (x.fmod 1152921504606846733) + bits 83 < 1000000 := fun x => by
    have := fmod_pos x (m := 1152921504606846733) (by omega)
    have : bits (x.fmod 1152921504606846733) < 64 := bits_small (by omega) (by omega)
    have h2 : bits 83 < 64 := by decide +kernel
    omega
  have k4 : bits 61 + bits 0 < 1000000 := by decide +kernel
  have k5 : bits 61 + bits 1 < 1000000 := by decide +kernel
  rw [callN, hP]
  have fin : ∀ a b : Int, Dice 0 (.lst [.int a, .int b, .int 0]) := fun a b => ⟨a, b, 0, rfl, by omega, by omega⟩
  by_cases h : k < ns.length
  · have hi : (k : Int) < (ns.length : Int) := by omega
    by_cases hc : ns[k] < 0
    · refine ⟨_, ?_, fin ((if -ns[k] - 10000000000000000 > 0 then -ns[k] - 10000000000000000 else 0).fmod 10000000000000000000000000000000000000000000000000000000000000000000000000000000000000000000000000000000000000000000000) ((-ns[k]).fmod 1152921504606846733 * 83 + 1033 * k + 61 + 29)⟩
      simp [diceFd, runF, MP.execs, ev_cst, ev_glb, ev_var, ev_tup, ev_lst, ev_dis0, ev_dis1, ev_bin, ev_neg, ev_boo, ev_not, ev_cmp, ev_chn, ev_ite, ev_idx, ev_slc, ev_call, ev_blt, ev_isi, ev_lstI, x_par, x_aug, x_seti, x_app, x_expr, x_ife, x_ret, x_retN, x_pas, x_brk, x_cnt, x_rse, x_nm, x_tp, evB, evIf, evO, evAs, evDs, evI, evT, evRs, bnd, ok, op1, op2, view, views, tru, frzM, frz, keepA, unslot, slotOf, putA, putAs, putD, nxtO, augD, setiD, appD, retA, asgT, asgTs, blts, liftO, bltD, absD, maxD, minD, int1D, lenD, gcdD, isiD, blsD, intsD, anyD, allD, sumD, tupleD, listD, strD, reprD, keyB, binD, cmpO, cmpD, datB, negD, idxD, getD, ixD, slcD, tyD, D.truth, D.shp, D.shps, D.eqv, D.eqvs, itemsD, rngD, zipO, enumO, intO, isND, doCall, lends, lendA, lentIx, backs, backS, maskS, mask1, hi, h, hc, hkb2, k3, k4, k5, p1]
    · refine ⟨_, ?_, fin ((if ns[k] - 10000000000000000 > 0 then ns[k] - 10000000000000000 else 0).fmod 10000000000000000000000000000000000000000000000000000000000000000000000000000000000000000000000000000000000000000000000) (ns[k].fmod 1152921504606846733 * 83 + 1033 * k + 29)⟩
      simp [diceFd, runF, MP.execs, ev_cst, ev_glb, ev_var, ev_tup, ev_lst, ev_dis0, ev_dis1, ev_bin, ev_neg, ev_boo, ev_not, ev_cmp, ev_chn, ev_ite, ev_idx, ev_slc, ev_call, ev_blt, ev_isi, ev_lstI, x_par, x_aug, x_seti, x_app, x_expr, x_ife, x_ret, x_retN, x_pas, x_brk, x_cnt, x_rse, x_nm, x_tp, evB, evIf, evO, evAs, evDs, evI, evT, evRs, bnd, ok, op1, op2, view, views, tru, frzM, frz, keepA, unslot, slotOf, putA, putAs, putD, nxtO, augD, setiD, appD, retA, asgT, asgTs, blts, liftO, bltD, absD, maxD, minD, int1D, lenD, gcdD, isiD, blsD, intsD, anyD, allD, sumD, tupleD, listD, strD, reprD, keyB, binD, cmpO, cmpD, datB, negD, idxD, getD, ixD, slcD, tyD, D.truth, D.shp, D.shps, D.eqv, D.eqvs, itemsD, rngD, zipO, enumO, intO, isND, doCall, lends, lendA, lentIx, backs, backS, maskS, mask1, hi, h, hc, hkb2, k3, k4, k5, p1]
  · have hi : ¬ (k : Int) < (ns.length : Int) := by omega
    have hc : ¬ (97 * (k : Int) + 59 < 0) := by omega
    refine ⟨_, ?_, fin ((if 97 * (k : Int) + 59 - 10000000000000000 > 0 then 97 * (k : Int) + 59 - 10000000000000000 else 0).fmod 10000000000000000000000000000000000000000000000000000000000000000000000000000000000000000000000000000000000000000000000) ((97 * (k : Int) + 59).fmod 1152921504606846733 * 83 + 1033 * k + 29)⟩
    simp [diceFd, runF, MP.execs, ev_cst, ev_glb, ev_var, ev_tup, ev_lst, ev_dis0, ev_dis1, ev_bin, ev_neg, ev_boo, ev_not, ev_cmp, ev_chn, ev_ite, ev_idx, ev_slc, ev_call, ev_blt, ev_isi, ev_lstI, x_par, x_aug, x_seti, x_app, x_expr, x_ife, x_ret, x_retN, x_pas, x_brk, x_cnt, x_rse, x_nm, x_tp, evB, evIf, evO, evAs, evDs, evI, evT, evRs, bnd, ok, op1, op2, view, views, tru, frzM, frz, keepA, unslot, slotOf, putA, putAs, putD, nxtO, augD, setiD, appD, retA, asgT, asgTs, blts, liftO, bltD, absD, maxD, minD, int1D, lenD, gcdD, isiD, blsD, intsD, anyD, allD, sumD, tupleD, listD, strD, reprD, keyB, binD, cmpO, cmpD, datB, negD, idxD, getD, ixD, slcD, tyD, D.truth, D.shp, D.shps, D.eqv, D.eqvs, itemsD, rngD, zipO, enumO, intO, isND, doCall, lends, lendA, lentIx, backs, backS, maskS, mask1, hi, h, hc, hkb, hkb2, k3, k4, k5, p1]
end MP
set_option Elab.async false
set_option linter.all false
set_option maxRecDepth 100000
set_option maxHeartbeats 4000000
/-! MP: the numbers of a ground (defs of the package that most laws reach), for any law -/
namespace MP
theorem mem_intsL {lo : Int} {n : Nat} {d : D} (h : d ∈ intsL lo n) : ∃ i, lo ≤ i ∧ i < lo + n ∧ d = .int i := by
  induction n generalizing lo with
  | zero => simp [intsL] at h
  | succ n ih =>
    rw [intsL, List.mem_cons] at h
    rcases h with h | h
    · exact ⟨lo, by omega, by omega, h⟩
    · obtain ⟨i, h1, h2, h3⟩ := ih h
      exact ⟨i, by omega, by omega, h3⟩
theorem of_intsL {lo i : Int} {n : Nat} (h1 : lo ≤ i) (h2 : i < lo + n) : D.int i ∈ intsL lo n := by
  induction n generalizing lo with
  | zero => omega
  | succ n ih =>
    rw [intsL, List.mem_cons]
    by_cases e : i = lo
    · exact .inl (by rw [e])
    · exact .inr (ih (by omega) (by omega))
theorem lenI (lo : Int) : ∀ n : Nat, (intsL lo n).length = n
  | 0 => rfl
  | n + 1 => by rw [intsL, List.length_cons, lenI]
theorem bls_map (p : D → Bool) : ∀ ds : List D, blsD (ds.map fun d => .bl (p d)) = some (ds.map p)
  | [] => rfl
  | d :: ds => by rw [List.map_cons, blsD, bls_map p ds]; rfl
theorem shps_all {k : Nat} : ∀ {ds : List D}, (∀ d ∈ ds, d.shp k = true) → D.shps k ds = true
  | [], _ => by simp [D.shps]
  | d :: ds, h => by
    simp only [D.shps, Bool.and_eq_true]
    exact ⟨h d (List.mem_cons_self ..), shps_all fun e he => h e (List.mem_cons_of_mem _ he)⟩
theorem shps_mem {k : Nat} : ∀ {ds : List D}, D.shps k ds = true → ∀ d ∈ ds, d.shp k = true
  | d :: ds, h, e, he => by
    simp only [D.shps, Bool.and_eq_true] at h
    rcases List.mem_cons.mp he with z | z
    · rw [z]; exact h.1
    · exact shps_mem h.2 e z
theorem eqvs_nil : ∀ ds : List D, D.eqvs ds [] = ds.isEmpty
  | [] => by simp [D.eqvs]
  | _ :: _ => by simp [D.eqvs]
/-- a written list, asked whether it is empty -/
theorem eq_nil {ds : List D} (h : D.shps 11 ds = true) : cmpD .eq (.lst ds) (.lst []) = some ds.isEmpty := by
  simp [cmpD, D.shp, D.shps, D.eqv, eqvs_nil, h]
theorem ne_nil {ds : List D} (h : D.shps 11 ds = true) : cmpD .ne (.lst ds) (.lst []) = some (!ds.isEmpty) := by
  simp [cmpD, D.shp, D.shps, D.eqv, eqvs_nil, h]
end MP
namespace MP
open PySem
def F_is_whole : Fd := ⟨"is_whole", 1, ["value"], (Ss.cons (S.ret (C.boo true (Cs.cons (C.isi [.int] (C.var 0)) (Cs.cons (C.not_ (C.isi [.bool] (C.var 0))) Cs.nil)))) Ss.nil)⟩
def F_is_integer (i_is_whole : Nat) : Fd := ⟨"is_integer", 1, ["value"], (Ss.cons (S.ret (C.boo true (Cs.cons (C.call i_is_whole [false] (Cs.cons (C.var 0) Cs.nil)) (Cs.cons (C.chn .lt .lt (C.neg (C.glb "FAR" (D.int 1000000000000000000000000000000000000000000000000000000000000))) (C.var 0) (C.glb "FAR" (D.int 1000000000000000000000000000000000000000000000000000000000000))) Cs.nil)))) Ss.nil)⟩
def F_is_within (i_is_whole : Nat) : Fd := ⟨"is_within", 3, ["value", "least", "most"], (Ss.cons (S.ret (C.boo true (Cs.cons (C.call i_is_whole [false] (Cs.cons (C.var 0) Cs.nil)) (Cs.cons (C.chn .le .le (C.var 1) (C.var 0) (C.var 2)) Cs.nil)))) Ss.nil)⟩
def F_has_divisor : Fd := ⟨"has_divisor", 1, ["number", "divisor"], (Ss.cons (S.ret (C.blt .any (Cs.cons (C.cmpr (C.cmp .eq (C.bin .mod (C.var 0) (C.var 1)) (C.cst (D.int 0))) (Tg.nm 1) (I.rng2 (C.cst (D.int 2)) (C.cst (D.int 100))) (CO.some (C.cmp .le (C.bin .mul (C.var 1) (C.var 1)) (C.var 0))) [1]) Cs.nil))) Ss.nil)⟩
def F_is_ground (i_has_divisor : Nat) (i_is_within : Nat) : Fd := ⟨"is_ground", 1, ["value"], (Ss.cons (S.ife (C.boo false (Cs.cons (C.not_ (C.call i_is_within [false, false, false] (Cs.cons (C.var 0) (Cs.cons (C.cst (D.int 0)) (Cs.cons (C.glb "MAX_GROUND" (D.int 9999)) Cs.nil))))) (Cs.cons (C.cmp .eq (C.var 0) (C.cst (D.int 1))) Cs.nil))) (Ss.cons (S.ret (C.cst (D.bl false))) Ss.nil) Ss.nil) (Ss.cons (S.ret (C.boo false (Cs.cons (C.cmp .eq (C.var 0) (C.cst (D.int 0))) (Cs.cons (C.not_ (C.call i_has_divisor [false] (Cs.cons (C.var 0) Cs.nil))) Cs.nil)))) Ss.nil))⟩
def F_is_number_up_to (i_is_whole : Nat) (i_is_within : Nat) : Fd := ⟨"is_number_up_to", 3, ["ground", "value", "bound", "part"], (Ss.cons (S.ife (C.cmp .ne (C.var 0) (C.cst (D.int 0))) (Ss.cons (S.ret (C.call i_is_within [false, false, false] (Cs.cons (C.var 1) (Cs.cons (C.cst (D.int 0)) (Cs.cons (C.bin .sub (C.var 0) (C.cst (D.int 1))) Cs.nil))))) Ss.nil) Ss.nil) (Ss.cons (S.ife (C.boo false (Cs.cons (C.not_ (C.isi [.tuple] (C.var 1))) (Cs.cons (C.cmp .ne (C.blt .len (Cs.cons (C.var 1) Cs.nil)) (C.glb "PAIR_SIZE" (D.int 2))) (Cs.cons (C.not_ (C.blt .all (Cs.cons (C.cmpr (C.call i_is_whole [false] (Cs.cons (C.var 3) Cs.nil)) (Tg.nm 3) (I.seq (C.var 1)) CO.none [3]) Cs.nil))) Cs.nil)))) (Ss.cons (S.ret (C.cst (D.bl false))) Ss.nil) Ss.nil) (Ss.cons (S.ret (C.boo true (Cs.cons (C.chn .lt .lt (C.cst (D.int 0)) (C.idx (C.var 1) (C.cst (D.int 1))) (C.var 2)) (Cs.cons (C.chn .lt .lt (C.neg (C.var 2)) (C.idx (C.var 1) (C.cst (D.int 0))) (C.var 2)) (Cs.cons (C.cmp .eq (C.blt .gcd (Cs.cons (C.idx (C.var 1) (C.cst (D.int 0))) (Cs.cons (C.idx (C.var 1) (C.cst (D.int 1))) Cs.nil))) (C.cst (D.int 1))) Cs.nil))))) Ss.nil)))⟩
def F_is_number_of (i_is_number_up_to : Nat) : Fd := ⟨"is_number_of", 2, ["ground", "value"], (Ss.cons (S.ret (C.call i_is_number_up_to [false, false, false] (Cs.cons (C.var 0) (Cs.cons (C.var 1) (Cs.cons (C.glb "FAR" (D.int 1000000000000000000000000000000000000000000000000000000000000)) Cs.nil))))) Ss.nil)⟩
def F_require_ground (i_is_ground : Nat) : Fd := ⟨"require_ground", 1, ["value"], (Ss.cons (S.ife (C.not_ (C.call i_is_ground [false] (Cs.cons (C.var 0) Cs.nil))) (Ss.cons (S.rse 1 (CO.some (C.var 0))) Ss.nil) Ss.nil) Ss.nil)⟩
def F_require_number (i_is_number_of : Nat) : Fd := ⟨"require_number", 2, ["ground", "value"], (Ss.cons (S.ife (C.not_ (C.call i_is_number_of [false, false] (Cs.cons (C.var 0) (Cs.cons (C.var 1) Cs.nil)))) (Ss.cons (S.rse 3 (CO.some (C.var 1))) Ss.nil) Ss.nil) Ss.nil)⟩
def F_require_integer (i_is_integer : Nat) : Fd := ⟨"require_integer", 1, ["value"], (Ss.cons (S.ife (C.not_ (C.call i_is_integer [false] (Cs.cons (C.var 0) Cs.nil))) (Ss.cons (S.rse 3 (CO.some (C.var 0))) Ss.nil) Ss.nil) Ss.nil)⟩
def F_require_within (i_is_within : Nat) : Fd := ⟨"require_within", 3, ["value", "least", "most"], (Ss.cons (S.ife (C.not_ (C.call i_is_within [false, false, false] (Cs.cons (C.var 0) (Cs.cons (C.var 1) (Cs.cons (C.var 2) Cs.nil))))) (Ss.cons (S.rse 3 (CO.some (C.var 0))) Ss.nil) Ss.nil) Ss.nil)⟩
def F_require_two_numbers (i_require_number : Nat) (i_require_ground : Nat) : Fd := ⟨"require_two_numbers", 3, ["ground", "one", "other"], (Ss.cons (S.expr (C.call i_require_ground [false] (Cs.cons (C.var 0) Cs.nil))) (Ss.cons (S.expr (C.call i_require_number [false, false] (Cs.cons (C.var 0) (Cs.cons (C.var 1) Cs.nil)))) (Ss.cons (S.expr (C.call i_require_number [false, false] (Cs.cons (C.var 0) (Cs.cons (C.var 2) Cs.nil)))) Ss.nil)))⟩
def F_fraction_in : Fd := ⟨"fraction_in", 2, ["top", "bottom", "shared"], (Ss.cons (S.asg (Tg.nm 2) (C.ite (C.cmp .gt (C.var 1) (C.cst (D.int 0))) (C.blt .gcd (Cs.cons (C.var 0) (Cs.cons (C.var 1) Cs.nil))) (C.neg (C.blt .gcd (Cs.cons (C.var 0) (Cs.cons (C.var 1) Cs.nil)))))) (Ss.cons (S.ret (C.tup (Cs.cons (C.bin .fdiv (C.var 0) (C.var 2)) (Cs.cons (C.bin .fdiv (C.var 1) (C.var 2)) Cs.nil)))) Ss.nil))⟩
def F_whole_in : Fd := ⟨"whole_in", 2, ["ground", "number"], (Ss.cons (S.ret (C.ite (C.cmp .eq (C.var 0) (C.cst (D.int 0))) (C.tup (Cs.cons (C.var 1) (Cs.cons (C.cst (D.int 1)) Cs.nil))) (C.bin .mod (C.var 1) (C.var 0)))) Ss.nil)⟩
def F_zero (i_whole_in : Nat) : Fd := ⟨"zero", 1, ["ground"], (Ss.cons (S.ret (C.call i_whole_in [false, false] (Cs.cons (C.var 0) (Cs.cons (C.cst (D.int 0)) Cs.nil)))) Ss.nil)⟩
def F_unit (i_whole_in : Nat) : Fd := ⟨"unit", 1, ["ground"], (Ss.cons (S.ret (C.call i_whole_in [false, false] (Cs.cons (C.var 0) (Cs.cons (C.cst (D.int 1)) Cs.nil)))) Ss.nil)⟩
def F_is_zero (i_zero : Nat) : Fd := ⟨"is_zero", 2, ["ground", "one"], (Ss.cons (S.ret (C.cmp .eq (C.var 1) (C.call i_zero [false] (Cs.cons (C.var 0) Cs.nil)))) Ss.nil)⟩
def F_plus (i_fraction_in : Nat) : Fd := ⟨"plus", 3, ["ground", "one", "other"], (Ss.cons (S.ife (C.cmp .ne (C.var 0) (C.cst (D.int 0))) (Ss.cons (S.ret (C.bin .mod (C.bin .add (C.var 1) (C.var 2)) (C.var 0))) Ss.nil) Ss.nil) (Ss.cons (S.ret (C.call i_fraction_in [false, false] (Cs.cons (C.bin .add (C.bin .mul (C.idx (C.var 1) (C.cst (D.int 0))) (C.idx (C.var 2) (C.cst (D.int 1)))) (C.bin .mul (C.idx (C.var 2) (C.cst (D.int 0))) (C.idx (C.var 1) (C.cst (D.int 1))))) (Cs.cons (C.bin .mul (C.idx (C.var 1) (C.cst (D.int 1))) (C.idx (C.var 2) (C.cst (D.int 1)))) Cs.nil)))) Ss.nil))⟩
def F_opposite : Fd := ⟨"opposite", 2, ["ground", "one"], (Ss.cons (S.ret (C.ite (C.cmp .eq (C.var 0) (C.cst (D.int 0))) (C.tup (Cs.cons (C.neg (C.idx (C.var 1) (C.cst (D.int 0)))) (Cs.cons (C.idx (C.var 1) (C.cst (D.int 1))) Cs.nil))) (C.bin .mod (C.neg (C.var 1)) (C.var 0)))) Ss.nil)⟩
def F_minus (i_plus : Nat) (i_opposite : Nat) : Fd := ⟨"minus", 3, ["ground", "one", "other"], (Ss.cons (S.ret (C.call i_plus [false, false, false] (Cs.cons (C.var 0) (Cs.cons (C.var 1) (Cs.cons (C.call i_opposite [false, false] (Cs.cons (C.var 0) (Cs.cons (C.var 2) Cs.nil))) Cs.nil))))) Ss.nil)⟩
def F_times (i_fraction_in : Nat) : Fd := ⟨"times", 3, ["ground", "one", "other"], (Ss.cons (S.ife (C.cmp .ne (C.var 0) (C.cst (D.int 0))) (Ss.cons (S.ret (C.bin .mod (C.bin .mul (C.var 1) (C.var 2)) (C.var 0))) Ss.nil) Ss.nil) (Ss.cons (S.ret (C.call i_fraction_in [false, false] (Cs.cons (C.bin .mul (C.idx (C.var 1) (C.cst (D.int 0))) (C.idx (C.var 2) (C.cst (D.int 0)))) (Cs.cons (C.bin .mul (C.idx (C.var 1) (C.cst (D.int 1))) (C.idx (C.var 2) (C.cst (D.int 1)))) Cs.nil)))) Ss.nil))⟩
def F_undone (i_fraction_in : Nat) (i_undone_rest : Nat) : Fd := ⟨"undone", 2, ["ground", "one"], (Ss.cons (S.ret (C.ite (C.cmp .eq (C.var 0) (C.cst (D.int 0))) (C.call i_fraction_in [false, false] (Cs.cons (C.idx (C.var 1) (C.cst (D.int 1))) (Cs.cons (C.idx (C.var 1) (C.cst (D.int 0))) Cs.nil))) (C.call i_undone_rest [false, false] (Cs.cons (C.var 1) (Cs.cons (C.var 0) Cs.nil))))) Ss.nil)⟩
def F_over (i_times : Nat) (i_undone : Nat) : Fd := ⟨"over", 3, ["ground", "one", "other"], (Ss.cons (S.ret (C.call i_times [false, false, false] (Cs.cons (C.var 0) (Cs.cons (C.var 1) (Cs.cons (C.call i_undone [false, false] (Cs.cons (C.var 0) (Cs.cons (C.var 2) Cs.nil))) Cs.nil))))) Ss.nil)⟩
def F_divisor_in : Fd := ⟨"divisor_in", 2, ["one", "other", "here", "there", "first", "second", "left", "right", "factor"], (Ss.cons (S.asg (Tg.tp (Tgs.cons (Tg.nm 2) (Tgs.cons (Tg.nm 3) (Tgs.cons (Tg.nm 4) (Tgs.cons (Tg.nm 5) (Tgs.cons (Tg.nm 6) (Tgs.cons (Tg.nm 7) Tgs.nil))))))) (C.tup (Cs.cons (C.var 0) (Cs.cons (C.var 1) (Cs.cons (C.cst (D.int 1)) (Cs.cons (C.cst (D.int 0)) (Cs.cons (C.cst (D.int 0)) (Cs.cons (C.cst (D.int 1)) Cs.nil)))))))) (Ss.cons (S.whl (C.cmp .ne (C.var 3) (C.cst (D.int 0))) (Ss.cons (S.asg (Tg.nm 8) (C.bin .fdiv (C.var 2) (C.var 3))) (Ss.cons (S.par [2, 3] (Cs.cons (C.var 3) (Cs.cons (C.bin .sub (C.var 2) (C.bin .mul (C.var 8) (C.var 3))) Cs.nil))) (Ss.cons (S.par [4, 6] (Cs.cons (C.var 6) (Cs.cons (C.bin .sub (C.var 4) (C.bin .mul (C.var 8) (C.var 6))) Cs.nil))) (Ss.cons (S.par [5, 7] (Cs.cons (C.var 7) (Cs.cons (C.bin .sub (C.var 5) (C.bin .mul (C.var 8) (C.var 7))) Cs.nil))) Ss.nil))))) (Ss.cons (S.ret (C.ite (C.cmp .ge (C.var 2) (C.cst (D.int 0))) (C.tup (Cs.cons (C.var 4) (Cs.cons (C.var 5) (Cs.cons (C.var 2) Cs.nil)))) (C.tup (Cs.cons (C.neg (C.var 4)) (Cs.cons (C.neg (C.var 5)) (Cs.cons (C.neg (C.var 2)) Cs.nil)))))) Ss.nil)))⟩
def F_undone_rest (i_divisor_in : Nat) : Fd := ⟨"undone_rest", 2, ["number", "modulus"], (Ss.cons (S.ret (C.bin .mod (C.idx (C.call i_divisor_in [false, false] (Cs.cons (C.var 0) (Cs.cons (C.var 1) Cs.nil))) (C.cst (D.int 0))) (C.var 1))) Ss.nil)⟩
def F_law_fraction (i_law_gcd : Nat) : Fd := ⟨"_law_fraction", 2, ["_law_top", "_law_bottom", "_law_shared"], (Ss.cons (S.asg (Tg.nm 2) (C.call i_law_gcd [false, false] (Cs.cons (C.var 0) (Cs.cons (C.var 1) Cs.nil)))) (Ss.cons (S.ife (C.cmp .lt (C.var 1) (C.cst (D.int 0))) (Ss.cons (S.asg (Tg.nm 2) (C.neg (C.var 2))) Ss.nil) Ss.nil) (Ss.cons (S.ret (C.tup (Cs.cons (C.bin .fdiv (C.var 0) (C.var 2)) (Cs.cons (C.bin .fdiv (C.var 1) (C.var 2)) Cs.nil)))) Ss.nil)))⟩
section
variable {P : Nat → Option Fd}
def isW : D → Bool
  | .int _ => true
  | _ => false
theorem run_whole {iw : Nat} (hw : P iw = some F_is_whole) (n : Nat) (t : Bool) (x : D) : callN P (n + 1) iw [.val t x] = some (.ok (.dat (.bl (isW x))), [.non]) := by
  rw [callN]
  cases x <;> simp [hw, F_is_whole, runF, MP.execs, ev_cst, ev_glb, ev_var, ev_tup, ev_lst, ev_dis0, ev_dis1, ev_bin, ev_neg, ev_boo, ev_not, ev_cmp, ev_chn, ev_ite, ev_idx, ev_slc, ev_call, ev_blt, ev_isi, ev_lstI, x_par, x_aug, x_seti, x_app, x_expr, x_ife, x_ret, x_retN, x_pas, x_brk, x_cnt, x_rse, x_nm, x_tp, evB, evIf, evO, evAs, evDs, evI, evT, evRs, bnd, ok, op1, op2, view, views, tru, frzM, frz, keepA, unslot, slotOf, putA, putAs, putD, nxtO, augD, setiD, appD, retA, asgT, asgTs, blts, liftO, bltD, absD, maxD, minD, int1D, lenD, gcdD, isiD, blsD, intsD, anyD, allD, sumD, tupleD, listD, strD, reprD, keyB, binD, cmpO, cmpD, datB, negD, idxD, getD, ixD, slcD, tyD, D.truth, D.shp, D.shps, D.eqv, D.eqvs, itemsD, rngD, zipO, enumO, intO, isND, doCall, lends, lendA, lentIx, backs, backS, maskS, mask1, isW]
def within (x : D) (a b : Int) : Bool := match x with
  | .int i => decide (a ≤ i ∧ i ≤ b)
  | _ => false
theorem run_within {iw im : Nat} (hw : P iw = some F_is_whole) (hm : P im = some (F_is_within iw)) (n : Nat) (t t1 t2 : Bool) (x : D) (a b : Int) : callN P (n + 2) im [.val t x, .val t1 (.int a), .val t2 (.int b)] = some (.ok (.dat (.bl (within x a b))), [.non, .non, .non]) := by
  rw [callN]
  cases x <;> simp [hm, F_is_within, runF, MP.execs, ev_cst, ev_glb, ev_var, ev_tup, ev_lst, ev_dis0, ev_dis1, ev_bin, ev_neg, ev_boo, ev_not, ev_cmp, ev_chn, ev_ite, ev_idx, ev_slc, ev_call, ev_blt, ev_isi, ev_lstI, x_par, x_aug, x_seti, x_app, x_expr, x_ife, x_ret, x_retN, x_pas, x_brk, x_cnt, x_rse, x_nm, x_tp, evB, evIf, evO, evAs, evDs, evI, evT, evRs, bnd, ok, op1, op2, view, views, tru, frzM, frz, keepA, unslot, slotOf, putA, putAs, putD, nxtO, augD, setiD, appD, retA, asgT, asgTs, blts, liftO, bltD, absD, maxD, minD, int1D, lenD, gcdD, isiD, blsD, intsD, anyD, allD, sumD, tupleD, listD, strD, reprD, keyB, binD, cmpO, cmpD, datB, negD, idxD, getD, ixD, slcD, tyD, D.truth, D.shp, D.shps, D.eqv, D.eqvs, itemsD, rngD, zipO, enumO, intO, isND, doCall, lends, lendA, lentIx, backs, backS, maskS, mask1, isW, run_whole hw, within]
  rename_i i
  by_cases h : a ≤ i <;> simp [h]
def FAR : Int := 1000000000000000000000000000000000000000000000000000000000000
def integerB (x : D) : Bool := match x with
  | .int i => decide (-FAR < i ∧ i < FAR)
  | _ => false
theorem run_integer {iw ii : Nat} (hw : P iw = some F_is_whole) (hi : P ii = some (F_is_integer iw)) (n : Nat) (t : Bool) (x : D) : callN P (n + 2) ii [.val t x] = some (.ok (.dat (.bl (integerB x))), [.non]) := by
  rw [callN]
  cases x <;> simp [hi, F_is_integer, runF, MP.execs, ev_cst, ev_glb, ev_var, ev_tup, ev_lst, ev_dis0, ev_dis1, ev_bin, ev_neg, ev_boo, ev_not, ev_cmp, ev_chn, ev_ite, ev_idx, ev_slc, ev_call, ev_blt, ev_isi, ev_lstI, x_par, x_aug, x_seti, x_app, x_expr, x_ife, x_ret, x_retN, x_pas, x_brk, x_cnt, x_rse, x_nm, x_tp, evB, evIf, evO, evAs, evDs, evI, evT, evRs, bnd, ok, op1, op2, view, views, tru, frzM, frz, keepA, unslot, slotOf, putA, putAs, putD, nxtO, augD, setiD, appD, retA, asgT, asgTs, blts, liftO, bltD, absD, maxD, minD, int1D, lenD, gcdD, isiD, blsD, intsD, anyD, allD, sumD, tupleD, listD, strD, reprD, keyB, binD, cmpO, cmpD, datB, negD, idxD, getD, ixD, slcD, tyD, D.truth, D.shp, D.shps, D.eqv, D.eqvs, itemsD, rngD, zipO, enumO, intO, isND, doCall, lends, lendA, lentIx, backs, backS, maskS, mask1, isW, run_whole hw, integerB, FAR]
  rename_i i
  by_cases h : (-1000000000000000000000000000000000000000000000000000000000000 : Int) < i <;> simp [h]
/-- some d of 2 .. 99 with d * d ≤ v divides v -/
def hasDiv (v : Int) : Bool := (((intsL 2 98).filter fun d => match d with | .int i => decide (i * i ≤ v) | _ => false).map fun d => match d with | .int i => decide (v.fmod i = 0) | _ => false).any id
theorem run_hasdiv {ih : Nat} (hh : P ih = some F_has_divisor) (n : Nat) (t : Bool) (v : Int) : callN P (n + 1) ih [.val t (.int v)] = some (.ok (.dat (.bl (hasDiv v))), [.non]) := by
  rw [callN]
  have hc := ev_comp (call := callN P n) (elt := C.cmp .eq (C.bin .mod (C.var 0) (C.var 1)) (C.cst (D.int 0))) (tg := Tg.nm 1) (it := I.rng2 (C.cst (D.int 2)) (C.cst (D.int 100))) (ifs := CO.some (C.cmp .le (C.bin .mul (C.var 1) (C.var 1)) (C.var 0))) (own := [1])
    (ρ := [.val t (.int v), .non]) (ρ1 := [.val t (.int v), .non]) (ds := intsL 2 98) (fun d => match d with | .int i => decide (i * i ≤ v) | _ => false) (fun d => .bl (match d with | .int i => decide (v.fmod i = 0) | _ => false))
    (by simp [runF, MP.execs, ev_cst, ev_glb, ev_var, ev_tup, ev_lst, ev_dis0, ev_dis1, ev_bin, ev_neg, ev_boo, ev_not, ev_cmp, ev_chn, ev_ite, ev_idx, ev_slc, ev_call, ev_blt, ev_isi, ev_lstI, x_par, x_aug, x_seti, x_app, x_expr, x_ife, x_ret, x_retN, x_pas, x_brk, x_cnt, x_rse, x_nm, x_tp, evB, evIf, evO, evAs, evDs, evI, evT, evRs, bnd, ok, op1, op2, view, views, tru, frzM, frz, keepA, unslot, slotOf, putA, putAs, putD, nxtO, augD, setiD, appD, retA, asgT, asgTs, blts, liftO, bltD, absD, maxD, minD, int1D, lenD, gcdD, isiD, blsD, intsD, anyD, allD, sumD, tupleD, listD, strD, reprD, keyB, binD, cmpO, cmpD, datB, negD, idxD, getD, ixD, slcD, tyD, D.truth, D.shp, D.shps, D.eqv, D.eqvs, itemsD, rngD, zipO, enumO, intO, isND, doCall, lends, lendA, lentIx, backs, backS, maskS, mask1, smallI]) (by rw [lenI]; decide) (fun d hd => by
      obtain ⟨i, h1, h2, rfl⟩ := mem_intsL hd
      have hb : bits i + bits i < 1000000 := by
        have : bits i < 64 := bits_small (by omega) (by omega)
        omega
      refine ⟨[.val t (.int v), .val false (.int i)], by simp [runF, MP.execs, ev_cst, ev_glb, ev_var, ev_tup, ev_lst, ev_dis0, ev_dis1, ev_bin, ev_neg, ev_boo, ev_not, ev_cmp, ev_chn, ev_ite, ev_idx, ev_slc, ev_call, ev_blt, ev_isi, ev_lstI, x_par, x_aug, x_seti, x_app, x_expr, x_ife, x_ret, x_retN, x_pas, x_brk, x_cnt, x_rse, x_nm, x_tp, evB, evIf, evO, evAs, evDs, evI, evT, evRs, bnd, ok, op1, op2, view, views, tru, frzM, frz, keepA, unslot, slotOf, putA, putAs, putD, nxtO, augD, setiD, appD, retA, asgT, asgTs, blts, liftO, bltD, absD, maxD, minD, int1D, lenD, gcdD, isiD, blsD, intsD, anyD, allD, sumD, tupleD, listD, strD, reprD, keyB, binD, cmpO, cmpD, datB, negD, idxD, getD, ixD, slcD, tyD, D.truth, D.shp, D.shps, D.eqv, D.eqvs, itemsD, rngD, zipO, enumO, intO, isND, doCall, lends, lendA, lentIx, backs, backS, maskS, mask1, wipeR], [.val t (.int v), .val false (.int i)], by simp [runF, MP.execs, ev_cst, ev_glb, ev_var, ev_tup, ev_lst, ev_dis0, ev_dis1, ev_bin, ev_neg, ev_boo, ev_not, ev_cmp, ev_chn, ev_ite, ev_idx, ev_slc, ev_call, ev_blt, ev_isi, ev_lstI, x_par, x_aug, x_seti, x_app, x_expr, x_ife, x_ret, x_retN, x_pas, x_brk, x_cnt, x_rse, x_nm, x_tp, evB, evIf, evO, evAs, evDs, evI, evT, evRs, bnd, ok, op1, op2, view, views, tru, frzM, frz, keepA, unslot, slotOf, putA, putAs, putD, nxtO, augD, setiD, appD, retA, asgT, asgTs, blts, liftO, bltD, absD, maxD, minD, int1D, lenD, gcdD, isiD, blsD, intsD, anyD, allD, sumD, tupleD, listD, strD, reprD, keyB, binD, cmpO, cmpD, datB, negD, idxD, getD, ixD, slcD, tyD, D.truth, D.shp, D.shps, D.eqv, D.eqvs, itemsD, rngD, zipO, enumO, intO, isND, doCall, lends, lendA, lentIx, backs, backS, maskS, mask1, hb], ?_⟩
      by_cases hk : i * i ≤ v
      · simp only [hk, decide_true, if_true]
        have h0 : i ≠ 0 := by omega
        exact ⟨[.val t (.int v), .val false (.int i)], by simp [runF, MP.execs, ev_cst, ev_glb, ev_var, ev_tup, ev_lst, ev_dis0, ev_dis1, ev_bin, ev_neg, ev_boo, ev_not, ev_cmp, ev_chn, ev_ite, ev_idx, ev_slc, ev_call, ev_blt, ev_isi, ev_lstI, x_par, x_aug, x_seti, x_app, x_expr, x_ife, x_ret, x_retN, x_pas, x_brk, x_cnt, x_rse, x_nm, x_tp, evB, evIf, evO, evAs, evDs, evI, evT, evRs, bnd, ok, op1, op2, view, views, tru, frzM, frz, keepA, unslot, slotOf, putA, putAs, putD, nxtO, augD, setiD, appD, retA, asgT, asgTs, blts, liftO, bltD, absD, maxD, minD, int1D, lenD, gcdD, isiD, blsD, intsD, anyD, allD, sumD, tupleD, listD, strD, reprD, keyB, binD, cmpO, cmpD, datB, negD, idxD, getD, ixD, slcD, tyD, D.truth, D.shp, D.shps, D.eqv, D.eqvs, itemsD, rngD, zipO, enumO, intO, isND, doCall, lends, lendA, lentIx, backs, backS, maskS, mask1, h0, D.shp, D.eqv, Bool.beq_eq_decide_eq], by simp [wipeR]⟩
      · simp only [hk, decide_false]
        simp [wipeR])
  simp [hh, F_has_divisor, runF, MP.execs, ev_cst, ev_glb, ev_var, ev_tup, ev_lst, ev_dis0, ev_dis1, ev_bin, ev_neg, ev_boo, ev_not, ev_cmp, ev_chn, ev_ite, ev_idx, ev_slc, ev_call, ev_blt, ev_isi, ev_lstI, x_par, x_aug, x_seti, x_app, x_expr, x_ife, x_ret, x_retN, x_pas, x_brk, x_cnt, x_rse, x_nm, x_tp, evB, evIf, evO, evAs, evDs, evI, evT, evRs, bnd, ok, op1, op2, view, views, tru, frzM, frz, keepA, unslot, slotOf, putA, putAs, putD, nxtO, augD, setiD, appD, retA, asgT, asgTs, blts, liftO, bltD, absD, maxD, minD, int1D, lenD, gcdD, isiD, blsD, intsD, anyD, allD, sumD, tupleD, listD, strD, reprD, keyB, binD, cmpO, cmpD, datB, negD, idxD, getD, ixD, slcD, tyD, D.truth, D.shp, D.shps, D.eqv, D.eqvs, itemsD, rngD, zipO, enumO, intO, isND, doCall, lends, lendA, lentIx, backs, backS, maskS, mask1, hc, bls_map, hasDiv]

def groundB (x : D) : Bool := match x with
  | .int i => decide (0 ≤ i ∧ i ≤ 9999) && decide (i ≠ 1) && (decide (i = 0) || !hasDiv i)
  | _ => false
theorem run_ground {iw im ih ig : Nat} (hw : P iw = some F_is_whole) (hm : P im = some (F_is_within iw)) (hh : P ih = some F_has_divisor) (hg : P ig = some (F_is_ground ih im)) (n : Nat) (t : Bool) (x : D) : callN P (n + 3) ig [.val t x] = some (.ok (.dat (.bl (groundB x))), [.non]) := by
  rw [callN]
  cases x with
  | int i =>
    by_cases h : 0 ≤ i ∧ i ≤ 9999
    · by_cases h1 : i = 1
      · subst h1
        simp [hg, F_is_ground, runF, MP.execs, ev_cst, ev_glb, ev_var, ev_tup, ev_lst, ev_dis0, ev_dis1, ev_bin, ev_neg, ev_boo, ev_not, ev_cmp, ev_chn, ev_ite, ev_idx, ev_slc, ev_call, ev_blt, ev_isi, ev_lstI, x_par, x_aug, x_seti, x_app, x_expr, x_ife, x_ret, x_retN, x_pas, x_brk, x_cnt, x_rse, x_nm, x_tp, evB, evIf, evO, evAs, evDs, evI, evT, evRs, bnd, ok, op1, op2, view, views, tru, frzM, frz, keepA, unslot, slotOf, putA, putAs, putD, nxtO, augD, setiD, appD, retA, asgT, asgTs, blts, liftO, bltD, absD, maxD, minD, int1D, lenD, gcdD, isiD, blsD, intsD, anyD, allD, sumD, tupleD, listD, strD, reprD, keyB, binD, cmpO, cmpD, datB, negD, idxD, getD, ixD, slcD, tyD, D.truth, D.shp, D.shps, D.eqv, D.eqvs, itemsD, rngD, zipO, enumO, intO, isND, doCall, lends, lendA, lentIx, backs, backS, maskS, mask1, run_within hw hm, within, groundB]
      · by_cases h0 : i = 0
        · subst h0
          simp [hg, F_is_ground, runF, MP.execs, ev_cst, ev_glb, ev_var, ev_tup, ev_lst, ev_dis0, ev_dis1, ev_bin, ev_neg, ev_boo, ev_not, ev_cmp, ev_chn, ev_ite, ev_idx, ev_slc, ev_call, ev_blt, ev_isi, ev_lstI, x_par, x_aug, x_seti, x_app, x_expr, x_ife, x_ret, x_retN, x_pas, x_brk, x_cnt, x_rse, x_nm, x_tp, evB, evIf, evO, evAs, evDs, evI, evT, evRs, bnd, ok, op1, op2, view, views, tru, frzM, frz, keepA, unslot, slotOf, putA, putAs, putD, nxtO, augD, setiD, appD, retA, asgT, asgTs, blts, liftO, bltD, absD, maxD, minD, int1D, lenD, gcdD, isiD, blsD, intsD, anyD, allD, sumD, tupleD, listD, strD, reprD, keyB, binD, cmpO, cmpD, datB, negD, idxD, getD, ixD, slcD, tyD, D.truth, D.shp, D.shps, D.eqv, D.eqvs, itemsD, rngD, zipO, enumO, intO, isND, doCall, lends, lendA, lentIx, backs, backS, maskS, mask1, run_within hw hm, within, groundB]
        · simp [hg, F_is_ground, runF, MP.execs, ev_cst, ev_glb, ev_var, ev_tup, ev_lst, ev_dis0, ev_dis1, ev_bin, ev_neg, ev_boo, ev_not, ev_cmp, ev_chn, ev_ite, ev_idx, ev_slc, ev_call, ev_blt, ev_isi, ev_lstI, x_par, x_aug, x_seti, x_app, x_expr, x_ife, x_ret, x_retN, x_pas, x_brk, x_cnt, x_rse, x_nm, x_tp, evB, evIf, evO, evAs, evDs, evI, evT, evRs, bnd, ok, op1, op2, view, views, tru, frzM, frz, keepA, unslot, slotOf, putA, putAs, putD, nxtO, augD, setiD, appD, retA, asgT, asgTs, blts, liftO, bltD, absD, maxD, minD, int1D, lenD, gcdD, isiD, blsD, intsD, anyD, allD, sumD, tupleD, listD, strD, reprD, keyB, binD, cmpO, cmpD, datB, negD, idxD, getD, ixD, slcD, tyD, D.truth, D.shp, D.shps, D.eqv, D.eqvs, itemsD, rngD, zipO, enumO, intO, isND, doCall, lends, lendA, lentIx, backs, backS, maskS, mask1, run_within hw hm, run_hasdiv hh, within, groundB, h, h1, h0]
    · simp [hg, F_is_ground, runF, MP.execs, ev_cst, ev_glb, ev_var, ev_tup, ev_lst, ev_dis0, ev_dis1, ev_bin, ev_neg, ev_boo, ev_not, ev_cmp, ev_chn, ev_ite, ev_idx, ev_slc, ev_call, ev_blt, ev_isi, ev_lstI, x_par, x_aug, x_seti, x_app, x_expr, x_ife, x_ret, x_retN, x_pas, x_brk, x_cnt, x_rse, x_nm, x_tp, evB, evIf, evO, evAs, evDs, evI, evT, evRs, bnd, ok, op1, op2, view, views, tru, frzM, frz, keepA, unslot, slotOf, putA, putAs, putD, nxtO, augD, setiD, appD, retA, asgT, asgTs, blts, liftO, bltD, absD, maxD, minD, int1D, lenD, gcdD, isiD, blsD, intsD, anyD, allD, sumD, tupleD, listD, strD, reprD, keyB, binD, cmpO, cmpD, datB, negD, idxD, getD, ixD, slcD, tyD, D.truth, D.shp, D.shps, D.eqv, D.eqvs, itemsD, rngD, zipO, enumO, intO, isND, doCall, lends, lendA, lentIx, backs, backS, maskS, mask1, run_within hw hm, within, groundB, h]
  | _ => simp [hg, F_is_ground, runF, MP.execs, ev_cst, ev_glb, ev_var, ev_tup, ev_lst, ev_dis0, ev_dis1, ev_bin, ev_neg, ev_boo, ev_not, ev_cmp, ev_chn, ev_ite, ev_idx, ev_slc, ev_call, ev_blt, ev_isi, ev_lstI, x_par, x_aug, x_seti, x_app, x_expr, x_ife, x_ret, x_retN, x_pas, x_brk, x_cnt, x_rse, x_nm, x_tp, evB, evIf, evO, evAs, evDs, evI, evT, evRs, bnd, ok, op1, op2, view, views, tru, frzM, frz, keepA, unslot, slotOf, putA, putAs, putD, nxtO, augD, setiD, appD, retA, asgT, asgTs, blts, liftO, bltD, absD, maxD, minD, int1D, lenD, gcdD, isiD, blsD, intsD, anyD, allD, sumD, tupleD, listD, strD, reprD, keyB, binD, cmpO, cmpD, datB, negD, idxD, getD, ixD, slcD, tyD, D.truth, D.shp, D.shps, D.eqv, D.eqvs, itemsD, rngD, zipO, enumO, intO, isND, doCall, lends, lendA, lentIx, backs, backS, maskS, mask1, run_within hw hm, within, groundB]
def numB (g : Int) (x : D) (b : Int) : Bool := if g ≠ 0 then within x 0 (g - 1) else match x with
  | .tup [.int a, .int c] => decide (0 < c ∧ c < b) && decide (-b < a ∧ a < b) && decide ((Nat.gcd a.natAbs c.natAbs : Int) = 1)
  | _ => false
theorem run_upto {iw im iu : Nat} (hw : P iw = some F_is_whole) (hm : P im = some (F_is_within iw)) (hu : P iu = some (F_is_number_up_to iw im)) (n : Nat) (t t1 t2 : Bool) (g b : Int) (x : D) : callN P (n + 3) iu [.val t (.int g), .val t1 x, .val t2 (.int b)] = some (.ok (.dat (.bl (numB g x b))), [.non, .non, .non]) := by
  rw [callN]
  by_cases hg : g = 0
  · subst hg
    cases x with
    | tup xs =>
      have hc : xs.length = 2 → ev (callN P (n + 2)) (C.cmpr (C.call iw [false] (Cs.cons (C.var 3) Cs.nil)) (Tg.nm 3) (I.seq (C.var 1)) CO.none [3]) [.val t (.int 0), .val t1 (.tup xs), .val t2 (.int b), .non] = some (.ok (.frs (.lst (xs.map fun d => .bl (isW d)))), [.val t (.int 0), .val t1 (.tup xs), .val t2 (.int b), .non]) := fun hl => by
        have := ev_comp (call := callN P (n + 2)) (elt := C.call iw [false] (Cs.cons (C.var 3) Cs.nil)) (tg := Tg.nm 3) (it := I.seq (C.var 1)) (ifs := CO.none) (own := [3]) (ρ := [.val t (.int 0), .val t1 (.tup xs), .val t2 (.int b), .non]) (ρ1 := [.val t (.int 0), .val t1 (.tup xs), .val t2 (.int b), .non]) (ds := xs) (fun _ => true) (fun d => .bl (isW d))
          (by simp [runF, MP.execs, ev_cst, ev_glb, ev_var, ev_tup, ev_lst, ev_dis0, ev_dis1, ev_bin, ev_neg, ev_boo, ev_not, ev_cmp, ev_chn, ev_ite, ev_idx, ev_slc, ev_call, ev_blt, ev_isi, ev_lstI, x_par, x_aug, x_seti, x_app, x_expr, x_ife, x_ret, x_retN, x_pas, x_brk, x_cnt, x_rse, x_nm, x_tp, evB, evIf, evO, evAs, evDs, evI, evT, evRs, bnd, ok, op1, op2, view, views, tru, frzM, frz, keepA, unslot, slotOf, putA, putAs, putD, nxtO, augD, setiD, appD, retA, asgT, asgTs, blts, liftO, bltD, absD, maxD, minD, int1D, lenD, gcdD, isiD, blsD, intsD, anyD, allD, sumD, tupleD, listD, strD, reprD, keyB, binD, cmpO, cmpD, datB, negD, idxD, getD, ixD, slcD, tyD, D.truth, D.shp, D.shps, D.eqv, D.eqvs, itemsD, rngD, zipO, enumO, intO, isND, doCall, lends, lendA, lentIx, backs, backS, maskS, mask1]) (by omega) (fun d hd => ⟨[.val t (.int 0), .val t1 (.tup xs), .val t2 (.int b), .val false d], by simp [runF, MP.execs, ev_cst, ev_glb, ev_var, ev_tup, ev_lst, ev_dis0, ev_dis1, ev_bin, ev_neg, ev_boo, ev_not, ev_cmp, ev_chn, ev_ite, ev_idx, ev_slc, ev_call, ev_blt, ev_isi, ev_lstI, x_par, x_aug, x_seti, x_app, x_expr, x_ife, x_ret, x_retN, x_pas, x_brk, x_cnt, x_rse, x_nm, x_tp, evB, evIf, evO, evAs, evDs, evI, evT, evRs, bnd, ok, op1, op2, view, views, tru, frzM, frz, keepA, unslot, slotOf, putA, putAs, putD, nxtO, augD, setiD, appD, retA, asgT, asgTs, blts, liftO, bltD, absD, maxD, minD, int1D, lenD, gcdD, isiD, blsD, intsD, anyD, allD, sumD, tupleD, listD, strD, reprD, keyB, binD, cmpO, cmpD, datB, negD, idxD, getD, ixD, slcD, tyD, D.truth, D.shp, D.shps, D.eqv, D.eqvs, itemsD, rngD, zipO, enumO, intO, isND, doCall, lends, lendA, lentIx, backs, backS, maskS, mask1, wipeR], _, rfl, by
            rw [if_pos rfl]
            exact ⟨[.val t (.int 0), .val t1 (.tup xs), .val t2 (.int b), .val false d], by simp [runF, MP.execs, ev_cst, ev_glb, ev_var, ev_tup, ev_lst, ev_dis0, ev_dis1, ev_bin, ev_neg, ev_boo, ev_not, ev_cmp, ev_chn, ev_ite, ev_idx, ev_slc, ev_call, ev_blt, ev_isi, ev_lstI, x_par, x_aug, x_seti, x_app, x_expr, x_ife, x_ret, x_retN, x_pas, x_brk, x_cnt, x_rse, x_nm, x_tp, evB, evIf, evO, evAs, evDs, evI, evT, evRs, bnd, ok, op1, op2, view, views, tru, frzM, frz, keepA, unslot, slotOf, putA, putAs, putD, nxtO, augD, setiD, appD, retA, asgT, asgTs, blts, liftO, bltD, absD, maxD, minD, int1D, lenD, gcdD, isiD, blsD, intsD, anyD, allD, sumD, tupleD, listD, strD, reprD, keyB, binD, cmpO, cmpD, datB, negD, idxD, getD, ixD, slcD, tyD, D.truth, D.shp, D.shps, D.eqv, D.eqvs, itemsD, rngD, zipO, enumO, intO, isND, doCall, lends, lendA, lentIx, backs, backS, maskS, mask1, run_whole hw], by simp [wipeR]⟩⟩)
        rw [List.filter_eq_self.mpr (fun _ _ => rfl)] at this
        exact this
      match xs, hc with
      | [], _ => simp [hu, F_is_number_up_to, runF, MP.execs, ev_cst, ev_glb, ev_var, ev_tup, ev_lst, ev_dis0, ev_dis1, ev_bin, ev_neg, ev_boo, ev_not, ev_cmp, ev_chn, ev_ite, ev_idx, ev_slc, ev_call, ev_blt, ev_isi, ev_lstI, x_par, x_aug, x_seti, x_app, x_expr, x_ife, x_ret, x_retN, x_pas, x_brk, x_cnt, x_rse, x_nm, x_tp, evB, evIf, evO, evAs, evDs, evI, evT, evRs, bnd, ok, op1, op2, view, views, tru, frzM, frz, keepA, unslot, slotOf, putA, putAs, putD, nxtO, augD, setiD, appD, retA, asgT, asgTs, blts, liftO, bltD, absD, maxD, minD, int1D, lenD, gcdD, isiD, blsD, intsD, anyD, allD, sumD, tupleD, listD, strD, reprD, keyB, binD, cmpO, cmpD, datB, negD, idxD, getD, ixD, slcD, tyD, D.truth, D.shp, D.shps, D.eqv, D.eqvs, itemsD, rngD, zipO, enumO, intO, isND, doCall, lends, lendA, lentIx, backs, backS, maskS, mask1, numB, D.shp, D.eqv]
      | [p], _ => simp [hu, F_is_number_up_to, runF, MP.execs, ev_cst, ev_glb, ev_var, ev_tup, ev_lst, ev_dis0, ev_dis1, ev_bin, ev_neg, ev_boo, ev_not, ev_cmp, ev_chn, ev_ite, ev_idx, ev_slc, ev_call, ev_blt, ev_isi, ev_lstI, x_par, x_aug, x_seti, x_app, x_expr, x_ife, x_ret, x_retN, x_pas, x_brk, x_cnt, x_rse, x_nm, x_tp, evB, evIf, evO, evAs, evDs, evI, evT, evRs, bnd, ok, op1, op2, view, views, tru, frzM, frz, keepA, unslot, slotOf, putA, putAs, putD, nxtO, augD, setiD, appD, retA, asgT, asgTs, blts, liftO, bltD, absD, maxD, minD, int1D, lenD, gcdD, isiD, blsD, intsD, anyD, allD, sumD, tupleD, listD, strD, reprD, keyB, binD, cmpO, cmpD, datB, negD, idxD, getD, ixD, slcD, tyD, D.truth, D.shp, D.shps, D.eqv, D.eqvs, itemsD, rngD, zipO, enumO, intO, isND, doCall, lends, lendA, lentIx, backs, backS, maskS, mask1, numB, D.shp, D.eqv]
      | p :: q :: r :: l, _ =>
        have h2 : ¬ ((l.length : Int) + 1 + 1 + 1 = 2) := by omega
        simp [hu, F_is_number_up_to, runF, MP.execs, ev_cst, ev_glb, ev_var, ev_tup, ev_lst, ev_dis0, ev_dis1, ev_bin, ev_neg, ev_boo, ev_not, ev_cmp, ev_chn, ev_ite, ev_idx, ev_slc, ev_call, ev_blt, ev_isi, ev_lstI, x_par, x_aug, x_seti, x_app, x_expr, x_ife, x_ret, x_retN, x_pas, x_brk, x_cnt, x_rse, x_nm, x_tp, evB, evIf, evO, evAs, evDs, evI, evT, evRs, bnd, ok, op1, op2, view, views, tru, frzM, frz, keepA, unslot, slotOf, putA, putAs, putD, nxtO, augD, setiD, appD, retA, asgT, asgTs, blts, liftO, bltD, absD, maxD, minD, int1D, lenD, gcdD, isiD, blsD, intsD, anyD, allD, sumD, tupleD, listD, strD, reprD, keyB, binD, cmpO, cmpD, datB, negD, idxD, getD, ixD, slcD, tyD, D.truth, D.shp, D.shps, D.eqv, D.eqvs, itemsD, rngD, zipO, enumO, intO, isND, doCall, lends, lendA, lentIx, backs, backS, maskS, mask1, numB, D.shp, D.eqv, h2]
      | [p, q], hc =>
        have hc := hc rfl
        cases hw : (isW p && isW q) with
        | false =>
          have e : numB 0 (.tup [p, q]) b = false := by
            cases p <;> cases q <;> first | rfl | simp [isW] at hw
          have hw2 : isW p = true → isW q = false := by
            intro z; simpa [z] using hw
          cases hp : isW p with
          | false => simp [hu, F_is_number_up_to, runF, MP.execs, ev_cst, ev_glb, ev_var, ev_tup, ev_lst, ev_dis0, ev_dis1, ev_bin, ev_neg, ev_boo, ev_not, ev_cmp, ev_chn, ev_ite, ev_idx, ev_slc, ev_call, ev_blt, ev_isi, ev_lstI, x_par, x_aug, x_seti, x_app, x_expr, x_ife, x_ret, x_retN, x_pas, x_brk, x_cnt, x_rse, x_nm, x_tp, evB, evIf, evO, evAs, evDs, evI, evT, evRs, bnd, ok, op1, op2, view, views, tru, frzM, frz, keepA, unslot, slotOf, putA, putAs, putD, nxtO, augD, setiD, appD, retA, asgT, asgTs, blts, liftO, bltD, absD, maxD, minD, int1D, lenD, gcdD, isiD, blsD, intsD, anyD, allD, sumD, tupleD, listD, strD, reprD, keyB, binD, cmpO, cmpD, datB, negD, idxD, getD, ixD, slcD, tyD, D.truth, D.shp, D.shps, D.eqv, D.eqvs, itemsD, rngD, zipO, enumO, intO, isND, doCall, lends, lendA, lentIx, backs, backS, maskS, mask1, e, hc, hp]
          | true => simp [hu, F_is_number_up_to, runF, MP.execs, ev_cst, ev_glb, ev_var, ev_tup, ev_lst, ev_dis0, ev_dis1, ev_bin, ev_neg, ev_boo, ev_not, ev_cmp, ev_chn, ev_ite, ev_idx, ev_slc, ev_call, ev_blt, ev_isi, ev_lstI, x_par, x_aug, x_seti, x_app, x_expr, x_ife, x_ret, x_retN, x_pas, x_brk, x_cnt, x_rse, x_nm, x_tp, evB, evIf, evO, evAs, evDs, evI, evT, evRs, bnd, ok, op1, op2, view, views, tru, frzM, frz, keepA, unslot, slotOf, putA, putAs, putD, nxtO, augD, setiD, appD, retA, asgT, asgTs, blts, liftO, bltD, absD, maxD, minD, int1D, lenD, gcdD, isiD, blsD, intsD, anyD, allD, sumD, tupleD, listD, strD, reprD, keyB, binD, cmpO, cmpD, datB, negD, idxD, getD, ixD, slcD, tyD, D.truth, D.shp, D.shps, D.eqv, D.eqvs, itemsD, rngD, zipO, enumO, intO, isND, doCall, lends, lendA, lentIx, backs, backS, maskS, mask1, e, hc, hp, hw2 hp]
        | true =>
          obtain ⟨a, rfl⟩ : ∃ a, p = .int a := by
            cases p <;> first | exact ⟨_, rfl⟩ | simp [isW] at hw
          obtain ⟨c, rfl⟩ : ∃ a, q = .int a := by
            cases q <;> first | exact ⟨_, rfl⟩ | simp [isW] at hw
          by_cases h1 : 0 < c
          · by_cases h2 : c < b
            · by_cases h3 : -b < a
              · by_cases h4 : a < b
                · simp [hu, F_is_number_up_to, runF, MP.execs, ev_cst, ev_glb, ev_var, ev_tup, ev_lst, ev_dis0, ev_dis1, ev_bin, ev_neg, ev_boo, ev_not, ev_cmp, ev_chn, ev_ite, ev_idx, ev_slc, ev_call, ev_blt, ev_isi, ev_lstI, x_par, x_aug, x_seti, x_app, x_expr, x_ife, x_ret, x_retN, x_pas, x_brk, x_cnt, x_rse, x_nm, x_tp, evB, evIf, evO, evAs, evDs, evI, evT, evRs, bnd, ok, op1, op2, view, views, tru, frzM, frz, keepA, unslot, slotOf, putA, putAs, putD, nxtO, augD, setiD, appD, retA, asgT, asgTs, blts, liftO, bltD, absD, maxD, minD, int1D, lenD, gcdD, isiD, blsD, intsD, anyD, allD, sumD, tupleD, listD, strD, reprD, keyB, binD, cmpO, cmpD, datB, negD, idxD, getD, ixD, slcD, tyD, D.truth, D.shp, D.shps, D.eqv, D.eqvs, itemsD, rngD, zipO, enumO, intO, isND, doCall, lends, lendA, lentIx, backs, backS, maskS, mask1, numB, hc, isW, h1, h2, h3, h4, Bool.beq_eq_decide_eq]
                · simp [hu, F_is_number_up_to, runF, MP.execs, ev_cst, ev_glb, ev_var, ev_tup, ev_lst, ev_dis0, ev_dis1, ev_bin, ev_neg, ev_boo, ev_not, ev_cmp, ev_chn, ev_ite, ev_idx, ev_slc, ev_call, ev_blt, ev_isi, ev_lstI, x_par, x_aug, x_seti, x_app, x_expr, x_ife, x_ret, x_retN, x_pas, x_brk, x_cnt, x_rse, x_nm, x_tp, evB, evIf, evO, evAs, evDs, evI, evT, evRs, bnd, ok, op1, op2, view, views, tru, frzM, frz, keepA, unslot, slotOf, putA, putAs, putD, nxtO, augD, setiD, appD, retA, asgT, asgTs, blts, liftO, bltD, absD, maxD, minD, int1D, lenD, gcdD, isiD, blsD, intsD, anyD, allD, sumD, tupleD, listD, strD, reprD, keyB, binD, cmpO, cmpD, datB, negD, idxD, getD, ixD, slcD, tyD, D.truth, D.shp, D.shps, D.eqv, D.eqvs, itemsD, rngD, zipO, enumO, intO, isND, doCall, lends, lendA, lentIx, backs, backS, maskS, mask1, numB, hc, isW, h1, h2, h3, h4]
              · simp [hu, F_is_number_up_to, runF, MP.execs, ev_cst, ev_glb, ev_var, ev_tup, ev_lst, ev_dis0, ev_dis1, ev_bin, ev_neg, ev_boo, ev_not, ev_cmp, ev_chn, ev_ite, ev_idx, ev_slc, ev_call, ev_blt, ev_isi, ev_lstI, x_par, x_aug, x_seti, x_app, x_expr, x_ife, x_ret, x_retN, x_pas, x_brk, x_cnt, x_rse, x_nm, x_tp, evB, evIf, evO, evAs, evDs, evI, evT, evRs, bnd, ok, op1, op2, view, views, tru, frzM, frz, keepA, unslot, slotOf, putA, putAs, putD, nxtO, augD, setiD, appD, retA, asgT, asgTs, blts, liftO, bltD, absD, maxD, minD, int1D, lenD, gcdD, isiD, blsD, intsD, anyD, allD, sumD, tupleD, listD, strD, reprD, keyB, binD, cmpO, cmpD, datB, negD, idxD, getD, ixD, slcD, tyD, D.truth, D.shp, D.shps, D.eqv, D.eqvs, itemsD, rngD, zipO, enumO, intO, isND, doCall, lends, lendA, lentIx, backs, backS, maskS, mask1, numB, hc, isW, h1, h2, h3]
            · simp [hu, F_is_number_up_to, runF, MP.execs, ev_cst, ev_glb, ev_var, ev_tup, ev_lst, ev_dis0, ev_dis1, ev_bin, ev_neg, ev_boo, ev_not, ev_cmp, ev_chn, ev_ite, ev_idx, ev_slc, ev_call, ev_blt, ev_isi, ev_lstI, x_par, x_aug, x_seti, x_app, x_expr, x_ife, x_ret, x_retN, x_pas, x_brk, x_cnt, x_rse, x_nm, x_tp, evB, evIf, evO, evAs, evDs, evI, evT, evRs, bnd, ok, op1, op2, view, views, tru, frzM, frz, keepA, unslot, slotOf, putA, putAs, putD, nxtO, augD, setiD, appD, retA, asgT, asgTs, blts, liftO, bltD, absD, maxD, minD, int1D, lenD, gcdD, isiD, blsD, intsD, anyD, allD, sumD, tupleD, listD, strD, reprD, keyB, binD, cmpO, cmpD, datB, negD, idxD, getD, ixD, slcD, tyD, D.truth, D.shp, D.shps, D.eqv, D.eqvs, itemsD, rngD, zipO, enumO, intO, isND, doCall, lends, lendA, lentIx, backs, backS, maskS, mask1, numB, hc, isW, h1, h2]
          · simp [hu, F_is_number_up_to, runF, MP.execs, ev_cst, ev_glb, ev_var, ev_tup, ev_lst, ev_dis0, ev_dis1, ev_bin, ev_neg, ev_boo, ev_not, ev_cmp, ev_chn, ev_ite, ev_idx, ev_slc, ev_call, ev_blt, ev_isi, ev_lstI, x_par, x_aug, x_seti, x_app, x_expr, x_ife, x_ret, x_retN, x_pas, x_brk, x_cnt, x_rse, x_nm, x_tp, evB, evIf, evO, evAs, evDs, evI, evT, evRs, bnd, ok, op1, op2, view, views, tru, frzM, frz, keepA, unslot, slotOf, putA, putAs, putD, nxtO, augD, setiD, appD, retA, asgT, asgTs, blts, liftO, bltD, absD, maxD, minD, int1D, lenD, gcdD, isiD, blsD, intsD, anyD, allD, sumD, tupleD, listD, strD, reprD, keyB, binD, cmpO, cmpD, datB, negD, idxD, getD, ixD, slcD, tyD, D.truth, D.shp, D.shps, D.eqv, D.eqvs, itemsD, rngD, zipO, enumO, intO, isND, doCall, lends, lendA, lentIx, backs, backS, maskS, mask1, numB, hc, isW, h1]
    | _ => simp [hu, F_is_number_up_to, runF, MP.execs, ev_cst, ev_glb, ev_var, ev_tup, ev_lst, ev_dis0, ev_dis1, ev_bin, ev_neg, ev_boo, ev_not, ev_cmp, ev_chn, ev_ite, ev_idx, ev_slc, ev_call, ev_blt, ev_isi, ev_lstI, x_par, x_aug, x_seti, x_app, x_expr, x_ife, x_ret, x_retN, x_pas, x_brk, x_cnt, x_rse, x_nm, x_tp, evB, evIf, evO, evAs, evDs, evI, evT, evRs, bnd, ok, op1, op2, view, views, tru, frzM, frz, keepA, unslot, slotOf, putA, putAs, putD, nxtO, augD, setiD, appD, retA, asgT, asgTs, blts, liftO, bltD, absD, maxD, minD, int1D, lenD, gcdD, isiD, blsD, intsD, anyD, allD, sumD, tupleD, listD, strD, reprD, keyB, binD, cmpO, cmpD, datB, negD, idxD, getD, ixD, slcD, tyD, D.truth, D.shp, D.shps, D.eqv, D.eqvs, itemsD, rngD, zipO, enumO, intO, isND, doCall, lends, lendA, lentIx, backs, backS, maskS, mask1, numB, D.shp, D.eqv]
  · have : n + 2 = n + 2 := rfl
    simp [hu, F_is_number_up_to, runF, MP.execs, ev_cst, ev_glb, ev_var, ev_tup, ev_lst, ev_dis0, ev_dis1, ev_bin, ev_neg, ev_boo, ev_not, ev_cmp, ev_chn, ev_ite, ev_idx, ev_slc, ev_call, ev_blt, ev_isi, ev_lstI, x_par, x_aug, x_seti, x_app, x_expr, x_ife, x_ret, x_retN, x_pas, x_brk, x_cnt, x_rse, x_nm, x_tp, evB, evIf, evO, evAs, evDs, evI, evT, evRs, bnd, ok, op1, op2, view, views, tru, frzM, frz, keepA, unslot, slotOf, putA, putAs, putD, nxtO, augD, setiD, appD, retA, asgT, asgTs, blts, liftO, bltD, absD, maxD, minD, int1D, lenD, gcdD, isiD, blsD, intsD, anyD, allD, sumD, tupleD, listD, strD, reprD, keyB, binD, cmpO, cmpD, datB, negD, idxD, getD, ixD, slcD, tyD, D.truth, D.shp, D.shps, D.eqv, D.eqvs, itemsD, rngD, zipO, enumO, intO, isND, doCall, lends, lendA, lentIx, backs, backS, maskS, mask1, numB, D.shp, D.eqv, hg, run_within hw hm]
theorem run_number_of {iw im iu io : Nat} (hw : P iw = some F_is_whole) (hm : P im = some (F_is_within iw)) (hu : P iu = some (F_is_number_up_to iw im)) (ho : P io = some (F_is_number_of iu)) (n : Nat) (t t1 : Bool) (g : Int) (x : D) : callN P (n + 4) io [.val t (.int g), .val t1 x] = some (.ok (.dat (.bl (numB g x FAR))), [.non, .non]) := by
  rw [callN]
  simp [ho, F_is_number_of, runF, MP.execs, ev_cst, ev_glb, ev_var, ev_tup, ev_lst, ev_dis0, ev_dis1, ev_bin, ev_neg, ev_boo, ev_not, ev_cmp, ev_chn, ev_ite, ev_idx, ev_slc, ev_call, ev_blt, ev_isi, ev_lstI, x_par, x_aug, x_seti, x_app, x_expr, x_ife, x_ret, x_retN, x_pas, x_brk, x_cnt, x_rse, x_nm, x_tp, evB, evIf, evO, evAs, evDs, evI, evT, evRs, bnd, ok, op1, op2, view, views, tru, frzM, frz, keepA, unslot, slotOf, putA, putAs, putD, nxtO, augD, setiD, appD, retA, asgT, asgTs, blts, liftO, bltD, absD, maxD, minD, int1D, lenD, gcdD, isiD, blsD, intsD, anyD, allD, sumD, tupleD, listD, strD, reprD, keyB, binD, cmpO, cmpD, datB, negD, idxD, getD, ixD, slcD, tyD, D.truth, D.shp, D.shps, D.eqv, D.eqvs, itemsD, rngD, zipO, enumO, intO, isND, doCall, lends, lendA, lentIx, backs, backS, maskS, mask1, run_upto hw hm hu, FAR]

theorem run_req_ground {ig ir : Nat} {x : D} {t : Bool} {n : Nat} (hr : P ir = some (F_require_ground ig)) (hg : callN P n ig [.val false x] = some (.ok (.dat (.bl true)), [.non])) : callN P (n + 1) ir [.val t x] = some (.ok (.dat .non), [.non]) := by
  rw [callN]
  simp [hr, F_require_ground, runF, MP.execs, ev_cst, ev_glb, ev_var, ev_tup, ev_lst, ev_dis0, ev_dis1, ev_bin, ev_neg, ev_boo, ev_not, ev_cmp, ev_chn, ev_ite, ev_idx, ev_slc, ev_call, ev_blt, ev_isi, ev_lstI, x_par, x_aug, x_seti, x_app, x_expr, x_ife, x_ret, x_retN, x_pas, x_brk, x_cnt, x_rse, x_nm, x_tp, evB, evIf, evO, evAs, evDs, evI, evT, evRs, bnd, ok, op1, op2, view, views, tru, frzM, frz, keepA, unslot, slotOf, putA, putAs, putD, nxtO, augD, setiD, appD, retA, asgT, asgTs, blts, liftO, bltD, absD, maxD, minD, int1D, lenD, gcdD, isiD, blsD, intsD, anyD, allD, sumD, tupleD, listD, strD, reprD, keyB, binD, cmpO, cmpD, datB, negD, idxD, getD, ixD, slcD, tyD, D.truth, D.shp, D.shps, D.eqv, D.eqvs, itemsD, rngD, zipO, enumO, intO, isND, doCall, lends, lendA, lentIx, backs, backS, maskS, mask1, hg]
theorem run_req_integer {ii ir : Nat} {x : D} {t : Bool} {n : Nat} (hr : P ir = some (F_require_integer ii)) (hi : callN P n ii [.val false x] = some (.ok (.dat (.bl true)), [.non])) : callN P (n + 1) ir [.val t x] = some (.ok (.dat .non), [.non]) := by
  rw [callN]
  simp [hr, F_require_integer, runF, MP.execs, ev_cst, ev_glb, ev_var, ev_tup, ev_lst, ev_dis0, ev_dis1, ev_bin, ev_neg, ev_boo, ev_not, ev_cmp, ev_chn, ev_ite, ev_idx, ev_slc, ev_call, ev_blt, ev_isi, ev_lstI, x_par, x_aug, x_seti, x_app, x_expr, x_ife, x_ret, x_retN, x_pas, x_brk, x_cnt, x_rse, x_nm, x_tp, evB, evIf, evO, evAs, evDs, evI, evT, evRs, bnd, ok, op1, op2, view, views, tru, frzM, frz, keepA, unslot, slotOf, putA, putAs, putD, nxtO, augD, setiD, appD, retA, asgT, asgTs, blts, liftO, bltD, absD, maxD, minD, int1D, lenD, gcdD, isiD, blsD, intsD, anyD, allD, sumD, tupleD, listD, strD, reprD, keyB, binD, cmpO, cmpD, datB, negD, idxD, getD, ixD, slcD, tyD, D.truth, D.shp, D.shps, D.eqv, D.eqvs, itemsD, rngD, zipO, enumO, intO, isND, doCall, lends, lendA, lentIx, backs, backS, maskS, mask1, hi]
theorem run_req_number {io ir : Nat} {g x : D} {t t1 : Bool} {n : Nat} (hr : P ir = some (F_require_number io)) (hi : callN P n io [.val false g, .val false x] = some (.ok (.dat (.bl true)), [.non, .non])) : callN P (n + 1) ir [.val t g, .val t1 x] = some (.ok (.dat .non), [.non, .non]) := by
  rw [callN]
  simp [hr, F_require_number, runF, MP.execs, ev_cst, ev_glb, ev_var, ev_tup, ev_lst, ev_dis0, ev_dis1, ev_bin, ev_neg, ev_boo, ev_not, ev_cmp, ev_chn, ev_ite, ev_idx, ev_slc, ev_call, ev_blt, ev_isi, ev_lstI, x_par, x_aug, x_seti, x_app, x_expr, x_ife, x_ret, x_retN, x_pas, x_brk, x_cnt, x_rse, x_nm, x_tp, evB, evIf, evO, evAs, evDs, evI, evT, evRs, bnd, ok, op1, op2, view, views, tru, frzM, frz, keepA, unslot, slotOf, putA, putAs, putD, nxtO, augD, setiD, appD, retA, asgT, asgTs, blts, liftO, bltD, absD, maxD, minD, int1D, lenD, gcdD, isiD, blsD, intsD, anyD, allD, sumD, tupleD, listD, strD, reprD, keyB, binD, cmpO, cmpD, datB, negD, idxD, getD, ixD, slcD, tyD, D.truth, D.shp, D.shps, D.eqv, D.eqvs, itemsD, rngD, zipO, enumO, intO, isND, doCall, lends, lendA, lentIx, backs, backS, maskS, mask1, hi]
theorem run_req_within {im ir : Nat} {x a b : D} {t t1 t2 : Bool} {n : Nat} (hr : P ir = some (F_require_within im)) (hi : callN P n im [.val false x, .val false a, .val false b] = some (.ok (.dat (.bl true)), [.non, .non, .non])) : callN P (n + 1) ir [.val t x, .val t1 a, .val t2 b] = some (.ok (.dat .non), [.non, .non, .non]) := by
  rw [callN]
  simp [hr, F_require_within, runF, MP.execs, ev_cst, ev_glb, ev_var, ev_tup, ev_lst, ev_dis0, ev_dis1, ev_bin, ev_neg, ev_boo, ev_not, ev_cmp, ev_chn, ev_ite, ev_idx, ev_slc, ev_call, ev_blt, ev_isi, ev_lstI, x_par, x_aug, x_seti, x_app, x_expr, x_ife, x_ret, x_retN, x_pas, x_brk, x_cnt, x_rse, x_nm, x_tp, evB, evIf, evO, evAs, evDs, evI, evT, evRs, bnd, ok, op1, op2, view, views, tru, frzM, frz, keepA, unslot, slotOf, putA, putAs, putD, nxtO, augD, setiD, appD, retA, asgT, asgTs, blts, liftO, bltD, absD, maxD, minD, int1D, lenD, gcdD, isiD, blsD, intsD, anyD, allD, sumD, tupleD, listD, strD, reprD, keyB, binD, cmpO, cmpD, datB, negD, idxD, getD, ixD, slcD, tyD, D.truth, D.shp, D.shps, D.eqv, D.eqvs, itemsD, rngD, zipO, enumO, intO, isND, doCall, lends, lendA, lentIx, backs, backS, maskS, mask1, hi]
theorem run_req_two {irn irg ir : Nat} {g x y : D} {t t1 t2 : Bool} {n : Nat} (hr : P ir = some (F_require_two_numbers irn irg)) (h1 : callN P n irg [.val false g] = some (.ok (.dat .non), [.non])) (h2 : callN P n irn [.val false g, .val false x] = some (.ok (.dat .non), [.non, .non]))
    (h3 : callN P n irn [.val false g, .val false y] = some (.ok (.dat .non), [.non, .non])) : callN P (n + 1) ir [.val t g, .val t1 x, .val t2 y] = some (.ok (.dat .non), [.non, .non, .non]) := by
  rw [callN]
  simp [hr, F_require_two_numbers, runF, MP.execs, ev_cst, ev_glb, ev_var, ev_tup, ev_lst, ev_dis0, ev_dis1, ev_bin, ev_neg, ev_boo, ev_not, ev_cmp, ev_chn, ev_ite, ev_idx, ev_slc, ev_call, ev_blt, ev_isi, ev_lstI, x_par, x_aug, x_seti, x_app, x_expr, x_ife, x_ret, x_retN, x_pas, x_brk, x_cnt, x_rse, x_nm, x_tp, evB, evIf, evO, evAs, evDs, evI, evT, evRs, bnd, ok, op1, op2, view, views, tru, frzM, frz, keepA, unslot, slotOf, putA, putAs, putD, nxtO, augD, setiD, appD, retA, asgT, asgTs, blts, liftO, bltD, absD, maxD, minD, int1D, lenD, gcdD, isiD, blsD, intsD, anyD, allD, sumD, tupleD, listD, strD, reprD, keyB, binD, cmpO, cmpD, datB, negD, idxD, getD, ixD, slcD, tyD, D.truth, D.shp, D.shps, D.eqv, D.eqvs, itemsD, rngD, zipO, enumO, intO, isND, doCall, lends, lendA, lentIx, backs, backS, maskS, mask1, h1, h2, h3]
def shared (a b : Int) : Int := if 0 < b then (Nat.gcd a.natAbs b.natAbs : Nat) else -(Nat.gcd a.natAbs b.natAbs : Nat)
theorem run_fraction_in {ix : Nat} (hx : P ix = some F_fraction_in) (n : Nat) (t t1 : Bool) (a b : Int) (h0 : b ≠ 0) (hb : bits (shared a b) < 9000) : callN P (n + 1) ix [.val t (.int a), .val t1 (.int b)] = some (.ok (.dat (.tup [.int (a.fdiv (shared a b)), .int (b.fdiv (shared a b))])), [.non, .non]) := by
  have hs : shared a b ≠ 0 := by
    have : Nat.gcd a.natAbs b.natAbs ≠ 0 := fun e => h0 (by have := Nat.eq_zero_of_gcd_eq_zero_right e; omega)
    unfold shared
    split <;> omega
  rw [callN]
  by_cases h : 0 < b
  · have e : shared a b = (Nat.gcd a.natAbs b.natAbs : Nat) := by unfold shared; rw [if_pos h]
    rw [e] at hs hb
    simp [hx, F_fraction_in, runF, MP.execs, ev_cst, ev_glb, ev_var, ev_tup, ev_lst, ev_dis0, ev_dis1, ev_bin, ev_neg, ev_boo, ev_not, ev_cmp, ev_chn, ev_ite, ev_idx, ev_slc, ev_call, ev_blt, ev_isi, ev_lstI, x_par, x_aug, x_seti, x_app, x_expr, x_ife, x_ret, x_retN, x_pas, x_brk, x_cnt, x_rse, x_nm, x_tp, evB, evIf, evO, evAs, evDs, evI, evT, evRs, bnd, ok, op1, op2, view, views, tru, frzM, frz, keepA, unslot, slotOf, putA, putAs, putD, nxtO, augD, setiD, appD, retA, asgT, asgTs, blts, liftO, bltD, absD, maxD, minD, int1D, lenD, gcdD, isiD, blsD, intsD, anyD, allD, sumD, tupleD, listD, strD, reprD, keyB, binD, cmpO, cmpD, datB, negD, idxD, getD, ixD, slcD, tyD, D.truth, D.shp, D.shps, D.eqv, D.eqvs, itemsD, rngD, zipO, enumO, intO, isND, doCall, lends, lendA, lentIx, backs, backS, maskS, mask1, h, e, hb, hs, h0]
  · have e : shared a b = -(Nat.gcd a.natAbs b.natAbs : Nat) := by unfold shared; rw [if_neg h]
    rw [e] at hs hb
    simp [hx, F_fraction_in, runF, MP.execs, ev_cst, ev_glb, ev_var, ev_tup, ev_lst, ev_dis0, ev_dis1, ev_bin, ev_neg, ev_boo, ev_not, ev_cmp, ev_chn, ev_ite, ev_idx, ev_slc, ev_call, ev_blt, ev_isi, ev_lstI, x_par, x_aug, x_seti, x_app, x_expr, x_ife, x_ret, x_retN, x_pas, x_brk, x_cnt, x_rse, x_nm, x_tp, evB, evIf, evO, evAs, evDs, evI, evT, evRs, bnd, ok, op1, op2, view, views, tru, frzM, frz, keepA, unslot, slotOf, putA, putAs, putD, nxtO, augD, setiD, appD, retA, asgT, asgTs, blts, liftO, bltD, absD, maxD, minD, int1D, lenD, gcdD, isiD, blsD, intsD, anyD, allD, sumD, tupleD, listD, strD, reprD, keyB, binD, cmpO, cmpD, datB, negD, idxD, getD, ixD, slcD, tyD, D.truth, D.shp, D.shps, D.eqv, D.eqvs, itemsD, rngD, zipO, enumO, intO, isND, doCall, lends, lendA, lentIx, backs, backS, maskS, mask1, h, e, hb, hs, h0]


theorem run_whole_in {ix : Nat} (hx : P ix = some F_whole_in) (n : Nat) (t t1 : Bool) (g x : Int) : callN P (n + 1) ix [.val t (.int g), .val t1 (.int x)] = some (.ok (.dat (if g = 0 then .tup [.int x, .int 1] else .int (x.fmod g))), [.non, .non]) := by
  rw [callN]
  by_cases h : g = 0
  · subst h; simp [hx, F_whole_in, runF, MP.execs, ev_cst, ev_glb, ev_var, ev_tup, ev_lst, ev_dis0, ev_dis1, ev_bin, ev_neg, ev_boo, ev_not, ev_cmp, ev_chn, ev_ite, ev_idx, ev_slc, ev_call, ev_blt, ev_isi, ev_lstI, x_par, x_aug, x_seti, x_app, x_expr, x_ife, x_ret, x_retN, x_pas, x_brk, x_cnt, x_rse, x_nm, x_tp, evB, evIf, evO, evAs, evDs, evI, evT, evRs, bnd, ok, op1, op2, view, views, tru, frzM, frz, keepA, unslot, slotOf, putA, putAs, putD, nxtO, augD, setiD, appD, retA, asgT, asgTs, blts, liftO, bltD, absD, maxD, minD, int1D, lenD, gcdD, isiD, blsD, intsD, anyD, allD, sumD, tupleD, listD, strD, reprD, keyB, binD, cmpO, cmpD, datB, negD, idxD, getD, ixD, slcD, tyD, D.truth, D.shp, D.shps, D.eqv, D.eqvs, itemsD, rngD, zipO, enumO, intO, isND, doCall, lends, lendA, lentIx, backs, backS, maskS, mask1]
  · simp [hx, F_whole_in, runF, MP.execs, ev_cst, ev_glb, ev_var, ev_tup, ev_lst, ev_dis0, ev_dis1, ev_bin, ev_neg, ev_boo, ev_not, ev_cmp, ev_chn, ev_ite, ev_idx, ev_slc, ev_call, ev_blt, ev_isi, ev_lstI, x_par, x_aug, x_seti, x_app, x_expr, x_ife, x_ret, x_retN, x_pas, x_brk, x_cnt, x_rse, x_nm, x_tp, evB, evIf, evO, evAs, evDs, evI, evT, evRs, bnd, ok, op1, op2, view, views, tru, frzM, frz, keepA, unslot, slotOf, putA, putAs, putD, nxtO, augD, setiD, appD, retA, asgT, asgTs, blts, liftO, bltD, absD, maxD, minD, int1D, lenD, gcdD, isiD, blsD, intsD, anyD, allD, sumD, tupleD, listD, strD, reprD, keyB, binD, cmpO, cmpD, datB, negD, idxD, getD, ixD, slcD, tyD, D.truth, D.shp, D.shps, D.eqv, D.eqvs, itemsD, rngD, zipO, enumO, intO, isND, doCall, lends, lendA, lentIx, backs, backS, maskS, mask1, h]
end
theorem hasDiv_iff (v : Int) : hasDiv v = true ↔ ∃ d : Int, 2 ≤ d ∧ d < 100 ∧ d * d ≤ v ∧ v.fmod d = 0 := by
  unfold hasDiv
  rw [List.any_map, List.any_eq_true]
  constructor
  · rintro ⟨x, hx, h⟩
    rw [List.mem_filter] at hx
    obtain ⟨i, h1, h2, rfl⟩ := mem_intsL hx.1
    refine ⟨i, h1, by omega, by simpa using hx.2, by simpa using h⟩
  · rintro ⟨d, h1, h2, h3, h4⟩
    exact ⟨.int d, List.mem_filter.mpr ⟨of_intsL h1 (by omega), by simpa using h3⟩, by simpa using h4⟩
theorem intB_iff (v : Int) : integerB (.int v) = true ↔ -1000000000000000000000000000000000000000000000000000000000000 < v ∧ v < 1000000000000000000000000000000000000000000000000000000000000 := by
  unfold integerB FAR
  rw [decide_eq_true_eq]
theorem numB_pair (a c : Int) : numB 0 (.tup [.int a, .int c]) FAR = true ↔ (0 < c ∧ c < 1000000000000000000000000000000000000000000000000000000000000) ∧ (-1000000000000000000000000000000000000000000000000000000000000 < a ∧ a < 1000000000000000000000000000000000000000000000000000000000000) ∧ (Nat.gcd a.natAbs c.natAbs : Int) = 1 := by
  unfold numB
  rw [if_neg (by simp)]
  dsimp only
  rw [Bool.and_eq_true, Bool.and_eq_true, decide_eq_true_eq, decide_eq_true_eq, decide_eq_true_eq]
  unfold FAR
  exact and_assoc
end MP
set_option Elab.async false
set_option linter.all false
set_option maxRecDepth 100000
set_option maxHeartbeats 2000000
/-! MP: the common divisor with its two factors (divisor_in), for any law -/
namespace MP
open PySem
theorem bits_le {i : Int} {N : Nat} (h : i.natAbs ≤ N) : bits i ≤ N.log2 := by
  unfold bits
  by_cases h0 : i.natAbs = 0
  · rw [h0]; simp
  · have hN : N ≠ 0 := by omega
    exact (Nat.le_log2 hN).mpr (Nat.le_trans (Nat.log2_self_le h0) h)
/-- floor division and its rest -/
theorem fdm (h t : Int) : h.fdiv t * t + h.fmod t = h := by
  have := Int.mul_fdiv_add_fmod h t
  rw [Int.mul_comm] at this
  exact this
theorem rest_lt {h t : Int} (ht : t ≠ 0) : (h.fmod t).natAbs < t.natAbs ∧ 0 ≤ t * h.fmod t := by
  rcases Int.lt_or_gt_of_ne ht with z | z
  · have e := Int.fmod_eq_emod (a := h) (b := t)
    have e1 := Int.emod_nonneg h ht
    have e2 := Int.emod_lt_of_neg h z
    have h1 : h.fmod t ≤ 0 ∧ t < h.fmod t := by
      by_cases hd : t ∣ h
      · have := Int.emod_eq_zero_of_dvd hd
        rw [if_pos (.inr hd)] at e
        omega
      · have : h % t ≠ 0 := fun y => hd (Int.dvd_of_emod_eq_zero y)
        rw [if_neg (fun y => y.elim (by omega) hd)] at e
        omega
    exact ⟨by omega, Int.mul_nonneg_of_nonpos_of_nonpos (by omega) h1.1⟩
  · have h1 := fmod_pos h z
    exact ⟨by omega, Int.mul_nonneg (by omega) h1.1⟩
theorem gcd_step {h t : Int} : Nat.gcd t.natAbs (h.fmod t).natAbs = Nat.gcd h.natAbs t.natAbs := by
  have e := fdm h t
  apply Nat.dvd_antisymm
  · refine Nat.dvd_gcd ?_ (Nat.gcd_dvd_left _ _)
    have d1 : ((Nat.gcd t.natAbs (h.fmod t).natAbs : Nat) : Int) ∣ t := Int.ofNat_dvd_left.mpr (Nat.gcd_dvd_left _ _)
    have d2 : ((Nat.gcd t.natAbs (h.fmod t).natAbs : Nat) : Int) ∣ h.fmod t := Int.ofNat_dvd_left.mpr (Nat.gcd_dvd_right _ _)
    have := Int.dvd_add (Int.dvd_trans d1 (Int.dvd_mul_left (h.fdiv t) t)) d2
    rw [e] at this
    exact Int.ofNat_dvd_left.mp this
  · refine Nat.dvd_gcd (Nat.gcd_dvd_right _ _) ?_
    have d1 : ((Nat.gcd h.natAbs t.natAbs : Nat) : Int) ∣ t := Int.ofNat_dvd_left.mpr (Nat.gcd_dvd_right _ _)
    have d2 : ((Nat.gcd h.natAbs t.natAbs : Nat) : Int) ∣ h := Int.ofNat_dvd_left.mpr (Nat.gcd_dvd_left _ _)
    have : h.fmod t = h - h.fdiv t * t := by omega
    rw [← Int.ofNat_dvd_left, this]
    exact Int.dvd_sub d2 (Int.dvd_trans d1 (Int.dvd_mul_left (h.fdiv t) t))
/-- what holds of the loop's numbers: M bounds both, l is small -/
structure XI (a b : Int) (M : Nat) (h t f s l r : Int) : Prop where
  ht : h.natAbs ≤ M
  tt : t.natAbs ≤ M
  e1 : h = f * a + s * b
  e2 : t = l * a + r * b
  g : Nat.gcd h.natAbs t.natAbs = Nat.gcd a.natAbs b.natAbs
  n : l.natAbs * h.natAbs + f.natAbs * t.natAbs ≤ b.natAbs
  z : l = 0 ∨ (0 ≤ h * t ∧ h ≠ 0)
theorem natAbs_split {h t : Int} (ht : t ≠ 0) (p : 0 ≤ h * t) : h.natAbs = (h.fdiv t).natAbs * t.natAbs + (h.fmod t).natAbs := by
  have e := fdm h t
  obtain ⟨r1, r2⟩ := rest_lt (h := h) ht
  have q0 : 0 ≤ h.fdiv t := by
    rw [Int.fdiv_eq_ediv]
    rcases Int.lt_or_gt_of_ne ht with z | z
    · have hn : h ≤ 0 := by
        apply Classical.byContradiction
        intro y
        have := Int.mul_neg_of_pos_of_neg (a := h) (b := t) (by omega) z
        omega
      have h2 : 0 ≤ h.fdiv t := by
        apply Classical.byContradiction
        intro y
        have y2 : h.fdiv t ≤ -1 := by omega
        have := Int.mul_le_mul_of_nonpos_right y2 (by omega : t ≤ 0)
        have h3 : 0 ≤ -(h.fmod t) := by
          have e3 := Int.fmod_eq_emod (a := h) (b := t)
          have e4 := Int.emod_nonneg h ht
          have e5 := Int.emod_lt_of_neg h z
          by_cases hd : t ∣ h
          · have := Int.emod_eq_zero_of_dvd hd
            rw [if_pos (.inr hd)] at e3
            omega
          · rw [if_neg (fun y => y.elim (by omega) hd)] at e3
            omega
        omega
      rw [← Int.fdiv_eq_ediv]
      exact h2
    · rw [← Int.fdiv_eq_ediv, Int.fdiv_eq_ediv_of_nonneg _ (by omega)]
      have hn : 0 ≤ h := by
        apply Classical.byContradiction
        intro y
        have := Int.mul_neg_of_neg_of_pos (a := h) (b := t) (by omega) z
        omega
      exact Int.ediv_nonneg hn (by omega)
  have h5 : h = h.fdiv t * t + h.fmod t := e.symm
  have h6 : (h.fdiv t * t).natAbs = (h.fdiv t).natAbs * t.natAbs := Int.natAbs_mul _ _
  rw [← h6]
  rcases Int.lt_or_gt_of_ne ht with z | z
  · have h7 : h.fdiv t * t ≤ 0 := Int.mul_nonpos_of_nonneg_of_nonpos q0 (by omega)
    have h8 : h.fmod t ≤ 0 := by
      apply Classical.byContradiction
      intro y
      have := Int.mul_neg_of_neg_of_pos (a := t) (b := h.fmod t) z (by omega)
      omega
    omega
  · have h7 : 0 ≤ h.fdiv t * t := Int.mul_nonneg q0 (by omega)
    have h8 := (fmod_pos h z).1
    omega
theorem XI.step {a b : Int} {M : Nat} {h t f s l r : Int} (I : XI a b M h t f s l r) (ht : t ≠ 0) : XI a b M t (h - h.fdiv t * t) l r (f - h.fdiv t * l) (s - h.fdiv t * r) := by
  have em : h - h.fdiv t * t = h.fmod t := by have := fdm h t; omega
  obtain ⟨r1, r2⟩ := rest_lt (h := h) ht
  rw [em]
  refine ⟨I.tt, by have := I.tt; omega, I.e2, ?_, by rw [gcd_step, I.g], ?_, .inr ⟨r2, ht⟩⟩
  · have e1 := I.e1
    have e2 := I.e2
    have key : ∀ q : Int, q * t = q * (l * a) + q * (r * b) := fun q => by rw [← Int.mul_add, ← e2]
    have := key (h.fdiv t)
    rw [← em, Int.sub_mul, Int.sub_mul, Int.mul_assoc, Int.mul_assoc]
    omega
  · have nn := I.n
    rcases I.z with z | ⟨z, _⟩
    · subst z
      simp only [Int.mul_zero, Int.sub_zero, Int.natAbs_zero, Nat.zero_mul, Nat.zero_add, Nat.add_zero] at nn ⊢
      exact nn
    · have sp := natAbs_split ht z
      have tri : (f - h.fdiv t * l).natAbs ≤ f.natAbs + (h.fdiv t).natAbs * l.natAbs := by
        rw [← Int.natAbs_mul]
        omega
      have m1 := Nat.mul_le_mul_right t.natAbs tri
      rw [Nat.add_mul] at m1
      have m2 : l.natAbs * h.natAbs = l.natAbs * ((h.fdiv t).natAbs * t.natAbs) + l.natAbs * (h.fmod t).natAbs := by
        rw [← Nat.mul_add, ← sp]
      have m3 : (h.fdiv t).natAbs * l.natAbs * t.natAbs = l.natAbs * ((h.fdiv t).natAbs * t.natAbs) := by
        rw [Nat.mul_comm (h.fdiv t).natAbs l.natAbs, Nat.mul_assoc]
      omega
theorem XI.small {a b : Int} {M : Nat} {h t f s l r : Int} (I : XI a b M h t f s l r) (ht : t ≠ 0) (ha : a.natAbs ≤ M) (hb : b.natAbs ≤ M) : (h.fdiv t).natAbs ≤ 4 * M * M + 4 * M + 4 ∧ t.natAbs ≤ 4 * M * M + 4 * M + 4 ∧ l.natAbs ≤ 4 * M * M + 4 * M + 4 ∧ r.natAbs ≤ 4 * M * M + 4 * M + 4 := by
  obtain ⟨r1, r2⟩ := rest_lt (h := h) ht
  have e := fdm h t
  have hh := I.ht
  have tt := I.tt
  have t1 : 1 ≤ t.natAbs := by omega
  have big : M ≤ 4 * M * M + 4 * M + 4 := by
    have : M ≤ 4 * M := by omega
    omega
  have hl : l.natAbs ≤ M := by
    rcases I.z with z | ⟨_, z⟩
    · rw [z]; simp
    · have h1 := Nat.mul_le_mul_left l.natAbs (show 1 ≤ h.natAbs by omega)
      have := I.n
      omega
  have hq : (h.fdiv t).natAbs ≤ 2 * M := by
    have h1 := Nat.mul_le_mul_left (h.fdiv t).natAbs t1
    rw [← Int.natAbs_mul] at h1
    omega
  have b0 : b ≠ 0 := fun z => by
    subst z
    have nn := I.n
    simp only [Int.natAbs_zero, Nat.le_zero_eq, Nat.add_eq_zero_iff, Nat.mul_eq_zero, Int.natAbs_eq_zero] at nn
    have e2 := I.e2
    obtain ⟨n1, n2⟩ := nn
    rcases I.z with z | ⟨_, z⟩
    · rw [z] at e2
      simp at e2
      exact ht e2
    · rcases n1 with n1 | n1
      · rw [n1] at e2
        simp at e2
        exact ht e2
      · exact z n1
  have hr : r.natAbs ≤ M + M * M := by
    have h1 := Nat.mul_le_mul_left r.natAbs (show 1 ≤ b.natAbs by omega)
    rw [← Int.natAbs_mul] at h1
    have h2 : r * b = t - l * a := by have := I.e2; omega
    have h3 : (l * a).natAbs ≤ M * M := by
      rw [Int.natAbs_mul]
      exact Nat.mul_le_mul hl ha
    omega
  have h4 : M * M ≤ 4 * M * M := by
    rw [Nat.mul_assoc]
    omega
  exact ⟨by omega, by omega, by omega, by omega⟩
theorem xg_loop (call : Nat → List Slot → Out) (x0 x1 : Slot) {a b : Int} {M : Nat} (ha : a.natAbs ≤ M) (hb : b.natAbs ≤ M) (hZ : (4 * M * M + 4 * M + 4).log2 < 9000) : ∀ (T : Nat) (h t f s l r : Int) (s8 : Slot), t.natAbs = T → XI a b M h t f s l r →
    ∃ h' f' s' l' r' w, whlM (evT call (C.cmp .ne (C.var 3) (C.cst (D.int 0)))) (fun ρ => MP.execs call (Ss.cons (S.asg (Tg.nm 8) (C.bin .fdiv (C.var 2) (C.var 3))) (Ss.cons (S.par [2, 3] (Cs.cons (C.var 3) (Cs.cons (C.bin .sub (C.var 2) (C.bin .mul (C.var 8) (C.var 3))) Cs.nil))) (Ss.cons (S.par [4, 6] (Cs.cons (C.var 6) (Cs.cons (C.bin .sub (C.var 4) (C.bin .mul (C.var 8) (C.var 6))) Cs.nil))) (Ss.cons (S.par [5, 7] (Cs.cons (C.var 7) (Cs.cons (C.bin .sub (C.var 5) (C.bin .mul (C.var 8) (C.var 7))) Cs.nil))) Ss.nil)))) ρ) [x0, x1, .val false (.int h), .val false (.int t), .val false (.int f), .val false (.int s), .val false (.int l), .val false (.int r), s8] =
      some (.ok .nxt, [x0, x1, .val false (.int h'), .val false (.int 0), .val false (.int f'), .val false (.int s'), .val false (.int l'), .val false (.int r'), w]) ∧ XI a b M h' 0 f' s' l' r' := by
  intro T
  induction T using Nat.strongRecOn with
  | _ T ih =>
    intro h t f s l r s8 hT I
    by_cases ht : t = 0
    · subst ht
      exact ⟨h, f, s, l, r, s8, whl_stop (by simp [runF, MP.execs, ev_cst, ev_glb, ev_var, ev_tup, ev_lst, ev_dis0, ev_dis1, ev_bin, ev_neg, ev_boo, ev_not, ev_cmp, ev_chn, ev_ite, ev_idx, ev_slc, ev_call, ev_blt, ev_isi, ev_lstI, x_par, x_aug, x_seti, x_app, x_expr, x_ife, x_ret, x_retN, x_pas, x_brk, x_cnt, x_rse, x_nm, x_tp, evB, evIf, evO, evAs, evDs, evI, evT, evRs, bnd, ok, op1, op2, view, views, tru, frzM, frz, keepA, unslot, slotOf, putA, putAs, putD, nxtO, augD, setiD, appD, retA, asgT, asgTs, blts, liftO, bltD, absD, maxD, minD, int1D, lenD, gcdD, isiD, blsD, intsD, anyD, allD, sumD, tupleD, listD, strD, reprD, keyB, binD, cmpO, cmpD, datB, negD, idxD, getD, ixD, slcD, tyD, D.truth, D.shp, D.shps, D.eqv, D.eqvs, itemsD, rngD, zipO, enumO, intO, isND, doCall, lends, lendA, lentIx, backs, backS, maskS, mask1]), I⟩
    · obtain ⟨k1, k2, k3, k4⟩ := I.small ht ha hb
      have b1 := bits_le k1
      have b2 := bits_le k2
      have b3 := bits_le k3
      have b4 := bits_le k4
      have g0 : bits t < 9000 := by omega
      have g1 : bits (h.fdiv t) + bits t < 1000000 := by omega
      have g2 : bits (h.fdiv t) + bits l < 1000000 := by omega
      have g3 : bits (h.fdiv t) + bits r < 1000000 := by omega
      obtain ⟨h', f', s', l', r', w, e, I'⟩ := ih (h - h.fdiv t * t).natAbs (by
        have em : h - h.fdiv t * t = h.fmod t := by have := fdm h t; omega
        rw [em, ← hT]
        exact (rest_lt ht).1) t (h - h.fdiv t * t) l r (f - h.fdiv t * l) (s - h.fdiv t * r) (.val false (.int (h.fdiv t))) rfl (I.step ht)
      exact ⟨h', f', s', l', r', w, whl_turn (ρ1 := [x0, x1, .val false (.int h), .val false (.int t), .val false (.int f), .val false (.int s), .val false (.int l), .val false (.int r), s8])
        (ρ2 := [x0, x1, .val false (.int t), .val false (.int (h - h.fdiv t * t)), .val false (.int l), .val false (.int r), .val false (.int (f - h.fdiv t * l)), .val false (.int (s - h.fdiv t * r)), .val false (.int (h.fdiv t))])
        (by simp [runF, MP.execs, ev_cst, ev_glb, ev_var, ev_tup, ev_lst, ev_dis0, ev_dis1, ev_bin, ev_neg, ev_boo, ev_not, ev_cmp, ev_chn, ev_ite, ev_idx, ev_slc, ev_call, ev_blt, ev_isi, ev_lstI, x_par, x_aug, x_seti, x_app, x_expr, x_ife, x_ret, x_retN, x_pas, x_brk, x_cnt, x_rse, x_nm, x_tp, evB, evIf, evO, evAs, evDs, evI, evT, evRs, bnd, ok, op1, op2, view, views, tru, frzM, frz, keepA, unslot, slotOf, putA, putAs, putD, nxtO, augD, setiD, appD, retA, asgT, asgTs, blts, liftO, bltD, absD, maxD, minD, int1D, lenD, gcdD, isiD, blsD, intsD, anyD, allD, sumD, tupleD, listD, strD, reprD, keyB, binD, cmpO, cmpD, datB, negD, idxD, getD, ixD, slcD, tyD, D.truth, D.shp, D.shps, D.eqv, D.eqvs, itemsD, rngD, zipO, enumO, intO, isND, doCall, lends, lendA, lentIx, backs, backS, maskS, mask1, ht]) (by simp [runF, MP.execs, ev_cst, ev_glb, ev_var, ev_tup, ev_lst, ev_dis0, ev_dis1, ev_bin, ev_neg, ev_boo, ev_not, ev_cmp, ev_chn, ev_ite, ev_idx, ev_slc, ev_call, ev_blt, ev_isi, ev_lstI, x_par, x_aug, x_seti, x_app, x_expr, x_ife, x_ret, x_retN, x_pas, x_brk, x_cnt, x_rse, x_nm, x_tp, evB, evIf, evO, evAs, evDs, evI, evT, evRs, bnd, ok, op1, op2, view, views, tru, frzM, frz, keepA, unslot, slotOf, putA, putAs, putD, nxtO, augD, setiD, appD, retA, asgT, asgTs, blts, liftO, bltD, absD, maxD, minD, int1D, lenD, gcdD, isiD, blsD, intsD, anyD, allD, sumD, tupleD, listD, strD, reprD, keyB, binD, cmpO, cmpD, datB, negD, idxD, getD, ixD, slcD, tyD, D.truth, D.shp, D.shps, D.eqv, D.eqvs, itemsD, rngD, zipO, enumO, intO, isND, doCall, lends, lendA, lentIx, backs, backS, maskS, mask1, ht, g0, g1, g2, g3]) e, I'⟩
/-- divisor_in: two factors and the common divisor -/
theorem run_divisor {P : Nat → Option Fd} {i : Nat} (hP : P i = some F_divisor_in) (n : Nat) (t0 t1 : Bool) {a b : Int} {M : Nat} (ha : a.natAbs ≤ M) (hb : b.natAbs ≤ M) (hZ : (4 * M * M + 4 * M + 4).log2 < 9000) :
    ∃ f s : Int, callN P (n + 1) i [.val t0 (.int a), .val t1 (.int b)] = some (.ok (.dat (.tup [.int f, .int s, .int (Nat.gcd a.natAbs b.natAbs : Nat)])), [.non, .non]) ∧ f * a + s * b = (Nat.gcd a.natAbs b.natAbs : Nat) := by
  have I0 : XI a b M a b 1 0 0 1 := ⟨ha, hb, by omega, by omega, rfl, by simp, .inl rfl⟩
  obtain ⟨h, f, s, l, r, w, e, I⟩ := xg_loop (callN P n) (.val t0 (.int a)) (.val t1 (.int b)) ha hb hZ b.natAbs a b 1 0 0 1 .non rfl I0
  have hg : h.natAbs = Nat.gcd a.natAbs b.natAbs := by
    have := I.g
    rwa [show (0 : Int).natAbs = 0 from rfl, Nat.gcd_zero_right] at this
  have e1 := I.e1
  have hw : MP.exec (callN P n) (S.whl (C.cmp .ne (C.var 3) (C.cst (D.int 0))) (Ss.cons (S.asg (Tg.nm 8) (C.bin .fdiv (C.var 2) (C.var 3))) (Ss.cons (S.par [2, 3] (Cs.cons (C.var 3) (Cs.cons (C.bin .sub (C.var 2) (C.bin .mul (C.var 8) (C.var 3))) Cs.nil))) (Ss.cons (S.par [4, 6] (Cs.cons (C.var 6) (Cs.cons (C.bin .sub (C.var 4) (C.bin .mul (C.var 8) (C.var 6))) Cs.nil))) (Ss.cons (S.par [5, 7] (Cs.cons (C.var 7) (Cs.cons (C.bin .sub (C.var 5) (C.bin .mul (C.var 8) (C.var 7))) Cs.nil))) Ss.nil))))) [.val t0 (.int a), .val t1 (.int b), .val false (.int a), .val false (.int b), .val false (.int 1), .val false (.int 0), .val false (.int 0), .val false (.int 1), .non] = _ := (x_whl _ _ _ _).trans e
  rw [callN]
  by_cases h0 : 0 ≤ h
  · refine ⟨f, s, ?_, by omega⟩
    have hh : ((Nat.gcd a.natAbs b.natAbs : Nat) : Int) = h := by omega
    rw [hh]
    simp [hP, F_divisor_in, runF, MP.execs, ev_cst, ev_glb, ev_var, ev_tup, ev_lst, ev_dis0, ev_dis1, ev_bin, ev_neg, ev_boo, ev_not, ev_cmp, ev_chn, ev_ite, ev_idx, ev_slc, ev_call, ev_blt, ev_isi, ev_lstI, x_par, x_aug, x_seti, x_app, x_expr, x_ife, x_ret, x_retN, x_pas, x_brk, x_cnt, x_rse, x_nm, x_tp, evB, evIf, evO, evAs, evDs, evI, evT, evRs, bnd, ok, op1, op2, view, views, tru, frzM, frz, keepA, unslot, slotOf, putA, putAs, putD, nxtO, augD, setiD, appD, retA, asgT, asgTs, blts, liftO, bltD, absD, maxD, minD, int1D, lenD, gcdD, isiD, blsD, intsD, anyD, allD, sumD, tupleD, listD, strD, reprD, keyB, binD, cmpO, cmpD, datB, negD, idxD, getD, ixD, slcD, tyD, D.truth, D.shp, D.shps, D.eqv, D.eqvs, itemsD, rngD, zipO, enumO, intO, isND, doCall, lends, lendA, lentIx, backs, backS, maskS, mask1, hw, h0]
  · refine ⟨-f, -s, ?_, by rw [Int.neg_mul, Int.neg_mul]; omega⟩
    have hh : ((Nat.gcd a.natAbs b.natAbs : Nat) : Int) = -h := by omega
    rw [hh]
    simp [hP, F_divisor_in, runF, MP.execs, ev_cst, ev_glb, ev_var, ev_tup, ev_lst, ev_dis0, ev_dis1, ev_bin, ev_neg, ev_boo, ev_not, ev_cmp, ev_chn, ev_ite, ev_idx, ev_slc, ev_call, ev_blt, ev_isi, ev_lstI, x_par, x_aug, x_seti, x_app, x_expr, x_ife, x_ret, x_retN, x_pas, x_brk, x_cnt, x_rse, x_nm, x_tp, evB, evIf, evO, evAs, evDs, evI, evT, evRs, bnd, ok, op1, op2, view, views, tru, frzM, frz, keepA, unslot, slotOf, putA, putAs, putD, nxtO, augD, setiD, appD, retA, asgT, asgTs, blts, liftO, bltD, absD, maxD, minD, int1D, lenD, gcdD, isiD, blsD, intsD, anyD, allD, sumD, tupleD, listD, strD, reprD, keyB, binD, cmpO, cmpD, datB, negD, idxD, getD, ixD, slcD, tyD, D.truth, D.shp, D.shps, D.eqv, D.eqvs, itemsD, rngD, zipO, enumO, intO, isND, doCall, lends, lendA, lentIx, backs, backS, maskS, mask1, hw, h0]
end MP
set_option Elab.async false
set_option linter.all false
set_option maxRecDepth 100000
set_option maxHeartbeats 2000000
/-! MP: sums and products of numbers of a ground, for any law -/
namespace MP
open PySem
def fracD (a b : Int) : D := .tup [.int (a.fdiv (shared a b)), .int (b.fdiv (shared a b))]
theorem shared_le {a b : Int} (h : b ≠ 0) : (shared a b).natAbs ≤ b.natAbs := by
  have := Nat.gcd_le_right a.natAbs (n := b.natAbs) (by omega)
  unfold shared
  split <;> omega
section
variable {P : Nat → Option Fd} {M : Nat} {a b c d : Int}
theorem mulG (hM : (2 * M * M + 1).log2 < 9000) (ha : a.natAbs ≤ M) (hb : b.natAbs ≤ M) : bits a + bits b < 1000000 := by
  have h0 : M ≤ 2 * M * M + 1 := by
    have h1 : M ≤ M * M + 1 := by
      rcases Nat.eq_zero_or_pos M with z | z
      · omega
      · have := Nat.mul_le_mul_left M z
        omega
    have h2 : 2 * M * M = M * M + M * M := by rw [Nat.mul_assoc]; omega
    omega
  have h1 := bits_le (Nat.le_trans ha h0)
  have h2 := bits_le (Nat.le_trans hb h0)
  omega
theorem mul_le (ha : a.natAbs ≤ M) (hb : b.natAbs ≤ M) : (a * b).natAbs ≤ M * M := by
  rw [Int.natAbs_mul]
  exact Nat.mul_le_mul ha hb
theorem sharedG (hM : (2 * M * M + 1).log2 < 9000) {x : Int} (h : b ≠ 0) (hb : b.natAbs ≤ M * M) : bits (shared x b) < 9000 := by
  have h1 := shared_le (a := x) h
  have h2 : M * M ≤ 2 * M * M + 1 := by rw [Nat.mul_assoc]; omega
  have := bits_le (Nat.le_trans (Nat.le_trans h1 hb) h2)
  omega
theorem run_plusG {ix ip : Nat} (hp : P ip = some (F_plus ix)) (n : Nat) (t t1 t2 : Bool) {g : Int} (hg : g ≠ 0) : callN P (n + 1) ip [.val t (.int g), .val t1 (.int a), .val t2 (.int b)] = some (.ok (.dat (.int ((a + b).fmod g))), [.non, .non, .non]) := by
  rw [callN]
  simp [hp, F_plus, runF, MP.execs, ev_cst, ev_glb, ev_var, ev_tup, ev_lst, ev_dis0, ev_dis1, ev_bin, ev_neg, ev_boo, ev_not, ev_cmp, ev_chn, ev_ite, ev_idx, ev_slc, ev_call, ev_blt, ev_isi, ev_lstI, x_par, x_aug, x_seti, x_app, x_expr, x_ife, x_ret, x_retN, x_pas, x_brk, x_cnt, x_rse, x_nm, x_tp, evB, evIf, evO, evAs, evDs, evI, evT, evRs, bnd, ok, op1, op2, view, views, tru, frzM, frz, keepA, unslot, slotOf, putA, putAs, putD, nxtO, augD, setiD, appD, retA, asgT, asgTs, blts, liftO, bltD, absD, maxD, minD, int1D, lenD, gcdD, isiD, blsD, intsD, anyD, allD, sumD, tupleD, listD, strD, reprD, keyB, binD, cmpO, cmpD, datB, negD, idxD, getD, ixD, slcD, tyD, D.truth, D.shp, D.shps, D.eqv, D.eqvs, itemsD, rngD, zipO, enumO, intO, isND, doCall, lends, lendA, lentIx, backs, backS, maskS, mask1, hg]
theorem run_plus0 {ix ip : Nat} (hx : P ix = some F_fraction_in) (hp : P ip = some (F_plus ix)) (n : Nat) (t t1 t2 : Bool) (hM : (2 * M * M + 1).log2 < 9000) (ha : a.natAbs ≤ M) (hb : b.natAbs ≤ M) (hc : c.natAbs ≤ M) (hd : d.natAbs ≤ M) (b0 : b ≠ 0) (d0 : d ≠ 0) :
    callN P (n + 2) ip [.val t (.int 0), .val t1 (.tup [.int a, .int b]), .val t2 (.tup [.int c, .int d])] = some (.ok (.dat (fracD (a * d + c * b) (b * d))), [.non, .non, .non]) := by
  have k := run_fraction_in hx n false false (a * d + c * b) (b * d) (Int.mul_ne_zero b0 d0) (sharedG hM (Int.mul_ne_zero b0 d0) (mul_le hb hd))
  rw [callN]
  simp [hp, F_plus, runF, MP.execs, ev_cst, ev_glb, ev_var, ev_tup, ev_lst, ev_dis0, ev_dis1, ev_bin, ev_neg, ev_boo, ev_not, ev_cmp, ev_chn, ev_ite, ev_idx, ev_slc, ev_call, ev_blt, ev_isi, ev_lstI, x_par, x_aug, x_seti, x_app, x_expr, x_ife, x_ret, x_retN, x_pas, x_brk, x_cnt, x_rse, x_nm, x_tp, evB, evIf, evO, evAs, evDs, evI, evT, evRs, bnd, ok, op1, op2, view, views, tru, frzM, frz, keepA, unslot, slotOf, putA, putAs, putD, nxtO, augD, setiD, appD, retA, asgT, asgTs, blts, liftO, bltD, absD, maxD, minD, int1D, lenD, gcdD, isiD, blsD, intsD, anyD, allD, sumD, tupleD, listD, strD, reprD, keyB, binD, cmpO, cmpD, datB, negD, idxD, getD, ixD, slcD, tyD, D.truth, D.shp, D.shps, D.eqv, D.eqvs, itemsD, rngD, zipO, enumO, intO, isND, doCall, lends, lendA, lentIx, backs, backS, maskS, mask1, mulG hM ha hd, mulG hM hc hb, mulG hM hb hd, k, fracD]
theorem run_timesG {ix ip : Nat} (hp : P ip = some (F_times ix)) (n : Nat) (t t1 t2 : Bool) {g : Int} (hg : g ≠ 0) (hm : bits a + bits b < 1000000) : callN P (n + 1) ip [.val t (.int g), .val t1 (.int a), .val t2 (.int b)] = some (.ok (.dat (.int ((a * b).fmod g))), [.non, .non, .non]) := by
  rw [callN]
  simp [hp, F_times, runF, MP.execs, ev_cst, ev_glb, ev_var, ev_tup, ev_lst, ev_dis0, ev_dis1, ev_bin, ev_neg, ev_boo, ev_not, ev_cmp, ev_chn, ev_ite, ev_idx, ev_slc, ev_call, ev_blt, ev_isi, ev_lstI, x_par, x_aug, x_seti, x_app, x_expr, x_ife, x_ret, x_retN, x_pas, x_brk, x_cnt, x_rse, x_nm, x_tp, evB, evIf, evO, evAs, evDs, evI, evT, evRs, bnd, ok, op1, op2, view, views, tru, frzM, frz, keepA, unslot, slotOf, putA, putAs, putD, nxtO, augD, setiD, appD, retA, asgT, asgTs, blts, liftO, bltD, absD, maxD, minD, int1D, lenD, gcdD, isiD, blsD, intsD, anyD, allD, sumD, tupleD, listD, strD, reprD, keyB, binD, cmpO, cmpD, datB, negD, idxD, getD, ixD, slcD, tyD, D.truth, D.shp, D.shps, D.eqv, D.eqvs, itemsD, rngD, zipO, enumO, intO, isND, doCall, lends, lendA, lentIx, backs, backS, maskS, mask1, hg, hm]
theorem run_times0 {ix ip : Nat} (hx : P ix = some F_fraction_in) (hp : P ip = some (F_times ix)) (n : Nat) (t t1 t2 : Bool) (hM : (2 * M * M + 1).log2 < 9000) (ha : a.natAbs ≤ M) (hb : b.natAbs ≤ M) (hc : c.natAbs ≤ M) (hd : d.natAbs ≤ M) (b0 : b ≠ 0) (d0 : d ≠ 0) :
    callN P (n + 2) ip [.val t (.int 0), .val t1 (.tup [.int a, .int b]), .val t2 (.tup [.int c, .int d])] = some (.ok (.dat (fracD (a * c) (b * d))), [.non, .non, .non]) := by
  have k := run_fraction_in hx n false false (a * c) (b * d) (Int.mul_ne_zero b0 d0) (sharedG hM (Int.mul_ne_zero b0 d0) (mul_le hb hd))
  rw [callN]
  simp [hp, F_times, runF, MP.execs, ev_cst, ev_glb, ev_var, ev_tup, ev_lst, ev_dis0, ev_dis1, ev_bin, ev_neg, ev_boo, ev_not, ev_cmp, ev_chn, ev_ite, ev_idx, ev_slc, ev_call, ev_blt, ev_isi, ev_lstI, x_par, x_aug, x_seti, x_app, x_expr, x_ife, x_ret, x_retN, x_pas, x_brk, x_cnt, x_rse, x_nm, x_tp, evB, evIf, evO, evAs, evDs, evI, evT, evRs, bnd, ok, op1, op2, view, views, tru, frzM, frz, keepA, unslot, slotOf, putA, putAs, putD, nxtO, augD, setiD, appD, retA, asgT, asgTs, blts, liftO, bltD, absD, maxD, minD, int1D, lenD, gcdD, isiD, blsD, intsD, anyD, allD, sumD, tupleD, listD, strD, reprD, keyB, binD, cmpO, cmpD, datB, negD, idxD, getD, ixD, slcD, tyD, D.truth, D.shp, D.shps, D.eqv, D.eqvs, itemsD, rngD, zipO, enumO, intO, isND, doCall, lends, lendA, lentIx, backs, backS, maskS, mask1, mulG hM ha hc, mulG hM hb hd, k, fracD]
theorem run_oppG {io : Nat} (ho : P io = some F_opposite) (n : Nat) (t t1 : Bool) {g : Int} (hg : g ≠ 0) : callN P (n + 1) io [.val t (.int g), .val t1 (.int a)] = some (.ok (.dat (.int ((-a).fmod g))), [.non, .non]) := by
  rw [callN]
  simp [ho, F_opposite, runF, MP.execs, ev_cst, ev_glb, ev_var, ev_tup, ev_lst, ev_dis0, ev_dis1, ev_bin, ev_neg, ev_boo, ev_not, ev_cmp, ev_chn, ev_ite, ev_idx, ev_slc, ev_call, ev_blt, ev_isi, ev_lstI, x_par, x_aug, x_seti, x_app, x_expr, x_ife, x_ret, x_retN, x_pas, x_brk, x_cnt, x_rse, x_nm, x_tp, evB, evIf, evO, evAs, evDs, evI, evT, evRs, bnd, ok, op1, op2, view, views, tru, frzM, frz, keepA, unslot, slotOf, putA, putAs, putD, nxtO, augD, setiD, appD, retA, asgT, asgTs, blts, liftO, bltD, absD, maxD, minD, int1D, lenD, gcdD, isiD, blsD, intsD, anyD, allD, sumD, tupleD, listD, strD, reprD, keyB, binD, cmpO, cmpD, datB, negD, idxD, getD, ixD, slcD, tyD, D.truth, D.shp, D.shps, D.eqv, D.eqvs, itemsD, rngD, zipO, enumO, intO, isND, doCall, lends, lendA, lentIx, backs, backS, maskS, mask1, hg]
theorem run_opp0 {io : Nat} (ho : P io = some F_opposite) (n : Nat) (t t1 : Bool) : callN P (n + 1) io [.val t (.int 0), .val t1 (.tup [.int a, .int b])] = some (.ok (.dat (.tup [.int (-a), .int b])), [.non, .non]) := by
  rw [callN]
  simp [ho, F_opposite, runF, MP.execs, ev_cst, ev_glb, ev_var, ev_tup, ev_lst, ev_dis0, ev_dis1, ev_bin, ev_neg, ev_boo, ev_not, ev_cmp, ev_chn, ev_ite, ev_idx, ev_slc, ev_call, ev_blt, ev_isi, ev_lstI, x_par, x_aug, x_seti, x_app, x_expr, x_ife, x_ret, x_retN, x_pas, x_brk, x_cnt, x_rse, x_nm, x_tp, evB, evIf, evO, evAs, evDs, evI, evT, evRs, bnd, ok, op1, op2, view, views, tru, frzM, frz, keepA, unslot, slotOf, putA, putAs, putD, nxtO, augD, setiD, appD, retA, asgT, asgTs, blts, liftO, bltD, absD, maxD, minD, int1D, lenD, gcdD, isiD, blsD, intsD, anyD, allD, sumD, tupleD, listD, strD, reprD, keyB, binD, cmpO, cmpD, datB, negD, idxD, getD, ixD, slcD, tyD, D.truth, D.shp, D.shps, D.eqv, D.eqvs, itemsD, rngD, zipO, enumO, intO, isND, doCall, lends, lendA, lentIx, backs, backS, maskS, mask1]
theorem run_undone_rest {ie iu : Nat} (he : P ie = some F_divisor_in) (hu : P iu = some (F_undone_rest ie)) (n : Nat) (t t1 : Bool) (hm0 : b ≠ 0) (ha : a.natAbs ≤ M) (hb : b.natAbs ≤ M) (hZ : (4 * M * M + 4 * M + 4).log2 < 9000) :
    ∃ f s : Int, callN P (n + 2) iu [.val t (.int a), .val t1 (.int b)] = some (.ok (.dat (.int (f.fmod b))), [.non, .non]) ∧ f * a + s * b = (Nat.gcd a.natAbs b.natAbs : Nat) := by
  obtain ⟨f, s, e, h⟩ := run_divisor he n false false ha hb hZ
  refine ⟨f, s, ?_, h⟩
  rw [callN]
  simp [hu, F_undone_rest, runF, MP.execs, ev_cst, ev_glb, ev_var, ev_tup, ev_lst, ev_dis0, ev_dis1, ev_bin, ev_neg, ev_boo, ev_not, ev_cmp, ev_chn, ev_ite, ev_idx, ev_slc, ev_call, ev_blt, ev_isi, ev_lstI, x_par, x_aug, x_seti, x_app, x_expr, x_ife, x_ret, x_retN, x_pas, x_brk, x_cnt, x_rse, x_nm, x_tp, evB, evIf, evO, evAs, evDs, evI, evT, evRs, bnd, ok, op1, op2, view, views, tru, frzM, frz, keepA, unslot, slotOf, putA, putAs, putD, nxtO, augD, setiD, appD, retA, asgT, asgTs, blts, liftO, bltD, absD, maxD, minD, int1D, lenD, gcdD, isiD, blsD, intsD, anyD, allD, sumD, tupleD, listD, strD, reprD, keyB, binD, cmpO, cmpD, datB, negD, idxD, getD, ixD, slcD, tyD, D.truth, D.shp, D.shps, D.eqv, D.eqvs, itemsD, rngD, zipO, enumO, intO, isND, doCall, lends, lendA, lentIx, backs, backS, maskS, mask1, e, hm0]
theorem run_undone0 {ix iu ir : Nat} (hx : P ix = some F_fraction_in) (hu : P iu = some (F_undone ix ir)) (n : Nat) (t t1 : Bool) (hM : (2 * M * M + 1).log2 < 9000) (ha : a.natAbs ≤ M) (a0 : a ≠ 0) :
    callN P (n + 2) iu [.val t (.int 0), .val t1 (.tup [.int a, .int b])] = some (.ok (.dat (fracD b a)), [.non, .non]) := by
  have hM1 : M ≤ M * M := by
    have : 1 ≤ M := by omega
    have := Nat.mul_le_mul_left M this
    omega
  have k := run_fraction_in hx n false false b a a0 (sharedG hM a0 (by omega))
  rw [callN]
  simp [hu, F_undone, runF, MP.execs, ev_cst, ev_glb, ev_var, ev_tup, ev_lst, ev_dis0, ev_dis1, ev_bin, ev_neg, ev_boo, ev_not, ev_cmp, ev_chn, ev_ite, ev_idx, ev_slc, ev_call, ev_blt, ev_isi, ev_lstI, x_par, x_aug, x_seti, x_app, x_expr, x_ife, x_ret, x_retN, x_pas, x_brk, x_cnt, x_rse, x_nm, x_tp, evB, evIf, evO, evAs, evDs, evI, evT, evRs, bnd, ok, op1, op2, view, views, tru, frzM, frz, keepA, unslot, slotOf, putA, putAs, putD, nxtO, augD, setiD, appD, retA, asgT, asgTs, blts, liftO, bltD, absD, maxD, minD, int1D, lenD, gcdD, isiD, blsD, intsD, anyD, allD, sumD, tupleD, listD, strD, reprD, keyB, binD, cmpO, cmpD, datB, negD, idxD, getD, ixD, slcD, tyD, D.truth, D.shp, D.shps, D.eqv, D.eqvs, itemsD, rngD, zipO, enumO, intO, isND, doCall, lends, lendA, lentIx, backs, backS, maskS, mask1, k, fracD]
end
end MP
set_option Elab.async false
set_option linter.all false
set_option maxRecDepth 100000
set_option maxHeartbeats 2000000
/-! MP: fractions in lowest terms, for any law -/
namespace MP
open PySem
/-- lowest terms, a positive bottom -/
structure Low (x y : Int) : Prop where
  pos : 0 < y
  co : Nat.gcd x.natAbs y.natAbs = 1
theorem frac_spec {a b : Int} (h0 : b ≠ 0) : ∃ x y, fracD a b = .tup [.int x, .int y] ∧ Low x y ∧ x * b = a * y ∧ x.natAbs ≤ a.natAbs ∧ y.natAbs ≤ b.natAbs := by
  have hg0 : 0 < Nat.gcd a.natAbs b.natAbs := Nat.gcd_pos_of_pos_right _ (by omega)
  obtain ⟨x, hx⟩ : ((Nat.gcd a.natAbs b.natAbs : Nat) : Int) ∣ a := Int.ofNat_dvd_left.mpr (Nat.gcd_dvd_left _ _)
  obtain ⟨y, hy⟩ : ((Nat.gcd a.natAbs b.natAbs : Nat) : Int) ∣ b := Int.ofNat_dvd_left.mpr (Nat.gcd_dvd_right _ _)
  have h1 : a.natAbs = Nat.gcd a.natAbs b.natAbs * x.natAbs := by
    have := congrArg Int.natAbs hx
    rwa [Int.natAbs_mul, Int.natAbs_natCast] at this
  have h2 : b.natAbs = Nat.gcd a.natAbs b.natAbs * y.natAbs := by
    have := congrArg Int.natAbs hy
    rwa [Int.natAbs_mul, Int.natAbs_natCast] at this
  have hco : Nat.gcd x.natAbs y.natAbs = 1 := by
    have h3 : Nat.gcd (Nat.gcd a.natAbs b.natAbs * x.natAbs) (Nat.gcd a.natAbs b.natAbs * y.natAbs) = Nat.gcd a.natAbs b.natAbs * Nat.gcd x.natAbs y.natAbs := Nat.gcd_mul_left _ _ _
    rw [← h1, ← h2] at h3
    exact Nat.eq_of_mul_eq_mul_left hg0 (by rw [← h3, Nat.mul_one])
  have hxs : x.natAbs ≤ a.natAbs := by
    have := Nat.le_mul_of_pos_left x.natAbs hg0
    omega
  have hys : y.natAbs ≤ b.natAbs := by
    have := Nat.le_mul_of_pos_left y.natAbs hg0
    omega
  clear h1 h2
  unfold fracD shared
  generalize Nat.gcd a.natAbs b.natAbs = g at *
  have hgi : (0 : Int) < (g : Int) := by omega
  split
  · rename_i hp
    have e1 : a.fdiv (g : Int) = x := by rw [hx]; exact Int.mul_fdiv_cancel_left _ (by omega)
    have e2 : b.fdiv (g : Int) = y := by rw [hy]; exact Int.mul_fdiv_cancel_left _ (by omega)
    have hy0 : 0 < y := by
      apply Classical.byContradiction
      intro z
      have : (g : Int) * y ≤ (g : Int) * 0 := Int.mul_le_mul_of_nonneg_left (by omega) (by omega)
      omega
    exact ⟨x, y, by rw [e1, e2], ⟨hy0, hco⟩, by rw [hx, hy, Int.mul_left_comm, Int.mul_assoc], hxs, hys⟩
  · rename_i hp
    have e1 : a.fdiv (-(g : Int)) = -x := by
      rw [hx, show (g : Int) * x = -(g : Int) * (-x) by rw [Int.neg_mul_neg]]
      exact Int.mul_fdiv_cancel_left _ (by omega)
    have e2 : b.fdiv (-(g : Int)) = -y := by
      rw [hy, show (g : Int) * y = -(g : Int) * (-y) by rw [Int.neg_mul_neg]]
      exact Int.mul_fdiv_cancel_left _ (by omega)
    have hy0 : y < 0 := by
      apply Classical.byContradiction
      intro z
      have : (g : Int) * 0 ≤ (g : Int) * y := Int.mul_le_mul_of_nonneg_left (by omega) (by omega)
      omega
    exact ⟨-x, -y, by rw [e1, e2], ⟨by omega, by rw [Int.natAbs_neg, Int.natAbs_neg]; exact hco⟩, by rw [hx, hy, Int.neg_mul, Int.mul_neg, Int.mul_left_comm, Int.mul_assoc], by omega, by omega⟩
theorem low_same {x y x' y' : Int} (h : Low x y) (h' : Low x' y') (e : x * y' = x' * y) : x = x' ∧ y = y' := by
  have hn : x.natAbs * y'.natAbs = x'.natAbs * y.natAbs := by rw [← Int.natAbs_mul, ← Int.natAbs_mul, e]
  have d1 : y.natAbs ∣ y'.natAbs := by
    have : y.natAbs ∣ x.natAbs * y'.natAbs := ⟨x'.natAbs, by rw [hn, Nat.mul_comm]⟩
    exact Nat.Coprime.dvd_of_dvd_mul_left (by rw [Nat.coprime_comm]; exact h.co) this
  have d2 : y'.natAbs ∣ y.natAbs := by
    have : y'.natAbs ∣ x'.natAbs * y.natAbs := ⟨x.natAbs, by rw [← hn, Nat.mul_comm]⟩
    exact Nat.Coprime.dvd_of_dvd_mul_left (by rw [Nat.coprime_comm]; exact h'.co) this
  have ey := Nat.dvd_antisymm d1 d2
  have p1 := h.pos
  have p2 := h'.pos
  have hy : y = y' := by omega
  subst hy
  exact ⟨Int.eq_of_mul_eq_mul_right (by omega) e, rfl⟩
theorem frac_low {x y : Int} (h : Low x y) : fracD x y = .tup [.int x, .int y] := by
  obtain ⟨x', y', e, l, m, _⟩ := frac_spec (a := x) (b := y) (by have := h.pos; omega)
  obtain ⟨rfl, rfl⟩ := low_same l h m
  exact e
theorem low_mul {x y x' y' : Int} (h1 : Nat.gcd x.natAbs y'.natAbs = 1) (h2 : Nat.gcd x'.natAbs y.natAbs = 1) (h : Low x y) (h' : Low x' y') : Low (x * x') (y * y') := by
  refine ⟨Int.mul_pos h.pos h'.pos, ?_⟩
  rw [Int.natAbs_mul, Int.natAbs_mul]
  have a1 : Nat.Coprime x.natAbs (y.natAbs * y'.natAbs) := Nat.Coprime.mul_right h.co h1
  have a2 : Nat.Coprime x'.natAbs (y.natAbs * y'.natAbs) := Nat.Coprime.mul_right h2 h'.co
  exact Nat.Coprime.mul_left a1 a2
theorem low_pow {x y : Int} (h : Low x y) (n : Nat) : Low (x ^ n) (y ^ n) := by
  refine ⟨Int.pow_pos h.pos, ?_⟩
  rw [Int.natAbs_pow, Int.natAbs_pow]
  exact Nat.Coprime.pow n n h.co
theorem frac_pow {x y : Int} (h : Low x y) (m n : Nat) : fracD (x ^ m * x ^ n) (y ^ m * y ^ n) = .tup [.int (x ^ (m + n)), .int (y ^ (m + n))] := by
  rw [← Int.pow_add, ← Int.pow_add]
  exact frac_low (low_pow h _)
theorem frac_same {a b c d : Int} (b0 : b ≠ 0) (d0 : d ≠ 0) (e : a * d = c * b) : fracD a b = fracD c d := by
  obtain ⟨x, y, e1, l1, m1, _⟩ := frac_spec (a := a) b0
  obtain ⟨x', y', e2, l2, m2, _⟩ := frac_spec (a := c) d0
  have : x * y' = x' * y := by
    apply Int.eq_of_mul_eq_mul_right (a := b * d) (Int.mul_ne_zero b0 d0)
    have h1 : x * y' * (b * d) = (x * b) * (y' * d) := by simp only [Int.mul_assoc, Int.mul_left_comm]
    have h2 : x' * y * (b * d) = (x' * d) * (y * b) := by rw [Int.mul_comm b d]; simp only [Int.mul_assoc, Int.mul_left_comm]
    rw [h1, h2, m1, m2]
    have h3 : a * y * (y' * d) = (a * d) * (y * y') := by simp only [Int.mul_assoc, Int.mul_left_comm, Int.mul_comm]
    have h4 : c * y' * (y * b) = (c * b) * (y * y') := by simp only [Int.mul_assoc, Int.mul_left_comm, Int.mul_comm]
    rw [h3, h4, e]
  obtain ⟨rfl, rfl⟩ := low_same l1 l2 this
  rw [e1, e2]
end MP
set_option Elab.async false
set_option linter.all false
set_option maxRecDepth 100000
set_option maxHeartbeats 2000000
/-! MP: powers by squaring (raised_in), for any law -/
namespace MP
open PySem
def F_raised_in (i_times : Nat) (i_undone : Nat) (i_unit : Nat) : Fd := ⟨"raised_in", 3, ["ground", "one", "exponent", "found", "square", "left"], (Ss.cons (S.par [3, 4, 5] (Cs.cons (C.call i_unit [false] (Cs.cons (C.var 0) Cs.nil)) (Cs.cons (C.ite (C.cmp .ge (C.var 2) (C.cst (D.int 0))) (C.var 1) (C.call i_undone [false, false] (Cs.cons (C.var 0) (Cs.cons (C.var 1) Cs.nil)))) (Cs.cons (C.blt .abs (Cs.cons (C.var 2) Cs.nil)) Cs.nil)))) (Ss.cons (S.whl (C.cmp .gt (C.var 5) (C.cst (D.int 0))) (Ss.cons (S.ife (C.cmp .eq (C.bin .mod (C.var 5) (C.cst (D.int 2))) (C.cst (D.int 1))) (Ss.cons (S.asg (Tg.nm 3) (C.call i_times [false, false, false] (Cs.cons (C.var 0) (Cs.cons (C.var 3) (Cs.cons (C.var 4) Cs.nil))))) Ss.nil) Ss.nil) (Ss.cons (S.aug 5 .fdiv (C.cst (D.int 2))) (Ss.cons (S.asg (Tg.nm 4) (C.ite (C.cmp .gt (C.var 5) (C.cst (D.int 0))) (C.call i_times [false, false, false] (Cs.cons (C.var 0) (Cs.cons (C.var 4) (Cs.cons (C.var 4) Cs.nil)))) (C.var 4))) Ss.nil)))) (Ss.cons (S.ret (C.var 3)) Ss.nil)))⟩
theorem raised_loop {P : Nat → Option Fd} {i_times m : Nat} {E : Nat} (hE : E < 1000000) {g : Int} {t0 : Bool} (pw : Nat → D) (hT : ∀ i j, i + j ≤ E → callN P m i_times [.val false (.int g), .val false (pw i), .val false (pw j)] = some (.ok (.dat (pw (i + j))), [.non, .non, .non])) (x1 x2 : Slot) :
    ∀ (k i j : Nat), i + j * k = E → ∃ w, whlM (evT (callN P m) (C.cmp .gt (C.var 5) (C.cst (D.int 0)))) (fun ρ => MP.execs (callN P m) (Ss.cons (S.ife (C.cmp .eq (C.bin .mod (C.var 5) (C.cst (D.int 2))) (C.cst (D.int 1))) (Ss.cons (S.asg (Tg.nm 3) (C.call i_times [false, false, false] (Cs.cons (C.var 0) (Cs.cons (C.var 3) (Cs.cons (C.var 4) Cs.nil))))) Ss.nil) Ss.nil) (Ss.cons (S.aug 5 .fdiv (C.cst (D.int 2))) (Ss.cons (S.asg (Tg.nm 4) (C.ite (C.cmp .gt (C.var 5) (C.cst (D.int 0))) (C.call i_times [false, false, false] (Cs.cons (C.var 0) (Cs.cons (C.var 4) (Cs.cons (C.var 4) Cs.nil)))) (C.var 4))) Ss.nil))) ρ) [.val t0 (.int g), x1, x2, .val false (pw i), .val false (pw j), .val false (.int k)] =
      some (.ok .nxt, [.val t0 (.int g), x1, x2, .val false (pw E), w, .val false (.int 0)]) := by
  have b2 : bits 2 < 9000 := by decide +kernel
  intro k
  induction k using Nat.strongRecOn with
  | _ k ih =>
    intro i j h
    by_cases hk : k = 0
    · subst hk
      have : i = E := by omega
      subst this
      exact ⟨.val false (pw j), whl_stop (by simp [runF, MP.execs, ev_cst, ev_glb, ev_var, ev_tup, ev_lst, ev_dis0, ev_dis1, ev_bin, ev_neg, ev_boo, ev_not, ev_cmp, ev_chn, ev_ite, ev_idx, ev_slc, ev_call, ev_blt, ev_isi, ev_lstI, x_par, x_aug, x_seti, x_app, x_expr, x_ife, x_ret, x_retN, x_pas, x_brk, x_cnt, x_rse, x_nm, x_tp, evB, evIf, evO, evAs, evDs, evI, evT, evRs, bnd, ok, op1, op2, view, views, tru, frzM, frz, keepA, unslot, slotOf, putA, putAs, putD, nxtO, augD, setiD, appD, retA, asgT, asgTs, blts, liftO, bltD, absD, maxD, minD, int1D, lenD, gcdD, isiD, blsD, intsD, anyD, allD, sumD, tupleD, listD, strD, reprD, keyB, binD, cmpO, cmpD, datB, negD, idxD, getD, ixD, slcD, tyD, D.truth, D.shp, D.shps, D.eqv, D.eqvs, itemsD, rngD, zipO, enumO, intO, isND, doCall, lends, lendA, lentIx, backs, backS, maskS, mask1])⟩
    · have hkp : 0 < k := by omega
      have e2 : (k : Int).fdiv 2 = ((k / 2 : Nat) : Int) := by rw [Int.fdiv_eq_ediv_of_nonneg _ (by omega)]; exact (Int.natCast_ediv k 2).symm
      have em : (k : Int).fmod 2 = ((k % 2 : Nat) : Int) := by rw [Int.fmod_eq_emod_of_nonneg _ (by omega)]; exact (Int.natCast_emod k 2).symm
      have dm := Nat.div_add_mod k 2
      have hjk : j * k = j * (2 * (k / 2)) + j * (k % 2) := by rw [← Nat.mul_add, dm]
      have hj2 : j * (2 * (k / 2)) = (j + j) * (k / 2) := by rw [← Nat.mul_assoc, Nat.mul_two]
      by_cases ho : k % 2 = 1
      · rw [ho] at hjk em
        by_cases hz : k / 2 = 0
        · have hs : i + j ≤ E := by rw [hz] at hjk; omega
          obtain ⟨w, e⟩ := ih (k / 2) (by omega) (i + j) j (by rw [hz] at hjk ⊢; omega)
          exact ⟨w, whl_turn (ρ1 := [.val t0 (.int g), x1, x2, .val false (pw i), .val false (pw j), .val false (.int k)]) (ρ2 := [.val t0 (.int g), x1, x2, .val false (pw (i + j)), .val false (pw j), .val false (.int (k / 2 : Nat))]) (by simp [runF, MP.execs, ev_cst, ev_glb, ev_var, ev_tup, ev_lst, ev_dis0, ev_dis1, ev_bin, ev_neg, ev_boo, ev_not, ev_cmp, ev_chn, ev_ite, ev_idx, ev_slc, ev_call, ev_blt, ev_isi, ev_lstI, x_par, x_aug, x_seti, x_app, x_expr, x_ife, x_ret, x_retN, x_pas, x_brk, x_cnt, x_rse, x_nm, x_tp, evB, evIf, evO, evAs, evDs, evI, evT, evRs, bnd, ok, op1, op2, view, views, tru, frzM, frz, keepA, unslot, slotOf, putA, putAs, putD, nxtO, augD, setiD, appD, retA, asgT, asgTs, blts, liftO, bltD, absD, maxD, minD, int1D, lenD, gcdD, isiD, blsD, intsD, anyD, allD, sumD, tupleD, listD, strD, reprD, keyB, binD, cmpO, cmpD, datB, negD, idxD, getD, ixD, slcD, tyD, D.truth, D.shp, D.shps, D.eqv, D.eqvs, itemsD, rngD, zipO, enumO, intO, isND, doCall, lends, lendA, lentIx, backs, backS, maskS, mask1, hkp]) (by simp [runF, MP.execs, ev_cst, ev_glb, ev_var, ev_tup, ev_lst, ev_dis0, ev_dis1, ev_bin, ev_neg, ev_boo, ev_not, ev_cmp, ev_chn, ev_ite, ev_idx, ev_slc, ev_call, ev_blt, ev_isi, ev_lstI, x_par, x_aug, x_seti, x_app, x_expr, x_ife, x_ret, x_retN, x_pas, x_brk, x_cnt, x_rse, x_nm, x_tp, evB, evIf, evO, evAs, evDs, evI, evT, evRs, bnd, ok, op1, op2, view, views, tru, frzM, frz, keepA, unslot, slotOf, putA, putAs, putD, nxtO, augD, setiD, appD, retA, asgT, asgTs, blts, liftO, bltD, absD, maxD, minD, int1D, lenD, gcdD, isiD, blsD, intsD, anyD, allD, sumD, tupleD, listD, strD, reprD, keyB, binD, cmpO, cmpD, datB, negD, idxD, getD, ixD, slcD, tyD, D.truth, D.shp, D.shps, D.eqv, D.eqvs, itemsD, rngD, zipO, enumO, intO, isND, doCall, lends, lendA, lentIx, backs, backS, maskS, mask1, em, e2, hT i j hs, b2, hz]) e⟩
        · have h1 : j + j ≤ (j + j) * (k / 2) := Nat.le_mul_of_pos_right _ (by omega)
          have hs : i + j ≤ E := by omega
          have hs2 : j + j ≤ E := by omega
          have hz2 : 0 < k / 2 := by omega
          have hz3 : (0 : Int) < ((k / 2 : Nat) : Int) := by omega
          obtain ⟨w, e⟩ := ih (k / 2) (by omega) (i + j) (j + j) (by omega)
          generalize hK : ((k / 2 : Nat) : Int) = K at *
          exact ⟨w, whl_turn (ρ1 := [.val t0 (.int g), x1, x2, .val false (pw i), .val false (pw j), .val false (.int k)]) (ρ2 := [.val t0 (.int g), x1, x2, .val false (pw (i + j)), .val false (pw (j + j)), .val false (.int K)]) (by simp [runF, MP.execs, ev_cst, ev_glb, ev_var, ev_tup, ev_lst, ev_dis0, ev_dis1, ev_bin, ev_neg, ev_boo, ev_not, ev_cmp, ev_chn, ev_ite, ev_idx, ev_slc, ev_call, ev_blt, ev_isi, ev_lstI, x_par, x_aug, x_seti, x_app, x_expr, x_ife, x_ret, x_retN, x_pas, x_brk, x_cnt, x_rse, x_nm, x_tp, evB, evIf, evO, evAs, evDs, evI, evT, evRs, bnd, ok, op1, op2, view, views, tru, frzM, frz, keepA, unslot, slotOf, putA, putAs, putD, nxtO, augD, setiD, appD, retA, asgT, asgTs, blts, liftO, bltD, absD, maxD, minD, int1D, lenD, gcdD, isiD, blsD, intsD, anyD, allD, sumD, tupleD, listD, strD, reprD, keyB, binD, cmpO, cmpD, datB, negD, idxD, getD, ixD, slcD, tyD, D.truth, D.shp, D.shps, D.eqv, D.eqvs, itemsD, rngD, zipO, enumO, intO, isND, doCall, lends, lendA, lentIx, backs, backS, maskS, mask1, hkp]) (by simp [runF, MP.execs, ev_cst, ev_glb, ev_var, ev_tup, ev_lst, ev_dis0, ev_dis1, ev_bin, ev_neg, ev_boo, ev_not, ev_cmp, ev_chn, ev_ite, ev_idx, ev_slc, ev_call, ev_blt, ev_isi, ev_lstI, x_par, x_aug, x_seti, x_app, x_expr, x_ife, x_ret, x_retN, x_pas, x_brk, x_cnt, x_rse, x_nm, x_tp, evB, evIf, evO, evAs, evDs, evI, evT, evRs, bnd, ok, op1, op2, view, views, tru, frzM, frz, keepA, unslot, slotOf, putA, putAs, putD, nxtO, augD, setiD, appD, retA, asgT, asgTs, blts, liftO, bltD, absD, maxD, minD, int1D, lenD, gcdD, isiD, blsD, intsD, anyD, allD, sumD, tupleD, listD, strD, reprD, keyB, binD, cmpO, cmpD, datB, negD, idxD, getD, ixD, slcD, tyD, D.truth, D.shp, D.shps, D.eqv, D.eqvs, itemsD, rngD, zipO, enumO, intO, isND, doCall, lends, lendA, lentIx, backs, backS, maskS, mask1, em, e2, hT i j hs, hT j j hs2, b2, hz3]) e⟩
      · have hev : k % 2 = 0 := by omega
        rw [hev] at hjk em
        have hz2 : 0 < k / 2 := by omega
        have h1 : j + j ≤ (j + j) * (k / 2) := Nat.le_mul_of_pos_right _ (by omega)
        have hs2 : j + j ≤ E := by omega
        have hz3 : (0 : Int) < ((k / 2 : Nat) : Int) := by omega
        obtain ⟨w, e⟩ := ih (k / 2) (by omega) i (j + j) (by omega)
        generalize hK : ((k / 2 : Nat) : Int) = K at *
        exact ⟨w, whl_turn (ρ1 := [.val t0 (.int g), x1, x2, .val false (pw i), .val false (pw j), .val false (.int k)]) (ρ2 := [.val t0 (.int g), x1, x2, .val false (pw i), .val false (pw (j + j)), .val false (.int K)]) (by simp [runF, MP.execs, ev_cst, ev_glb, ev_var, ev_tup, ev_lst, ev_dis0, ev_dis1, ev_bin, ev_neg, ev_boo, ev_not, ev_cmp, ev_chn, ev_ite, ev_idx, ev_slc, ev_call, ev_blt, ev_isi, ev_lstI, x_par, x_aug, x_seti, x_app, x_expr, x_ife, x_ret, x_retN, x_pas, x_brk, x_cnt, x_rse, x_nm, x_tp, evB, evIf, evO, evAs, evDs, evI, evT, evRs, bnd, ok, op1, op2, view, views, tru, frzM, frz, keepA, unslot, slotOf, putA, putAs, putD, nxtO, augD, setiD, appD, retA, asgT, asgTs, blts, liftO, bltD, absD, maxD, minD, int1D, lenD, gcdD, isiD, blsD, intsD, anyD, allD, sumD, tupleD, listD, strD, reprD, keyB, binD, cmpO, cmpD, datB, negD, idxD, getD, ixD, slcD, tyD, D.truth, D.shp, D.shps, D.eqv, D.eqvs, itemsD, rngD, zipO, enumO, intO, isND, doCall, lends, lendA, lentIx, backs, backS, maskS, mask1, hkp]) (by simp [runF, MP.execs, ev_cst, ev_glb, ev_var, ev_tup, ev_lst, ev_dis0, ev_dis1, ev_bin, ev_neg, ev_boo, ev_not, ev_cmp, ev_chn, ev_ite, ev_idx, ev_slc, ev_call, ev_blt, ev_isi, ev_lstI, x_par, x_aug, x_seti, x_app, x_expr, x_ife, x_ret, x_retN, x_pas, x_brk, x_cnt, x_rse, x_nm, x_tp, evB, evIf, evO, evAs, evDs, evI, evT, evRs, bnd, ok, op1, op2, view, views, tru, frzM, frz, keepA, unslot, slotOf, putA, putAs, putD, nxtO, augD, setiD, appD, retA, asgT, asgTs, blts, liftO, bltD, absD, maxD, minD, int1D, lenD, gcdD, isiD, blsD, intsD, anyD, allD, sumD, tupleD, listD, strD, reprD, keyB, binD, cmpO, cmpD, datB, negD, idxD, getD, ixD, slcD, tyD, D.truth, D.shp, D.shps, D.eqv, D.eqvs, itemsD, rngD, zipO, enumO, intO, isND, doCall, lends, lendA, lentIx, backs, backS, maskS, mask1, em, e2, hT j j hs2, b2, hz3]) e⟩
/-- a power by squaring; pw: the powers of the base (or of what undoes it) -/
theorem run_raised {P : Nat → Option Fd} {i i_times i_undone i_unit m : Nat} (hP : P i = some (F_raised_in i_times i_undone i_unit)) {g e : Int} {x : D} (t0 t1 t2 : Bool) (he : e.natAbs < 1000000) (pw : Nat → D)
    (hT : ∀ i j, i + j ≤ e.natAbs → callN P m i_times [.val false (.int g), .val false (pw i), .val false (pw j)] = some (.ok (.dat (pw (i + j))), [.non, .non, .non]))
    (h0 : callN P m i_unit [.val false (.int g)] = some (.ok (.dat (pw 0)), [.non])) (h1 : 0 ≤ e → x = pw 1) (h2 : e < 0 → callN P m i_undone [.val false (.int g), .val false x] = some (.ok (.dat (pw 1)), [.non, .non])) :
    callN P (m + 1) i [.val t0 (.int g), .val t1 x, .val t2 (.int e)] = some (.ok (.dat (pw e.natAbs)), [.non, .non, .non]) := by
  obtain ⟨w, el⟩ := raised_loop he (t0 := t0) pw hT (.val t1 x) (.val t2 (.int e)) e.natAbs 0 1 (by omega)
  have hw : MP.exec (callN P m) (S.whl (C.cmp .gt (C.var 5) (C.cst (D.int 0))) (Ss.cons (S.ife (C.cmp .eq (C.bin .mod (C.var 5) (C.cst (D.int 2))) (C.cst (D.int 1))) (Ss.cons (S.asg (Tg.nm 3) (C.call i_times [false, false, false] (Cs.cons (C.var 0) (Cs.cons (C.var 3) (Cs.cons (C.var 4) Cs.nil))))) Ss.nil) Ss.nil) (Ss.cons (S.aug 5 .fdiv (C.cst (D.int 2))) (Ss.cons (S.asg (Tg.nm 4) (C.ite (C.cmp .gt (C.var 5) (C.cst (D.int 0))) (C.call i_times [false, false, false] (Cs.cons (C.var 0) (Cs.cons (C.var 4) (Cs.cons (C.var 4) Cs.nil)))) (C.var 4))) Ss.nil)))) [.val t0 (.int g), .val t1 x, .val t2 (.int e), .val false (pw 0), .val false (pw 1), .val false (.int e.natAbs)] = _ := (x_whl _ _ _ _).trans el
  rw [callN]
  by_cases hn : 0 ≤ e
  · have hl : ¬ e < 0 := by omega
    have ea : (e.natAbs : Int) = e := by omega
    have hx := h1 hn
    subst hx
    rw [ea] at hw
    simp [hP, F_raised_in, runF, MP.execs, ev_cst, ev_glb, ev_var, ev_tup, ev_lst, ev_dis0, ev_dis1, ev_bin, ev_neg, ev_boo, ev_not, ev_cmp, ev_chn, ev_ite, ev_idx, ev_slc, ev_call, ev_blt, ev_isi, ev_lstI, x_par, x_aug, x_seti, x_app, x_expr, x_ife, x_ret, x_retN, x_pas, x_brk, x_cnt, x_rse, x_nm, x_tp, evB, evIf, evO, evAs, evDs, evI, evT, evRs, bnd, ok, op1, op2, view, views, tru, frzM, frz, keepA, unslot, slotOf, putA, putAs, putD, nxtO, augD, setiD, appD, retA, asgT, asgTs, blts, liftO, bltD, absD, maxD, minD, int1D, lenD, gcdD, isiD, blsD, intsD, anyD, allD, sumD, tupleD, listD, strD, reprD, keyB, binD, cmpO, cmpD, datB, negD, idxD, getD, ixD, slcD, tyD, D.truth, D.shp, D.shps, D.eqv, D.eqvs, itemsD, rngD, zipO, enumO, intO, isND, doCall, lends, lendA, lentIx, backs, backS, maskS, mask1, hn, hl, h0, hw]
  · have hl : e < 0 := by omega
    have ea : (e.natAbs : Int) = -e := by omega
    rw [ea] at hw
    simp [hP, F_raised_in, runF, MP.execs, ev_cst, ev_glb, ev_var, ev_tup, ev_lst, ev_dis0, ev_dis1, ev_bin, ev_neg, ev_boo, ev_not, ev_cmp, ev_chn, ev_ite, ev_idx, ev_slc, ev_call, ev_blt, ev_isi, ev_lstI, x_par, x_aug, x_seti, x_app, x_expr, x_ife, x_ret, x_retN, x_pas, x_brk, x_cnt, x_rse, x_nm, x_tp, evB, evIf, evO, evAs, evDs, evI, evT, evRs, bnd, ok, op1, op2, view, views, tru, frzM, frz, keepA, unslot, slotOf, putA, putAs, putD, nxtO, augD, setiD, appD, retA, asgT, asgTs, blts, liftO, bltD, absD, maxD, minD, int1D, lenD, gcdD, isiD, blsD, intsD, anyD, allD, sumD, tupleD, listD, strD, reprD, keyB, binD, cmpO, cmpD, datB, negD, idxD, getD, ixD, slcD, tyD, D.truth, D.shp, D.shps, D.eqv, D.eqvs, itemsD, rngD, zipO, enumO, intO, isND, doCall, lends, lendA, lentIx, backs, backS, maskS, mask1, hn, hl, h0, h2 hl, hw]
end MP
set_option Elab.async false
set_option linter.all false
set_option maxRecDepth 100000
namespace K00
open PySem MP
def d_is_whole : Fd := ⟨"is_whole", 1, ["value"], (Ss.cons (S.ret (C.boo true (Cs.cons (C.isi [.int] (C.var 0)) (Cs.cons (C.not_ (C.isi [.bool] (C.var 0))) Cs.nil)))) Ss.nil)⟩
def d_is_integer : Fd := ⟨"is_integer", 1, ["value"], (Ss.cons (S.ret (C.boo true (Cs.cons (C.call 0 [false] (Cs.cons (C.var 0) Cs.nil)) (Cs.cons (C.chn .lt .lt (C.neg (C.glb "FAR" (D.int 1000000000000000000000000000000000000000000000000000000000000))) (C.var 0) (C.glb "FAR" (D.int 1000000000000000000000000000000000000000000000000000000000000))) Cs.nil)))) Ss.nil)⟩
def d_is_within : Fd := ⟨"is_within", 3, ["value", "least", "most"], (Ss.cons (S.ret (C.boo true (Cs.cons (C.call 0 [false] (Cs.cons (C.var 0) Cs.nil)) (Cs.cons (C.chn .le .le (C.var 1) (C.var 0) (C.var 2)) Cs.nil)))) Ss.nil)⟩
def d_has_divisor : Fd := ⟨"has_divisor", 1, ["number", "divisor"], (Ss.cons (S.ret (C.blt .any (Cs.cons (C.cmpr (C.cmp .eq (C.bin .mod (C.var 0) (C.var 1)) (C.cst (D.int 0))) (Tg.nm 1) (I.rng2 (C.cst (D.int 2)) (C.cst (D.int 100))) (CO.some (C.cmp .le (C.bin .mul (C.var 1) (C.var 1)) (C.var 0))) [1]) Cs.nil))) Ss.nil)⟩
def d_is_ground : Fd := ⟨"is_ground", 1, ["value"], (Ss.cons (S.ife (C.boo false (Cs.cons (C.not_ (C.call 2 [false, false, false] (Cs.cons (C.var 0) (Cs.cons (C.cst (D.int 0)) (Cs.cons (C.glb "MAX_GROUND" (D.int 9999)) Cs.nil))))) (Cs.cons (C.cmp .eq (C.var 0) (C.cst (D.int 1))) Cs.nil))) (Ss.cons (S.ret (C.cst (D.bl false))) Ss.nil) Ss.nil) (Ss.cons (S.ret (C.boo false (Cs.cons (C.cmp .eq (C.var 0) (C.cst (D.int 0))) (Cs.cons (C.not_ (C.call 3 [false] (Cs.cons (C.var 0) Cs.nil))) Cs.nil)))) Ss.nil))⟩
def d_is_number_up_to : Fd := ⟨"is_number_up_to", 3, ["ground", "value", "bound", "part"], (Ss.cons (S.ife (C.cmp .ne (C.var 0) (C.cst (D.int 0))) (Ss.cons (S.ret (C.call 2 [false, false, false] (Cs.cons (C.var 1) (Cs.cons (C.cst (D.int 0)) (Cs.cons (C.bin .sub (C.var 0) (C.cst (D.int 1))) Cs.nil))))) Ss.nil) Ss.nil) (Ss.cons (S.ife (C.boo false (Cs.cons (C.not_ (C.isi [.tuple] (C.var 1))) (Cs.cons (C.cmp .ne (C.blt .len (Cs.cons (C.var 1) Cs.nil)) (C.glb "PAIR_SIZE" (D.int 2))) (Cs.cons (C.not_ (C.blt .all (Cs.cons (C.cmpr (C.call 0 [false] (Cs.cons (C.var 3) Cs.nil)) (Tg.nm 3) (I.seq (C.var 1)) CO.none [3]) Cs.nil))) Cs.nil)))) (Ss.cons (S.ret (C.cst (D.bl false))) Ss.nil) Ss.nil) (Ss.cons (S.ret (C.boo true (Cs.cons (C.chn .lt .lt (C.cst (D.int 0)) (C.idx (C.var 1) (C.cst (D.int 1))) (C.var 2)) (Cs.cons (C.chn .lt .lt (C.neg (C.var 2)) (C.idx (C.var 1) (C.cst (D.int 0))) (C.var 2)) (Cs.cons (C.cmp .eq (C.blt .gcd (Cs.cons (C.idx (C.var 1) (C.cst (D.int 0))) (Cs.cons (C.idx (C.var 1) (C.cst (D.int 1))) Cs.nil))) (C.cst (D.int 1))) Cs.nil))))) Ss.nil)))⟩
def d_is_number_of : Fd := ⟨"is_number_of", 2, ["ground", "value"], (Ss.cons (S.ret (C.call 5 [false, false, false] (Cs.cons (C.var 0) (Cs.cons (C.var 1) (Cs.cons (C.glb "FAR" (D.int 1000000000000000000000000000000000000000000000000000000000000)) Cs.nil))))) Ss.nil)⟩
def d_require_ground : Fd := ⟨"require_ground", 1, ["value"], (Ss.cons (S.ife (C.not_ (C.call 4 [false] (Cs.cons (C.var 0) Cs.nil))) (Ss.cons (S.rse 1 (CO.some (C.var 0))) Ss.nil) Ss.nil) Ss.nil)⟩
def d_require_number : Fd := ⟨"require_number", 2, ["ground", "value"], (Ss.cons (S.ife (C.not_ (C.call 6 [false, false] (Cs.cons (C.var 0) (Cs.cons (C.var 1) Cs.nil)))) (Ss.cons (S.rse 3 (CO.some (C.var 1))) Ss.nil) Ss.nil) Ss.nil)⟩
def d_require_integer : Fd := ⟨"require_integer", 1, ["value"], (Ss.cons (S.ife (C.not_ (C.call 1 [false] (Cs.cons (C.var 0) Cs.nil))) (Ss.cons (S.rse 3 (CO.some (C.var 0))) Ss.nil) Ss.nil) Ss.nil)⟩
def d_require_within : Fd := ⟨"require_within", 3, ["value", "least", "most"], (Ss.cons (S.ife (C.not_ (C.call 2 [false, false, false] (Cs.cons (C.var 0) (Cs.cons (C.var 1) (Cs.cons (C.var 2) Cs.nil))))) (Ss.cons (S.rse 3 (CO.some (C.var 0))) Ss.nil) Ss.nil) Ss.nil)⟩
def d_require_two_numbers : Fd := ⟨"require_two_numbers", 3, ["ground", "one", "other"], (Ss.cons (S.expr (C.call 7 [false] (Cs.cons (C.var 0) Cs.nil))) (Ss.cons (S.expr (C.call 8 [false, false] (Cs.cons (C.var 0) (Cs.cons (C.var 1) Cs.nil)))) (Ss.cons (S.expr (C.call 8 [false, false] (Cs.cons (C.var 0) (Cs.cons (C.var 2) Cs.nil)))) Ss.nil)))⟩
def d_fraction_in : Fd := ⟨"fraction_in", 2, ["top", "bottom", "shared"], (Ss.cons (S.asg (Tg.nm 2) (C.ite (C.cmp .gt (C.var 1) (C.cst (D.int 0))) (C.blt .gcd (Cs.cons (C.var 0) (Cs.cons (C.var 1) Cs.nil))) (C.neg (C.blt .gcd (Cs.cons (C.var 0) (Cs.cons (C.var 1) Cs.nil)))))) (Ss.cons (S.ret (C.tup (Cs.cons (C.bin .fdiv (C.var 0) (C.var 2)) (Cs.cons (C.bin .fdiv (C.var 1) (C.var 2)) Cs.nil)))) Ss.nil))⟩
def d_whole_in : Fd := ⟨"whole_in", 2, ["ground", "number"], (Ss.cons (S.ret (C.ite (C.cmp .eq (C.var 0) (C.cst (D.int 0))) (C.tup (Cs.cons (C.var 1) (Cs.cons (C.cst (D.int 1)) Cs.nil))) (C.bin .mod (C.var 1) (C.var 0)))) Ss.nil)⟩
def d_zero : Fd := ⟨"zero", 1, ["ground"], (Ss.cons (S.ret (C.call 13 [false, false] (Cs.cons (C.var 0) (Cs.cons (C.cst (D.int 0)) Cs.nil)))) Ss.nil)⟩
def d_unit : Fd := ⟨"unit", 1, ["ground"], (Ss.cons (S.ret (C.call 13 [false, false] (Cs.cons (C.var 0) (Cs.cons (C.cst (D.int 1)) Cs.nil)))) Ss.nil)⟩
def d_is_zero : Fd := ⟨"is_zero", 2, ["ground", "one"], (Ss.cons (S.ret (C.cmp .eq (C.var 1) (C.call 14 [false] (Cs.cons (C.var 0) Cs.nil)))) Ss.nil)⟩
def d_plus : Fd := ⟨"plus", 3, ["ground", "one", "other"], (Ss.cons (S.ife (C.cmp .ne (C.var 0) (C.cst (D.int 0))) (Ss.cons (S.ret (C.bin .mod (C.bin .add (C.var 1) (C.var 2)) (C.var 0))) Ss.nil) Ss.nil) (Ss.cons (S.ret (C.call 12 [false, false] (Cs.cons (C.bin .add (C.bin .mul (C.idx (C.var 1) (C.cst (D.int 0))) (C.idx (C.var 2) (C.cst (D.int 1)))) (C.bin .mul (C.idx (C.var 2) (C.cst (D.int 0))) (C.idx (C.var 1) (C.cst (D.int 1))))) (Cs.cons (C.bin .mul (C.idx (C.var 1) (C.cst (D.int 1))) (C.idx (C.var 2) (C.cst (D.int 1)))) Cs.nil)))) Ss.nil))⟩
def d_opposite : Fd := ⟨"opposite", 2, ["ground", "one"], (Ss.cons (S.ret (C.ite (C.cmp .eq (C.var 0) (C.cst (D.int 0))) (C.tup (Cs.cons (C.neg (C.idx (C.var 1) (C.cst (D.int 0)))) (Cs.cons (C.idx (C.var 1) (C.cst (D.int 1))) Cs.nil))) (C.bin .mod (C.neg (C.var 1)) (C.var 0)))) Ss.nil)⟩
def d_minus : Fd := ⟨"minus", 3, ["ground", "one", "other"], (Ss.cons (S.ret (C.call 17 [false, false, false] (Cs.cons (C.var 0) (Cs.cons (C.var 1) (Cs.cons (C.call 18 [false, false] (Cs.cons (C.var 0) (Cs.cons (C.var 2) Cs.nil))) Cs.nil))))) Ss.nil)⟩
def d_times : Fd := ⟨"times", 3, ["ground", "one", "other"], (Ss.cons (S.ife (C.cmp .ne (C.var 0) (C.cst (D.int 0))) (Ss.cons (S.ret (C.bin .mod (C.bin .mul (C.var 1) (C.var 2)) (C.var 0))) Ss.nil) Ss.nil) (Ss.cons (S.ret (C.call 12 [false, false] (Cs.cons (C.bin .mul (C.idx (C.var 1) (C.cst (D.int 0))) (C.idx (C.var 2) (C.cst (D.int 0)))) (Cs.cons (C.bin .mul (C.idx (C.var 1) (C.cst (D.int 1))) (C.idx (C.var 2) (C.cst (D.int 1)))) Cs.nil)))) Ss.nil))⟩
def d_undone : Fd := ⟨"undone", 2, ["ground", "one"], (Ss.cons (S.ret (C.ite (C.cmp .eq (C.var 0) (C.cst (D.int 0))) (C.call 12 [false, false] (Cs.cons (C.idx (C.var 1) (C.cst (D.int 1))) (Cs.cons (C.idx (C.var 1) (C.cst (D.int 0))) Cs.nil))) (C.call 25 [false, false] (Cs.cons (C.var 1) (Cs.cons (C.var 0) Cs.nil))))) Ss.nil)⟩
def d_over : Fd := ⟨"over", 3, ["ground", "one", "other"], (Ss.cons (S.ret (C.call 20 [false, false, false] (Cs.cons (C.var 0) (Cs.cons (C.var 1) (Cs.cons (C.call 21 [false, false] (Cs.cons (C.var 0) (Cs.cons (C.var 2) Cs.nil))) Cs.nil))))) Ss.nil)⟩
def d_raised_in : Fd := ⟨"raised_in", 3, ["ground", "one", "exponent", "found", "square", "left"], (Ss.cons (S.par [3, 4, 5] (Cs.cons (C.call 15 [false] (Cs.cons (C.var 0) Cs.nil)) (Cs.cons (C.ite (C.cmp .ge (C.var 2) (C.cst (D.int 0))) (C.var 1) (C.call 21 [false, false] (Cs.cons (C.var 0) (Cs.cons (C.var 1) Cs.nil)))) (Cs.cons (C.blt .abs (Cs.cons (C.var 2) Cs.nil)) Cs.nil)))) (Ss.cons (S.whl (C.cmp .gt (C.var 5) (C.cst (D.int 0))) (Ss.cons (S.ife (C.cmp .eq (C.bin .mod (C.var 5) (C.cst (D.int 2))) (C.cst (D.int 1))) (Ss.cons (S.asg (Tg.nm 3) (C.call 20 [false, false, false] (Cs.cons (C.var 0) (Cs.cons (C.var 3) (Cs.cons (C.var 4) Cs.nil))))) Ss.nil) Ss.nil) (Ss.cons (S.aug 5 .fdiv (C.cst (D.int 2))) (Ss.cons (S.asg (Tg.nm 4) (C.ite (C.cmp .gt (C.var 5) (C.cst (D.int 0))) (C.call 20 [false, false, false] (Cs.cons (C.var 0) (Cs.cons (C.var 4) (Cs.cons (C.var 4) Cs.nil)))) (C.var 4))) Ss.nil)))) (Ss.cons (S.ret (C.var 3)) Ss.nil)))⟩
def d_divisor_in : Fd := ⟨"divisor_in", 2, ["one", "other", "here", "there", "first", "second", "left", "right", "factor"], (Ss.cons (S.asg (Tg.tp (Tgs.cons (Tg.nm 2) (Tgs.cons (Tg.nm 3) (Tgs.cons (Tg.nm 4) (Tgs.cons (Tg.nm 5) (Tgs.cons (Tg.nm 6) (Tgs.cons (Tg.nm 7) Tgs.nil))))))) (C.tup (Cs.cons (C.var 0) (Cs.cons (C.var 1) (Cs.cons (C.cst (D.int 1)) (Cs.cons (C.cst (D.int 0)) (Cs.cons (C.cst (D.int 0)) (Cs.cons (C.cst (D.int 1)) Cs.nil)))))))) (Ss.cons (S.whl (C.cmp .ne (C.var 3) (C.cst (D.int 0))) (Ss.cons (S.asg (Tg.nm 8) (C.bin .fdiv (C.var 2) (C.var 3))) (Ss.cons (S.par [2, 3] (Cs.cons (C.var 3) (Cs.cons (C.bin .sub (C.var 2) (C.bin .mul (C.var 8) (C.var 3))) Cs.nil))) (Ss.cons (S.par [4, 6] (Cs.cons (C.var 6) (Cs.cons (C.bin .sub (C.var 4) (C.bin .mul (C.var 8) (C.var 6))) Cs.nil))) (Ss.cons (S.par [5, 7] (Cs.cons (C.var 7) (Cs.cons (C.bin .sub (C.var 5) (C.bin .mul (C.var 8) (C.var 7))) Cs.nil))) Ss.nil))))) (Ss.cons (S.ret (C.ite (C.cmp .ge (C.var 2) (C.cst (D.int 0))) (C.tup (Cs.cons (C.var 4) (Cs.cons (C.var 5) (Cs.cons (C.var 2) Cs.nil)))) (C.tup (Cs.cons (C.neg (C.var 4)) (Cs.cons (C.neg (C.var 5)) (Cs.cons (C.neg (C.var 2)) Cs.nil)))))) Ss.nil)))⟩
def d_undone_rest : Fd := ⟨"undone_rest", 2, ["number", "modulus"], (Ss.cons (S.ret (C.bin .mod (C.idx (C.call 24 [false, false] (Cs.cons (C.var 0) (Cs.cons (C.var 1) Cs.nil))) (C.cst (D.int 0))) (C.var 1))) Ss.nil)⟩
def d_compared_in : Fd := ⟨"compared_in", 2, ["one", "other", "difference"], (Ss.cons (S.asg (Tg.nm 2) (C.bin .sub (C.bin .mul (C.idx (C.var 0) (C.cst (D.int 0))) (C.idx (C.var 1) (C.cst (D.int 1)))) (C.bin .mul (C.idx (C.var 1) (C.cst (D.int 0))) (C.idx (C.var 0) (C.cst (D.int 1)))))) (Ss.cons (S.ret (C.bin .sub (C.blt .int1 (Cs.cons (C.cmp .gt (C.var 2) (C.cst (D.int 0))) Cs.nil)) (C.blt .int1 (Cs.cons (C.cmp .lt (C.var 2) (C.cst (D.int 0))) Cs.nil)))) Ss.nil))⟩
def d_rounded_in : Fd := ⟨"rounded_in", 1, ["one"], (Ss.cons (S.ret (C.bin .fdiv (C.idx (C.var 0) (C.cst (D.int 0))) (C.idx (C.var 0) (C.cst (D.int 1))))) Ss.nil)⟩
def d_read_in : Fd := ⟨"read_in", 2, ["prime", "one"], (Ss.cons (S.ret (C.bin .mod (C.bin .mul (C.idx (C.var 1) (C.cst (D.int 0))) (C.call 25 [false, false] (Cs.cons (C.idx (C.var 1) (C.cst (D.int 1))) (Cs.cons (C.var 0) Cs.nil)))) (C.var 0))) Ss.nil)⟩
def d_whole : Fd := ⟨"whole", 2, ["ground", "number"], (Ss.cons (S.expr (C.call 7 [false] (Cs.cons (C.var 0) Cs.nil))) (Ss.cons (S.expr (C.call 9 [false] (Cs.cons (C.var 1) Cs.nil))) (Ss.cons (S.ret (C.call 13 [false, false] (Cs.cons (C.var 0) (Cs.cons (C.var 1) Cs.nil)))) Ss.nil)))⟩
def d_fraction : Fd := ⟨"fraction", 2, ["top", "bottom"], (Ss.cons (S.expr (C.call 9 [false] (Cs.cons (C.var 0) Cs.nil))) (Ss.cons (S.expr (C.call 9 [false] (Cs.cons (C.var 1) Cs.nil))) (Ss.cons (S.ife (C.cmp .eq (C.var 1) (C.cst (D.int 0))) (Ss.cons (S.rse 2 CO.none) Ss.nil) Ss.nil) (Ss.cons (S.ret (C.call 12 [false, false] (Cs.cons (C.var 0) (Cs.cons (C.var 1) Cs.nil)))) Ss.nil))))⟩
def d_added : Fd := ⟨"added", 3, ["ground", "one", "other"], (Ss.cons (S.expr (C.call 11 [false, false, false] (Cs.cons (C.var 0) (Cs.cons (C.var 1) (Cs.cons (C.var 2) Cs.nil))))) (Ss.cons (S.ret (C.call 17 [false, false, false] (Cs.cons (C.var 0) (Cs.cons (C.var 1) (Cs.cons (C.var 2) Cs.nil))))) Ss.nil))⟩
def d_subtracted : Fd := ⟨"subtracted", 3, ["ground", "one", "other"], (Ss.cons (S.expr (C.call 11 [false, false, false] (Cs.cons (C.var 0) (Cs.cons (C.var 1) (Cs.cons (C.var 2) Cs.nil))))) (Ss.cons (S.ret (C.call 19 [false, false, false] (Cs.cons (C.var 0) (Cs.cons (C.var 1) (Cs.cons (C.var 2) Cs.nil))))) Ss.nil))⟩
def d_multiplied : Fd := ⟨"multiplied", 3, ["ground", "one", "other"], (Ss.cons (S.expr (C.call 11 [false, false, false] (Cs.cons (C.var 0) (Cs.cons (C.var 1) (Cs.cons (C.var 2) Cs.nil))))) (Ss.cons (S.ret (C.call 20 [false, false, false] (Cs.cons (C.var 0) (Cs.cons (C.var 1) (Cs.cons (C.var 2) Cs.nil))))) Ss.nil))⟩
def d_divided : Fd := ⟨"divided", 3, ["ground", "one", "other"], (Ss.cons (S.expr (C.call 11 [false, false, false] (Cs.cons (C.var 0) (Cs.cons (C.var 1) (Cs.cons (C.var 2) Cs.nil))))) (Ss.cons (S.ife (C.call 16 [false, false] (Cs.cons (C.var 0) (Cs.cons (C.var 2) Cs.nil))) (Ss.cons (S.rse 2 CO.none) Ss.nil) Ss.nil) (Ss.cons (S.ret (C.call 22 [false, false, false] (Cs.cons (C.var 0) (Cs.cons (C.var 1) (Cs.cons (C.var 2) Cs.nil))))) Ss.nil)))⟩
def d_raised : Fd := ⟨"raised", 3, ["ground", "one", "exponent"], (Ss.cons (S.expr (C.call 7 [false] (Cs.cons (C.var 0) Cs.nil))) (Ss.cons (S.expr (C.call 8 [false, false] (Cs.cons (C.var 0) (Cs.cons (C.var 1) Cs.nil)))) (Ss.cons (S.expr (C.call 10 [false, false, false] (Cs.cons (C.var 2) (Cs.cons (C.neg (C.glb "MAX_EXPONENT" (D.int 1000))) (Cs.cons (C.glb "MAX_EXPONENT" (D.int 1000)) Cs.nil))))) (Ss.cons (S.ife (C.boo true (Cs.cons (C.cmp .lt (C.var 2) (C.cst (D.int 0))) (Cs.cons (C.call 16 [false, false] (Cs.cons (C.var 0) (Cs.cons (C.var 1) Cs.nil))) Cs.nil))) (Ss.cons (S.rse 2 CO.none) Ss.nil) Ss.nil) (Ss.cons (S.ret (C.call 23 [false, false, false] (Cs.cons (C.var 0) (Cs.cons (C.var 1) (Cs.cons (C.var 2) Cs.nil))))) Ss.nil)))))⟩
def d_compared : Fd := ⟨"compared", 2, ["one", "other"], (Ss.cons (S.expr (C.call 11 [false, false, false] (Cs.cons (C.cst (D.int 0)) (Cs.cons (C.var 0) (Cs.cons (C.var 1) Cs.nil))))) (Ss.cons (S.ret (C.call 26 [false, false] (Cs.cons (C.var 0) (Cs.cons (C.var 1) Cs.nil)))) Ss.nil))⟩
def d_rounded : Fd := ⟨"rounded", 1, ["one"], (Ss.cons (S.expr (C.call 8 [false, false] (Cs.cons (C.cst (D.int 0)) (Cs.cons (C.var 0) Cs.nil)))) (Ss.cons (S.ret (C.call 27 [false] (Cs.cons (C.var 0) Cs.nil))) Ss.nil))⟩
def d_read_at : Fd := ⟨"read_at", 2, ["prime", "one"], (Ss.cons (S.expr (C.call 7 [false] (Cs.cons (C.var 0) Cs.nil))) (Ss.cons (S.ife (C.cmp .eq (C.var 0) (C.cst (D.int 0))) (Ss.cons (S.rse 1 (CO.some (C.var 0))) Ss.nil) Ss.nil) (Ss.cons (S.expr (C.call 8 [false, false] (Cs.cons (C.cst (D.int 0)) (Cs.cons (C.var 1) Cs.nil)))) (Ss.cons (S.ife (C.cmp .eq (C.bin .mod (C.idx (C.var 1) (C.cst (D.int 1))) (C.var 0)) (C.cst (D.int 0))) (Ss.cons (S.rse 2 CO.none) Ss.nil) Ss.nil) (Ss.cons (S.ret (C.call 28 [false, false] (Cs.cons (C.var 0) (Cs.cons (C.var 1) Cs.nil)))) Ss.nil)))))⟩
def d_law_dice : Fd := ⟨"_law_dice", 2, ["_law_script", "_law_spot", "_law_cell", "_law_left"], (Ss.cons (S.asg (Tg.nm 2) (C.ite (C.cmp .lt (C.var 1) (C.blt .len (Cs.cons (C.var 0) Cs.nil))) (C.blt .int1 (Cs.cons (C.idx (C.var 0) (C.var 1)) Cs.nil)) (C.bin .add (C.bin .mul (C.cst (D.int 97)) (C.var 1)) (C.cst (D.int 59))))) (Ss.cons (S.asg (Tg.nm 3) (C.bin .mod (C.blt .max2 (Cs.cons (C.cst (D.int 0)) (Cs.cons (C.bin .sub (C.blt .abs (Cs.cons (C.var 2) Cs.nil)) (C.bin .pow (C.cst (D.int 10)) (C.cst (D.int 16)))) Cs.nil))) (C.bin .mul (C.bin .pow (C.cst (D.int 10)) (C.cst (D.int 58))) (C.bin .pow (C.cst (D.int 10)) (C.cst (D.int 60)))))) (Ss.cons (S.ret (C.lst (Cs.cons (C.var 3) (Cs.cons (C.bin .add (C.bin .add (C.bin .add (C.bin .mul (C.bin .mod (C.blt .abs (Cs.cons (C.var 2) Cs.nil)) (C.cst (D.int 1152921504606846733))) (C.cst (D.int 83))) (C.bin .mul (C.cst (D.int 1033)) (C.var 1))) (C.bin .mul (C.cst (D.int 61)) (C.blt .int1 (Cs.cons (C.cmp .lt (C.var 2) (C.cst (D.int 0))) Cs.nil)))) (C.cst (D.int 29))) (Cs.cons (C.cst (D.int 0)) Cs.nil))))) Ss.nil)))⟩
def d_law_roll : Fd := ⟨"_law_roll", 2, ["_law_dice_here", "_law_most", "_law_one", "_law_two", "_law_found"], (Ss.cons (S.ife (C.cmp .gt (C.idx (C.var 0) (C.cst (D.int 0))) (C.cst (D.int 0))) (Ss.cons (S.asg (Tg.nm 4) (C.bin .mod (C.blt .int1 (Cs.cons (C.idx (C.var 0) (C.cst (D.int 0))) Cs.nil)) (C.var 1))) (Ss.cons (S.seti 0 (C.cst (D.int 0)) (C.bin .fdiv (C.idx (C.var 0) (C.cst (D.int 0))) (C.var 1))) (Ss.cons (S.ret (C.var 4)) Ss.nil))) Ss.nil) (Ss.cons (S.seti 0 (C.cst (D.int 2)) (C.bin .add (C.idx (C.var 0) (C.cst (D.int 2))) (C.cst (D.int 1)))) (Ss.cons (S.asg (Tg.nm 2) (C.bin .mod (C.blt .int1 (Cs.cons (C.bin .add (C.idx (C.var 0) (C.cst (D.int 1))) (C.bin .mul (C.cst (D.int 86028121)) (C.idx (C.var 0) (C.cst (D.int 2))))) Cs.nil)) (C.cst (D.int 2305843009213693561)))) (Ss.cons (S.asg (Tg.nm 3) (C.bin .mod (C.blt .int1 (Cs.cons (C.bin .add (C.bin .mul (C.var 2) (C.var 2)) (C.bin .mul (C.cst (D.int 103)) (C.idx (C.var 0) (C.cst (D.int 2))))) Cs.nil)) (C.cst (D.int 2305843009213693669)))) (Ss.cons (S.ret (C.bin .mod (C.blt .int1 (Cs.cons (C.bin .fdiv (C.bin .add (C.bin .mul (C.var 3) (C.cst (D.int 7654321))) (C.var 2)) (C.cst (D.int 65557))) Cs.nil)) (C.var 1))) Ss.nil)))))⟩
def d_law_pick : Fd := ⟨"_law_pick", 2, ["_law_dice_here", "_law_items"], (Ss.cons (S.ret (C.idx (C.var 1) (C.call 40 [true, false] (Cs.cons (C.var 0) (Cs.cons (C.blt .len (Cs.cons (C.var 1) Cs.nil)) Cs.nil))))) Ss.nil)⟩
def d_law_gcd : Fd := ⟨"_law_gcd", 2, ["_law_one", "_law_other"], (Ss.cons (S.par [0, 1] (Cs.cons (C.blt .abs (Cs.cons (C.var 0) Cs.nil)) (Cs.cons (C.blt .abs (Cs.cons (C.var 1) Cs.nil)) Cs.nil))) (Ss.cons (S.whl (C.cmp .gt (C.var 1) (C.cst (D.int 0))) (Ss.cons (S.par [0, 1] (Cs.cons (C.var 1) (Cs.cons (C.bin .mod (C.blt .int1 (Cs.cons (C.var 0) Cs.nil)) (C.var 1)) Cs.nil))) Ss.nil)) (Ss.cons (S.ret (C.var 0)) Ss.nil)))⟩
def d_law_fraction : Fd := ⟨"_law_fraction", 2, ["_law_top", "_law_bottom", "_law_shared"], (Ss.cons (S.asg (Tg.nm 2) (C.call 42 [false, false] (Cs.cons (C.var 0) (Cs.cons (C.var 1) Cs.nil)))) (Ss.cons (S.ife (C.cmp .lt (C.var 1) (C.cst (D.int 0))) (Ss.cons (S.asg (Tg.nm 2) (C.neg (C.var 2))) Ss.nil) Ss.nil) (Ss.cons (S.ret (C.tup (Cs.cons (C.bin .fdiv (C.var 0) (C.var 2)) (Cs.cons (C.bin .fdiv (C.var 1) (C.var 2)) Cs.nil)))) Ss.nil)))⟩
def d_law_back : Fd := ⟨"_law_back", 2, ["_law_prime", "_law_number", "_law_one", "_law_other", "_law_low", "_law_high", "_law_part"], (Ss.cons (S.asg (Tg.tp (Tgs.cons (Tg.nm 2) (Tgs.cons (Tg.nm 3) (Tgs.cons (Tg.nm 4) (Tgs.cons (Tg.nm 5) Tgs.nil))))) (C.tup (Cs.cons (C.var 0) (Cs.cons (C.var 1) (Cs.cons (C.cst (D.int 0)) (Cs.cons (C.cst (D.int 1)) Cs.nil)))))) (Ss.cons (S.whl (C.cmp .gt (C.var 3) (C.cst (D.int 1))) (Ss.cons (S.asg (Tg.nm 6) (C.bin .fdiv (C.var 2) (C.var 3))) (Ss.cons (S.par [2, 3] (Cs.cons (C.var 3) (Cs.cons (C.bin .sub (C.var 2) (C.bin .mul (C.var 6) (C.var 3))) Cs.nil))) (Ss.cons (S.par [4, 5] (Cs.cons (C.var 5) (Cs.cons (C.bin .sub (C.var 4) (C.bin .mul (C.var 6) (C.var 5))) Cs.nil))) Ss.nil)))) (Ss.cons (S.ret (C.bin .mod (C.blt .int1 (Cs.cons (C.var 5) Cs.nil)) (C.var 0))) Ss.nil)))⟩
def d_law_zero : Fd := ⟨"_law_zero", 1, ["_law_ground"], (Ss.cons (S.ret (C.ite (C.cmp .eq (C.var 0) (C.cst (D.int 0))) (C.tup (Cs.cons (C.cst (D.int 0)) (Cs.cons (C.cst (D.int 1)) Cs.nil))) (C.cst (D.int 0)))) Ss.nil)⟩
def d_law_unit : Fd := ⟨"_law_unit", 1, ["_law_ground"], (Ss.cons (S.ret (C.ite (C.cmp .eq (C.var 0) (C.cst (D.int 0))) (C.tup (Cs.cons (C.cst (D.int 1)) (Cs.cons (C.cst (D.int 1)) Cs.nil))) (C.cst (D.int 1)))) Ss.nil)⟩
def d_law_plus : Fd := ⟨"_law_plus", 3, ["_law_ground", "_law_one", "_law_other"], (Ss.cons (S.ife (C.cmp .ne (C.var 0) (C.cst (D.int 0))) (Ss.cons (S.ret (C.bin .mod (C.blt .int1 (Cs.cons (C.bin .add (C.var 1) (C.var 2)) Cs.nil)) (C.var 0))) Ss.nil) Ss.nil) (Ss.cons (S.ret (C.call 43 [false, false] (Cs.cons (C.bin .add (C.bin .mul (C.idx (C.var 1) (C.cst (D.int 0))) (C.idx (C.var 2) (C.cst (D.int 1)))) (C.bin .mul (C.idx (C.var 2) (C.cst (D.int 0))) (C.idx (C.var 1) (C.cst (D.int 1))))) (Cs.cons (C.bin .mul (C.idx (C.var 1) (C.cst (D.int 1))) (C.idx (C.var 2) (C.cst (D.int 1)))) Cs.nil)))) Ss.nil))⟩
def d_law_minus : Fd := ⟨"_law_minus", 2, ["_law_ground", "_law_one"], (Ss.cons (S.ret (C.ite (C.cmp .eq (C.var 0) (C.cst (D.int 0))) (C.tup (Cs.cons (C.neg (C.idx (C.var 1) (C.cst (D.int 0)))) (Cs.cons (C.idx (C.var 1) (C.cst (D.int 1))) Cs.nil))) (C.bin .mod (C.blt .int1 (Cs.cons (C.neg (C.var 1)) Cs.nil)) (C.var 0)))) Ss.nil)⟩
def d_law_times : Fd := ⟨"_law_times", 3, ["_law_ground", "_law_one", "_law_other"], (Ss.cons (S.ife (C.cmp .ne (C.var 0) (C.cst (D.int 0))) (Ss.cons (S.ret (C.bin .mod (C.blt .int1 (Cs.cons (C.bin .mul (C.var 1) (C.var 2)) Cs.nil)) (C.var 0))) Ss.nil) Ss.nil) (Ss.cons (S.ret (C.call 43 [false, false] (Cs.cons (C.bin .mul (C.idx (C.var 1) (C.cst (D.int 0))) (C.idx (C.var 2) (C.cst (D.int 0)))) (Cs.cons (C.bin .mul (C.idx (C.var 1) (C.cst (D.int 1))) (C.idx (C.var 2) (C.cst (D.int 1)))) Cs.nil)))) Ss.nil))⟩
def d_law_undone : Fd := ⟨"_law_undone", 2, ["_law_ground", "_law_one"], (Ss.cons (S.ret (C.ite (C.cmp .eq (C.var 0) (C.cst (D.int 0))) (C.call 43 [false, false] (Cs.cons (C.idx (C.var 1) (C.cst (D.int 1))) (Cs.cons (C.idx (C.var 1) (C.cst (D.int 0))) Cs.nil))) (C.call 44 [false, false] (Cs.cons (C.var 0) (Cs.cons (C.var 1) Cs.nil))))) Ss.nil)⟩
def d_law_nu_ground : Fd := ⟨"_law_nu_ground", 1, ["_law_dice_here"], (Ss.cons (S.ret (C.call 41 [true, false] (Cs.cons (C.var 0) (Cs.cons (C.lst (Cs.cons (C.cst (D.int 0)) (Cs.cons (C.cst (D.int 0)) (Cs.cons (C.cst (D.int 0)) (Cs.cons (C.cst (D.int 2)) (Cs.cons (C.cst (D.int 3)) (Cs.cons (C.cst (D.int 5)) (Cs.cons (C.cst (D.int 7)) (Cs.cons (C.cst (D.int 11)) (Cs.cons (C.cst (D.int 13)) (Cs.cons (C.cst (D.int 97)) (Cs.cons (C.cst (D.int 101)) (Cs.cons (C.cst (D.int 997)) (Cs.cons (C.cst (D.int 9973)) Cs.nil)))))))))))))) Cs.nil)))) Ss.nil)⟩
def d_law_nu_drawn : Fd := ⟨"_law_nu_drawn", 2, ["_law_dice_here", "_law_ground", "_law_most"], (Ss.cons (S.ife (C.cmp .gt (C.var 1) (C.cst (D.int 0))) (Ss.cons (S.ret (C.call 40 [true, false] (Cs.cons (C.var 0) (Cs.cons (C.var 1) Cs.nil)))) Ss.nil) Ss.nil) (Ss.cons (S.asg (Tg.nm 2) (C.call 41 [true, false] (Cs.cons (C.var 0) (Cs.cons (C.lst (Cs.cons (C.cst (D.int 3)) (Cs.cons (C.cst (D.int 10)) (Cs.cons (C.cst (D.int 10)) (Cs.cons (C.cst (D.int 1000)) (Cs.cons (C.bin .pow (C.cst (D.int 10)) (C.cst (D.int 20))) (Cs.cons (C.bin .sub (C.bin .pow (C.cst (D.int 10)) (C.cst (D.int 60))) (C.cst (D.int 1))) Cs.nil))))))) Cs.nil)))) (Ss.cons (S.ret (C.call 43 [false, false] (Cs.cons (C.bin .sub (C.call 40 [true, false] (Cs.cons (C.var 0) (Cs.cons (C.bin .add (C.bin .mul (C.cst (D.int 2)) (C.var 2)) (C.cst (D.int 1))) Cs.nil))) (C.var 2)) (Cs.cons (C.bin .add (C.cst (D.int 1)) (C.call 40 [true, false] (Cs.cons (C.var 0) (Cs.cons (C.var 2) Cs.nil)))) Cs.nil)))) Ss.nil)))⟩
def d_law_nu_power : Fd := ⟨"_law_nu_power", 3, ["_law_ground", "_law_one", "_law_exponent", "_law_here", "_law_found", "_law_turn"], (Ss.cons (S.par [3, 4] (Cs.cons (C.var 1) (Cs.cons (C.call 46 [false] (Cs.cons (C.var 0) Cs.nil)) Cs.nil))) (Ss.cons (S.ife (C.cmp .lt (C.var 2) (C.cst (D.int 0))) (Ss.cons (S.asg (Tg.nm 3) (C.call 50 [false, false] (Cs.cons (C.var 0) (Cs.cons (C.var 1) Cs.nil)))) Ss.nil) Ss.nil) (Ss.cons (S.for_ (Tg.nm 5) (I.rng1 (C.blt .abs (Cs.cons (C.var 2) Cs.nil))) (Ss.cons (S.asg (Tg.nm 4) (C.call 49 [false, false, false] (Cs.cons (C.var 0) (Cs.cons (C.var 4) (Cs.cons (C.var 3) Cs.nil))))) Ss.nil)) (Ss.cons (S.ret (C.var 4)) Ss.nil))))⟩
def d_law_field_right : Fd := ⟨"_law_field_right", 1, ["_law_dice_here", "_law_ground", "_law_one", "_law_other", "_law_far", "_law_few", "_law_number"], (Ss.cons (S.asg (Tg.nm 1) (C.call 51 [true] (Cs.cons (C.var 0) Cs.nil))) (Ss.cons (S.par [2, 3] (Cs.cons (C.call 52 [true, false] (Cs.cons (C.var 0) (Cs.cons (C.var 1) Cs.nil))) (Cs.cons (C.call 52 [true, false] (Cs.cons (C.var 0) (Cs.cons (C.var 1) Cs.nil))) Cs.nil))) (Ss.cons (S.ife (C.cmp .ne (C.call 31 [false, false, false] (Cs.cons (C.var 1) (Cs.cons (C.var 2) (Cs.cons (C.var 3) Cs.nil)))) (C.call 47 [false, false, false] (Cs.cons (C.var 1) (Cs.cons (C.var 2) (Cs.cons (C.var 3) Cs.nil))))) (Ss.cons (S.ret (C.cst (D.bl false))) Ss.nil) Ss.nil) (Ss.cons (S.ife (C.cmp .ne (C.call 32 [false, false, false] (Cs.cons (C.var 1) (Cs.cons (C.var 2) (Cs.cons (C.var 3) Cs.nil)))) (C.call 47 [false, false, false] (Cs.cons (C.var 1) (Cs.cons (C.var 2) (Cs.cons (C.call 48 [false, false] (Cs.cons (C.var 1) (Cs.cons (C.var 3) Cs.nil))) Cs.nil))))) (Ss.cons (S.ret (C.cst (D.bl false))) Ss.nil) Ss.nil) (Ss.cons (S.ife (C.cmp .ne (C.call 33 [false, false, false] (Cs.cons (C.var 1) (Cs.cons (C.var 2) (Cs.cons (C.var 3) Cs.nil)))) (C.call 49 [false, false, false] (Cs.cons (C.var 1) (Cs.cons (C.var 2) (Cs.cons (C.var 3) Cs.nil))))) (Ss.cons (S.ret (C.cst (D.bl false))) Ss.nil) Ss.nil) (Ss.cons (S.ife (C.boo true (Cs.cons (C.cmp .ne (C.var 3) (C.call 45 [false] (Cs.cons (C.var 1) Cs.nil))) (Cs.cons (C.cmp .ne (C.call 34 [false, false, false] (Cs.cons (C.var 1) (Cs.cons (C.var 2) (Cs.cons (C.var 3) Cs.nil)))) (C.call 49 [false, false, false] (Cs.cons (C.var 1) (Cs.cons (C.var 2) (Cs.cons (C.call 50 [false, false] (Cs.cons (C.var 1) (Cs.cons (C.var 3) Cs.nil))) Cs.nil))))) Cs.nil))) (Ss.cons (S.ret (C.cst (D.bl false))) Ss.nil) Ss.nil) (Ss.cons (S.asg (Tg.nm 4) (C.ite (C.cmp .eq (C.var 1) (C.cst (D.int 0))) (C.bin .sub (C.call 40 [true, false] (Cs.cons (C.var 0) (Cs.cons (C.cst (D.int 41)) Cs.nil))) (C.cst (D.int 20))) (C.call 41 [true, false] (Cs.cons (C.var 0) (Cs.cons (C.lst (Cs.cons (C.cst (D.int 1000)) (Cs.cons (C.neg (C.cst (D.int 1000))) (Cs.cons (C.bin .sub (C.call 40 [true, false] (Cs.cons (C.var 0) (Cs.cons (C.cst (D.int 401)) Cs.nil))) (C.cst (D.int 200))) Cs.nil)))) Cs.nil))))) (Ss.cons (S.asg (Tg.nm 5) (C.call 41 [true, false] (Cs.cons (C.var 0) (Cs.cons (C.lst (Cs.cons (C.cst (D.int 0)) (Cs.cons (C.cst (D.int 1)) (Cs.cons (C.neg (C.cst (D.int 1))) (Cs.cons (C.cst (D.int 2)) (Cs.cons (C.neg (C.cst (D.int 2))) (Cs.cons (C.cst (D.int 3)) (Cs.cons (C.var 4) Cs.nil)))))))) Cs.nil)))) (Ss.cons (S.ife (C.cmp .eq (C.var 2) (C.call 45 [false] (Cs.cons (C.var 1) Cs.nil))) (Ss.cons (S.asg (Tg.nm 5) (C.blt .abs (Cs.cons (C.var 5) Cs.nil))) Ss.nil) Ss.nil) (Ss.cons (S.ife (C.cmp .ne (C.call 35 [false, false, false] (Cs.cons (C.var 1) (Cs.cons (C.var 2) (Cs.cons (C.var 5) Cs.nil)))) (C.call 53 [false, false, false] (Cs.cons (C.var 1) (Cs.cons (C.var 2) (Cs.cons (C.var 5) Cs.nil))))) (Ss.cons (S.ret (C.cst (D.bl false))) Ss.nil) Ss.nil) (Ss.cons (S.asg (Tg.nm 6) (C.bin .add (C.bin .sub (C.call 40 [true, false] (Cs.cons (C.var 0) (Cs.cons (C.bin .sub (C.bin .mul (C.cst (D.int 2)) (C.bin .pow (C.cst (D.int 10)) (C.cst (D.int 60)))) (C.cst (D.int 1))) Cs.nil))) (C.bin .pow (C.cst (D.int 10)) (C.cst (D.int 60)))) (C.cst (D.int 1)))) (Ss.cons (S.ret (C.cmp .eq (C.call 29 [false, false] (Cs.cons (C.var 1) (Cs.cons (C.var 6) Cs.nil))) (C.ite (C.cmp .gt (C.var 1) (C.cst (D.int 0))) (C.bin .mod (C.blt .int1 (Cs.cons (C.var 6) Cs.nil)) (C.var 1)) (C.tup (Cs.cons (C.var 6) (Cs.cons (C.cst (D.int 1)) Cs.nil)))))) Ss.nil))))))))))))⟩
def d_law_fractions_right : Fd := ⟨"_law_fractions_right", 1, ["_law_dice_here", "_law_one", "_law_other", "_law_many", "_law_sign", "_law_top", "_law_bottom", "_law_near", "_law_less", "_law_found", "_law_prime", "_law_some", "_law_part", "_law_first", "_law_last", "_law_told", "_law_turn"], (Ss.cons (S.par [1, 2] (Cs.cons (C.call 52 [true, false] (Cs.cons (C.var 0) (Cs.cons (C.cst (D.int 0)) Cs.nil))) (Cs.cons (C.call 52 [true, false] (Cs.cons (C.var 0) (Cs.cons (C.cst (D.int 0)) Cs.nil))) Cs.nil))) (Ss.cons (S.par [3, 4] (Cs.cons (C.bin .add (C.cst (D.int 1)) (C.call 40 [true, false] (Cs.cons (C.var 0) (Cs.cons (C.cst (D.int 9)) Cs.nil)))) (Cs.cons (C.call 41 [true, false] (Cs.cons (C.var 0) (Cs.cons (C.lst (Cs.cons (C.cst (D.int 1)) (Cs.cons (C.neg (C.cst (D.int 1))) Cs.nil))) Cs.nil))) Cs.nil))) (Ss.cons (S.par [5, 6] (Cs.cons (C.bin .mul (C.bin .fdiv (C.call 41 [true, false] (Cs.cons (C.var 0) (Cs.cons (C.lst (Cs.cons (C.idx (C.var 1) (C.cst (D.int 0))) (Cs.cons (C.bin .sub (C.call 40 [true, false] (Cs.cons (C.var 0) (Cs.cons (C.cst (D.int 99)) Cs.nil))) (C.cst (D.int 49))) Cs.nil))) Cs.nil))) (C.cst (D.int 9))) (C.var 3)) (Cs.cons (C.bin .mul (C.bin .mul (C.bin .add (C.cst (D.int 1)) (C.call 40 [true, false] (Cs.cons (C.var 0) (Cs.cons (C.cst (D.int 50)) Cs.nil)))) (C.var 3)) (C.var 4)) Cs.nil))) (Ss.cons (S.ife (C.cmp .ne (C.call 30 [false, false] (Cs.cons (C.var 5) (Cs.cons (C.var 6) Cs.nil))) (C.call 43 [false, false] (Cs.cons (C.var 5) (Cs.cons (C.var 6) Cs.nil)))) (Ss.cons (S.ret (C.cst (D.bl false))) Ss.nil) Ss.nil) (Ss.cons (S.asg (Tg.nm 7) (C.tup (Cs.cons (C.bin .add (C.bin .fdiv (C.idx (C.var 1) (C.cst (D.int 0))) (C.cst (D.int 10))) (C.cst (D.int 1))) (Cs.cons (C.idx (C.var 1) (C.cst (D.int 1))) Cs.nil)))) (Ss.cons (S.asg (Tg.nm 7) (C.call 41 [true, false] (Cs.cons (C.var 0) (Cs.cons (C.lst (Cs.cons (C.var 1) (Cs.cons (C.var 2) (Cs.cons (C.call 43 [false, false] (Cs.cons (C.idx (C.var 7) (C.cst (D.int 0))) (Cs.cons (C.idx (C.var 7) (C.cst (D.int 1))) Cs.nil))) Cs.nil)))) Cs.nil)))) (Ss.cons (S.asg (Tg.nm 8) (C.bin .sub (C.bin .mul (C.idx (C.var 1) (C.cst (D.int 0))) (C.idx (C.var 7) (C.cst (D.int 1)))) (C.bin .mul (C.idx (C.var 7) (C.cst (D.int 0))) (C.idx (C.var 1) (C.cst (D.int 1)))))) (Ss.cons (S.ife (C.cmp .ne (C.call 36 [false, false] (Cs.cons (C.var 1) (Cs.cons (C.var 7) Cs.nil))) (C.bin .sub (C.blt .int1 (Cs.cons (C.cmp .gt (C.var 8) (C.cst (D.int 0))) Cs.nil)) (C.blt .int1 (Cs.cons (C.cmp .lt (C.var 8) (C.cst (D.int 0))) Cs.nil)))) (Ss.cons (S.ret (C.cst (D.bl false))) Ss.nil) Ss.nil) (Ss.cons (S.asg (Tg.nm 9) (C.call 37 [false] (Cs.cons (C.var 1) Cs.nil))) (Ss.cons (S.ife (C.boo false (Cs.cons (C.isi [.bool] (C.var 9)) (Cs.cons (C.not_ (C.chn .le .lt (C.bin .mul (C.var 9) (C.idx (C.var 1) (C.cst (D.int 1)))) (C.idx (C.var 1) (C.cst (D.int 0))) (C.bin .mul (C.bin .add (C.var 9) (C.cst (D.int 1))) (C.idx (C.var 1) (C.cst (D.int 1)))))) Cs.nil))) (Ss.cons (S.ret (C.cst (D.bl false))) Ss.nil) Ss.nil) (Ss.cons (S.asg (Tg.nm 10) (C.call 41 [true, false] (Cs.cons (C.var 0) (Cs.cons (C.lst (Cs.cons (C.cst (D.int 2)) (Cs.cons (C.cst (D.int 3)) (Cs.cons (C.cst (D.int 5)) (Cs.cons (C.cst (D.int 7)) (Cs.cons (C.cst (D.int 97)) (Cs.cons (C.cst (D.int 997)) (Cs.cons (C.cst (D.int 9973)) Cs.nil)))))))) Cs.nil)))) (Ss.cons (S.asg (Tg.nm 11) (C.bin .add (C.cmpr (C.call 43 [false, false] (Cs.cons (C.bin .sub (C.call 40 [true, false] (Cs.cons (C.var 0) (Cs.cons (C.cst (D.int 199)) Cs.nil))) (C.cst (D.int 99))) (Cs.cons (C.bin .add (C.cst (D.int 1)) (C.call 40 [true, false] (Cs.cons (C.var 0) (Cs.cons (C.cst (D.int 60)) Cs.nil)))) Cs.nil))) (Tg.nm 16) (I.rng1 (C.cst (D.int 2))) CO.none [16]) (C.lst (Cs.cons (C.var 1) Cs.nil)))) (Ss.cons (S.for_ (Tg.nm 12) (I.seq (C.var 11)) (Ss.cons (S.ife (C.cmp .ne (C.bin .mod (C.blt .int1 (Cs.cons (C.idx (C.var 12) (C.cst (D.int 1))) Cs.nil)) (C.var 10)) (C.cst (D.int 0))) (Ss.cons (S.asg (Tg.nm 15) (C.call 38 [false, false] (Cs.cons (C.var 10) (Cs.cons (C.var 12) Cs.nil)))) (Ss.cons (S.ife (C.boo false (Cs.cons (C.not_ (C.chn .le .lt (C.cst (D.int 0)) (C.var 15) (C.var 10))) (Cs.cons (C.cmp .ne (C.bin .mod (C.blt .int1 (Cs.cons (C.bin .sub (C.bin .mul (C.var 15) (C.idx (C.var 12) (C.cst (D.int 1)))) (C.idx (C.var 12) (C.cst (D.int 0)))) Cs.nil)) (C.var 10)) (C.cst (D.int 0))) Cs.nil))) (Ss.cons (S.ret (C.cst (D.bl false))) Ss.nil) Ss.nil) Ss.nil)) Ss.nil) Ss.nil)) (Ss.cons (S.par [13, 14] (Cs.cons (C.idx (C.var 11) (C.cst (D.int 0))) (Cs.cons (C.idx (C.var 11) (C.cst (D.int 1))) Cs.nil))) (Ss.cons (S.ife (C.cmp .eq (C.bin .mod (C.blt .int1 (Cs.cons (C.bin .mul (C.idx (C.var 13) (C.cst (D.int 1))) (C.idx (C.var 14) (C.cst (D.int 1)))) Cs.nil)) (C.var 10)) (C.cst (D.int 0))) (Ss.cons (S.ret (C.cst (D.bl true))) Ss.nil) Ss.nil) (Ss.cons (S.ife (C.cmp .ne (C.call 38 [false, false] (Cs.cons (C.var 10) (Cs.cons (C.call 31 [false, false, false] (Cs.cons (C.cst (D.int 0)) (Cs.cons (C.var 13) (Cs.cons (C.var 14) Cs.nil)))) Cs.nil))) (C.bin .mod (C.blt .int1 (Cs.cons (C.bin .add (C.call 38 [false, false] (Cs.cons (C.var 10) (Cs.cons (C.var 13) Cs.nil))) (C.call 38 [false, false] (Cs.cons (C.var 10) (Cs.cons (C.var 14) Cs.nil)))) Cs.nil)) (C.var 10))) (Ss.cons (S.ret (C.cst (D.bl false))) Ss.nil) Ss.nil) (Ss.cons (S.ret (C.cmp .eq (C.call 38 [false, false] (Cs.cons (C.var 10) (Cs.cons (C.call 33 [false, false, false] (Cs.cons (C.cst (D.int 0)) (Cs.cons (C.var 13) (Cs.cons (C.var 14) Cs.nil)))) Cs.nil))) (C.bin .mod (C.blt .int1 (Cs.cons (C.bin .mul (C.call 38 [false, false] (Cs.cons (C.var 10) (Cs.cons (C.var 13) Cs.nil))) (C.call 38 [false, false] (Cs.cons (C.var 10) (Cs.cons (C.var 14) Cs.nil)))) Cs.nil)) (C.var 10)))) Ss.nil)))))))))))))))))⟩
def d_law : Fd := ⟨"law", 1, ["_law_script", "_law_spot", "_law_told", "_law_dice_here", "_law_turn"], (Ss.cons (S.for_ (Tg.nm 1) (I.rng1 (C.blt .max2 (Cs.cons (C.cst (D.int 1)) (Cs.cons (C.blt .min2 (Cs.cons (C.cst (D.int 3)) (Cs.cons (C.blt .len (Cs.cons (C.var 0) Cs.nil)) Cs.nil))) Cs.nil)))) (Ss.cons (S.asg (Tg.nm 3) (C.call 39 [false, false] (Cs.cons (C.var 0) (Cs.cons (C.var 1) Cs.nil)))) (Ss.cons (S.for_ (Tg.nm 4) (I.rng1 (C.cst (D.int 4))) (Ss.cons (S.ife (C.boo false (Cs.cons (C.not_ (C.call 54 [true] (Cs.cons (C.var 3) Cs.nil))) (Cs.cons (C.not_ (C.call 55 [true] (Cs.cons (C.var 3) Cs.nil))) Cs.nil))) (Ss.cons (S.ret (C.cst (D.bl false))) Ss.nil) Ss.nil) Ss.nil)) Ss.nil))) (Ss.cons (S.asg (Tg.nm 2) (C.lst (Cs.cons (C.call 29 [false, false] (Cs.cons (C.cst (D.int 0)) (Cs.cons (C.cst (D.int 3)) Cs.nil))) (Cs.cons (C.call 29 [false, false] (Cs.cons (C.cst (D.int 7)) (Cs.cons (C.neg (C.cst (D.int 1))) Cs.nil))) (Cs.cons (C.call 30 [false, false] (Cs.cons (C.cst (D.int 6)) (Cs.cons (C.neg (C.cst (D.int 4))) Cs.nil))) (Cs.cons (C.call 30 [false, false] (Cs.cons (C.cst (D.int 0)) (Cs.cons (C.neg (C.cst (D.int 5))) Cs.nil))) (Cs.cons (C.call 31 [false, false, false] (Cs.cons (C.cst (D.int 0)) (Cs.cons (C.tup (Cs.cons (C.cst (D.int 1)) (Cs.cons (C.cst (D.int 2)) Cs.nil))) (Cs.cons (C.tup (Cs.cons (C.cst (D.int 1)) (Cs.cons (C.cst (D.int 2)) Cs.nil))) Cs.nil)))) (Cs.cons (C.call 34 [false, false, false] (Cs.cons (C.cst (D.int 7)) (Cs.cons (C.cst (D.int 1)) (Cs.cons (C.cst (D.int 3)) Cs.nil)))) Cs.nil)))))))) (Ss.cons (S.ife (C.boo false (Cs.cons (C.cmp .ne (C.var 2) (C.lst (Cs.cons (C.tup (Cs.cons (C.cst (D.int 3)) (Cs.cons (C.cst (D.int 1)) Cs.nil))) (Cs.cons (C.cst (D.int 6)) (Cs.cons (C.tup (Cs.cons (C.neg (C.cst (D.int 3))) (Cs.cons (C.cst (D.int 2)) Cs.nil))) (Cs.cons (C.tup (Cs.cons (C.cst (D.int 0)) (Cs.cons (C.cst (D.int 1)) Cs.nil))) (Cs.cons (C.tup (Cs.cons (C.cst (D.int 1)) (Cs.cons (C.cst (D.int 1)) Cs.nil))) (Cs.cons (C.cst (D.int 5)) Cs.nil)))))))) (Cs.cons (C.cmp .ne (C.call 35 [false, false, false] (Cs.cons (C.cst (D.int 0)) (Cs.cons (C.tup (Cs.cons (C.cst (D.int 1)) (Cs.cons (C.cst (D.int 2)) Cs.nil))) (Cs.cons (C.neg (C.cst (D.int 2))) Cs.nil)))) (C.tup (Cs.cons (C.cst (D.int 4)) (Cs.cons (C.cst (D.int 1)) Cs.nil)))) (Cs.cons (C.cmp .ne (C.call 35 [false, false, false] (Cs.cons (C.cst (D.int 5)) (Cs.cons (C.cst (D.int 0)) (Cs.cons (C.cst (D.int 0)) Cs.nil)))) (C.cst (D.int 1))) Cs.nil)))) (Ss.cons (S.ret (C.cst (D.bl false))) Ss.nil) Ss.nil) (Ss.cons (S.asg (Tg.nm 2) (C.lst (Cs.cons (C.call 35 [false, false, false] (Cs.cons (C.cst (D.int 0)) (Cs.cons (C.tup (Cs.cons (C.cst (D.int 0)) (Cs.cons (C.cst (D.int 1)) Cs.nil))) (Cs.cons (C.cst (D.int 0)) Cs.nil)))) (Cs.cons (C.call 34 [false, false, false] (Cs.cons (C.cst (D.int 0)) (Cs.cons (C.tup (Cs.cons (C.neg (C.cst (D.int 1))) (Cs.cons (C.cst (D.int 2)) Cs.nil))) (Cs.cons (C.tup (Cs.cons (C.neg (C.cst (D.int 3))) (Cs.cons (C.cst (D.int 4)) Cs.nil))) Cs.nil)))) (Cs.cons (C.call 37 [false] (Cs.cons (C.tup (Cs.cons (C.neg (C.cst (D.int 1))) (Cs.cons (C.cst (D.int 2)) Cs.nil))) Cs.nil)) (Cs.cons (C.call 37 [false] (Cs.cons (C.tup (Cs.cons (C.cst (D.int 7)) (Cs.cons (C.cst (D.int 2)) Cs.nil))) Cs.nil)) (Cs.cons (C.call 37 [false] (Cs.cons (C.tup (Cs.cons (C.neg (C.cst (D.int 4))) (Cs.cons (C.cst (D.int 1)) Cs.nil))) Cs.nil)) Cs.nil))))))) (Ss.cons (S.ife (C.cmp .ne (C.var 2) (C.lst (Cs.cons (C.tup (Cs.cons (C.cst (D.int 1)) (Cs.cons (C.cst (D.int 1)) Cs.nil))) (Cs.cons (C.tup (Cs.cons (C.cst (D.int 2)) (Cs.cons (C.cst (D.int 3)) Cs.nil))) (Cs.cons (C.neg (C.cst (D.int 1))) (Cs.cons (C.cst (D.int 3)) (Cs.cons (C.neg (C.cst (D.int 4))) Cs.nil))))))) (Ss.cons (S.ret (C.cst (D.bl false))) Ss.nil) Ss.nil) (Ss.cons (S.ret (C.cmp .eq (C.lst (Cs.cons (C.call 36 [false, false] (Cs.cons (C.tup (Cs.cons (C.cst (D.int 1)) (Cs.cons (C.cst (D.int 2)) Cs.nil))) (Cs.cons (C.tup (Cs.cons (C.cst (D.int 2)) (Cs.cons (C.cst (D.int 3)) Cs.nil))) Cs.nil))) (Cs.cons (C.call 36 [false, false] (Cs.cons (C.tup (Cs.cons (C.neg (C.cst (D.int 1))) (Cs.cons (C.cst (D.int 2)) Cs.nil))) (Cs.cons (C.tup (Cs.cons (C.neg (C.cst (D.int 1))) (Cs.cons (C.cst (D.int 2)) Cs.nil))) Cs.nil))) (Cs.cons (C.call 38 [false, false] (Cs.cons (C.cst (D.int 5)) (Cs.cons (C.tup (Cs.cons (C.cst (D.int 1)) (Cs.cons (C.cst (D.int 2)) Cs.nil))) Cs.nil))) (Cs.cons (C.call 35 [false, false, false] (Cs.cons (C.cst (D.int 2)) (Cs.cons (C.cst (D.int 1)) (Cs.cons (C.neg (C.cst (D.int 1000))) Cs.nil)))) Cs.nil))))) (C.lst (Cs.cons (C.neg (C.cst (D.int 1))) (Cs.cons (C.cst (D.int 0)) (Cs.cons (C.cst (D.int 3)) (Cs.cons (C.cst (D.int 1)) Cs.nil))))))) Ss.nil))))))⟩
def fns : Nat → Option Fd
  | 0 => some d_is_whole
  | 1 => some d_is_integer
  | 2 => some d_is_within
  | 3 => some d_has_divisor
  | 4 => some d_is_ground
  | 5 => some d_is_number_up_to
  | 6 => some d_is_number_of
  | 7 => some d_require_ground
  | 8 => some d_require_number
  | 9 => some d_require_integer
  | 10 => some d_require_within
  | 11 => some d_require_two_numbers
  | 12 => some d_fraction_in
  | 13 => some d_whole_in
  | 14 => some d_zero
  | 15 => some d_unit
  | 16 => some d_is_zero
  | 17 => some d_plus
  | 18 => some d_opposite
  | 19 => some d_minus
  | 20 => some d_times
  | 21 => some d_undone
  | 22 => some d_over
  | 23 => some d_raised_in
  | 24 => some d_divisor_in
  | 25 => some d_undone_rest
  | 26 => some d_compared_in
  | 27 => some d_rounded_in
  | 28 => some d_read_in
  | 29 => some d_whole
  | 30 => some d_fraction
  | 31 => some d_added
  | 32 => some d_subtracted
  | 33 => some d_multiplied
  | 34 => some d_divided
  | 35 => some d_raised
  | 36 => some d_compared
  | 37 => some d_rounded
  | 38 => some d_read_at
  | 39 => some d_law_dice
  | 40 => some d_law_roll
  | 41 => some d_law_pick
  | 42 => some d_law_gcd
  | 43 => some d_law_fraction
  | 44 => some d_law_back
  | 45 => some d_law_zero
  | 46 => some d_law_unit
  | 47 => some d_law_plus
  | 48 => some d_law_minus
  | 49 => some d_law_times
  | 50 => some d_law_undone
  | 51 => some d_law_nu_ground
  | 52 => some d_law_nu_drawn
  | 53 => some d_law_nu_power
  | 54 => some d_law_field_right
  | 55 => some d_law_fractions_right
  | 56 => some d_law
  | _ => none
def tb : Tb := ⟨true, fns, [("MAX_GROUND", 9999), ("MAX_EXPONENT", 1000), ("FAR", 1000000000000000000000000000000000000000000000000000000000000), ("PAIR_SIZE", 2)]⟩
-- depth 9
end K00
set_option Elab.async false
set_option linter.all false
set_option maxRecDepth 100000
set_option maxHeartbeats 4000000
namespace K00
open PySem PySem.Spec PyProof.Rows L2 MP
def topS (i : Nat) : Stmt := PySem.Challenge.pw_zeroorone_k00_whole_numbers_of_a_ground.main.body.getD i (.Pass ⟨0, 0, 0, 0⟩)
def tops : Nat → Stmt
  | 0 => topS 11
  | 1 => topS 12
  | 2 => topS 13
  | 3 => topS 14
  | 4 => topS 15
  | 5 => topS 16
  | 6 => topS 17
  | 7 => topS 18
  | 8 => topS 19
  | 9 => topS 20
  | 10 => topS 21
  | 11 => topS 22
  | 12 => topS 23
  | 13 => topS 24
  | 14 => topS 25
  | 15 => topS 26
  | 16 => topS 27
  | 17 => topS 28
  | 18 => topS 29
  | 19 => topS 30
  | 20 => topS 31
  | 21 => topS 32
  | 22 => topS 33
  | 23 => topS 34
  | 24 => topS 35
  | 25 => topS 36
  | 26 => topS 37
  | 27 => topS 38
  | 28 => topS 39
  | 29 => topS 40
  | 30 => topS 41
  | 31 => topS 42
  | 32 => topS 43
  | 33 => topS 44
  | 34 => topS 45
  | 35 => topS 46
  | 36 => topS 47
  | 37 => topS 48
  | 38 => topS 49
  | 39 => topS 51
  | 40 => topS 52
  | 41 => topS 53
  | 42 => topS 54
  | 43 => topS 55
  | 44 => topS 56
  | 45 => topS 57
  | 46 => topS 58
  | 47 => topS 59
  | 48 => topS 60
  | 49 => topS 61
  | 50 => topS 62
  | 51 => topS 63
  | 52 => topS 64
  | 53 => topS 65
  | 54 => topS 66
  | 55 => topS 67
  | 56 => topS 68
  | _ => .Pass ⟨0, 0, 0, 0⟩
theorem t_is_whole : dnC tb d_is_whole (tops 0) = true := by decide +kernel
theorem t_is_integer : dnC tb d_is_integer (tops 1) = true := by decide +kernel
theorem t_is_within : dnC tb d_is_within (tops 2) = true := by decide +kernel
theorem t_has_divisor : dnC tb d_has_divisor (tops 3) = true := by decide +kernel
theorem t_is_ground : dnC tb d_is_ground (tops 4) = true := by decide +kernel
theorem t_is_number_up_to : dnC tb d_is_number_up_to (tops 5) = true := by decide +kernel
theorem t_is_number_of : dnC tb d_is_number_of (tops 6) = true := by decide +kernel
theorem t_require_ground : dnC tb d_require_ground (tops 7) = true := by decide +kernel
theorem t_require_number : dnC tb d_require_number (tops 8) = true := by decide +kernel
theorem t_require_integer : dnC tb d_require_integer (tops 9) = true := by decide +kernel
theorem t_require_within : dnC tb d_require_within (tops 10) = true := by decide +kernel
theorem t_require_two_numbers : dnC tb d_require_two_numbers (tops 11) = true := by decide +kernel
theorem t_fraction_in : dnC tb d_fraction_in (tops 12) = true := by decide +kernel
theorem t_whole_in : dnC tb d_whole_in (tops 13) = true := by decide +kernel
theorem t_zero : dnC tb d_zero (tops 14) = true := by decide +kernel
theorem t_unit : dnC tb d_unit (tops 15) = true := by decide +kernel
theorem t_is_zero : dnC tb d_is_zero (tops 16) = true := by decide +kernel
theorem t_plus : dnC tb d_plus (tops 17) = true := by decide +kernel
theorem t_opposite : dnC tb d_opposite (tops 18) = true := by decide +kernel
theorem t_minus : dnC tb d_minus (tops 19) = true := by decide +kernel
theorem t_times : dnC tb d_times (tops 20) = true := by decide +kernel
theorem t_undone : dnC tb d_undone (tops 21) = true := by decide +kernel
theorem t_over : dnC tb d_over (tops 22) = true := by decide +kernel
theorem t_raised_in : dnC tb d_raised_in (tops 23) = true := by decide +kernel
theorem t_divisor_in : dnC tb d_divisor_in (tops 24) = true := by decide +kernel
theorem t_undone_rest : dnC tb d_undone_rest (tops 25) = true := by decide +kernel
theorem t_compared_in : dnC tb d_compared_in (tops 26) = true := by decide +kernel
theorem t_rounded_in : dnC tb d_rounded_in (tops 27) = true := by decide +kernel
theorem t_read_in : dnC tb d_read_in (tops 28) = true := by decide +kernel
theorem t_whole : dnC tb d_whole (tops 29) = true := by decide +kernel
theorem t_fraction : dnC tb d_fraction (tops 30) = true := by decide +kernel
theorem t_added : dnC tb d_added (tops 31) = true := by decide +kernel
theorem t_subtracted : dnC tb d_subtracted (tops 32) = true := by decide +kernel
theorem t_multiplied : dnC tb d_multiplied (tops 33) = true := by decide +kernel
theorem t_divided : dnC tb d_divided (tops 34) = true := by decide +kernel
theorem t_raised : dnC tb d_raised (tops 35) = true := by decide +kernel
theorem t_compared : dnC tb d_compared (tops 36) = true := by decide +kernel
theorem t_rounded : dnC tb d_rounded (tops 37) = true := by decide +kernel
theorem t_read_at : dnC tb d_read_at (tops 38) = true := by decide +kernel
theorem t_law_dice : dnC tb d_law_dice (tops 39) = true := by decide +kernel
theorem t_law_roll : dnC tb d_law_roll (tops 40) = true := by decide +kernel
theorem t_law_pick : dnC tb d_law_pick (tops 41) = true := by decide +kernel
theorem t_law_gcd : dnC tb d_law_gcd (tops 42) = true := by decide +kernel
theorem t_law_fraction : dnC tb d_law_fraction (tops 43) = true := by decide +kernel
theorem t_law_back : dnC tb d_law_back (tops 44) = true := by decide +kernel
theorem t_law_zero : dnC tb d_law_zero (tops 45) = true := by decide +kernel
theorem t_law_unit : dnC tb d_law_unit (tops 46) = true := by decide +kernel
theorem t_law_plus : dnC tb d_law_plus (tops 47) = true := by decide +kernel
theorem t_law_minus : dnC tb d_law_minus (tops 48) = true := by decide +kernel
theorem t_law_times : dnC tb d_law_times (tops 49) = true := by decide +kernel
theorem t_law_undone : dnC tb d_law_undone (tops 50) = true := by decide +kernel
theorem t_law_nu_ground : dnC tb d_law_nu_ground (tops 51) = true := by decide +kernel
theorem t_law_nu_drawn : dnC tb d_law_nu_drawn (tops 52) = true := by decide +kernel
theorem t_law_nu_power : dnC tb d_law_nu_power (tops 53) = true := by decide +kernel
theorem t_law_field_right : dnC tb d_law_field_right (tops 54) = true := by decide +kernel
theorem t_law_fractions_right : dnC tb d_law_fractions_right (tops 55) = true := by decide +kernel
theorem t_law : dnC tb d_law (tops 56) = true := by decide +kernel
theorem txt {K : PySem.W.Frag} {h : Heap} {mg : Str → Option Value} (X : K.In h) (G : h.Ns mainGlobals mg)
    {f0 : Addr} {od0 an0 : Option Addr} {sl0 : Array (Option Value)} {oc0 kv0 dc0 pm0 cd0 ct0 : Value}
    (a0 : PySem.W.nsIn K mainGlobals "is_whole" = some (some (.ref f0))) (l0 : K.lookup f0 = some ⟨oc0, od0, .func (PySem.W.fnOf "is_whole" "is_whole" (defArgs (tops 0)) (defBody (tops 0)) (defScope (tops 0)) .none kv0 dc0 pm0 an0 cd0 ct0), sl0⟩) (c0 : PySem.W.codeIn K cd0 "is_whole" = true) (k0 : PySem.W.keepIn K (.ref f0) = true)
    {f1 : Addr} {od1 an1 : Option Addr} {sl1 : Array (Option Value)} {oc1 kv1 dc1 pm1 cd1 ct1 : Value}
    (a1 : PySem.W.nsIn K mainGlobals "is_integer" = some (some (.ref f1))) (l1 : K.lookup f1 = some ⟨oc1, od1, .func (PySem.W.fnOf "is_integer" "is_integer" (defArgs (tops 1)) (defBody (tops 1)) (defScope (tops 1)) .none kv1 dc1 pm1 an1 cd1 ct1), sl1⟩) (c1 : PySem.W.codeIn K cd1 "is_integer" = true) (k1 : PySem.W.keepIn K (.ref f1) = true)
    {f2 : Addr} {od2 an2 : Option Addr} {sl2 : Array (Option Value)} {oc2 kv2 dc2 pm2 cd2 ct2 : Value}
    (a2 : PySem.W.nsIn K mainGlobals "is_within" = some (some (.ref f2))) (l2 : K.lookup f2 = some ⟨oc2, od2, .func (PySem.W.fnOf "is_within" "is_within" (defArgs (tops 2)) (defBody (tops 2)) (defScope (tops 2)) .none kv2 dc2 pm2 an2 cd2 ct2), sl2⟩) (c2 : PySem.W.codeIn K cd2 "is_within" = true) (k2 : PySem.W.keepIn K (.ref f2) = true)
    {f3 : Addr} {od3 an3 : Option Addr} {sl3 : Array (Option Value)} {oc3 kv3 dc3 pm3 cd3 ct3 : Value}
    (a3 : PySem.W.nsIn K mainGlobals "has_divisor" = some (some (.ref f3))) (l3 : K.lookup f3 = some ⟨oc3, od3, .func (PySem.W.fnOf "has_divisor" "has_divisor" (defArgs (tops 3)) (defBody (tops 3)) (defScope (tops 3)) .none kv3 dc3 pm3 an3 cd3 ct3), sl3⟩) (c3 : PySem.W.codeIn K cd3 "has_divisor" = true) (k3 : PySem.W.keepIn K (.ref f3) = true)
    {f4 : Addr} {od4 an4 : Option Addr} {sl4 : Array (Option Value)} {oc4 kv4 dc4 pm4 cd4 ct4 : Value}
    (a4 : PySem.W.nsIn K mainGlobals "is_ground" = some (some (.ref f4))) (l4 : K.lookup f4 = some ⟨oc4, od4, .func (PySem.W.fnOf "is_ground" "is_ground" (defArgs (tops 4)) (defBody (tops 4)) (defScope (tops 4)) .none kv4 dc4 pm4 an4 cd4 ct4), sl4⟩) (c4 : PySem.W.codeIn K cd4 "is_ground" = true) (k4 : PySem.W.keepIn K (.ref f4) = true)
    {f5 : Addr} {od5 an5 : Option Addr} {sl5 : Array (Option Value)} {oc5 kv5 dc5 pm5 cd5 ct5 : Value}
    (a5 : PySem.W.nsIn K mainGlobals "is_number_up_to" = some (some (.ref f5))) (l5 : K.lookup f5 = some ⟨oc5, od5, .func (PySem.W.fnOf "is_number_up_to" "is_number_up_to" (defArgs (tops 5)) (defBody (tops 5)) (defScope (tops 5)) .none kv5 dc5 pm5 an5 cd5 ct5), sl5⟩) (c5 : PySem.W.codeIn K cd5 "is_number_up_to" = true) (k5 : PySem.W.keepIn K (.ref f5) = true)
    {f6 : Addr} {od6 an6 : Option Addr} {sl6 : Array (Option Value)} {oc6 kv6 dc6 pm6 cd6 ct6 : Value}
    (a6 : PySem.W.nsIn K mainGlobals "is_number_of" = some (some (.ref f6))) (l6 : K.lookup f6 = some ⟨oc6, od6, .func (PySem.W.fnOf "is_number_of" "is_number_of" (defArgs (tops 6)) (defBody (tops 6)) (defScope (tops 6)) .none kv6 dc6 pm6 an6 cd6 ct6), sl6⟩) (c6 : PySem.W.codeIn K cd6 "is_number_of" = true) (k6 : PySem.W.keepIn K (.ref f6) = true)
    {f7 : Addr} {od7 an7 : Option Addr} {sl7 : Array (Option Value)} {oc7 kv7 dc7 pm7 cd7 ct7 : Value}
    (a7 : PySem.W.nsIn K mainGlobals "require_ground" = some (some (.ref f7))) (l7 : K.lookup f7 = some ⟨oc7, od7, .func (PySem.W.fnOf "require_ground" "require_ground" (defArgs (tops 7)) (defBody (tops 7)) (defScope (tops 7)) .none kv7 dc7 pm7 an7 cd7 ct7), sl7⟩) (c7 : PySem.W.codeIn K cd7 "require_ground" = true) (k7 : PySem.W.keepIn K (.ref f7) = true)
    {f8 : Addr} {od8 an8 : Option Addr} {sl8 : Array (Option Value)} {oc8 kv8 dc8 pm8 cd8 ct8 : Value}
    (a8 : PySem.W.nsIn K mainGlobals "require_number" = some (some (.ref f8))) (l8 : K.lookup f8 = some ⟨oc8, od8, .func (PySem.W.fnOf "require_number" "require_number" (defArgs (tops 8)) (defBody (tops 8)) (defScope (tops 8)) .none kv8 dc8 pm8 an8 cd8 ct8), sl8⟩) (c8 : PySem.W.codeIn K cd8 "require_number" = true) (k8 : PySem.W.keepIn K (.ref f8) = true)
    {f9 : Addr} {od9 an9 : Option Addr} {sl9 : Array (Option Value)} {oc9 kv9 dc9 pm9 cd9 ct9 : Value}
    (a9 : PySem.W.nsIn K mainGlobals "require_integer" = some (some (.ref f9))) (l9 : K.lookup f9 = some ⟨oc9, od9, .func (PySem.W.fnOf "require_integer" "require_integer" (defArgs (tops 9)) (defBody (tops 9)) (defScope (tops 9)) .none kv9 dc9 pm9 an9 cd9 ct9), sl9⟩) (c9 : PySem.W.codeIn K cd9 "require_integer" = true) (k9 : PySem.W.keepIn K (.ref f9) = true)
    {f10 : Addr} {od10 an10 : Option Addr} {sl10 : Array (Option Value)} {oc10 kv10 dc10 pm10 cd10 ct10 : Value}
    (a10 : PySem.W.nsIn K mainGlobals "require_within" = some (some (.ref f10))) (l10 : K.lookup f10 = some ⟨oc10, od10, .func (PySem.W.fnOf "require_within" "require_within" (defArgs (tops 10)) (defBody (tops 10)) (defScope (tops 10)) .none kv10 dc10 pm10 an10 cd10 ct10), sl10⟩) (c10 : PySem.W.codeIn K cd10 "require_within" = true) (k10 : PySem.W.keepIn K (.ref f10) = true)
    {f11 : Addr} {od11 an11 : Option Addr} {sl11 : Array (Option Value)} {oc11 kv11 dc11 pm11 cd11 ct11 : Value}
    (a11 : PySem.W.nsIn K mainGlobals "require_two_numbers" = some (some (.ref f11))) (l11 : K.lookup f11 = some ⟨oc11, od11, .func (PySem.W.fnOf "require_two_numbers" "require_two_numbers" (defArgs (tops 11)) (defBody (tops 11)) (defScope (tops 11)) .none kv11 dc11 pm11 an11 cd11 ct11), sl11⟩) (c11 : PySem.W.codeIn K cd11 "require_two_numbers" = true) (k11 : PySem.W.keepIn K (.ref f11) = true)
    {f12 : Addr} {od12 an12 : Option Addr} {sl12 : Array (Option Value)} {oc12 kv12 dc12 pm12 cd12 ct12 : Value}
    (a12 : PySem.W.nsIn K mainGlobals "fraction_in" = some (some (.ref f12))) (l12 : K.lookup f12 = some ⟨oc12, od12, .func (PySem.W.fnOf "fraction_in" "fraction_in" (defArgs (tops 12)) (defBody (tops 12)) (defScope (tops 12)) .none kv12 dc12 pm12 an12 cd12 ct12), sl12⟩) (c12 : PySem.W.codeIn K cd12 "fraction_in" = true) (k12 : PySem.W.keepIn K (.ref f12) = true)
    {f13 : Addr} {od13 an13 : Option Addr} {sl13 : Array (Option Value)} {oc13 kv13 dc13 pm13 cd13 ct13 : Value}
    (a13 : PySem.W.nsIn K mainGlobals "whole_in" = some (some (.ref f13))) (l13 : K.lookup f13 = some ⟨oc13, od13, .func (PySem.W.fnOf "whole_in" "whole_in" (defArgs (tops 13)) (defBody (tops 13)) (defScope (tops 13)) .none kv13 dc13 pm13 an13 cd13 ct13), sl13⟩) (c13 : PySem.W.codeIn K cd13 "whole_in" = true) (k13 : PySem.W.keepIn K (.ref f13) = true)
    {f14 : Addr} {od14 an14 : Option Addr} {sl14 : Array (Option Value)} {oc14 kv14 dc14 pm14 cd14 ct14 : Value}
    (a14 : PySem.W.nsIn K mainGlobals "zero" = some (some (.ref f14))) (l14 : K.lookup f14 = some ⟨oc14, od14, .func (PySem.W.fnOf "zero" "zero" (defArgs (tops 14)) (defBody (tops 14)) (defScope (tops 14)) .none kv14 dc14 pm14 an14 cd14 ct14), sl14⟩) (c14 : PySem.W.codeIn K cd14 "zero" = true) (k14 : PySem.W.keepIn K (.ref f14) = true)
    {f15 : Addr} {od15 an15 : Option Addr} {sl15 : Array (Option Value)} {oc15 kv15 dc15 pm15 cd15 ct15 : Value}
    (a15 : PySem.W.nsIn K mainGlobals "unit" = some (some (.ref f15))) (l15 : K.lookup f15 = some ⟨oc15, od15, .func (PySem.W.fnOf "unit" "unit" (defArgs (tops 15)) (defBody (tops 15)) (defScope (tops 15)) .none kv15 dc15 pm15 an15 cd15 ct15), sl15⟩) (c15 : PySem.W.codeIn K cd15 "unit" = true) (k15 : PySem.W.keepIn K (.ref f15) = true)
    {f16 : Addr} {od16 an16 : Option Addr} {sl16 : Array (Option Value)} {oc16 kv16 dc16 pm16 cd16 ct16 : Value}
    (a16 : PySem.W.nsIn K mainGlobals "is_zero" = some (some (.ref f16))) (l16 : K.lookup f16 = some ⟨oc16, od16, .func (PySem.W.fnOf "is_zero" "is_zero" (defArgs (tops 16)) (defBody (tops 16)) (defScope (tops 16)) .none kv16 dc16 pm16 an16 cd16 ct16), sl16⟩) (c16 : PySem.W.codeIn K cd16 "is_zero" = true) (k16 : PySem.W.keepIn K (.ref f16) = true)
    {f17 : Addr} {od17 an17 : Option Addr} {sl17 : Array (Option Value)} {oc17 kv17 dc17 pm17 cd17 ct17 : Value}
    (a17 : PySem.W.nsIn K mainGlobals "plus" = some (some (.ref f17))) (l17 : K.lookup f17 = some ⟨oc17, od17, .func (PySem.W.fnOf "plus" "plus" (defArgs (tops 17)) (defBody (tops 17)) (defScope (tops 17)) .none kv17 dc17 pm17 an17 cd17 ct17), sl17⟩) (c17 : PySem.W.codeIn K cd17 "plus" = true) (k17 : PySem.W.keepIn K (.ref f17) = true)
    {f18 : Addr} {od18 an18 : Option Addr} {sl18 : Array (Option Value)} {oc18 kv18 dc18 pm18 cd18 ct18 : Value}
    (a18 : PySem.W.nsIn K mainGlobals "opposite" = some (some (.ref f18))) (l18 : K.lookup f18 = some ⟨oc18, od18, .func (PySem.W.fnOf "opposite" "opposite" (defArgs (tops 18)) (defBody (tops 18)) (defScope (tops 18)) .none kv18 dc18 pm18 an18 cd18 ct18), sl18⟩) (c18 : PySem.W.codeIn K cd18 "opposite" = true) (k18 : PySem.W.keepIn K (.ref f18) = true)
    {f19 : Addr} {od19 an19 : Option Addr} {sl19 : Array (Option Value)} {oc19 kv19 dc19 pm19 cd19 ct19 : Value}
    (a19 : PySem.W.nsIn K mainGlobals "minus" = some (some (.ref f19))) (l19 : K.lookup f19 = some ⟨oc19, od19, .func (PySem.W.fnOf "minus" "minus" (defArgs (tops 19)) (defBody (tops 19)) (defScope (tops 19)) .none kv19 dc19 pm19 an19 cd19 ct19), sl19⟩) (c19 : PySem.W.codeIn K cd19 "minus" = true) (k19 : PySem.W.keepIn K (.ref f19) = true)
    {f20 : Addr} {od20 an20 : Option Addr} {sl20 : Array (Option Value)} {oc20 kv20 dc20 pm20 cd20 ct20 : Value}
    (a20 : PySem.W.nsIn K mainGlobals "times" = some (some (.ref f20))) (l20 : K.lookup f20 = some ⟨oc20, od20, .func (PySem.W.fnOf "times" "times" (defArgs (tops 20)) (defBody (tops 20)) (defScope (tops 20)) .none kv20 dc20 pm20 an20 cd20 ct20), sl20⟩) (c20 : PySem.W.codeIn K cd20 "times" = true) (k20 : PySem.W.keepIn K (.ref f20) = true)
    {f21 : Addr} {od21 an21 : Option Addr} {sl21 : Array (Option Value)} {oc21 kv21 dc21 pm21 cd21 ct21 : Value}
    (a21 : PySem.W.nsIn K mainGlobals "undone" = some (some (.ref f21))) (l21 : K.lookup f21 = some ⟨oc21, od21, .func (PySem.W.fnOf "undone" "undone" (defArgs (tops 21)) (defBody (tops 21)) (defScope (tops 21)) .none kv21 dc21 pm21 an21 cd21 ct21), sl21⟩) (c21 : PySem.W.codeIn K cd21 "undone" = true) (k21 : PySem.W.keepIn K (.ref f21) = true)
    {f22 : Addr} {od22 an22 : Option Addr} {sl22 : Array (Option Value)} {oc22 kv22 dc22 pm22 cd22 ct22 : Value}
    (a22 : PySem.W.nsIn K mainGlobals "over" = some (some (.ref f22))) (l22 : K.lookup f22 = some ⟨oc22, od22, .func (PySem.W.fnOf "over" "over" (defArgs (tops 22)) (defBody (tops 22)) (defScope (tops 22)) .none kv22 dc22 pm22 an22 cd22 ct22), sl22⟩) (c22 : PySem.W.codeIn K cd22 "over" = true) (k22 : PySem.W.keepIn K (.ref f22) = true)
    {f23 : Addr} {od23 an23 : Option Addr} {sl23 : Array (Option Value)} {oc23 kv23 dc23 pm23 cd23 ct23 : Value}
    (a23 : PySem.W.nsIn K mainGlobals "raised_in" = some (some (.ref f23))) (l23 : K.lookup f23 = some ⟨oc23, od23, .func (PySem.W.fnOf "raised_in" "raised_in" (defArgs (tops 23)) (defBody (tops 23)) (defScope (tops 23)) .none kv23 dc23 pm23 an23 cd23 ct23), sl23⟩) (c23 : PySem.W.codeIn K cd23 "raised_in" = true) (k23 : PySem.W.keepIn K (.ref f23) = true)
    {f24 : Addr} {od24 an24 : Option Addr} {sl24 : Array (Option Value)} {oc24 kv24 dc24 pm24 cd24 ct24 : Value}
    (a24 : PySem.W.nsIn K mainGlobals "divisor_in" = some (some (.ref f24))) (l24 : K.lookup f24 = some ⟨oc24, od24, .func (PySem.W.fnOf "divisor_in" "divisor_in" (defArgs (tops 24)) (defBody (tops 24)) (defScope (tops 24)) .none kv24 dc24 pm24 an24 cd24 ct24), sl24⟩) (c24 : PySem.W.codeIn K cd24 "divisor_in" = true) (k24 : PySem.W.keepIn K (.ref f24) = true)
    {f25 : Addr} {od25 an25 : Option Addr} {sl25 : Array (Option Value)} {oc25 kv25 dc25 pm25 cd25 ct25 : Value}
    (a25 : PySem.W.nsIn K mainGlobals "undone_rest" = some (some (.ref f25))) (l25 : K.lookup f25 = some ⟨oc25, od25, .func (PySem.W.fnOf "undone_rest" "undone_rest" (defArgs (tops 25)) (defBody (tops 25)) (defScope (tops 25)) .none kv25 dc25 pm25 an25 cd25 ct25), sl25⟩) (c25 : PySem.W.codeIn K cd25 "undone_rest" = true) (k25 : PySem.W.keepIn K (.ref f25) = true)
    {f26 : Addr} {od26 an26 : Option Addr} {sl26 : Array (Option Value)} {oc26 kv26 dc26 pm26 cd26 ct26 : Value}
    (a26 : PySem.W.nsIn K mainGlobals "compared_in" = some (some (.ref f26))) (l26 : K.lookup f26 = some ⟨oc26, od26, .func (PySem.W.fnOf "compared_in" "compared_in" (defArgs (tops 26)) (defBody (tops 26)) (defScope (tops 26)) .none kv26 dc26 pm26 an26 cd26 ct26), sl26⟩) (c26 : PySem.W.codeIn K cd26 "compared_in" = true) (k26 : PySem.W.keepIn K (.ref f26) = true)
    {f27 : Addr} {od27 an27 : Option Addr} {sl27 : Array (Option Value)} {oc27 kv27 dc27 pm27 cd27 ct27 : Value}
    (a27 : PySem.W.nsIn K mainGlobals "rounded_in" = some (some (.ref f27))) (l27 : K.lookup f27 = some ⟨oc27, od27, .func (PySem.W.fnOf "rounded_in" "rounded_in" (defArgs (tops 27)) (defBody (tops 27)) (defScope (tops 27)) .none kv27 dc27 pm27 an27 cd27 ct27), sl27⟩) (c27 : PySem.W.codeIn K cd27 "rounded_in" = true) (k27 : PySem.W.keepIn K (.ref f27) = true)
    {f28 : Addr} {od28 an28 : Option Addr} {sl28 : Array (Option Value)} {oc28 kv28 dc28 pm28 cd28 ct28 : Value}
    (a28 : PySem.W.nsIn K mainGlobals "read_in" = some (some (.ref f28))) (l28 : K.lookup f28 = some ⟨oc28, od28, .func (PySem.W.fnOf "read_in" "read_in" (defArgs (tops 28)) (defBody (tops 28)) (defScope (tops 28)) .none kv28 dc28 pm28 an28 cd28 ct28), sl28⟩) (c28 : PySem.W.codeIn K cd28 "read_in" = true) (k28 : PySem.W.keepIn K (.ref f28) = true)
    {f29 : Addr} {od29 an29 : Option Addr} {sl29 : Array (Option Value)} {oc29 kv29 dc29 pm29 cd29 ct29 : Value}
    (a29 : PySem.W.nsIn K mainGlobals "whole" = some (some (.ref f29))) (l29 : K.lookup f29 = some ⟨oc29, od29, .func (PySem.W.fnOf "whole" "whole" (defArgs (tops 29)) (defBody (tops 29)) (defScope (tops 29)) .none kv29 dc29 pm29 an29 cd29 ct29), sl29⟩) (c29 : PySem.W.codeIn K cd29 "whole" = true) (k29 : PySem.W.keepIn K (.ref f29) = true)
    {f30 : Addr} {od30 an30 : Option Addr} {sl30 : Array (Option Value)} {oc30 kv30 dc30 pm30 cd30 ct30 : Value}
    (a30 : PySem.W.nsIn K mainGlobals "fraction" = some (some (.ref f30))) (l30 : K.lookup f30 = some ⟨oc30, od30, .func (PySem.W.fnOf "fraction" "fraction" (defArgs (tops 30)) (defBody (tops 30)) (defScope (tops 30)) .none kv30 dc30 pm30 an30 cd30 ct30), sl30⟩) (c30 : PySem.W.codeIn K cd30 "fraction" = true) (k30 : PySem.W.keepIn K (.ref f30) = true)
    {f31 : Addr} {od31 an31 : Option Addr} {sl31 : Array (Option Value)} {oc31 kv31 dc31 pm31 cd31 ct31 : Value}
    (a31 : PySem.W.nsIn K mainGlobals "added" = some (some (.ref f31))) (l31 : K.lookup f31 = some ⟨oc31, od31, .func (PySem.W.fnOf "added" "added" (defArgs (tops 31)) (defBody (tops 31)) (defScope (tops 31)) .none kv31 dc31 pm31 an31 cd31 ct31), sl31⟩) (c31 : PySem.W.codeIn K cd31 "added" = true) (k31 : PySem.W.keepIn K (.ref f31) = true)
    {f32 : Addr} {od32 an32 : Option Addr} {sl32 : Array (Option Value)} {oc32 kv32 dc32 pm32 cd32 ct32 : Value}
    (a32 : PySem.W.nsIn K mainGlobals "subtracted" = some (some (.ref f32))) (l32 : K.lookup f32 = some ⟨oc32, od32, .func (PySem.W.fnOf "subtracted" "subtracted" (defArgs (tops 32)) (defBody (tops 32)) (defScope (tops 32)) .none kv32 dc32 pm32 an32 cd32 ct32), sl32⟩) (c32 : PySem.W.codeIn K cd32 "subtracted" = true) (k32 : PySem.W.keepIn K (.ref f32) = true)
    {f33 : Addr} {od33 an33 : Option Addr} {sl33 : Array (Option Value)} {oc33 kv33 dc33 pm33 cd33 ct33 : Value}
    (a33 : PySem.W.nsIn K mainGlobals "multiplied" = some (some (.ref f33))) (l33 : K.lookup f33 = some ⟨oc33, od33, .func (PySem.W.fnOf "multiplied" "multiplied" (defArgs (tops 33)) (defBody (tops 33)) (defScope (tops 33)) .none kv33 dc33 pm33 an33 cd33 ct33), sl33⟩) (c33 : PySem.W.codeIn K cd33 "multiplied" = true) (k33 : PySem.W.keepIn K (.ref f33) = true)
    {f34 : Addr} {od34 an34 : Option Addr} {sl34 : Array (Option Value)} {oc34 kv34 dc34 pm34 cd34 ct34 : Value}
    (a34 : PySem.W.nsIn K mainGlobals "divided" = some (some (.ref f34))) (l34 : K.lookup f34 = some ⟨oc34, od34, .func (PySem.W.fnOf "divided" "divided" (defArgs (tops 34)) (defBody (tops 34)) (defScope (tops 34)) .none kv34 dc34 pm34 an34 cd34 ct34), sl34⟩) (c34 : PySem.W.codeIn K cd34 "divided" = true) (k34 : PySem.W.keepIn K (.ref f34) = true)
    {f35 : Addr} {od35 an35 : Option Addr} {sl35 : Array (Option Value)} {oc35 kv35 dc35 pm35 cd35 ct35 : Value}
    (a35 : PySem.W.nsIn K mainGlobals "raised" = some (some (.ref f35))) (l35 : K.lookup f35 = some ⟨oc35, od35, .func (PySem.W.fnOf "raised" "raised" (defArgs (tops 35)) (defBody (tops 35)) (defScope (tops 35)) .none kv35 dc35 pm35 an35 cd35 ct35), sl35⟩) (c35 : PySem.W.codeIn K cd35 "raised" = true) (k35 : PySem.W.keepIn K (.ref f35) = true)
    {f36 : Addr} {od36 an36 : Option Addr} {sl36 : Array (Option Value)} {oc36 kv36 dc36 pm36 cd36 ct36 : Value}
    (a36 : PySem.W.nsIn K mainGlobals "compared" = some (some (.ref f36))) (l36 : K.lookup f36 = some ⟨oc36, od36, .func (PySem.W.fnOf "compared" "compared" (defArgs (tops 36)) (defBody (tops 36)) (defScope (tops 36)) .none kv36 dc36 pm36 an36 cd36 ct36), sl36⟩) (c36 : PySem.W.codeIn K cd36 "compared" = true) (k36 : PySem.W.keepIn K (.ref f36) = true)
    {f37 : Addr} {od37 an37 : Option Addr} {sl37 : Array (Option Value)} {oc37 kv37 dc37 pm37 cd37 ct37 : Value}
    (a37 : PySem.W.nsIn K mainGlobals "rounded" = some (some (.ref f37))) (l37 : K.lookup f37 = some ⟨oc37, od37, .func (PySem.W.fnOf "rounded" "rounded" (defArgs (tops 37)) (defBody (tops 37)) (defScope (tops 37)) .none kv37 dc37 pm37 an37 cd37 ct37), sl37⟩) (c37 : PySem.W.codeIn K cd37 "rounded" = true) (k37 : PySem.W.keepIn K (.ref f37) = true)
    {f38 : Addr} {od38 an38 : Option Addr} {sl38 : Array (Option Value)} {oc38 kv38 dc38 pm38 cd38 ct38 : Value}
    (a38 : PySem.W.nsIn K mainGlobals "read_at" = some (some (.ref f38))) (l38 : K.lookup f38 = some ⟨oc38, od38, .func (PySem.W.fnOf "read_at" "read_at" (defArgs (tops 38)) (defBody (tops 38)) (defScope (tops 38)) .none kv38 dc38 pm38 an38 cd38 ct38), sl38⟩) (c38 : PySem.W.codeIn K cd38 "read_at" = true) (k38 : PySem.W.keepIn K (.ref f38) = true)
    {f39 : Addr} {od39 an39 : Option Addr} {sl39 : Array (Option Value)} {oc39 kv39 dc39 pm39 cd39 ct39 : Value}
    (a39 : PySem.W.nsIn K mainGlobals "_law_dice" = some (some (.ref f39))) (l39 : K.lookup f39 = some ⟨oc39, od39, .func (PySem.W.fnOf "_law_dice" "_law_dice" (defArgs (tops 39)) (defBody (tops 39)) (defScope (tops 39)) .none kv39 dc39 pm39 an39 cd39 ct39), sl39⟩) (c39 : PySem.W.codeIn K cd39 "_law_dice" = true) (k39 : PySem.W.keepIn K (.ref f39) = true)
    {f40 : Addr} {od40 an40 : Option Addr} {sl40 : Array (Option Value)} {oc40 kv40 dc40 pm40 cd40 ct40 : Value}
    (a40 : PySem.W.nsIn K mainGlobals "_law_roll" = some (some (.ref f40))) (l40 : K.lookup f40 = some ⟨oc40, od40, .func (PySem.W.fnOf "_law_roll" "_law_roll" (defArgs (tops 40)) (defBody (tops 40)) (defScope (tops 40)) .none kv40 dc40 pm40 an40 cd40 ct40), sl40⟩) (c40 : PySem.W.codeIn K cd40 "_law_roll" = true) (k40 : PySem.W.keepIn K (.ref f40) = true)
    {f41 : Addr} {od41 an41 : Option Addr} {sl41 : Array (Option Value)} {oc41 kv41 dc41 pm41 cd41 ct41 : Value}
    (a41 : PySem.W.nsIn K mainGlobals "_law_pick" = some (some (.ref f41))) (l41 : K.lookup f41 = some ⟨oc41, od41, .func (PySem.W.fnOf "_law_pick" "_law_pick" (defArgs (tops 41)) (defBody (tops 41)) (defScope (tops 41)) .none kv41 dc41 pm41 an41 cd41 ct41), sl41⟩) (c41 : PySem.W.codeIn K cd41 "_law_pick" = true) (k41 : PySem.W.keepIn K (.ref f41) = true)
    {f42 : Addr} {od42 an42 : Option Addr} {sl42 : Array (Option Value)} {oc42 kv42 dc42 pm42 cd42 ct42 : Value}
    (a42 : PySem.W.nsIn K mainGlobals "_law_gcd" = some (some (.ref f42))) (l42 : K.lookup f42 = some ⟨oc42, od42, .func (PySem.W.fnOf "_law_gcd" "_law_gcd" (defArgs (tops 42)) (defBody (tops 42)) (defScope (tops 42)) .none kv42 dc42 pm42 an42 cd42 ct42), sl42⟩) (c42 : PySem.W.codeIn K cd42 "_law_gcd" = true) (k42 : PySem.W.keepIn K (.ref f42) = true)
    {f43 : Addr} {od43 an43 : Option Addr} {sl43 : Array (Option Value)} {oc43 kv43 dc43 pm43 cd43 ct43 : Value}
    (a43 : PySem.W.nsIn K mainGlobals "_law_fraction" = some (some (.ref f43))) (l43 : K.lookup f43 = some ⟨oc43, od43, .func (PySem.W.fnOf "_law_fraction" "_law_fraction" (defArgs (tops 43)) (defBody (tops 43)) (defScope (tops 43)) .none kv43 dc43 pm43 an43 cd43 ct43), sl43⟩) (c43 : PySem.W.codeIn K cd43 "_law_fraction" = true) (k43 : PySem.W.keepIn K (.ref f43) = true)
    {f44 : Addr} {od44 an44 : Option Addr} {sl44 : Array (Option Value)} {oc44 kv44 dc44 pm44 cd44 ct44 : Value}
    (a44 : PySem.W.nsIn K mainGlobals "_law_back" = some (some (.ref f44))) (l44 : K.lookup f44 = some ⟨oc44, od44, .func (PySem.W.fnOf "_law_back" "_law_back" (defArgs (tops 44)) (defBody (tops 44)) (defScope (tops 44)) .none kv44 dc44 pm44 an44 cd44 ct44), sl44⟩) (c44 : PySem.W.codeIn K cd44 "_law_back" = true) (k44 : PySem.W.keepIn K (.ref f44) = true)
    {f45 : Addr} {od45 an45 : Option Addr} {sl45 : Array (Option Value)} {oc45 kv45 dc45 pm45 cd45 ct45 : Value}
    (a45 : PySem.W.nsIn K mainGlobals "_law_zero" = some (some (.ref f45))) (l45 : K.lookup f45 = some ⟨oc45, od45, .func (PySem.W.fnOf "_law_zero" "_law_zero" (defArgs (tops 45)) (defBody (tops 45)) (defScope (tops 45)) .none kv45 dc45 pm45 an45 cd45 ct45), sl45⟩) (c45 : PySem.W.codeIn K cd45 "_law_zero" = true) (k45 : PySem.W.keepIn K (.ref f45) = true)
    {f46 : Addr} {od46 an46 : Option Addr} {sl46 : Array (Option Value)} {oc46 kv46 dc46 pm46 cd46 ct46 : Value}
    (a46 : PySem.W.nsIn K mainGlobals "_law_unit" = some (some (.ref f46))) (l46 : K.lookup f46 = some ⟨oc46, od46, .func (PySem.W.fnOf "_law_unit" "_law_unit" (defArgs (tops 46)) (defBody (tops 46)) (defScope (tops 46)) .none kv46 dc46 pm46 an46 cd46 ct46), sl46⟩) (c46 : PySem.W.codeIn K cd46 "_law_unit" = true) (k46 : PySem.W.keepIn K (.ref f46) = true)
    {f47 : Addr} {od47 an47 : Option Addr} {sl47 : Array (Option Value)} {oc47 kv47 dc47 pm47 cd47 ct47 : Value}
    (a47 : PySem.W.nsIn K mainGlobals "_law_plus" = some (some (.ref f47))) (l47 : K.lookup f47 = some ⟨oc47, od47, .func (PySem.W.fnOf "_law_plus" "_law_plus" (defArgs (tops 47)) (defBody (tops 47)) (defScope (tops 47)) .none kv47 dc47 pm47 an47 cd47 ct47), sl47⟩) (c47 : PySem.W.codeIn K cd47 "_law_plus" = true) (k47 : PySem.W.keepIn K (.ref f47) = true)
    {f48 : Addr} {od48 an48 : Option Addr} {sl48 : Array (Option Value)} {oc48 kv48 dc48 pm48 cd48 ct48 : Value}
    (a48 : PySem.W.nsIn K mainGlobals "_law_minus" = some (some (.ref f48))) (l48 : K.lookup f48 = some ⟨oc48, od48, .func (PySem.W.fnOf "_law_minus" "_law_minus" (defArgs (tops 48)) (defBody (tops 48)) (defScope (tops 48)) .none kv48 dc48 pm48 an48 cd48 ct48), sl48⟩) (c48 : PySem.W.codeIn K cd48 "_law_minus" = true) (k48 : PySem.W.keepIn K (.ref f48) = true)
    {f49 : Addr} {od49 an49 : Option Addr} {sl49 : Array (Option Value)} {oc49 kv49 dc49 pm49 cd49 ct49 : Value}
    (a49 : PySem.W.nsIn K mainGlobals "_law_times" = some (some (.ref f49))) (l49 : K.lookup f49 = some ⟨oc49, od49, .func (PySem.W.fnOf "_law_times" "_law_times" (defArgs (tops 49)) (defBody (tops 49)) (defScope (tops 49)) .none kv49 dc49 pm49 an49 cd49 ct49), sl49⟩) (c49 : PySem.W.codeIn K cd49 "_law_times" = true) (k49 : PySem.W.keepIn K (.ref f49) = true)
    {f50 : Addr} {od50 an50 : Option Addr} {sl50 : Array (Option Value)} {oc50 kv50 dc50 pm50 cd50 ct50 : Value}
    (a50 : PySem.W.nsIn K mainGlobals "_law_undone" = some (some (.ref f50))) (l50 : K.lookup f50 = some ⟨oc50, od50, .func (PySem.W.fnOf "_law_undone" "_law_undone" (defArgs (tops 50)) (defBody (tops 50)) (defScope (tops 50)) .none kv50 dc50 pm50 an50 cd50 ct50), sl50⟩) (c50 : PySem.W.codeIn K cd50 "_law_undone" = true) (k50 : PySem.W.keepIn K (.ref f50) = true)
    {f51 : Addr} {od51 an51 : Option Addr} {sl51 : Array (Option Value)} {oc51 kv51 dc51 pm51 cd51 ct51 : Value}
    (a51 : PySem.W.nsIn K mainGlobals "_law_nu_ground" = some (some (.ref f51))) (l51 : K.lookup f51 = some ⟨oc51, od51, .func (PySem.W.fnOf "_law_nu_ground" "_law_nu_ground" (defArgs (tops 51)) (defBody (tops 51)) (defScope (tops 51)) .none kv51 dc51 pm51 an51 cd51 ct51), sl51⟩) (c51 : PySem.W.codeIn K cd51 "_law_nu_ground" = true) (k51 : PySem.W.keepIn K (.ref f51) = true)
    {f52 : Addr} {od52 an52 : Option Addr} {sl52 : Array (Option Value)} {oc52 kv52 dc52 pm52 cd52 ct52 : Value}
    (a52 : PySem.W.nsIn K mainGlobals "_law_nu_drawn" = some (some (.ref f52))) (l52 : K.lookup f52 = some ⟨oc52, od52, .func (PySem.W.fnOf "_law_nu_drawn" "_law_nu_drawn" (defArgs (tops 52)) (defBody (tops 52)) (defScope (tops 52)) .none kv52 dc52 pm52 an52 cd52 ct52), sl52⟩) (c52 : PySem.W.codeIn K cd52 "_law_nu_drawn" = true) (k52 : PySem.W.keepIn K (.ref f52) = true)
    {f53 : Addr} {od53 an53 : Option Addr} {sl53 : Array (Option Value)} {oc53 kv53 dc53 pm53 cd53 ct53 : Value}
    (a53 : PySem.W.nsIn K mainGlobals "_law_nu_power" = some (some (.ref f53))) (l53 : K.lookup f53 = some ⟨oc53, od53, .func (PySem.W.fnOf "_law_nu_power" "_law_nu_power" (defArgs (tops 53)) (defBody (tops 53)) (defScope (tops 53)) .none kv53 dc53 pm53 an53 cd53 ct53), sl53⟩) (c53 : PySem.W.codeIn K cd53 "_law_nu_power" = true) (k53 : PySem.W.keepIn K (.ref f53) = true)
    {f54 : Addr} {od54 an54 : Option Addr} {sl54 : Array (Option Value)} {oc54 kv54 dc54 pm54 cd54 ct54 : Value}
    (a54 : PySem.W.nsIn K mainGlobals "_law_field_right" = some (some (.ref f54))) (l54 : K.lookup f54 = some ⟨oc54, od54, .func (PySem.W.fnOf "_law_field_right" "_law_field_right" (defArgs (tops 54)) (defBody (tops 54)) (defScope (tops 54)) .none kv54 dc54 pm54 an54 cd54 ct54), sl54⟩) (c54 : PySem.W.codeIn K cd54 "_law_field_right" = true) (k54 : PySem.W.keepIn K (.ref f54) = true)
    {f55 : Addr} {od55 an55 : Option Addr} {sl55 : Array (Option Value)} {oc55 kv55 dc55 pm55 cd55 ct55 : Value}
    (a55 : PySem.W.nsIn K mainGlobals "_law_fractions_right" = some (some (.ref f55))) (l55 : K.lookup f55 = some ⟨oc55, od55, .func (PySem.W.fnOf "_law_fractions_right" "_law_fractions_right" (defArgs (tops 55)) (defBody (tops 55)) (defScope (tops 55)) .none kv55 dc55 pm55 an55 cd55 ct55), sl55⟩) (c55 : PySem.W.codeIn K cd55 "_law_fractions_right" = true) (k55 : PySem.W.keepIn K (.ref f55) = true)
    {f56 : Addr} {od56 an56 : Option Addr} {sl56 : Array (Option Value)} {oc56 kv56 dc56 pm56 cd56 ct56 : Value}
    (a56 : PySem.W.nsIn K mainGlobals "law" = some (some (.ref f56))) (l56 : K.lookup f56 = some ⟨oc56, od56, .func (PySem.W.fnOf "law" "law" (defArgs (tops 56)) (defBody (tops 56)) (defScope (tops 56)) .none kv56 dc56 pm56 an56 cd56 ct56), sl56⟩) (c56 : PySem.W.codeIn K cd56 "law" = true) (k56 : PySem.W.keepIn K (.ref f56) = true)
    {tk0 : Tok} (i0 : PySem.W.nsIn K mainGlobals "MAX_GROUND" = some (some (.int 9999 tk0)))
    {tk1 : Tok} (i1 : PySem.W.nsIn K mainGlobals "MAX_EXPONENT" = some (some (.int 1000 tk1)))
    {tk2 : Tok} (i2 : PySem.W.nsIn K mainGlobals "FAR" = some (some (.int 1000000000000000000000000000000000000000000000000000000000000 tk2)))
    {tk3 : Tok} (i3 : PySem.W.nsIn K mainGlobals "PAIR_SIZE" = some (some (.int 2 tk3)))
    (b0 : PySem.W.nsIn K mainGlobals "abs" = some none)
    (b1 : PySem.W.nsIn K mainGlobals "max" = some none)
    (b2 : PySem.W.nsIn K mainGlobals "min" = some none)
    (b3 : PySem.W.nsIn K mainGlobals "int" = some none)
    (b4 : PySem.W.nsIn K mainGlobals "len" = some none)
    (b5 : PySem.W.nsIn K mainGlobals "isinstance" = some none)
    (b6 : PySem.W.nsIn K mainGlobals "any" = some none)
    (b7 : PySem.W.nsIn K mainGlobals "all" = some none)
    (b8 : PySem.W.nsIn K mainGlobals "sum" = some none)
    (b9 : PySem.W.nsIn K mainGlobals "tuple" = some none)
    (b10 : PySem.W.nsIn K mainGlobals "list" = some none)
    (b11 : PySem.W.nsIn K mainGlobals "bool" = some none)
    (b12 : PySem.W.nsIn K mainGlobals "str" = some none)
    (b13 : PySem.W.nsIn K mainGlobals "dict" = some none)
    (b14 : PySem.W.nsIn K mainGlobals "range" = some none)
    (b15 : PySem.W.nsIn K mainGlobals "enumerate" = some none)
    (b16 : PySem.W.nsIn K mainGlobals "zip" = some none)
    (b17 : PySem.W.nsIn K mainGlobals "sorted" = some none)
    (b18 : PySem.W.nsIn K mainGlobals "repr" = some none)
    (b19 : PySem.W.nsIn K mainGlobals "reversed" = some none)
    (gc : PySem.W.nsIn K mainGlobals "gcd" = some (some (.builtin "math.gcd")))
    : Txt tb K mg tops where
  dn := fun f fd e => match f, e with
    | 0, e => by cases e; exact ⟨t_is_whole, dn_mk X G a0 l0 c0 k0 fun us hl => match us, hl with | [_], _ => rfl⟩
    | 1, e => by cases e; exact ⟨t_is_integer, dn_mk X G a1 l1 c1 k1 fun us hl => match us, hl with | [_], _ => rfl⟩
    | 2, e => by cases e; exact ⟨t_is_within, dn_mk X G a2 l2 c2 k2 fun us hl => match us, hl with | [_, _, _], _ => rfl⟩
    | 3, e => by cases e; exact ⟨t_has_divisor, dn_mk X G a3 l3 c3 k3 fun us hl => match us, hl with | [_], _ => rfl⟩
    | 4, e => by cases e; exact ⟨t_is_ground, dn_mk X G a4 l4 c4 k4 fun us hl => match us, hl with | [_], _ => rfl⟩
    | 5, e => by cases e; exact ⟨t_is_number_up_to, dn_mk X G a5 l5 c5 k5 fun us hl => match us, hl with | [_, _, _], _ => rfl⟩
    | 6, e => by cases e; exact ⟨t_is_number_of, dn_mk X G a6 l6 c6 k6 fun us hl => match us, hl with | [_, _], _ => rfl⟩
    | 7, e => by cases e; exact ⟨t_require_ground, dn_mk X G a7 l7 c7 k7 fun us hl => match us, hl with | [_], _ => rfl⟩
    | 8, e => by cases e; exact ⟨t_require_number, dn_mk X G a8 l8 c8 k8 fun us hl => match us, hl with | [_, _], _ => rfl⟩
    | 9, e => by cases e; exact ⟨t_require_integer, dn_mk X G a9 l9 c9 k9 fun us hl => match us, hl with | [_], _ => rfl⟩
    | 10, e => by cases e; exact ⟨t_require_within, dn_mk X G a10 l10 c10 k10 fun us hl => match us, hl with | [_, _, _], _ => rfl⟩
    | 11, e => by cases e; exact ⟨t_require_two_numbers, dn_mk X G a11 l11 c11 k11 fun us hl => match us, hl with | [_, _, _], _ => rfl⟩
    | 12, e => by cases e; exact ⟨t_fraction_in, dn_mk X G a12 l12 c12 k12 fun us hl => match us, hl with | [_, _], _ => rfl⟩
    | 13, e => by cases e; exact ⟨t_whole_in, dn_mk X G a13 l13 c13 k13 fun us hl => match us, hl with | [_, _], _ => rfl⟩
    | 14, e => by cases e; exact ⟨t_zero, dn_mk X G a14 l14 c14 k14 fun us hl => match us, hl with | [_], _ => rfl⟩
    | 15, e => by cases e; exact ⟨t_unit, dn_mk X G a15 l15 c15 k15 fun us hl => match us, hl with | [_], _ => rfl⟩
    | 16, e => by cases e; exact ⟨t_is_zero, dn_mk X G a16 l16 c16 k16 fun us hl => match us, hl with | [_, _], _ => rfl⟩
    | 17, e => by cases e; exact ⟨t_plus, dn_mk X G a17 l17 c17 k17 fun us hl => match us, hl with | [_, _, _], _ => rfl⟩
    | 18, e => by cases e; exact ⟨t_opposite, dn_mk X G a18 l18 c18 k18 fun us hl => match us, hl with | [_, _], _ => rfl⟩
    | 19, e => by cases e; exact ⟨t_minus, dn_mk X G a19 l19 c19 k19 fun us hl => match us, hl with | [_, _, _], _ => rfl⟩
    | 20, e => by cases e; exact ⟨t_times, dn_mk X G a20 l20 c20 k20 fun us hl => match us, hl with | [_, _, _], _ => rfl⟩
    | 21, e => by cases e; exact ⟨t_undone, dn_mk X G a21 l21 c21 k21 fun us hl => match us, hl with | [_, _], _ => rfl⟩
    | 22, e => by cases e; exact ⟨t_over, dn_mk X G a22 l22 c22 k22 fun us hl => match us, hl with | [_, _, _], _ => rfl⟩
    | 23, e => by cases e; exact ⟨t_raised_in, dn_mk X G a23 l23 c23 k23 fun us hl => match us, hl with | [_, _, _], _ => rfl⟩
    | 24, e => by cases e; exact ⟨t_divisor_in, dn_mk X G a24 l24 c24 k24 fun us hl => match us, hl with | [_, _], _ => rfl⟩
    | 25, e => by cases e; exact ⟨t_undone_rest, dn_mk X G a25 l25 c25 k25 fun us hl => match us, hl with | [_, _], _ => rfl⟩
    | 26, e => by cases e; exact ⟨t_compared_in, dn_mk X G a26 l26 c26 k26 fun us hl => match us, hl with | [_, _], _ => rfl⟩
    | 27, e => by cases e; exact ⟨t_rounded_in, dn_mk X G a27 l27 c27 k27 fun us hl => match us, hl with | [_], _ => rfl⟩
    | 28, e => by cases e; exact ⟨t_read_in, dn_mk X G a28 l28 c28 k28 fun us hl => match us, hl with | [_, _], _ => rfl⟩
    | 29, e => by cases e; exact ⟨t_whole, dn_mk X G a29 l29 c29 k29 fun us hl => match us, hl with | [_, _], _ => rfl⟩
    | 30, e => by cases e; exact ⟨t_fraction, dn_mk X G a30 l30 c30 k30 fun us hl => match us, hl with | [_, _], _ => rfl⟩
    | 31, e => by cases e; exact ⟨t_added, dn_mk X G a31 l31 c31 k31 fun us hl => match us, hl with | [_, _, _], _ => rfl⟩
    | 32, e => by cases e; exact ⟨t_subtracted, dn_mk X G a32 l32 c32 k32 fun us hl => match us, hl with | [_, _, _], _ => rfl⟩
    | 33, e => by cases e; exact ⟨t_multiplied, dn_mk X G a33 l33 c33 k33 fun us hl => match us, hl with | [_, _, _], _ => rfl⟩
    | 34, e => by cases e; exact ⟨t_divided, dn_mk X G a34 l34 c34 k34 fun us hl => match us, hl with | [_, _, _], _ => rfl⟩
    | 35, e => by cases e; exact ⟨t_raised, dn_mk X G a35 l35 c35 k35 fun us hl => match us, hl with | [_, _, _], _ => rfl⟩
    | 36, e => by cases e; exact ⟨t_compared, dn_mk X G a36 l36 c36 k36 fun us hl => match us, hl with | [_, _], _ => rfl⟩
    | 37, e => by cases e; exact ⟨t_rounded, dn_mk X G a37 l37 c37 k37 fun us hl => match us, hl with | [_], _ => rfl⟩
    | 38, e => by cases e; exact ⟨t_read_at, dn_mk X G a38 l38 c38 k38 fun us hl => match us, hl with | [_, _], _ => rfl⟩
    | 39, e => by cases e; exact ⟨t_law_dice, dn_mk X G a39 l39 c39 k39 fun us hl => match us, hl with | [_, _], _ => rfl⟩
    | 40, e => by cases e; exact ⟨t_law_roll, dn_mk X G a40 l40 c40 k40 fun us hl => match us, hl with | [_, _], _ => rfl⟩
    | 41, e => by cases e; exact ⟨t_law_pick, dn_mk X G a41 l41 c41 k41 fun us hl => match us, hl with | [_, _], _ => rfl⟩
    | 42, e => by cases e; exact ⟨t_law_gcd, dn_mk X G a42 l42 c42 k42 fun us hl => match us, hl with | [_, _], _ => rfl⟩
    | 43, e => by cases e; exact ⟨t_law_fraction, dn_mk X G a43 l43 c43 k43 fun us hl => match us, hl with | [_, _], _ => rfl⟩
    | 44, e => by cases e; exact ⟨t_law_back, dn_mk X G a44 l44 c44 k44 fun us hl => match us, hl with | [_, _], _ => rfl⟩
    | 45, e => by cases e; exact ⟨t_law_zero, dn_mk X G a45 l45 c45 k45 fun us hl => match us, hl with | [_], _ => rfl⟩
    | 46, e => by cases e; exact ⟨t_law_unit, dn_mk X G a46 l46 c46 k46 fun us hl => match us, hl with | [_], _ => rfl⟩
    | 47, e => by cases e; exact ⟨t_law_plus, dn_mk X G a47 l47 c47 k47 fun us hl => match us, hl with | [_, _, _], _ => rfl⟩
    | 48, e => by cases e; exact ⟨t_law_minus, dn_mk X G a48 l48 c48 k48 fun us hl => match us, hl with | [_, _], _ => rfl⟩
    | 49, e => by cases e; exact ⟨t_law_times, dn_mk X G a49 l49 c49 k49 fun us hl => match us, hl with | [_, _, _], _ => rfl⟩
    | 50, e => by cases e; exact ⟨t_law_undone, dn_mk X G a50 l50 c50 k50 fun us hl => match us, hl with | [_, _], _ => rfl⟩
    | 51, e => by cases e; exact ⟨t_law_nu_ground, dn_mk X G a51 l51 c51 k51 fun us hl => match us, hl with | [_], _ => rfl⟩
    | 52, e => by cases e; exact ⟨t_law_nu_drawn, dn_mk X G a52 l52 c52 k52 fun us hl => match us, hl with | [_, _], _ => rfl⟩
    | 53, e => by cases e; exact ⟨t_law_nu_power, dn_mk X G a53 l53 c53 k53 fun us hl => match us, hl with | [_, _, _], _ => rfl⟩
    | 54, e => by cases e; exact ⟨t_law_field_right, dn_mk X G a54 l54 c54 k54 fun us hl => match us, hl with | [_], _ => rfl⟩
    | 55, e => by cases e; exact ⟨t_law_fractions_right, dn_mk X G a55 l55 c55 k55 fun us hl => match us, hl with | [_], _ => rfl⟩
    | 56, e => by cases e; exact ⟨t_law, dn_mk X G a56 l56 c56 k56 fun us hl => match us, hl with | [_], _ => rfl⟩
    | m + 57, e => by cases e
  consts := fun x i hm => by
    simp only [tb, List.mem_cons, List.not_mem_nil, or_false, Prod.mk.injEq, false_and] at hm
    rcases hm with ⟨rfl, rfl⟩ | ⟨rfl, rfl⟩ | ⟨rfl, rfl⟩ | ⟨rfl, rfl⟩
    · exact ⟨_, PySem.W.mg_of X G i0⟩
    · exact ⟨_, PySem.W.mg_of X G i1⟩
    · exact ⟨_, PySem.W.mg_of X G i2⟩
    · exact ⟨_, PySem.W.mg_of X G i3⟩
  blt := fun x hx => by
    simp only [bltL, List.mem_cons, List.not_mem_nil, or_false] at hx
    rcases hx with rfl | rfl | rfl | rfl | rfl | rfl | rfl | rfl | rfl | rfl | rfl | rfl | rfl | rfl | rfl | rfl | rfl | rfl | rfl | rfl
    · exact PySem.W.mg_none_of X G b0
    · exact PySem.W.mg_none_of X G b1
    · exact PySem.W.mg_none_of X G b2
    · exact PySem.W.mg_none_of X G b3
    · exact PySem.W.mg_none_of X G b4
    · exact PySem.W.mg_none_of X G b5
    · exact PySem.W.mg_none_of X G b6
    · exact PySem.W.mg_none_of X G b7
    · exact PySem.W.mg_none_of X G b8
    · exact PySem.W.mg_none_of X G b9
    · exact PySem.W.mg_none_of X G b10
    · exact PySem.W.mg_none_of X G b11
    · exact PySem.W.mg_none_of X G b12
    · exact PySem.W.mg_none_of X G b13
    · exact PySem.W.mg_none_of X G b14
    · exact PySem.W.mg_none_of X G b15
    · exact PySem.W.mg_none_of X G b16
    · exact PySem.W.mg_none_of X G b17
    · exact PySem.W.mg_none_of X G b18
    · exact PySem.W.mg_none_of X G b19
  gcd := fun e => PySem.W.mg_of X G gc
-- depth 9
end K00
set_option Elab.async false
set_option linter.all false
set_option maxRecDepth 100000
set_option maxHeartbeats 2000000
namespace K00
open PySem MP
theorem shared_neg {a b : Int} (h : b < 0) : shared a b = -((Nat.gcd a.natAbs b.natAbs : Nat) : Int) := by
  unfold shared; rw [if_neg (by omega)]
theorem shared_pos {a b : Int} (h : 0 < b) : shared a b = ((Nat.gcd a.natAbs b.natAbs : Nat) : Int) := by
  unfold shared; rw [if_pos h]
theorem shared_ne {a b : Int} (h : b ≠ 0) : shared a b ≠ 0 := by
  have : Nat.gcd a.natAbs b.natAbs ≠ 0 := fun e => h (by have := Nat.eq_zero_of_gcd_eq_zero_right e; omega)
  unfold shared
  split <;> omega
theorem e_lfrac (n : Nat) (t t1 : Bool) {a b : Int} (h0 : b ≠ 0) (hb : bits (shared a b) < 9000) : callN fns (n + 2) 43 [.val t (.int a), .val t1 (.int b)] = some (.ok (.dat (fracD a b)), [.non, .non]) := by
  have k := run_gcd (P := fns) (f := 42) rfl n false false a b
  have s0 := shared_ne (a := a) h0
  rw [callN]
  by_cases h : b < 0
  · have e := shared_neg (a := a) h
    unfold fracD
    rw [e] at hb s0 ⊢
    simp [fns, d_law_fraction, runF, MP.execs, ev_cst, ev_glb, ev_var, ev_tup, ev_lst, ev_dis0, ev_dis1, ev_bin, ev_neg, ev_boo, ev_not, ev_cmp, ev_chn, ev_ite, ev_idx, ev_slc, ev_call, ev_blt, ev_isi, ev_lstI, x_par, x_aug, x_seti, x_app, x_expr, x_ife, x_ret, x_retN, x_pas, x_brk, x_cnt, x_rse, x_nm, x_tp, evB, evIf, evO, evAs, evDs, evI, evT, evRs, bnd, ok, op1, op2, view, views, tru, frzM, frz, keepA, unslot, slotOf, putA, putAs, putD, nxtO, augD, setiD, appD, retA, asgT, asgTs, blts, liftO, bltD, absD, maxD, minD, int1D, lenD, gcdD, isiD, blsD, intsD, anyD, allD, sumD, tupleD, listD, strD, reprD, keyB, binD, cmpO, cmpD, datB, negD, idxD, getD, ixD, slcD, tyD, D.truth, D.shp, D.shps, D.eqv, D.eqvs, itemsD, rngD, zipO, enumO, intO, isND, doCall, lends, lendA, lentIx, backs, backS, maskS, mask1, k, h, hb, s0, h0]
  · have e := shared_pos (a := a) (b := b) (by omega)
    unfold fracD
    rw [e] at hb s0 ⊢
    simp [fns, d_law_fraction, runF, MP.execs, ev_cst, ev_glb, ev_var, ev_tup, ev_lst, ev_dis0, ev_dis1, ev_bin, ev_neg, ev_boo, ev_not, ev_cmp, ev_chn, ev_ite, ev_idx, ev_slc, ev_call, ev_blt, ev_isi, ev_lstI, x_par, x_aug, x_seti, x_app, x_expr, x_ife, x_ret, x_retN, x_pas, x_brk, x_cnt, x_rse, x_nm, x_tp, evB, evIf, evO, evAs, evDs, evI, evT, evRs, bnd, ok, op1, op2, view, views, tru, frzM, frz, keepA, unslot, slotOf, putA, putAs, putD, nxtO, augD, setiD, appD, retA, asgT, asgTs, blts, liftO, bltD, absD, maxD, minD, int1D, lenD, gcdD, isiD, blsD, intsD, anyD, allD, sumD, tupleD, listD, strD, reprD, keyB, binD, cmpO, cmpD, datB, negD, idxD, getD, ixD, slcD, tyD, D.truth, D.shp, D.shps, D.eqv, D.eqvs, itemsD, rngD, zipO, enumO, intO, isND, doCall, lends, lendA, lentIx, backs, backS, maskS, mask1, k, h, hb, s0, h0]
theorem e_lplusG (n : Nat) (t t1 t2 : Bool) {g a b : Int} (hg : g ≠ 0) : callN fns (n + 1) 47 [.val t (.int g), .val t1 (.int a), .val t2 (.int b)] = some (.ok (.dat (.int ((a + b).fmod g))), [.non, .non, .non]) := by
  rw [callN]
  simp [fns, d_law_plus, runF, MP.execs, ev_cst, ev_glb, ev_var, ev_tup, ev_lst, ev_dis0, ev_dis1, ev_bin, ev_neg, ev_boo, ev_not, ev_cmp, ev_chn, ev_ite, ev_idx, ev_slc, ev_call, ev_blt, ev_isi, ev_lstI, x_par, x_aug, x_seti, x_app, x_expr, x_ife, x_ret, x_retN, x_pas, x_brk, x_cnt, x_rse, x_nm, x_tp, evB, evIf, evO, evAs, evDs, evI, evT, evRs, bnd, ok, op1, op2, view, views, tru, frzM, frz, keepA, unslot, slotOf, putA, putAs, putD, nxtO, augD, setiD, appD, retA, asgT, asgTs, blts, liftO, bltD, absD, maxD, minD, int1D, lenD, gcdD, isiD, blsD, intsD, anyD, allD, sumD, tupleD, listD, strD, reprD, keyB, binD, cmpO, cmpD, datB, negD, idxD, getD, ixD, slcD, tyD, D.truth, D.shp, D.shps, D.eqv, D.eqvs, itemsD, rngD, zipO, enumO, intO, isND, doCall, lends, lendA, lentIx, backs, backS, maskS, mask1, hg]
theorem e_lplus0 (n : Nat) (t t1 t2 : Bool) {M : Nat} {a b c d : Int} (hM : (2 * M * M + 1).log2 < 9000) (ha : a.natAbs ≤ M) (hb : b.natAbs ≤ M) (hc : c.natAbs ≤ M) (hd : d.natAbs ≤ M) (b0 : b ≠ 0) (d0 : d ≠ 0) :
    callN fns (n + 3) 47 [.val t (.int 0), .val t1 (.tup [.int a, .int b]), .val t2 (.tup [.int c, .int d])] = some (.ok (.dat (fracD (a * d + c * b) (b * d))), [.non, .non, .non]) := by
  have k := e_lfrac n false false (a := a * d + c * b) (b := b * d) (Int.mul_ne_zero b0 d0) (sharedG hM (Int.mul_ne_zero b0 d0) (mul_le hb hd))
  rw [callN]
  simp [fns, d_law_plus, runF, MP.execs, ev_cst, ev_glb, ev_var, ev_tup, ev_lst, ev_dis0, ev_dis1, ev_bin, ev_neg, ev_boo, ev_not, ev_cmp, ev_chn, ev_ite, ev_idx, ev_slc, ev_call, ev_blt, ev_isi, ev_lstI, x_par, x_aug, x_seti, x_app, x_expr, x_ife, x_ret, x_retN, x_pas, x_brk, x_cnt, x_rse, x_nm, x_tp, evB, evIf, evO, evAs, evDs, evI, evT, evRs, bnd, ok, op1, op2, view, views, tru, frzM, frz, keepA, unslot, slotOf, putA, putAs, putD, nxtO, augD, setiD, appD, retA, asgT, asgTs, blts, liftO, bltD, absD, maxD, minD, int1D, lenD, gcdD, isiD, blsD, intsD, anyD, allD, sumD, tupleD, listD, strD, reprD, keyB, binD, cmpO, cmpD, datB, negD, idxD, getD, ixD, slcD, tyD, D.truth, D.shp, D.shps, D.eqv, D.eqvs, itemsD, rngD, zipO, enumO, intO, isND, doCall, lends, lendA, lentIx, backs, backS, maskS, mask1, mulG hM ha hd, mulG hM hc hb, mulG hM hb hd, k]
theorem e_ltimesG (n : Nat) (t t1 t2 : Bool) {g a b : Int} (hg : g ≠ 0) (hm : bits a + bits b < 1000000) : callN fns (n + 1) 49 [.val t (.int g), .val t1 (.int a), .val t2 (.int b)] = some (.ok (.dat (.int ((a * b).fmod g))), [.non, .non, .non]) := by
  rw [callN]
  simp [fns, d_law_times, runF, MP.execs, ev_cst, ev_glb, ev_var, ev_tup, ev_lst, ev_dis0, ev_dis1, ev_bin, ev_neg, ev_boo, ev_not, ev_cmp, ev_chn, ev_ite, ev_idx, ev_slc, ev_call, ev_blt, ev_isi, ev_lstI, x_par, x_aug, x_seti, x_app, x_expr, x_ife, x_ret, x_retN, x_pas, x_brk, x_cnt, x_rse, x_nm, x_tp, evB, evIf, evO, evAs, evDs, evI, evT, evRs, bnd, ok, op1, op2, view, views, tru, frzM, frz, keepA, unslot, slotOf, putA, putAs, putD, nxtO, augD, setiD, appD, retA, asgT, asgTs, blts, liftO, bltD, absD, maxD, minD, int1D, lenD, gcdD, isiD, blsD, intsD, anyD, allD, sumD, tupleD, listD, strD, reprD, keyB, binD, cmpO, cmpD, datB, negD, idxD, getD, ixD, slcD, tyD, D.truth, D.shp, D.shps, D.eqv, D.eqvs, itemsD, rngD, zipO, enumO, intO, isND, doCall, lends, lendA, lentIx, backs, backS, maskS, mask1, hg, hm]
theorem e_ltimes0 (n : Nat) (t t1 t2 : Bool) {M : Nat} {a b c d : Int} (hM : (2 * M * M + 1).log2 < 9000) (ha : a.natAbs ≤ M) (hb : b.natAbs ≤ M) (hc : c.natAbs ≤ M) (hd : d.natAbs ≤ M) (b0 : b ≠ 0) (d0 : d ≠ 0) :
    callN fns (n + 3) 49 [.val t (.int 0), .val t1 (.tup [.int a, .int b]), .val t2 (.tup [.int c, .int d])] = some (.ok (.dat (fracD (a * c) (b * d))), [.non, .non, .non]) := by
  have k := e_lfrac n false false (a := a * c) (b := b * d) (Int.mul_ne_zero b0 d0) (sharedG hM (Int.mul_ne_zero b0 d0) (mul_le hb hd))
  rw [callN]
  simp [fns, d_law_times, runF, MP.execs, ev_cst, ev_glb, ev_var, ev_tup, ev_lst, ev_dis0, ev_dis1, ev_bin, ev_neg, ev_boo, ev_not, ev_cmp, ev_chn, ev_ite, ev_idx, ev_slc, ev_call, ev_blt, ev_isi, ev_lstI, x_par, x_aug, x_seti, x_app, x_expr, x_ife, x_ret, x_retN, x_pas, x_brk, x_cnt, x_rse, x_nm, x_tp, evB, evIf, evO, evAs, evDs, evI, evT, evRs, bnd, ok, op1, op2, view, views, tru, frzM, frz, keepA, unslot, slotOf, putA, putAs, putD, nxtO, augD, setiD, appD, retA, asgT, asgTs, blts, liftO, bltD, absD, maxD, minD, int1D, lenD, gcdD, isiD, blsD, intsD, anyD, allD, sumD, tupleD, listD, strD, reprD, keyB, binD, cmpO, cmpD, datB, negD, idxD, getD, ixD, slcD, tyD, D.truth, D.shp, D.shps, D.eqv, D.eqvs, itemsD, rngD, zipO, enumO, intO, isND, doCall, lends, lendA, lentIx, backs, backS, maskS, mask1, mulG hM ha hc, mulG hM hb hd, k]
theorem e_lminusG (n : Nat) (t t1 : Bool) {g a : Int} (hg : g ≠ 0) : callN fns (n + 1) 48 [.val t (.int g), .val t1 (.int a)] = some (.ok (.dat (.int ((-a).fmod g))), [.non, .non]) := by
  rw [callN]
  simp [fns, d_law_minus, runF, MP.execs, ev_cst, ev_glb, ev_var, ev_tup, ev_lst, ev_dis0, ev_dis1, ev_bin, ev_neg, ev_boo, ev_not, ev_cmp, ev_chn, ev_ite, ev_idx, ev_slc, ev_call, ev_blt, ev_isi, ev_lstI, x_par, x_aug, x_seti, x_app, x_expr, x_ife, x_ret, x_retN, x_pas, x_brk, x_cnt, x_rse, x_nm, x_tp, evB, evIf, evO, evAs, evDs, evI, evT, evRs, bnd, ok, op1, op2, view, views, tru, frzM, frz, keepA, unslot, slotOf, putA, putAs, putD, nxtO, augD, setiD, appD, retA, asgT, asgTs, blts, liftO, bltD, absD, maxD, minD, int1D, lenD, gcdD, isiD, blsD, intsD, anyD, allD, sumD, tupleD, listD, strD, reprD, keyB, binD, cmpO, cmpD, datB, negD, idxD, getD, ixD, slcD, tyD, D.truth, D.shp, D.shps, D.eqv, D.eqvs, itemsD, rngD, zipO, enumO, intO, isND, doCall, lends, lendA, lentIx, backs, backS, maskS, mask1, hg]
theorem e_lminus0 (n : Nat) (t t1 : Bool) {a b : Int} : callN fns (n + 1) 48 [.val t (.int 0), .val t1 (.tup [.int a, .int b])] = some (.ok (.dat (.tup [.int (-a), .int b])), [.non, .non]) := by
  rw [callN]
  simp [fns, d_law_minus, runF, MP.execs, ev_cst, ev_glb, ev_var, ev_tup, ev_lst, ev_dis0, ev_dis1, ev_bin, ev_neg, ev_boo, ev_not, ev_cmp, ev_chn, ev_ite, ev_idx, ev_slc, ev_call, ev_blt, ev_isi, ev_lstI, x_par, x_aug, x_seti, x_app, x_expr, x_ife, x_ret, x_retN, x_pas, x_brk, x_cnt, x_rse, x_nm, x_tp, evB, evIf, evO, evAs, evDs, evI, evT, evRs, bnd, ok, op1, op2, view, views, tru, frzM, frz, keepA, unslot, slotOf, putA, putAs, putD, nxtO, augD, setiD, appD, retA, asgT, asgTs, blts, liftO, bltD, absD, maxD, minD, int1D, lenD, gcdD, isiD, blsD, intsD, anyD, allD, sumD, tupleD, listD, strD, reprD, keyB, binD, cmpO, cmpD, datB, negD, idxD, getD, ixD, slcD, tyD, D.truth, D.shp, D.shps, D.eqv, D.eqvs, itemsD, rngD, zipO, enumO, intO, isND, doCall, lends, lendA, lentIx, backs, backS, maskS, mask1]
theorem e_lzero (n : Nat) (t : Bool) (g : Int) : callN fns (n + 1) 45 [.val t (.int g)] = some (.ok (.dat (if g = 0 then .tup [.int 0, .int 1] else .int 0)), [.non]) := by
  rw [callN]
  by_cases h : g = 0
  · subst h; simp [fns, d_law_zero, runF, MP.execs, ev_cst, ev_glb, ev_var, ev_tup, ev_lst, ev_dis0, ev_dis1, ev_bin, ev_neg, ev_boo, ev_not, ev_cmp, ev_chn, ev_ite, ev_idx, ev_slc, ev_call, ev_blt, ev_isi, ev_lstI, x_par, x_aug, x_seti, x_app, x_expr, x_ife, x_ret, x_retN, x_pas, x_brk, x_cnt, x_rse, x_nm, x_tp, evB, evIf, evO, evAs, evDs, evI, evT, evRs, bnd, ok, op1, op2, view, views, tru, frzM, frz, keepA, unslot, slotOf, putA, putAs, putD, nxtO, augD, setiD, appD, retA, asgT, asgTs, blts, liftO, bltD, absD, maxD, minD, int1D, lenD, gcdD, isiD, blsD, intsD, anyD, allD, sumD, tupleD, listD, strD, reprD, keyB, binD, cmpO, cmpD, datB, negD, idxD, getD, ixD, slcD, tyD, D.truth, D.shp, D.shps, D.eqv, D.eqvs, itemsD, rngD, zipO, enumO, intO, isND, doCall, lends, lendA, lentIx, backs, backS, maskS, mask1]
  · simp [fns, d_law_zero, runF, MP.execs, ev_cst, ev_glb, ev_var, ev_tup, ev_lst, ev_dis0, ev_dis1, ev_bin, ev_neg, ev_boo, ev_not, ev_cmp, ev_chn, ev_ite, ev_idx, ev_slc, ev_call, ev_blt, ev_isi, ev_lstI, x_par, x_aug, x_seti, x_app, x_expr, x_ife, x_ret, x_retN, x_pas, x_brk, x_cnt, x_rse, x_nm, x_tp, evB, evIf, evO, evAs, evDs, evI, evT, evRs, bnd, ok, op1, op2, view, views, tru, frzM, frz, keepA, unslot, slotOf, putA, putAs, putD, nxtO, augD, setiD, appD, retA, asgT, asgTs, blts, liftO, bltD, absD, maxD, minD, int1D, lenD, gcdD, isiD, blsD, intsD, anyD, allD, sumD, tupleD, listD, strD, reprD, keyB, binD, cmpO, cmpD, datB, negD, idxD, getD, ixD, slcD, tyD, D.truth, D.shp, D.shps, D.eqv, D.eqvs, itemsD, rngD, zipO, enumO, intO, isND, doCall, lends, lendA, lentIx, backs, backS, maskS, mask1, h]
theorem e_lunit (n : Nat) (t : Bool) (g : Int) : callN fns (n + 1) 46 [.val t (.int g)] = some (.ok (.dat (if g = 0 then .tup [.int 1, .int 1] else .int 1)), [.non]) := by
  rw [callN]
  by_cases h : g = 0
  · subst h; simp [fns, d_law_unit, runF, MP.execs, ev_cst, ev_glb, ev_var, ev_tup, ev_lst, ev_dis0, ev_dis1, ev_bin, ev_neg, ev_boo, ev_not, ev_cmp, ev_chn, ev_ite, ev_idx, ev_slc, ev_call, ev_blt, ev_isi, ev_lstI, x_par, x_aug, x_seti, x_app, x_expr, x_ife, x_ret, x_retN, x_pas, x_brk, x_cnt, x_rse, x_nm, x_tp, evB, evIf, evO, evAs, evDs, evI, evT, evRs, bnd, ok, op1, op2, view, views, tru, frzM, frz, keepA, unslot, slotOf, putA, putAs, putD, nxtO, augD, setiD, appD, retA, asgT, asgTs, blts, liftO, bltD, absD, maxD, minD, int1D, lenD, gcdD, isiD, blsD, intsD, anyD, allD, sumD, tupleD, listD, strD, reprD, keyB, binD, cmpO, cmpD, datB, negD, idxD, getD, ixD, slcD, tyD, D.truth, D.shp, D.shps, D.eqv, D.eqvs, itemsD, rngD, zipO, enumO, intO, isND, doCall, lends, lendA, lentIx, backs, backS, maskS, mask1]
  · simp [fns, d_law_unit, runF, MP.execs, ev_cst, ev_glb, ev_var, ev_tup, ev_lst, ev_dis0, ev_dis1, ev_bin, ev_neg, ev_boo, ev_not, ev_cmp, ev_chn, ev_ite, ev_idx, ev_slc, ev_call, ev_blt, ev_isi, ev_lstI, x_par, x_aug, x_seti, x_app, x_expr, x_ife, x_ret, x_retN, x_pas, x_brk, x_cnt, x_rse, x_nm, x_tp, evB, evIf, evO, evAs, evDs, evI, evT, evRs, bnd, ok, op1, op2, view, views, tru, frzM, frz, keepA, unslot, slotOf, putA, putAs, putD, nxtO, augD, setiD, appD, retA, asgT, asgTs, blts, liftO, bltD, absD, maxD, minD, int1D, lenD, gcdD, isiD, blsD, intsD, anyD, allD, sumD, tupleD, listD, strD, reprD, keyB, binD, cmpO, cmpD, datB, negD, idxD, getD, ixD, slcD, tyD, D.truth, D.shp, D.shps, D.eqv, D.eqvs, itemsD, rngD, zipO, enumO, intO, isND, doCall, lends, lendA, lentIx, backs, backS, maskS, mask1, h]
end K00
set_option Elab.async false
set_option linter.all false
set_option maxRecDepth 100000
set_option maxHeartbeats 2000000
namespace K00
open PySem MP
structure BI (p : Nat) (x : Int) (u v : Nat) (lo hi : Int) : Prop where
  e1 : ∃ k : Int, lo * x = u + p * k
  e2 : ∃ k : Int, hi * x = v + p * k
  g : Nat.gcd u v = 1
  v1 : 1 ≤ v
  u1 : 1 ≤ u
  up : u ≤ p
  n : hi.natAbs * u + lo.natAbs * v ≤ p
theorem BI.step {p : Nat} {x : Int} {u v : Nat} {lo hi : Int} (I : BI p x u v lo hi) (hv : 1 < v) (vp : v ≤ p) : BI p x v (u % v) hi (lo - ((u / v : Nat) : Int) * hi) := by
  have dm := Nat.div_add_mod u v
  have dmi : ((u % v : Nat) : Int) = (u : Int) - ((u / v : Nat) : Int) * (v : Int) := by
    have h1 : ((v * (u / v) + u % v : Nat) : Int) = (u : Int) := by rw [dm]
    rw [Int.natCast_add, Int.natCast_mul] at h1
    rw [Int.mul_comm ((u / v : Nat) : Int) (v : Int)]
    omega
  refine ⟨I.e2, ?_, by rw [Nat.gcd_comm, ← Nat.gcd_rec, Nat.gcd_comm]; exact I.g, ?_, by omega, vp, ?_⟩
  · obtain ⟨k1, h1⟩ := I.e1
    obtain ⟨k2, h2⟩ := I.e2
    refine ⟨k1 - ((u / v : Nat) : Int) * k2, ?_⟩
    rw [Int.sub_mul, h1, Int.mul_assoc, h2, dmi, Int.mul_add, Int.mul_sub, ← Int.mul_assoc ((u / v : Nat) : Int) (p : Int) k2, ← Int.mul_assoc (p : Int) ((u / v : Nat) : Int) k2, Int.mul_comm (p : Int) ((u / v : Nat) : Int)]
    omega
  · apply Classical.byContradiction
    intro z
    have z0 : u % v = 0 := by omega
    have := Nat.gcd_eq_right (Nat.dvd_of_mod_eq_zero z0)
    rw [I.g] at this
    omega
  · have tri : (lo - ((u / v : Nat) : Int) * hi).natAbs ≤ lo.natAbs + (u / v) * hi.natAbs := by
      have h1 : (((u / v : Nat) : Int) * hi).natAbs = (u / v) * hi.natAbs := by rw [Int.natAbs_mul, Int.natAbs_natCast]
      omega
    have m1 := Nat.mul_le_mul_right v tri
    rw [Nat.add_mul] at m1
    have m2 : hi.natAbs * u = hi.natAbs * (v * (u / v)) + hi.natAbs * (u % v) := by rw [← Nat.mul_add, dm]
    have m3 : u / v * hi.natAbs * v = hi.natAbs * (v * (u / v)) := by
      rw [Nat.mul_comm (u / v) hi.natAbs, Nat.mul_assoc, Nat.mul_comm (u / v) v]
    have nn := I.n
    omega
theorem back_loop (call : Nat → List Slot → Out) (x0 x1 : Slot) {p : Nat} {x : Int} (hp : p < 1000000) : ∀ (v : Nat) (u : Nat) (lo hi : Int) (s6 : Slot), v ≤ p → BI p x u v lo hi →
    ∃ u' lo' hi' w, whlM (evT call (C.cmp .gt (C.var 3) (C.cst (D.int 1)))) (fun ρ => MP.execs call (Ss.cons (S.asg (Tg.nm 6) (C.bin .fdiv (C.var 2) (C.var 3))) (Ss.cons (S.par [2, 3] (Cs.cons (C.var 3) (Cs.cons (C.bin .sub (C.var 2) (C.bin .mul (C.var 6) (C.var 3))) Cs.nil))) (Ss.cons (S.par [4, 5] (Cs.cons (C.var 5) (Cs.cons (C.bin .sub (C.var 4) (C.bin .mul (C.var 6) (C.var 5))) Cs.nil))) Ss.nil))) ρ) [x0, x1, .val false (.int u), .val false (.int v), .val false (.int lo), .val false (.int hi), s6] =
      some (.ok .nxt, [x0, x1, .val false (.int (u' : Nat)), .val false (.int 1), .val false (.int lo'), .val false (.int hi'), w]) ∧ ∃ k : Int, hi' * x = 1 + p * k := by
  intro v
  induction v using Nat.strongRecOn with
  | _ v ih =>
    intro u lo hi s6 vp I
    by_cases hv : 1 < v
    · have hvi : (1 : Int) < (v : Int) := by omega
      have hv0 : v ≠ 0 := by omega
      have hhi : hi.natAbs ≤ p := by
        have h1 := Nat.mul_le_mul_left hi.natAbs I.u1
        have := I.n
        omega
      have hq : u / v ≤ p := Nat.le_trans (Nat.div_le_self u v) I.up
      have eq : (u : Int).fdiv (v : Int) = ((u / v : Nat) : Int) := by rw [Int.fdiv_eq_ediv_of_nonneg _ (by omega)]; exact (Int.natCast_ediv u v).symm
      have er : (u : Int) - ((u / v : Nat) : Int) * (v : Int) = ((u % v : Nat) : Int) := by
        have h1 : ((v * (u / v) + u % v : Nat) : Int) = (u : Int) := by rw [Nat.div_add_mod u v]
        rw [Int.natCast_add, Int.natCast_mul] at h1
        rw [Int.mul_comm ((u / v : Nat) : Int) (v : Int)]
        omega
      have b1 : bits ((u / v : Nat) : Int) < 64 := bits_small (by rw [Int.natAbs_natCast]; omega) (by omega)
      have b2 : bits (v : Int) < 64 := bits_small (by omega) (by omega)
      have b3 : bits hi < 64 := bits_small (by omega) (by omega)
      have g0 : bits (v : Int) < 9000 := by omega
      have g1 : bits ((u / v : Nat) : Int) + bits (v : Int) < 1000000 := by omega
      have g2 : bits ((u / v : Nat) : Int) + bits hi < 1000000 := by omega
      generalize hQ : ((u / v : Nat) : Int) = Q at *
      generalize hR : ((u % v : Nat) : Int) = R at *
      have I' := I.step hv vp
      rw [hQ] at I'
      obtain ⟨u', lo', hi', w, e, h⟩ := ih (u % v) (Nat.mod_lt _ (by omega)) v hi (lo - Q * hi) (.val false (.int Q)) (by have := Nat.mod_lt u (show v > 0 by omega); omega) I'
      rw [hR] at e
      exact ⟨u', lo', hi', w, whl_turn (ρ1 := [x0, x1, .val false (.int u), .val false (.int v), .val false (.int lo), .val false (.int hi), s6])
        (ρ2 := [x0, x1, .val false (.int v), .val false (.int R), .val false (.int hi), .val false (.int (lo - Q * hi)), .val false (.int Q)])
        (by simp [runF, MP.execs, ev_cst, ev_glb, ev_var, ev_tup, ev_lst, ev_dis0, ev_dis1, ev_bin, ev_neg, ev_boo, ev_not, ev_cmp, ev_chn, ev_ite, ev_idx, ev_slc, ev_call, ev_blt, ev_isi, ev_lstI, x_par, x_aug, x_seti, x_app, x_expr, x_ife, x_ret, x_retN, x_pas, x_brk, x_cnt, x_rse, x_nm, x_tp, evB, evIf, evO, evAs, evDs, evI, evT, evRs, bnd, ok, op1, op2, view, views, tru, frzM, frz, keepA, unslot, slotOf, putA, putAs, putD, nxtO, augD, setiD, appD, retA, asgT, asgTs, blts, liftO, bltD, absD, maxD, minD, int1D, lenD, gcdD, isiD, blsD, intsD, anyD, allD, sumD, tupleD, listD, strD, reprD, keyB, binD, cmpO, cmpD, datB, negD, idxD, getD, ixD, slcD, tyD, D.truth, D.shp, D.shps, D.eqv, D.eqvs, itemsD, rngD, zipO, enumO, intO, isND, doCall, lends, lendA, lentIx, backs, backS, maskS, mask1, hvi, hv]) (by simp [runF, MP.execs, ev_cst, ev_glb, ev_var, ev_tup, ev_lst, ev_dis0, ev_dis1, ev_bin, ev_neg, ev_boo, ev_not, ev_cmp, ev_chn, ev_ite, ev_idx, ev_slc, ev_call, ev_blt, ev_isi, ev_lstI, x_par, x_aug, x_seti, x_app, x_expr, x_ife, x_ret, x_retN, x_pas, x_brk, x_cnt, x_rse, x_nm, x_tp, evB, evIf, evO, evAs, evDs, evI, evT, evRs, bnd, ok, op1, op2, view, views, tru, frzM, frz, keepA, unslot, slotOf, putA, putAs, putD, nxtO, augD, setiD, appD, retA, asgT, asgTs, blts, liftO, bltD, absD, maxD, minD, int1D, lenD, gcdD, isiD, blsD, intsD, anyD, allD, sumD, tupleD, listD, strD, reprD, keyB, binD, cmpO, cmpD, datB, negD, idxD, getD, ixD, slcD, tyD, D.truth, D.shp, D.shps, D.eqv, D.eqvs, itemsD, rngD, zipO, enumO, intO, isND, doCall, lends, lendA, lentIx, backs, backS, maskS, mask1, eq, er, hv0, g0, g1, g2]) e, h⟩
    · have v1 : v = 1 := by have := I.v1; omega
      subst v1
      exact ⟨u, lo, hi, s6, whl_stop (by simp [runF, MP.execs, ev_cst, ev_glb, ev_var, ev_tup, ev_lst, ev_dis0, ev_dis1, ev_bin, ev_neg, ev_boo, ev_not, ev_cmp, ev_chn, ev_ite, ev_idx, ev_slc, ev_call, ev_blt, ev_isi, ev_lstI, x_par, x_aug, x_seti, x_app, x_expr, x_ife, x_ret, x_retN, x_pas, x_brk, x_cnt, x_rse, x_nm, x_tp, evB, evIf, evO, evAs, evDs, evI, evT, evRs, bnd, ok, op1, op2, view, views, tru, frzM, frz, keepA, unslot, slotOf, putA, putAs, putD, nxtO, augD, setiD, appD, retA, asgT, asgTs, blts, liftO, bltD, absD, maxD, minD, int1D, lenD, gcdD, isiD, blsD, intsD, anyD, allD, sumD, tupleD, listD, strD, reprD, keyB, binD, cmpO, cmpD, datB, negD, idxD, getD, ixD, slcD, tyD, D.truth, D.shp, D.shps, D.eqv, D.eqvs, itemsD, rngD, zipO, enumO, intO, isND, doCall, lends, lendA, lentIx, backs, backS, maskS, mask1]), I.e2⟩
theorem e_lback (n : Nat) (t t1 : Bool) {p x : Nat} (hp : p < 1000000) (hx : 1 ≤ x) (hxp : x ≤ p) (hg : Nat.gcd p x = 1) : ∃ h : Int, callN fns (n + 1) 44 [.val t (.int p), .val t1 (.int x)] = some (.ok (.dat (.int (h.fmod p))), [.non, .non]) ∧ ∃ k : Int, h * x = 1 + p * k := by
  have I0 : BI p x p x 0 1 := ⟨⟨-1, by omega⟩, ⟨0, by omega⟩, hg, hx, by omega, Nat.le_refl _, by simp⟩
  obtain ⟨u', lo', hi', w, e, k, hk⟩ := back_loop (callN fns n) (.val t (.int p)) (.val t1 (.int x)) hp x p 0 1 .non hxp I0
  have hw : MP.exec (callN fns n) (S.whl (C.cmp .gt (C.var 3) (C.cst (D.int 1))) (Ss.cons (S.asg (Tg.nm 6) (C.bin .fdiv (C.var 2) (C.var 3))) (Ss.cons (S.par [2, 3] (Cs.cons (C.var 3) (Cs.cons (C.bin .sub (C.var 2) (C.bin .mul (C.var 6) (C.var 3))) Cs.nil))) (Ss.cons (S.par [4, 5] (Cs.cons (C.var 5) (Cs.cons (C.bin .sub (C.var 4) (C.bin .mul (C.var 6) (C.var 5))) Cs.nil))) Ss.nil)))) [.val t (.int p), .val t1 (.int x), .val false (.int p), .val false (.int x), .val false (.int 0), .val false (.int 1), .non] = _ := (x_whl _ _ _ _).trans e
  have hp0 : p ≠ 0 := by omega
  refine ⟨hi', ?_, k, hk⟩
  rw [callN]
  simp [fns, d_law_back, runF, MP.execs, ev_cst, ev_glb, ev_var, ev_tup, ev_lst, ev_dis0, ev_dis1, ev_bin, ev_neg, ev_boo, ev_not, ev_cmp, ev_chn, ev_ite, ev_idx, ev_slc, ev_call, ev_blt, ev_isi, ev_lstI, x_par, x_aug, x_seti, x_app, x_expr, x_ife, x_ret, x_retN, x_pas, x_brk, x_cnt, x_rse, x_nm, x_tp, evB, evIf, evO, evAs, evDs, evI, evT, evRs, bnd, ok, op1, op2, view, views, tru, frzM, frz, keepA, unslot, slotOf, putA, putAs, putD, nxtO, augD, setiD, appD, retA, asgT, asgTs, blts, liftO, bltD, absD, maxD, minD, int1D, lenD, gcdD, isiD, blsD, intsD, anyD, allD, sumD, tupleD, listD, strD, reprD, keyB, binD, cmpO, cmpD, datB, negD, idxD, getD, ixD, slcD, tyD, D.truth, D.shp, D.shps, D.eqv, D.eqvs, itemsD, rngD, zipO, enumO, intO, isND, doCall, lends, lendA, lentIx, backs, backS, maskS, mask1, hw, hp0]
/-- two that undo the same number are the same rest -/
theorem inv_same {f s h k x p : Int} (hp : 0 < p) (e1 : f * x + s * p = 1) (e2 : h * x = 1 + p * k) : f.fmod p = h.fmod p := by
  have hd : p ∣ f - h := by
    refine ⟨-(f - h) * 0 + f * (-(s + k)) + (f - h) * s + h * 0 + f * 0, ?_⟩
    have e3 : (f - h) * x = p * (-(s + k)) := by
      rw [Int.sub_mul, Int.mul_neg, Int.mul_add]
      have : s * p = p * s := Int.mul_comm _ _
      omega
    have e4 : (f - h) * (f * x + s * p) = f - h := by rw [e1, Int.mul_one]
    rw [Int.mul_add] at e4
    have e5 : (f - h) * (f * x) = p * (f * (-(s + k))) := by
      rw [Int.mul_left_comm, e3, Int.mul_left_comm]
    have e6 : (f - h) * (s * p) = p * ((f - h) * s) := by
      rw [← Int.mul_assoc, Int.mul_comm]
    rw [e5, e6] at e4
    simp only [Int.mul_zero, Int.zero_add, Int.add_zero]
    rw [Int.mul_add]
    omega
  rw [Int.fmod_eq_emod_of_nonneg _ (by omega), Int.fmod_eq_emod_of_nonneg _ (by omega)]
  exact (Int.emod_eq_emod_iff_emod_sub_eq_zero).mpr (Int.emod_eq_zero_of_dvd hd)
end K00
set_option Elab.async false
set_option linter.all false
set_option maxRecDepth 100000
set_option maxHeartbeats 2000000
namespace K00
open PySem MP
theorem x_for (call : Nat → List Slot → Out) (tg : Tg) (it : I) (b : Ss) (ρ : MP.Env) : MP.exec call (.for_ tg it b) ρ = bnd (evI call it ρ) fun ds ρ => forL tg (fun ρ => MP.execs call b ρ) ds ρ := by
  first | (rw [MP.exec]; rfl) | rw [MP.exec]
theorem nupow_loop {m : Nat} {E : Nat} {g : Int} {t0 : Bool} (pw : Nat → D) (hT : ∀ i j, i + j ≤ E → callN fns m 49 [.val false (.int g), .val false (pw i), .val false (pw j)] = some (.ok (.dat (pw (i + j))), [.non, .non, .non])) (x1 x2 : Slot) :
    ∀ (ds : List D) (i : Nat) (s5 : Slot), i + ds.length = E → ∃ w, forL (Tg.nm 5) (fun ρ => MP.execs (callN fns m) (Ss.cons (S.asg (Tg.nm 4) (C.call 49 [false, false, false] (Cs.cons (C.var 0) (Cs.cons (C.var 4) (Cs.cons (C.var 3) Cs.nil))))) Ss.nil) ρ) ds [.val t0 (.int g), x1, x2, .val false (pw 1), .val false (pw i), s5] =
      some (.ok .nxt, [.val t0 (.int g), x1, x2, .val false (pw 1), .val false (pw E), w]) := by
  intro ds
  induction ds with
  | nil =>
    intro i s5 h
    have : i = E := by simpa using h
    subst this
    exact ⟨s5, rfl⟩
  | cons d ds ih =>
    intro i s5 h
    rw [List.length_cons] at h
    obtain ⟨w, e⟩ := ih (i + 1) (.val false d) (by omega)
    refine ⟨w, ?_⟩
    rw [for_next (ρ1 := [.val t0 (.int g), x1, x2, .val false (pw 1), .val false (pw i), .val false d]) (ρ2 := [.val t0 (.int g), x1, x2, .val false (pw 1), .val false (pw (i + 1)), .val false d]) (by simp [runF, MP.execs, ev_cst, ev_glb, ev_var, ev_tup, ev_lst, ev_dis0, ev_dis1, ev_bin, ev_neg, ev_boo, ev_not, ev_cmp, ev_chn, ev_ite, ev_idx, ev_slc, ev_call, ev_blt, ev_isi, ev_lstI, x_par, x_aug, x_seti, x_app, x_expr, x_ife, x_ret, x_retN, x_pas, x_brk, x_cnt, x_rse, x_nm, x_tp, evB, evIf, evO, evAs, evDs, evI, evT, evRs, bnd, ok, op1, op2, view, views, tru, frzM, frz, keepA, unslot, slotOf, putA, putAs, putD, nxtO, augD, setiD, appD, retA, asgT, asgTs, blts, liftO, bltD, absD, maxD, minD, int1D, lenD, gcdD, isiD, blsD, intsD, anyD, allD, sumD, tupleD, listD, strD, reprD, keyB, binD, cmpO, cmpD, datB, negD, idxD, getD, ixD, slcD, tyD, D.truth, D.shp, D.shps, D.eqv, D.eqvs, itemsD, rngD, zipO, enumO, intO, isND, doCall, lends, lendA, lentIx, backs, backS, maskS, mask1]) (by simp [runF, MP.execs, ev_cst, ev_glb, ev_var, ev_tup, ev_lst, ev_dis0, ev_dis1, ev_bin, ev_neg, ev_boo, ev_not, ev_cmp, ev_chn, ev_ite, ev_idx, ev_slc, ev_call, ev_blt, ev_isi, ev_lstI, x_par, x_aug, x_seti, x_app, x_expr, x_ife, x_ret, x_retN, x_pas, x_brk, x_cnt, x_rse, x_nm, x_tp, evB, evIf, evO, evAs, evDs, evI, evT, evRs, bnd, ok, op1, op2, view, views, tru, frzM, frz, keepA, unslot, slotOf, putA, putAs, putD, nxtO, augD, setiD, appD, retA, asgT, asgTs, blts, liftO, bltD, absD, maxD, minD, int1D, lenD, gcdD, isiD, blsD, intsD, anyD, allD, sumD, tupleD, listD, strD, reprD, keyB, binD, cmpO, cmpD, datB, negD, idxD, getD, ixD, slcD, tyD, D.truth, D.shp, D.shps, D.eqv, D.eqvs, itemsD, rngD, zipO, enumO, intO, isND, doCall, lends, lendA, lentIx, backs, backS, maskS, mask1, hT i 1 (by omega)])]
    exact e
theorem e_nupow {m : Nat} {g e : Int} {x : D} (t0 t1 t2 : Bool) (he : e.natAbs < 1000000) (pw : Nat → D)
    (hT : ∀ i j, i + j ≤ e.natAbs → callN fns m 49 [.val false (.int g), .val false (pw i), .val false (pw j)] = some (.ok (.dat (pw (i + j))), [.non, .non, .non]))
    (h0 : callN fns m 46 [.val false (.int g)] = some (.ok (.dat (pw 0)), [.non])) (h1 : 0 ≤ e → x = pw 1) (h2 : e < 0 → callN fns m 50 [.val false (.int g), .val false x] = some (.ok (.dat (pw 1)), [.non, .non])) :
    callN fns (m + 1) 53 [.val t0 (.int g), .val t1 x, .val t2 (.int e)] = some (.ok (.dat (pw e.natAbs)), [.non, .non, .non]) := by
  obtain ⟨w, el⟩ := nupow_loop (t0 := t0) pw hT (.val t1 x) (.val t2 (.int e)) (intsL 0 e.natAbs) 0 .non (by rw [lenI]; omega)
  have a1 : smallI 0 = true := by decide +kernel
  have hw : MP.exec (callN fns m) (S.for_ (Tg.nm 5) (I.rng1 (C.blt .abs (Cs.cons (C.var 2) Cs.nil))) (Ss.cons (S.asg (Tg.nm 4) (C.call 49 [false, false, false] (Cs.cons (C.var 0) (Cs.cons (C.var 4) (Cs.cons (C.var 3) Cs.nil))))) Ss.nil)) [.val t0 (.int g), .val t1 x, .val t2 (.int e), .val false (pw 1), .val false (pw 0), .non] = some (.ok .nxt, [.val t0 (.int g), .val t1 x, .val t2 (.int e), .val false (pw 1), .val false (pw e.natAbs), w]) := by
    rw [x_for, ← el]
    by_cases hl : e < 0
    · have ea : (-e).toNat = e.natAbs := by omega
      have a2 : smallI (-e) = true := by unfold smallI; rw [decide_eq_true_eq]; omega
      simp [runF, MP.execs, ev_cst, ev_glb, ev_var, ev_tup, ev_lst, ev_dis0, ev_dis1, ev_bin, ev_neg, ev_boo, ev_not, ev_cmp, ev_chn, ev_ite, ev_idx, ev_slc, ev_call, ev_blt, ev_isi, ev_lstI, x_par, x_aug, x_seti, x_app, x_expr, x_ife, x_ret, x_retN, x_pas, x_brk, x_cnt, x_rse, x_nm, x_tp, evB, evIf, evO, evAs, evDs, evI, evT, evRs, bnd, ok, op1, op2, view, views, tru, frzM, frz, keepA, unslot, slotOf, putA, putAs, putD, nxtO, augD, setiD, appD, retA, asgT, asgTs, blts, liftO, bltD, absD, maxD, minD, int1D, lenD, gcdD, isiD, blsD, intsD, anyD, allD, sumD, tupleD, listD, strD, reprD, keyB, binD, cmpO, cmpD, datB, negD, idxD, getD, ixD, slcD, tyD, D.truth, D.shp, D.shps, D.eqv, D.eqvs, itemsD, rngD, zipO, enumO, intO, isND, doCall, lends, lendA, lentIx, backs, backS, maskS, mask1, hl, a1, a2, ea]
    · have ea : e.toNat = e.natAbs := by omega
      have a2 : smallI e = true := by unfold smallI; rw [decide_eq_true_eq]; omega
      simp [runF, MP.execs, ev_cst, ev_glb, ev_var, ev_tup, ev_lst, ev_dis0, ev_dis1, ev_bin, ev_neg, ev_boo, ev_not, ev_cmp, ev_chn, ev_ite, ev_idx, ev_slc, ev_call, ev_blt, ev_isi, ev_lstI, x_par, x_aug, x_seti, x_app, x_expr, x_ife, x_ret, x_retN, x_pas, x_brk, x_cnt, x_rse, x_nm, x_tp, evB, evIf, evO, evAs, evDs, evI, evT, evRs, bnd, ok, op1, op2, view, views, tru, frzM, frz, keepA, unslot, slotOf, putA, putAs, putD, nxtO, augD, setiD, appD, retA, asgT, asgTs, blts, liftO, bltD, absD, maxD, minD, int1D, lenD, gcdD, isiD, blsD, intsD, anyD, allD, sumD, tupleD, listD, strD, reprD, keyB, binD, cmpO, cmpD, datB, negD, idxD, getD, ixD, slcD, tyD, D.truth, D.shp, D.shps, D.eqv, D.eqvs, itemsD, rngD, zipO, enumO, intO, isND, doCall, lends, lendA, lentIx, backs, backS, maskS, mask1, hl, a1, a2, ea]
  rw [callN]
  by_cases hn : 0 ≤ e
  · have hl : ¬ e < 0 := by omega
    have hx := h1 hn
    subst hx
    simp [fns, d_law_nu_power, runF, MP.execs, ev_cst, ev_glb, ev_var, ev_tup, ev_lst, ev_dis0, ev_dis1, ev_bin, ev_neg, ev_boo, ev_not, ev_cmp, ev_chn, ev_ite, ev_idx, ev_slc, ev_call, ev_blt, ev_isi, ev_lstI, x_par, x_aug, x_seti, x_app, x_expr, x_ife, x_ret, x_retN, x_pas, x_brk, x_cnt, x_rse, x_nm, x_tp, evB, evIf, evO, evAs, evDs, evI, evT, evRs, bnd, ok, op1, op2, view, views, tru, frzM, frz, keepA, unslot, slotOf, putA, putAs, putD, nxtO, augD, setiD, appD, retA, asgT, asgTs, blts, liftO, bltD, absD, maxD, minD, int1D, lenD, gcdD, isiD, blsD, intsD, anyD, allD, sumD, tupleD, listD, strD, reprD, keyB, binD, cmpO, cmpD, datB, negD, idxD, getD, ixD, slcD, tyD, D.truth, D.shp, D.shps, D.eqv, D.eqvs, itemsD, rngD, zipO, enumO, intO, isND, doCall, lends, lendA, lentIx, backs, backS, maskS, mask1, hl, h0, hw]
  · have hl : e < 0 := by omega
    simp [fns, d_law_nu_power, runF, MP.execs, ev_cst, ev_glb, ev_var, ev_tup, ev_lst, ev_dis0, ev_dis1, ev_bin, ev_neg, ev_boo, ev_not, ev_cmp, ev_chn, ev_ite, ev_idx, ev_slc, ev_call, ev_blt, ev_isi, ev_lstI, x_par, x_aug, x_seti, x_app, x_expr, x_ife, x_ret, x_retN, x_pas, x_brk, x_cnt, x_rse, x_nm, x_tp, evB, evIf, evO, evAs, evDs, evI, evT, evRs, bnd, ok, op1, op2, view, views, tru, frzM, frz, keepA, unslot, slotOf, putA, putAs, putD, nxtO, augD, setiD, appD, retA, asgT, asgTs, blts, liftO, bltD, absD, maxD, minD, int1D, lenD, gcdD, isiD, blsD, intsD, anyD, allD, sumD, tupleD, listD, strD, reprD, keyB, binD, cmpO, cmpD, datB, negD, idxD, getD, ixD, slcD, tyD, D.truth, D.shp, D.shps, D.eqv, D.eqvs, itemsD, rngD, zipO, enumO, intO, isND, doCall, lends, lendA, lentIx, backs, backS, maskS, mask1, hl, h0, h2 hl, hw]
/-! ### the powers of a number of a ground -/
def pwG (g x : Int) (k : Nat) : D := .int ((x ^ k).fmod g)
def pw0 (x y : Int) (k : Nat) : D := .tup [.int (x ^ k), .int (y ^ k)]
theorem pwG_mul {g : Int} (hg : 0 < g) (x : Int) (i j : Nat) : ((x ^ i).fmod g * (x ^ j).fmod g).fmod g = (x ^ (i + j)).fmod g := by
  rw [Int.fmod_eq_emod_of_nonneg _ (by omega), Int.fmod_eq_emod_of_nonneg _ (by omega), Int.fmod_eq_emod_of_nonneg _ (by omega), Int.fmod_eq_emod_of_nonneg _ (by omega), ← Int.mul_emod, Int.pow_add]
end K00
set_option Elab.async false
set_option linter.all false
set_option maxRecDepth 100000
set_option maxHeartbeats 2000000
namespace K00
open PySem MP
/-! ### the package's defs, here -/
theorem r0 : fns 0 = some F_is_whole := rfl
theorem r1 : fns 1 = some (F_is_integer 0) := rfl
theorem r2 : fns 2 = some (F_is_within 0) := rfl
theorem r3 : fns 3 = some F_has_divisor := rfl
theorem r4 : fns 4 = some (F_is_ground 3 2) := rfl
theorem r5 : fns 5 = some (F_is_number_up_to 0 2) := rfl
theorem r6 : fns 6 = some (F_is_number_of 5) := rfl
theorem r7 : fns 7 = some (F_require_ground 4) := rfl
theorem r8 : fns 8 = some (F_require_number 6) := rfl
theorem r9 : fns 9 = some (F_require_integer 1) := rfl
theorem r10 : fns 10 = some (F_require_within 2) := rfl
theorem r11 : fns 11 = some (F_require_two_numbers 8 7) := rfl
theorem r12 : fns 12 = some F_fraction_in := rfl
theorem r13 : fns 13 = some F_whole_in := rfl
theorem r14 : fns 14 = some (F_zero 13) := rfl
theorem r15 : fns 15 = some (F_unit 13) := rfl
theorem r16 : fns 16 = some (F_is_zero 14) := rfl
theorem r17 : fns 17 = some (F_plus 12) := rfl
theorem r18 : fns 18 = some F_opposite := rfl
theorem r19 : fns 19 = some (F_minus 17 18) := rfl
theorem r20 : fns 20 = some (F_times 12) := rfl
theorem r21 : fns 21 = some (F_undone 12 25) := rfl
theorem r22 : fns 22 = some (F_over 20 21) := rfl
theorem r23 : fns 23 = some (F_raised_in 20 21 15) := rfl
theorem r24 : fns 24 = some F_divisor_in := rfl
theorem r25 : fns 25 = some (F_undone_rest 24) := rfl
/-- a number of the ground g, as the law and the package agree -/
inductive Nm : Int → D → Prop
  | rest {g x : Int} : 0 < g → 0 ≤ x → x < g → Nm g (.int x)
  | frac {x y : Int} : Low x y → x.natAbs < 10 ^ 60 → y.natAbs < 10 ^ 60 → Nm 0 (.tup [.int x, .int y])
theorem Nm.numB {g : Int} {x : D} (h : Nm g x) : MP.numB g x FAR = true := by
  cases h with
  | rest h0 h1 h2 =>
    unfold MP.numB
    rw [if_pos (by omega)]
    unfold within
    rw [decide_eq_true_eq]
    omega
  | frac l h1 h2 =>
    rw [numB_pair]
    have := l.pos
    exact ⟨⟨by omega, by omega⟩, ⟨by omega, by omega⟩, by rw [l.co]; rfl⟩
theorem req_ground (n : Nat) (t : Bool) {g : Int} (hg : groundB (.int g) = true) : callN fns (n + 4) 7 [.val t (.int g)] = some (.ok (.dat .non), [.non]) := by
  have k := run_ground r0 r2 r3 r4 n false (.int g)
  rw [hg] at k
  exact run_req_ground r7 k
theorem req_number (n : Nat) (t t1 : Bool) {g : Int} {x : D} (hx : Nm g x) : callN fns (n + 5) 8 [.val t (.int g), .val t1 x] = some (.ok (.dat .non), [.non, .non]) := by
  have k := run_number_of r0 r2 r5 r6 n false false g x
  rw [hx.numB] at k
  exact run_req_number r8 k
theorem req_two (n : Nat) (t t1 t2 : Bool) {g : Int} {x y : D} (hg : groundB (.int g) = true) (hx : Nm g x) (hy : Nm g y) : callN fns (n + 6) 11 [.val t (.int g), .val t1 x, .val t2 y] = some (.ok (.dat .non), [.non, .non, .non]) :=
  run_req_two r11 (req_ground (n + 1) false hg) (req_number n false false hx) (req_number n false false hy)
end K00
set_option Elab.async false
set_option linter.all false
set_option maxRecDepth 100000
set_option maxHeartbeats 2000000
namespace K00
open PySem MP
section
variable {n : Nat} {g : Int} {x y r : D} {t t1 t2 : Bool}
theorem e_added (hg : groundB (.int g) = true) (hx : Nm g x) (hy : Nm g y) (hp : callN fns (n + 6) 17 [.val false (.int g), .val false x, .val false y] = some (.ok (.dat r), [.non, .non, .non])) : callN fns (n + 7) 31 [.val t (.int g), .val t1 x, .val t2 y] = some (.ok (.dat r), [.non, .non, .non]) := by
  have k := req_two n false false false hg hx hy
  rw [callN]
  simp [fns, d_added, runF, MP.execs, ev_cst, ev_glb, ev_var, ev_tup, ev_lst, ev_dis0, ev_dis1, ev_bin, ev_neg, ev_boo, ev_not, ev_cmp, ev_chn, ev_ite, ev_idx, ev_slc, ev_call, ev_blt, ev_isi, ev_lstI, x_par, x_aug, x_seti, x_app, x_expr, x_ife, x_ret, x_retN, x_pas, x_brk, x_cnt, x_rse, x_nm, x_tp, evB, evIf, evO, evAs, evDs, evI, evT, evRs, bnd, ok, op1, op2, view, views, tru, frzM, frz, keepA, unslot, slotOf, putA, putAs, putD, nxtO, augD, setiD, appD, retA, asgT, asgTs, blts, liftO, bltD, absD, maxD, minD, int1D, lenD, gcdD, isiD, blsD, intsD, anyD, allD, sumD, tupleD, listD, strD, reprD, keyB, binD, cmpO, cmpD, datB, negD, idxD, getD, ixD, slcD, tyD, D.truth, D.shp, D.shps, D.eqv, D.eqvs, itemsD, rngD, zipO, enumO, intO, isND, doCall, lends, lendA, lentIx, backs, backS, maskS, mask1, k, hp]
theorem e_subtracted (hg : groundB (.int g) = true) (hx : Nm g x) (hy : Nm g y) (hp : callN fns (n + 6) 19 [.val false (.int g), .val false x, .val false y] = some (.ok (.dat r), [.non, .non, .non])) : callN fns (n + 7) 32 [.val t (.int g), .val t1 x, .val t2 y] = some (.ok (.dat r), [.non, .non, .non]) := by
  have k := req_two n false false false hg hx hy
  rw [callN]
  simp [fns, d_subtracted, runF, MP.execs, ev_cst, ev_glb, ev_var, ev_tup, ev_lst, ev_dis0, ev_dis1, ev_bin, ev_neg, ev_boo, ev_not, ev_cmp, ev_chn, ev_ite, ev_idx, ev_slc, ev_call, ev_blt, ev_isi, ev_lstI, x_par, x_aug, x_seti, x_app, x_expr, x_ife, x_ret, x_retN, x_pas, x_brk, x_cnt, x_rse, x_nm, x_tp, evB, evIf, evO, evAs, evDs, evI, evT, evRs, bnd, ok, op1, op2, view, views, tru, frzM, frz, keepA, unslot, slotOf, putA, putAs, putD, nxtO, augD, setiD, appD, retA, asgT, asgTs, blts, liftO, bltD, absD, maxD, minD, int1D, lenD, gcdD, isiD, blsD, intsD, anyD, allD, sumD, tupleD, listD, strD, reprD, keyB, binD, cmpO, cmpD, datB, negD, idxD, getD, ixD, slcD, tyD, D.truth, D.shp, D.shps, D.eqv, D.eqvs, itemsD, rngD, zipO, enumO, intO, isND, doCall, lends, lendA, lentIx, backs, backS, maskS, mask1, k, hp]
theorem e_multiplied (hg : groundB (.int g) = true) (hx : Nm g x) (hy : Nm g y) (hp : callN fns (n + 6) 20 [.val false (.int g), .val false x, .val false y] = some (.ok (.dat r), [.non, .non, .non])) : callN fns (n + 7) 33 [.val t (.int g), .val t1 x, .val t2 y] = some (.ok (.dat r), [.non, .non, .non]) := by
  have k := req_two n false false false hg hx hy
  rw [callN]
  simp [fns, d_multiplied, runF, MP.execs, ev_cst, ev_glb, ev_var, ev_tup, ev_lst, ev_dis0, ev_dis1, ev_bin, ev_neg, ev_boo, ev_not, ev_cmp, ev_chn, ev_ite, ev_idx, ev_slc, ev_call, ev_blt, ev_isi, ev_lstI, x_par, x_aug, x_seti, x_app, x_expr, x_ife, x_ret, x_retN, x_pas, x_brk, x_cnt, x_rse, x_nm, x_tp, evB, evIf, evO, evAs, evDs, evI, evT, evRs, bnd, ok, op1, op2, view, views, tru, frzM, frz, keepA, unslot, slotOf, putA, putAs, putD, nxtO, augD, setiD, appD, retA, asgT, asgTs, blts, liftO, bltD, absD, maxD, minD, int1D, lenD, gcdD, isiD, blsD, intsD, anyD, allD, sumD, tupleD, listD, strD, reprD, keyB, binD, cmpO, cmpD, datB, negD, idxD, getD, ixD, slcD, tyD, D.truth, D.shp, D.shps, D.eqv, D.eqvs, itemsD, rngD, zipO, enumO, intO, isND, doCall, lends, lendA, lentIx, backs, backS, maskS, mask1, k, hp]
theorem e_divided (hg : groundB (.int g) = true) (hx : Nm g x) (hy : Nm g y) (hz : callN fns (n + 6) 16 [.val false (.int g), .val false y] = some (.ok (.dat (.bl false)), [.non, .non]))
    (hp : callN fns (n + 6) 22 [.val false (.int g), .val false x, .val false y] = some (.ok (.dat r), [.non, .non, .non])) : callN fns (n + 7) 34 [.val t (.int g), .val t1 x, .val t2 y] = some (.ok (.dat r), [.non, .non, .non]) := by
  have k := req_two n false false false hg hx hy
  rw [callN]
  simp [fns, d_divided, runF, MP.execs, ev_cst, ev_glb, ev_var, ev_tup, ev_lst, ev_dis0, ev_dis1, ev_bin, ev_neg, ev_boo, ev_not, ev_cmp, ev_chn, ev_ite, ev_idx, ev_slc, ev_call, ev_blt, ev_isi, ev_lstI, x_par, x_aug, x_seti, x_app, x_expr, x_ife, x_ret, x_retN, x_pas, x_brk, x_cnt, x_rse, x_nm, x_tp, evB, evIf, evO, evAs, evDs, evI, evT, evRs, bnd, ok, op1, op2, view, views, tru, frzM, frz, keepA, unslot, slotOf, putA, putAs, putD, nxtO, augD, setiD, appD, retA, asgT, asgTs, blts, liftO, bltD, absD, maxD, minD, int1D, lenD, gcdD, isiD, blsD, intsD, anyD, allD, sumD, tupleD, listD, strD, reprD, keyB, binD, cmpO, cmpD, datB, negD, idxD, getD, ixD, slcD, tyD, D.truth, D.shp, D.shps, D.eqv, D.eqvs, itemsD, rngD, zipO, enumO, intO, isND, doCall, lends, lendA, lentIx, backs, backS, maskS, mask1, k, hz, hp]
theorem e_minus {y' : D} {m : Nat} (ho : callN fns m 18 [.val false (.int g), .val false y] = some (.ok (.dat y'), [.non, .non])) (hp : callN fns m 17 [.val false (.int g), .val false x, .val false y'] = some (.ok (.dat r), [.non, .non, .non])) : callN fns (m + 1) 19 [.val t (.int g), .val t1 x, .val t2 y] = some (.ok (.dat r), [.non, .non, .non]) := by
  rw [callN]
  simp [fns, d_minus, runF, MP.execs, ev_cst, ev_glb, ev_var, ev_tup, ev_lst, ev_dis0, ev_dis1, ev_bin, ev_neg, ev_boo, ev_not, ev_cmp, ev_chn, ev_ite, ev_idx, ev_slc, ev_call, ev_blt, ev_isi, ev_lstI, x_par, x_aug, x_seti, x_app, x_expr, x_ife, x_ret, x_retN, x_pas, x_brk, x_cnt, x_rse, x_nm, x_tp, evB, evIf, evO, evAs, evDs, evI, evT, evRs, bnd, ok, op1, op2, view, views, tru, frzM, frz, keepA, unslot, slotOf, putA, putAs, putD, nxtO, augD, setiD, appD, retA, asgT, asgTs, blts, liftO, bltD, absD, maxD, minD, int1D, lenD, gcdD, isiD, blsD, intsD, anyD, allD, sumD, tupleD, listD, strD, reprD, keyB, binD, cmpO, cmpD, datB, negD, idxD, getD, ixD, slcD, tyD, D.truth, D.shp, D.shps, D.eqv, D.eqvs, itemsD, rngD, zipO, enumO, intO, isND, doCall, lends, lendA, lentIx, backs, backS, maskS, mask1, ho, hp]
theorem e_over {y' : D} {m : Nat} (ho : callN fns m 21 [.val false (.int g), .val false y] = some (.ok (.dat y'), [.non, .non])) (hp : callN fns m 20 [.val false (.int g), .val false x, .val false y'] = some (.ok (.dat r), [.non, .non, .non])) : callN fns (m + 1) 22 [.val t (.int g), .val t1 x, .val t2 y] = some (.ok (.dat r), [.non, .non, .non]) := by
  rw [callN]
  simp [fns, d_over, runF, MP.execs, ev_cst, ev_glb, ev_var, ev_tup, ev_lst, ev_dis0, ev_dis1, ev_bin, ev_neg, ev_boo, ev_not, ev_cmp, ev_chn, ev_ite, ev_idx, ev_slc, ev_call, ev_blt, ev_isi, ev_lstI, x_par, x_aug, x_seti, x_app, x_expr, x_ife, x_ret, x_retN, x_pas, x_brk, x_cnt, x_rse, x_nm, x_tp, evB, evIf, evO, evAs, evDs, evI, evT, evRs, bnd, ok, op1, op2, view, views, tru, frzM, frz, keepA, unslot, slotOf, putA, putAs, putD, nxtO, augD, setiD, appD, retA, asgT, asgTs, blts, liftO, bltD, absD, maxD, minD, int1D, lenD, gcdD, isiD, blsD, intsD, anyD, allD, sumD, tupleD, listD, strD, reprD, keyB, binD, cmpO, cmpD, datB, negD, idxD, getD, ixD, slcD, tyD, D.truth, D.shp, D.shps, D.eqv, D.eqvs, itemsD, rngD, zipO, enumO, intO, isND, doCall, lends, lendA, lentIx, backs, backS, maskS, mask1, ho, hp]
theorem e_unit {m : Nat} : callN fns (m + 2) 15 [.val t (.int g)] = some (.ok (.dat (if g = 0 then .tup [.int 1, .int 1] else .int ((1 : Int).fmod g))), [.non]) := by
  have k := run_whole_in r13 m false false g 1
  rw [callN]
  simp [fns, d_unit, runF, MP.execs, ev_cst, ev_glb, ev_var, ev_tup, ev_lst, ev_dis0, ev_dis1, ev_bin, ev_neg, ev_boo, ev_not, ev_cmp, ev_chn, ev_ite, ev_idx, ev_slc, ev_call, ev_blt, ev_isi, ev_lstI, x_par, x_aug, x_seti, x_app, x_expr, x_ife, x_ret, x_retN, x_pas, x_brk, x_cnt, x_rse, x_nm, x_tp, evB, evIf, evO, evAs, evDs, evI, evT, evRs, bnd, ok, op1, op2, view, views, tru, frzM, frz, keepA, unslot, slotOf, putA, putAs, putD, nxtO, augD, setiD, appD, retA, asgT, asgTs, blts, liftO, bltD, absD, maxD, minD, int1D, lenD, gcdD, isiD, blsD, intsD, anyD, allD, sumD, tupleD, listD, strD, reprD, keyB, binD, cmpO, cmpD, datB, negD, idxD, getD, ixD, slcD, tyD, D.truth, D.shp, D.shps, D.eqv, D.eqvs, itemsD, rngD, zipO, enumO, intO, isND, doCall, lends, lendA, lentIx, backs, backS, maskS, mask1, k]
theorem e_zero {m : Nat} : callN fns (m + 2) 14 [.val t (.int g)] = some (.ok (.dat (if g = 0 then .tup [.int 0, .int 1] else .int 0)), [.non]) := by
  have k := run_whole_in r13 m false false g 0
  rw [callN]
  simp [fns, d_zero, runF, MP.execs, ev_cst, ev_glb, ev_var, ev_tup, ev_lst, ev_dis0, ev_dis1, ev_bin, ev_neg, ev_boo, ev_not, ev_cmp, ev_chn, ev_ite, ev_idx, ev_slc, ev_call, ev_blt, ev_isi, ev_lstI, x_par, x_aug, x_seti, x_app, x_expr, x_ife, x_ret, x_retN, x_pas, x_brk, x_cnt, x_rse, x_nm, x_tp, evB, evIf, evO, evAs, evDs, evI, evT, evRs, bnd, ok, op1, op2, view, views, tru, frzM, frz, keepA, unslot, slotOf, putA, putAs, putD, nxtO, augD, setiD, appD, retA, asgT, asgTs, blts, liftO, bltD, absD, maxD, minD, int1D, lenD, gcdD, isiD, blsD, intsD, anyD, allD, sumD, tupleD, listD, strD, reprD, keyB, binD, cmpO, cmpD, datB, negD, idxD, getD, ixD, slcD, tyD, D.truth, D.shp, D.shps, D.eqv, D.eqvs, itemsD, rngD, zipO, enumO, intO, isND, doCall, lends, lendA, lentIx, backs, backS, maskS, mask1, k]
def zeroB (x : D) : Bool := match x with
  | .int i => decide (i = 0)
  | .tup [.int a, .int b] => decide (a = 0) && decide (b = 1)
  | _ => false
theorem e_is_zero {m : Nat} (hx : Nm g x) : callN fns (m + 3) 16 [.val t (.int g), .val t1 x] = some (.ok (.dat (.bl (zeroB x))), [.non, .non]) := by
  have k := e_zero (g := g) (t := false) (m := m)
  rw [callN]
  cases hx with
  | rest h0 h1 h2 =>
    have hg : g ≠ 0 := by omega
    rw [if_neg hg] at k
    simp [fns, d_is_zero, runF, MP.execs, ev_cst, ev_glb, ev_var, ev_tup, ev_lst, ev_dis0, ev_dis1, ev_bin, ev_neg, ev_boo, ev_not, ev_cmp, ev_chn, ev_ite, ev_idx, ev_slc, ev_call, ev_blt, ev_isi, ev_lstI, x_par, x_aug, x_seti, x_app, x_expr, x_ife, x_ret, x_retN, x_pas, x_brk, x_cnt, x_rse, x_nm, x_tp, evB, evIf, evO, evAs, evDs, evI, evT, evRs, bnd, ok, op1, op2, view, views, tru, frzM, frz, keepA, unslot, slotOf, putA, putAs, putD, nxtO, augD, setiD, appD, retA, asgT, asgTs, blts, liftO, bltD, absD, maxD, minD, int1D, lenD, gcdD, isiD, blsD, intsD, anyD, allD, sumD, tupleD, listD, strD, reprD, keyB, binD, cmpO, cmpD, datB, negD, idxD, getD, ixD, slcD, tyD, D.truth, D.shp, D.shps, D.eqv, D.eqvs, itemsD, rngD, zipO, enumO, intO, isND, doCall, lends, lendA, lentIx, backs, backS, maskS, mask1, k, zeroB, Bool.beq_eq_decide_eq]
  | frac l h1 h2 =>
    rw [if_pos rfl] at k
    simp [fns, d_is_zero, runF, MP.execs, ev_cst, ev_glb, ev_var, ev_tup, ev_lst, ev_dis0, ev_dis1, ev_bin, ev_neg, ev_boo, ev_not, ev_cmp, ev_chn, ev_ite, ev_idx, ev_slc, ev_call, ev_blt, ev_isi, ev_lstI, x_par, x_aug, x_seti, x_app, x_expr, x_ife, x_ret, x_retN, x_pas, x_brk, x_cnt, x_rse, x_nm, x_tp, evB, evIf, evO, evAs, evDs, evI, evT, evRs, bnd, ok, op1, op2, view, views, tru, frzM, frz, keepA, unslot, slotOf, putA, putAs, putD, nxtO, augD, setiD, appD, retA, asgT, asgTs, blts, liftO, bltD, absD, maxD, minD, int1D, lenD, gcdD, isiD, blsD, intsD, anyD, allD, sumD, tupleD, listD, strD, reprD, keyB, binD, cmpO, cmpD, datB, negD, idxD, getD, ixD, slcD, tyD, D.truth, D.shp, D.shps, D.eqv, D.eqvs, itemsD, rngD, zipO, enumO, intO, isND, doCall, lends, lendA, lentIx, backs, backS, maskS, mask1, k, zeroB, Bool.beq_eq_decide_eq]
end
end K00
set_option Elab.async false
set_option linter.all false
set_option maxRecDepth 100000
set_option maxHeartbeats 2000000
namespace K00
open PySem MP
section
variable {n : Nat} {g : Int} {x y r : D} {t t1 t2 : Bool}
theorem e_raised {e : Int} (hg : groundB (.int g) = true) (hx : Nm g x) (he : e.natAbs ≤ 1000) (hz : e < 0 → zeroB x = false) (hp : callN fns (n + 6) 23 [.val false (.int g), .val false x, .val false (.int e)] = some (.ok (.dat r), [.non, .non, .non])) :
    callN fns (n + 7) 35 [.val t (.int g), .val t1 x, .val t2 (.int e)] = some (.ok (.dat r), [.non, .non, .non]) := by
  have k1 := req_ground (n + 2) false hg
  have k2 := req_number (n + 1) false false hx
  have kw := run_within r0 r2 (n + 3) false false false (.int e) (-1000) 1000
  have hb : within (.int e) (-1000) 1000 = true := by
    unfold within
    rw [decide_eq_true_eq]
    omega
  rw [hb] at kw
  have k3 := run_req_within (t := false) (t1 := false) (t2 := false) r10 kw
  have k4 := e_is_zero (t := false) (t1 := false) (m := n + 3) hx
  replace k1 : callN fns (n + 6) 7 _ = _ := k1
  replace k2 : callN fns (n + 6) 8 _ = _ := k2
  replace k3 : callN fns (n + 6) 10 _ = _ := k3
  replace k4 : callN fns (n + 6) 16 _ = _ := k4
  rw [callN]
  by_cases hl : e < 0
  · rw [hz hl] at k4
    simp [fns, d_raised, runF, MP.execs, ev_cst, ev_glb, ev_var, ev_tup, ev_lst, ev_dis0, ev_dis1, ev_bin, ev_neg, ev_boo, ev_not, ev_cmp, ev_chn, ev_ite, ev_idx, ev_slc, ev_call, ev_blt, ev_isi, ev_lstI, x_par, x_aug, x_seti, x_app, x_expr, x_ife, x_ret, x_retN, x_pas, x_brk, x_cnt, x_rse, x_nm, x_tp, evB, evIf, evO, evAs, evDs, evI, evT, evRs, bnd, ok, op1, op2, view, views, tru, frzM, frz, keepA, unslot, slotOf, putA, putAs, putD, nxtO, augD, setiD, appD, retA, asgT, asgTs, blts, liftO, bltD, absD, maxD, minD, int1D, lenD, gcdD, isiD, blsD, intsD, anyD, allD, sumD, tupleD, listD, strD, reprD, keyB, binD, cmpO, cmpD, datB, negD, idxD, getD, ixD, slcD, tyD, D.truth, D.shp, D.shps, D.eqv, D.eqvs, itemsD, rngD, zipO, enumO, intO, isND, doCall, lends, lendA, lentIx, backs, backS, maskS, mask1, k1, k2, k3, k4, hp, hl]
  · simp [fns, d_raised, runF, MP.execs, ev_cst, ev_glb, ev_var, ev_tup, ev_lst, ev_dis0, ev_dis1, ev_bin, ev_neg, ev_boo, ev_not, ev_cmp, ev_chn, ev_ite, ev_idx, ev_slc, ev_call, ev_blt, ev_isi, ev_lstI, x_par, x_aug, x_seti, x_app, x_expr, x_ife, x_ret, x_retN, x_pas, x_brk, x_cnt, x_rse, x_nm, x_tp, evB, evIf, evO, evAs, evDs, evI, evT, evRs, bnd, ok, op1, op2, view, views, tru, frzM, frz, keepA, unslot, slotOf, putA, putAs, putD, nxtO, augD, setiD, appD, retA, asgT, asgTs, blts, liftO, bltD, absD, maxD, minD, int1D, lenD, gcdD, isiD, blsD, intsD, anyD, allD, sumD, tupleD, listD, strD, reprD, keyB, binD, cmpO, cmpD, datB, negD, idxD, getD, ixD, slcD, tyD, D.truth, D.shp, D.shps, D.eqv, D.eqvs, itemsD, rngD, zipO, enumO, intO, isND, doCall, lends, lendA, lentIx, backs, backS, maskS, mask1, k1, k2, k3, hp, hl]
end
section
variable {n : Nat} {a b c d p : Int} {t t1 : Bool} {M : Nat}
theorem e_compared_in (hM : (2 * M * M + 1).log2 < 9000) (ha : a.natAbs ≤ M) (hb : b.natAbs ≤ M) (hc : c.natAbs ≤ M) (hd : d.natAbs ≤ M) :
    callN fns (n + 1) 26 [.val t (.tup [.int a, .int b]), .val t1 (.tup [.int c, .int d])] = some (.ok (.dat (.int ((if a * d - c * b > 0 then 1 else 0) - (if a * d - c * b < 0 then 1 else 0)))), [.non, .non]) := by
  rw [callN]
  have h1 := mulG hM ha hd
  have h2 := mulG hM hc hb
  by_cases z1 : a * d - c * b > 0
  · have z2 : ¬ a * d - c * b < 0 := by omega
    simp [fns, d_compared_in, runF, MP.execs, ev_cst, ev_glb, ev_var, ev_tup, ev_lst, ev_dis0, ev_dis1, ev_bin, ev_neg, ev_boo, ev_not, ev_cmp, ev_chn, ev_ite, ev_idx, ev_slc, ev_call, ev_blt, ev_isi, ev_lstI, x_par, x_aug, x_seti, x_app, x_expr, x_ife, x_ret, x_retN, x_pas, x_brk, x_cnt, x_rse, x_nm, x_tp, evB, evIf, evO, evAs, evDs, evI, evT, evRs, bnd, ok, op1, op2, view, views, tru, frzM, frz, keepA, unslot, slotOf, putA, putAs, putD, nxtO, augD, setiD, appD, retA, asgT, asgTs, blts, liftO, bltD, absD, maxD, minD, int1D, lenD, gcdD, isiD, blsD, intsD, anyD, allD, sumD, tupleD, listD, strD, reprD, keyB, binD, cmpO, cmpD, datB, negD, idxD, getD, ixD, slcD, tyD, D.truth, D.shp, D.shps, D.eqv, D.eqvs, itemsD, rngD, zipO, enumO, intO, isND, doCall, lends, lendA, lentIx, backs, backS, maskS, mask1, h1, h2, z1, z2]
  · by_cases z2 : a * d - c * b < 0
    · simp [fns, d_compared_in, runF, MP.execs, ev_cst, ev_glb, ev_var, ev_tup, ev_lst, ev_dis0, ev_dis1, ev_bin, ev_neg, ev_boo, ev_not, ev_cmp, ev_chn, ev_ite, ev_idx, ev_slc, ev_call, ev_blt, ev_isi, ev_lstI, x_par, x_aug, x_seti, x_app, x_expr, x_ife, x_ret, x_retN, x_pas, x_brk, x_cnt, x_rse, x_nm, x_tp, evB, evIf, evO, evAs, evDs, evI, evT, evRs, bnd, ok, op1, op2, view, views, tru, frzM, frz, keepA, unslot, slotOf, putA, putAs, putD, nxtO, augD, setiD, appD, retA, asgT, asgTs, blts, liftO, bltD, absD, maxD, minD, int1D, lenD, gcdD, isiD, blsD, intsD, anyD, allD, sumD, tupleD, listD, strD, reprD, keyB, binD, cmpO, cmpD, datB, negD, idxD, getD, ixD, slcD, tyD, D.truth, D.shp, D.shps, D.eqv, D.eqvs, itemsD, rngD, zipO, enumO, intO, isND, doCall, lends, lendA, lentIx, backs, backS, maskS, mask1, h1, h2, z1, z2]
    · simp [fns, d_compared_in, runF, MP.execs, ev_cst, ev_glb, ev_var, ev_tup, ev_lst, ev_dis0, ev_dis1, ev_bin, ev_neg, ev_boo, ev_not, ev_cmp, ev_chn, ev_ite, ev_idx, ev_slc, ev_call, ev_blt, ev_isi, ev_lstI, x_par, x_aug, x_seti, x_app, x_expr, x_ife, x_ret, x_retN, x_pas, x_brk, x_cnt, x_rse, x_nm, x_tp, evB, evIf, evO, evAs, evDs, evI, evT, evRs, bnd, ok, op1, op2, view, views, tru, frzM, frz, keepA, unslot, slotOf, putA, putAs, putD, nxtO, augD, setiD, appD, retA, asgT, asgTs, blts, liftO, bltD, absD, maxD, minD, int1D, lenD, gcdD, isiD, blsD, intsD, anyD, allD, sumD, tupleD, listD, strD, reprD, keyB, binD, cmpO, cmpD, datB, negD, idxD, getD, ixD, slcD, tyD, D.truth, D.shp, D.shps, D.eqv, D.eqvs, itemsD, rngD, zipO, enumO, intO, isND, doCall, lends, lendA, lentIx, backs, backS, maskS, mask1, h1, h2, z1, z2]
theorem e_compared (h1 : Nm 0 (.tup [.int a, .int b])) (h2 : Nm 0 (.tup [.int c, .int d])) {r : D} (hp : callN fns (n + 6) 26 [.val false (.tup [.int a, .int b]), .val false (.tup [.int c, .int d])] = some (.ok (.dat r), [.non, .non])) :
    callN fns (n + 7) 36 [.val t (.tup [.int a, .int b]), .val t1 (.tup [.int c, .int d])] = some (.ok (.dat r), [.non, .non]) := by
  have k := req_two n false false false (by decide +kernel) h1 h2
  rw [callN]
  simp [fns, d_compared, runF, MP.execs, ev_cst, ev_glb, ev_var, ev_tup, ev_lst, ev_dis0, ev_dis1, ev_bin, ev_neg, ev_boo, ev_not, ev_cmp, ev_chn, ev_ite, ev_idx, ev_slc, ev_call, ev_blt, ev_isi, ev_lstI, x_par, x_aug, x_seti, x_app, x_expr, x_ife, x_ret, x_retN, x_pas, x_brk, x_cnt, x_rse, x_nm, x_tp, evB, evIf, evO, evAs, evDs, evI, evT, evRs, bnd, ok, op1, op2, view, views, tru, frzM, frz, keepA, unslot, slotOf, putA, putAs, putD, nxtO, augD, setiD, appD, retA, asgT, asgTs, blts, liftO, bltD, absD, maxD, minD, int1D, lenD, gcdD, isiD, blsD, intsD, anyD, allD, sumD, tupleD, listD, strD, reprD, keyB, binD, cmpO, cmpD, datB, negD, idxD, getD, ixD, slcD, tyD, D.truth, D.shp, D.shps, D.eqv, D.eqvs, itemsD, rngD, zipO, enumO, intO, isND, doCall, lends, lendA, lentIx, backs, backS, maskS, mask1, k, hp]
theorem e_rounded_in (hb : b ≠ 0) (hs : bits b < 9000) : callN fns (n + 1) 27 [.val t (.tup [.int a, .int b])] = some (.ok (.dat (.int (a.fdiv b))), [.non]) := by
  rw [callN]
  simp [fns, d_rounded_in, runF, MP.execs, ev_cst, ev_glb, ev_var, ev_tup, ev_lst, ev_dis0, ev_dis1, ev_bin, ev_neg, ev_boo, ev_not, ev_cmp, ev_chn, ev_ite, ev_idx, ev_slc, ev_call, ev_blt, ev_isi, ev_lstI, x_par, x_aug, x_seti, x_app, x_expr, x_ife, x_ret, x_retN, x_pas, x_brk, x_cnt, x_rse, x_nm, x_tp, evB, evIf, evO, evAs, evDs, evI, evT, evRs, bnd, ok, op1, op2, view, views, tru, frzM, frz, keepA, unslot, slotOf, putA, putAs, putD, nxtO, augD, setiD, appD, retA, asgT, asgTs, blts, liftO, bltD, absD, maxD, minD, int1D, lenD, gcdD, isiD, blsD, intsD, anyD, allD, sumD, tupleD, listD, strD, reprD, keyB, binD, cmpO, cmpD, datB, negD, idxD, getD, ixD, slcD, tyD, D.truth, D.shp, D.shps, D.eqv, D.eqvs, itemsD, rngD, zipO, enumO, intO, isND, doCall, lends, lendA, lentIx, backs, backS, maskS, mask1, hb, hs]
theorem e_rounded (h1 : Nm 0 (.tup [.int a, .int b])) {r : D} (hp : callN fns (n + 5) 27 [.val false (.tup [.int a, .int b])] = some (.ok (.dat r), [.non])) : callN fns (n + 6) 37 [.val t (.tup [.int a, .int b])] = some (.ok (.dat r), [.non]) := by
  have k := req_number n false false h1
  rw [callN]
  simp [fns, d_rounded, runF, MP.execs, ev_cst, ev_glb, ev_var, ev_tup, ev_lst, ev_dis0, ev_dis1, ev_bin, ev_neg, ev_boo, ev_not, ev_cmp, ev_chn, ev_ite, ev_idx, ev_slc, ev_call, ev_blt, ev_isi, ev_lstI, x_par, x_aug, x_seti, x_app, x_expr, x_ife, x_ret, x_retN, x_pas, x_brk, x_cnt, x_rse, x_nm, x_tp, evB, evIf, evO, evAs, evDs, evI, evT, evRs, bnd, ok, op1, op2, view, views, tru, frzM, frz, keepA, unslot, slotOf, putA, putAs, putD, nxtO, augD, setiD, appD, retA, asgT, asgTs, blts, liftO, bltD, absD, maxD, minD, int1D, lenD, gcdD, isiD, blsD, intsD, anyD, allD, sumD, tupleD, listD, strD, reprD, keyB, binD, cmpO, cmpD, datB, negD, idxD, getD, ixD, slcD, tyD, D.truth, D.shp, D.shps, D.eqv, D.eqvs, itemsD, rngD, zipO, enumO, intO, isND, doCall, lends, lendA, lentIx, backs, backS, maskS, mask1, k, hp]
theorem e_read_in {f : Int} (hp : p ≠ 0) (hu : callN fns (n + 1) 25 [.val false (.int b), .val false (.int p)] = some (.ok (.dat (.int f)), [.non, .non])) (hm : bits a + bits f < 1000000) : callN fns (n + 2) 28 [.val t (.int p), .val t1 (.tup [.int a, .int b])] = some (.ok (.dat (.int ((a * f).fmod p))), [.non, .non]) := by
  rw [callN]
  simp [fns, d_read_in, runF, MP.execs, ev_cst, ev_glb, ev_var, ev_tup, ev_lst, ev_dis0, ev_dis1, ev_bin, ev_neg, ev_boo, ev_not, ev_cmp, ev_chn, ev_ite, ev_idx, ev_slc, ev_call, ev_blt, ev_isi, ev_lstI, x_par, x_aug, x_seti, x_app, x_expr, x_ife, x_ret, x_retN, x_pas, x_brk, x_cnt, x_rse, x_nm, x_tp, evB, evIf, evO, evAs, evDs, evI, evT, evRs, bnd, ok, op1, op2, view, views, tru, frzM, frz, keepA, unslot, slotOf, putA, putAs, putD, nxtO, augD, setiD, appD, retA, asgT, asgTs, blts, liftO, bltD, absD, maxD, minD, int1D, lenD, gcdD, isiD, blsD, intsD, anyD, allD, sumD, tupleD, listD, strD, reprD, keyB, binD, cmpO, cmpD, datB, negD, idxD, getD, ixD, slcD, tyD, D.truth, D.shp, D.shps, D.eqv, D.eqvs, itemsD, rngD, zipO, enumO, intO, isND, doCall, lends, lendA, lentIx, backs, backS, maskS, mask1, hu, hp, hm]
theorem e_read_at (hg : groundB (.int p) = true) (hp : p ≠ 0) (h1 : Nm 0 (.tup [.int a, .int b])) (hb : b.fmod p ≠ 0) {r : D} (hr : callN fns (n + 5) 28 [.val false (.int p), .val false (.tup [.int a, .int b])] = some (.ok (.dat r), [.non, .non])) :
    callN fns (n + 6) 38 [.val t (.int p), .val t1 (.tup [.int a, .int b])] = some (.ok (.dat r), [.non, .non]) := by
  have k1 := req_ground (n + 1) false hg
  have k2 := req_number n false false h1
  replace k1 : callN fns (n + 5) 7 _ = _ := k1
  rw [callN]
  simp [fns, d_read_at, runF, MP.execs, ev_cst, ev_glb, ev_var, ev_tup, ev_lst, ev_dis0, ev_dis1, ev_bin, ev_neg, ev_boo, ev_not, ev_cmp, ev_chn, ev_ite, ev_idx, ev_slc, ev_call, ev_blt, ev_isi, ev_lstI, x_par, x_aug, x_seti, x_app, x_expr, x_ife, x_ret, x_retN, x_pas, x_brk, x_cnt, x_rse, x_nm, x_tp, evB, evIf, evO, evAs, evDs, evI, evT, evRs, bnd, ok, op1, op2, view, views, tru, frzM, frz, keepA, unslot, slotOf, putA, putAs, putD, nxtO, augD, setiD, appD, retA, asgT, asgTs, blts, liftO, bltD, absD, maxD, minD, int1D, lenD, gcdD, isiD, blsD, intsD, anyD, allD, sumD, tupleD, listD, strD, reprD, keyB, binD, cmpO, cmpD, datB, negD, idxD, getD, ixD, slcD, tyD, D.truth, D.shp, D.shps, D.eqv, D.eqvs, itemsD, rngD, zipO, enumO, intO, isND, doCall, lends, lendA, lentIx, backs, backS, maskS, mask1, k1, k2, hp, hb, hr]
end
end K00
set_option Elab.async false
set_option linter.all false
set_option maxRecDepth 100000
set_option maxHeartbeats 2000000
namespace K00
open PySem MP
/-- the grounds that the law draws -/
structure Gr (g : Int) : Prop where
  ok : groundB (.int g) = true
  le : g ≤ 9973
  co : g = 0 ∨ (2 ≤ g ∧ ∀ x : Nat, 1 ≤ x → x < g.toNat → Nat.gcd g.toNat x = 1)
def coB (p : Nat) : Bool := (List.range p).all fun x => x == 0 || Nat.gcd p x == 1
theorem co_of {p : Nat} (h : coB p = true) : ∀ x : Nat, 1 ≤ x → x < p → Nat.gcd p x = 1 := fun x h1 h2 => by
  unfold coB at h
  rw [List.all_eq_true] at h
  have := h x (List.mem_range.mpr h2)
  rw [Bool.or_eq_true, beq_iff_eq, beq_iff_eq] at this
  rcases this with z | z
  · omega
  · exact z
theorem e_nu_ground (n : Nat) {d : D} {L : Int} (hd : Dice L d) (hL : L < 2 ^ 60) : ∃ g d', callN fns (n + 3) 51 [.own true d] = some (.ok (.dat (.int g)), [.own true d']) ∧ Gr g ∧ Dice (L + 1) d' := by
  obtain ⟨x, d', hx, e, hd'⟩ := run_pick (P := fns) (f := 41) (r := 40) rfl rfl n hd hL false (xs := [.int 0, .int 0, .int 0, .int 2, .int 3, .int 5, .int 7, .int 11, .int 13, .int 97, .int 101, .int 997, .int 9973]) (by decide) (by decide)
  obtain ⟨g, rfl, hg⟩ : ∃ g, x = .int g ∧ Gr g := by
    simp only [List.mem_cons, List.not_mem_nil, or_false] at hx
    rcases hx with rfl | rfl | rfl | rfl | rfl | rfl | rfl | rfl | rfl | rfl | rfl | rfl | rfl
    · exact ⟨_, rfl, by decide +kernel, by decide, .inl rfl⟩
    · exact ⟨_, rfl, by decide +kernel, by decide, .inl rfl⟩
    · exact ⟨_, rfl, by decide +kernel, by decide, .inl rfl⟩
    · exact ⟨_, rfl, by decide +kernel, by decide, .inr ⟨by decide, co_of (p := 2) (by decide +kernel)⟩⟩
    · exact ⟨_, rfl, by decide +kernel, by decide, .inr ⟨by decide, co_of (p := 3) (by decide +kernel)⟩⟩
    · exact ⟨_, rfl, by decide +kernel, by decide, .inr ⟨by decide, co_of (p := 5) (by decide +kernel)⟩⟩
    · exact ⟨_, rfl, by decide +kernel, by decide, .inr ⟨by decide, co_of (p := 7) (by decide +kernel)⟩⟩
    · exact ⟨_, rfl, by decide +kernel, by decide, .inr ⟨by decide, co_of (p := 11) (by decide +kernel)⟩⟩
    · exact ⟨_, rfl, by decide +kernel, by decide, .inr ⟨by decide, co_of (p := 13) (by decide +kernel)⟩⟩
    · exact ⟨_, rfl, by decide +kernel, by decide, .inr ⟨by decide, co_of (p := 97) (by decide +kernel)⟩⟩
    · exact ⟨_, rfl, by decide +kernel, by decide, .inr ⟨by decide, co_of (p := 101) (by decide +kernel)⟩⟩
    · exact ⟨_, rfl, by decide +kernel, by decide, .inr ⟨by decide, co_of (p := 997) (by decide +kernel)⟩⟩
    · exact ⟨_, rfl, by decide +kernel, by decide, .inr ⟨by decide, co_of (p := 9973) (by decide +kernel)⟩⟩
  refine ⟨g, d', ?_, hg, hd'⟩
  rw [callN]
  simp [fns, d_law_nu_ground, runF, MP.execs, ev_cst, ev_glb, ev_var, ev_tup, ev_lst, ev_dis0, ev_dis1, ev_bin, ev_neg, ev_boo, ev_not, ev_cmp, ev_chn, ev_ite, ev_idx, ev_slc, ev_call, ev_blt, ev_isi, ev_lstI, x_par, x_aug, x_seti, x_app, x_expr, x_ife, x_ret, x_retN, x_pas, x_brk, x_cnt, x_rse, x_nm, x_tp, evB, evIf, evO, evAs, evDs, evI, evT, evRs, bnd, ok, op1, op2, view, views, tru, frzM, frz, keepA, unslot, slotOf, putA, putAs, putD, nxtO, augD, setiD, appD, retA, asgT, asgTs, blts, liftO, bltD, absD, maxD, minD, int1D, lenD, gcdD, isiD, blsD, intsD, anyD, allD, sumD, tupleD, listD, strD, reprD, keyB, binD, cmpO, cmpD, datB, negD, idxD, getD, ixD, slcD, tyD, D.truth, D.shp, D.shps, D.eqv, D.eqvs, itemsD, rngD, zipO, enumO, intO, isND, doCall, lends, lendA, lentIx, backs, backS, maskS, mask1, e]
theorem e_nu_drawn (n : Nat) (t : Bool) {d : D} {L g : Int} (hg : 0 ≤ g) (hg2 : g ≤ 9973) (hd : Dice L d) (hL : L < 2 ^ 59) : ∃ x d', callN fns (n + 3) 52 [.own true d, .val t (.int g)] = some (.ok (.dat x), [.own true d', .non]) ∧ Nm g x ∧ Dice (L + 3) d' := by
  by_cases h0 : 0 < g
  · obtain ⟨r, d1, e, r1, r2, h1⟩ := run_roll (P := fns) (f := 40) rfl (n + 1) hd (by omega) false (m := g) h0 (Nat.lt_trans (bits_small (k := 64) (by omega) (by omega)) (by omega))
    replace e : callN fns (n + 2) 40 _ = _ := e
    refine ⟨.int r, d1, ?_, .rest h0 r1 r2, ?_⟩
    · rw [callN]
      simp [fns, d_law_nu_drawn, runF, MP.execs, ev_cst, ev_glb, ev_var, ev_tup, ev_lst, ev_dis0, ev_dis1, ev_bin, ev_neg, ev_boo, ev_not, ev_cmp, ev_chn, ev_ite, ev_idx, ev_slc, ev_call, ev_blt, ev_isi, ev_lstI, x_par, x_aug, x_seti, x_app, x_expr, x_ife, x_ret, x_retN, x_pas, x_brk, x_cnt, x_rse, x_nm, x_tp, evB, evIf, evO, evAs, evDs, evI, evT, evRs, bnd, ok, op1, op2, view, views, tru, frzM, frz, keepA, unslot, slotOf, putA, putAs, putD, nxtO, augD, setiD, appD, retA, asgT, asgTs, blts, liftO, bltD, absD, maxD, minD, int1D, lenD, gcdD, isiD, blsD, intsD, anyD, allD, sumD, tupleD, listD, strD, reprD, keyB, binD, cmpO, cmpD, datB, negD, idxD, getD, ixD, slcD, tyD, D.truth, D.shp, D.shps, D.eqv, D.eqvs, itemsD, rngD, zipO, enumO, intO, isND, doCall, lends, lendA, lentIx, backs, backS, maskS, mask1, e, h0]
    · obtain ⟨a, b, c, e, k1, k2⟩ := h1
      exact ⟨a, b, c, e, k1, by omega⟩
  · have hz : g = 0 := by omega
    subst hz
    obtain ⟨x, d1, hx, e1, hd1⟩ := run_pick (P := fns) (f := 41) (r := 40) rfl rfl n hd (by omega) false (xs := [.int 3, .int 10, .int 10, .int 1000, .int 100000000000000000000, .int 999999999999999999999999999999999999999999999999999999999999]) (by decide) (by decide)
    obtain ⟨m, rfl, m1, m2⟩ : ∃ m : Int, x = .int m ∧ 1 ≤ m ∧ m ≤ 999999999999999999999999999999999999999999999999999999999999 := by
      simp only [List.mem_cons, List.not_mem_nil, or_false] at hx
      rcases hx with rfl | rfl | rfl | rfl | rfl | rfl <;> exact ⟨_, rfl, by omega, by omega⟩
    have bm : bits m < 300 := bits_small (by omega) (by omega)
    have b2m : bits (2 * m + 1) < 300 := bits_small (by omega) (by omega)
    have g0 : bits 2 + bits m < 1000000 := by
      have : bits 2 < 300 := by decide +kernel
      omega
    obtain ⟨r1, d2, e2, p1, p2, hd2⟩ := run_roll (P := fns) (f := 40) rfl (n + 1) hd1 (by omega) false (m := 2 * m + 1) (by omega) (by omega)
    obtain ⟨r2, d3, e3, q1, q2, hd3⟩ := run_roll (P := fns) (f := 40) rfl (n + 1) hd2 (by omega) false (m := m) (by omega) (by omega)
    replace e2 : callN fns (n + 2) 40 _ = _ := e2
    replace e3 : callN fns (n + 2) 40 _ = _ := e3
    obtain ⟨x, y, ef, l, _, x1, y1⟩ := frac_spec (a := r1 - m) (b := 1 + r2) (by omega)
    have hs := shared_le (a := r1 - m) (b := 1 + r2) (by omega)
    have k := e_lfrac n false false (a := r1 - m) (b := 1 + r2) (by omega) (Nat.lt_trans (bits_small (k := 300) (by omega) (by omega)) (by omega))
    rw [ef] at k
    refine ⟨.tup [.int x, .int y], d3, ?_, .frac l (by omega) (by omega), ?_⟩
    · rw [callN]
      simp [fns, d_law_nu_drawn, runF, MP.execs, ev_cst, ev_glb, ev_var, ev_tup, ev_lst, ev_dis0, ev_dis1, ev_bin, ev_neg, ev_boo, ev_not, ev_cmp, ev_chn, ev_ite, ev_idx, ev_slc, ev_call, ev_blt, ev_isi, ev_lstI, x_par, x_aug, x_seti, x_app, x_expr, x_ife, x_ret, x_retN, x_pas, x_brk, x_cnt, x_rse, x_nm, x_tp, evB, evIf, evO, evAs, evDs, evI, evT, evRs, bnd, ok, op1, op2, view, views, tru, frzM, frz, keepA, unslot, slotOf, putA, putAs, putD, nxtO, augD, setiD, appD, retA, asgT, asgTs, blts, liftO, bltD, absD, maxD, minD, int1D, lenD, gcdD, isiD, blsD, intsD, anyD, allD, sumD, tupleD, listD, strD, reprD, keyB, binD, cmpO, cmpD, datB, negD, idxD, getD, ixD, slcD, tyD, D.truth, D.shp, D.shps, D.eqv, D.eqvs, itemsD, rngD, zipO, enumO, intO, isND, doCall, lends, lendA, lentIx, backs, backS, maskS, mask1, e1, e2, e3, g0, k]
    · obtain ⟨a, b, c, e, k1, k2⟩ := hd3
      exact ⟨a, b, c, e, k1, by omega⟩
end K00
set_option Elab.async false
set_option linter.all false
set_option maxRecDepth 100000
set_option maxHeartbeats 2000000
namespace K00
open PySem MP
inductive Shape : D → Prop
  | int (i : Int) : Shape (.int i)
  | pair (i j : Int) : Shape (.tup [.int i, .int j])
theorem Shape.frac (a b : Int) : Shape (fracD a b) := .pair _ _
theorem Shape.ne {r : D} (h : Shape r) : cmpD .ne r r = some false := by
  cases h <;> simp [cmpD, D.shp, D.shps, D.eqv, D.eqvs]
theorem Shape.shp {r : D} (h : Shape r) : D.shp 12 r = true ∧ D.eqv r r = true := by
  cases h <;> simp [D.shp, D.shps, D.eqv, D.eqvs]
def M60 : Nat := 10 ^ 60
theorem hM60 : (2 * M60 * M60 + 1).log2 < 9000 := by decide +kernel
theorem s_plus {g : Int} {x y : D} (hx : Nm g x) (hy : Nm g y) : ∃ r, Shape r ∧ (∀ m, callN fns (m + 3) 17 [.val false (.int g), .val false x, .val false y] = some (.ok (.dat r), [.non, .non, .non])) ∧ ∀ m, callN fns (m + 3) 47 [.val false (.int g), .val false x, .val false y] = some (.ok (.dat r), [.non, .non, .non]) := by
  cases hx with
  | rest h0 h1 h2 =>
    cases hy with
    | rest k0 k1 k2 => exact ⟨_, .int _, fun m => run_plusG r17 (m + 2) _ _ _ (by omega), fun m => e_lplusG (m + 2) _ _ _ (by omega)⟩
    | frac l _ _ => omega
  | frac l h1 h2 =>
    cases hy with
    | rest k0 k1 k2 => omega
    | frac l' k1 k2 =>
      have p1 := l.pos
      have p2 := l'.pos
      exact ⟨_, .frac _ _, fun m => run_plus0 r12 r17 (m + 1) _ _ _ hM60 (Nat.le_of_lt h1) (Nat.le_of_lt h2) (Nat.le_of_lt k1) (Nat.le_of_lt k2) (by omega) (by omega), fun m => e_lplus0 m _ _ _ hM60 (Nat.le_of_lt h1) (Nat.le_of_lt h2) (Nat.le_of_lt k1) (Nat.le_of_lt k2) (by omega) (by omega)⟩
theorem s_times {g : Int} {x y : D} (hg : g ≤ 9973) (hx : Nm g x) (hy : Nm g y) : ∃ r, Shape r ∧ (∀ m, callN fns (m + 3) 20 [.val false (.int g), .val false x, .val false y] = some (.ok (.dat r), [.non, .non, .non])) ∧ ∀ m, callN fns (m + 3) 49 [.val false (.int g), .val false x, .val false y] = some (.ok (.dat r), [.non, .non, .non]) := by
  cases hx with
  | @rest _ a h0 h1 h2 =>
    cases hy with
    | @rest _ b k0 k1 k2 =>
      have b1 : bits a < 64 := bits_small (by omega) (by omega)
      have b2 : bits b < 64 := bits_small (by omega) (by omega)
      exact ⟨_, .int _, fun m => run_timesG r20 (m + 2) _ _ _ (by omega) (by omega), fun m => e_ltimesG (m + 2) _ _ _ (by omega) (by omega)⟩
    | frac l _ _ => omega
  | frac l h1 h2 =>
    cases hy with
    | rest k0 k1 k2 => omega
    | frac l' k1 k2 =>
      have p1 := l.pos
      have p2 := l'.pos
      exact ⟨_, .frac _ _, fun m => run_times0 r12 r20 (m + 1) _ _ _ hM60 (Nat.le_of_lt h1) (Nat.le_of_lt h2) (Nat.le_of_lt k1) (Nat.le_of_lt k2) (by omega) (by omega), fun m => e_ltimes0 m _ _ _ hM60 (Nat.le_of_lt h1) (Nat.le_of_lt h2) (Nat.le_of_lt k1) (Nat.le_of_lt k2) (by omega) (by omega)⟩
theorem s_opp {g : Int} {x : D} (hx : Nm g x) : ∃ r, Nm g r ∧ (∀ m, callN fns (m + 1) 18 [.val false (.int g), .val false x] = some (.ok (.dat r), [.non, .non])) ∧ ∀ m, callN fns (m + 1) 48 [.val false (.int g), .val false x] = some (.ok (.dat r), [.non, .non]) := by
  cases hx with
  | @rest _ a h0 h1 h2 => exact ⟨_, .rest h0 (fmod_pos _ h0).1 (fmod_pos _ h0).2, fun m => run_oppG r18 m _ _ (by omega), fun m => e_lminusG m _ _ (by omega)⟩
  | frac l h1 h2 => exact ⟨_, .frac ⟨l.pos, by rw [Int.natAbs_neg]; exact l.co⟩ (by omega) h2, fun m => run_opp0 r18 m _ _, fun m => e_lminus0 m _ _⟩
end K00
set_option Elab.async false
set_option linter.all false
set_option maxRecDepth 100000
set_option maxHeartbeats 2000000
namespace K00
open PySem MP
theorem s_undone {g : Int} {y : D} (G : Gr g) (hy : Nm g y) (hz : zeroB y = false) : ∃ r, Nm g r ∧ (∀ m, callN fns (m + 4) 21 [.val false (.int g), .val false y] = some (.ok (.dat r), [.non, .non])) ∧ ∀ m, callN fns (m + 4) 50 [.val false (.int g), .val false y] = some (.ok (.dat r), [.non, .non]) := by
  cases hy with
  | @rest _ x h0 h1 h2 =>
    have hx0 : x ≠ 0 := by simpa [zeroB] using hz
    have hg0 : g ≠ 0 := by omega
    have gle := G.le
    obtain ⟨x', rfl⟩ := Int.eq_ofNat_of_zero_le h1
    obtain ⟨g', rfl⟩ := Int.eq_ofNat_of_zero_le (show 0 ≤ g by omega)
    have hco : Nat.gcd g' x' = 1 := by
      rcases G.co with z | ⟨_, z⟩
      · exact absurd z hg0
      · exact z x' (by omega) (by simp; omega)
    have one : ∀ m, ∃ f s : Int, callN fns (m + 3) 25 [.val false (.int x'), .val false (.int g')] = some (.ok (.dat (.int (f.fmod g'))), [.non, .non]) ∧ f * (x' : Int) + s * (g' : Int) = 1 := fun m => by
      obtain ⟨f, s, e, hf⟩ := run_undone_rest (a := (x' : Int)) (b := (g' : Int)) (M := 9973) r24 r25 (m + 1) false false hg0 (by simp; omega) (by simp; omega) (by decide +kernel)
      exact ⟨f, s, e, by rw [hf, Int.natAbs_natCast, Int.natAbs_natCast, Nat.gcd_comm, hco]; rfl⟩
    obtain ⟨f, s, _, hf1⟩ := one 0
    have hg1 : ¬ g' = 0 := by omega
    refine ⟨.int (f.fmod g'), .rest h0 (fmod_pos _ h0).1 (fmod_pos _ h0).2, fun m => ?_, fun m => ?_⟩
    · obtain ⟨f2, s2, e, hf2⟩ := one m
      have same := inv_same (k := -s2) (h := f2) (by omega) hf1 (by rw [Int.mul_neg, Int.mul_comm (g' : Int) s2]; omega)
      rw [← same] at e
      rw [callN]
      simp [fns, d_undone, runF, MP.execs, ev_cst, ev_glb, ev_var, ev_tup, ev_lst, ev_dis0, ev_dis1, ev_bin, ev_neg, ev_boo, ev_not, ev_cmp, ev_chn, ev_ite, ev_idx, ev_slc, ev_call, ev_blt, ev_isi, ev_lstI, x_par, x_aug, x_seti, x_app, x_expr, x_ife, x_ret, x_retN, x_pas, x_brk, x_cnt, x_rse, x_nm, x_tp, evB, evIf, evO, evAs, evDs, evI, evT, evRs, bnd, ok, op1, op2, view, views, tru, frzM, frz, keepA, unslot, slotOf, putA, putAs, putD, nxtO, augD, setiD, appD, retA, asgT, asgTs, blts, liftO, bltD, absD, maxD, minD, int1D, lenD, gcdD, isiD, blsD, intsD, anyD, allD, sumD, tupleD, listD, strD, reprD, keyB, binD, cmpO, cmpD, datB, negD, idxD, getD, ixD, slcD, tyD, D.truth, D.shp, D.shps, D.eqv, D.eqvs, itemsD, rngD, zipO, enumO, intO, isND, doCall, lends, lendA, lentIx, backs, backS, maskS, mask1, hg1, e]
    · obtain ⟨h, eb, k, hk⟩ := e_lback (m + 2) false false (p := g') (x := x') (by omega) (by omega) (by omega) hco
      have same := inv_same (by omega) hf1 hk
      rw [← same] at eb
      replace eb : callN fns (m + 3) 44 _ = _ := eb
      rw [callN]
      simp [fns, d_law_undone, runF, MP.execs, ev_cst, ev_glb, ev_var, ev_tup, ev_lst, ev_dis0, ev_dis1, ev_bin, ev_neg, ev_boo, ev_not, ev_cmp, ev_chn, ev_ite, ev_idx, ev_slc, ev_call, ev_blt, ev_isi, ev_lstI, x_par, x_aug, x_seti, x_app, x_expr, x_ife, x_ret, x_retN, x_pas, x_brk, x_cnt, x_rse, x_nm, x_tp, evB, evIf, evO, evAs, evDs, evI, evT, evRs, bnd, ok, op1, op2, view, views, tru, frzM, frz, keepA, unslot, slotOf, putA, putAs, putD, nxtO, augD, setiD, appD, retA, asgT, asgTs, blts, liftO, bltD, absD, maxD, minD, int1D, lenD, gcdD, isiD, blsD, intsD, anyD, allD, sumD, tupleD, listD, strD, reprD, keyB, binD, cmpO, cmpD, datB, negD, idxD, getD, ixD, slcD, tyD, D.truth, D.shp, D.shps, D.eqv, D.eqvs, itemsD, rngD, zipO, enumO, intO, isND, doCall, lends, lendA, lentIx, backs, backS, maskS, mask1, hg1, eb]
  | @frac x y l h1 h2 =>
    have hx0 : x ≠ 0 := by
      intro z
      subst z
      have co := l.co
      have p := l.pos
      rw [show (0 : Int).natAbs = 0 from rfl, Nat.gcd_zero_left] at co
      have y1 : y = 1 := by omega
      subst y1
      simp [zeroB] at hz
    obtain ⟨u, v, ef, l2, _, b1, b2⟩ := frac_spec (a := y) (b := x) hx0
    have hs := shared_le (a := y) (b := x) hx0
    have bs : bits (shared y x) < 9000 := Nat.lt_trans (bits_small (k := 300) (by omega) (by omega)) (by omega)
    refine ⟨.tup [.int u, .int v], .frac l2 (by omega) (by omega), fun m => ?_, fun m => ?_⟩
    · have k1 := run_fraction_in r12 (m + 2) false false y x hx0 bs
      replace k1 : callN fns (m + 3) 12 _ = some (.ok (.dat (fracD y x)), _) := k1
      rw [ef] at k1
      rw [callN]
      simp [fns, d_undone, runF, MP.execs, ev_cst, ev_glb, ev_var, ev_tup, ev_lst, ev_dis0, ev_dis1, ev_bin, ev_neg, ev_boo, ev_not, ev_cmp, ev_chn, ev_ite, ev_idx, ev_slc, ev_call, ev_blt, ev_isi, ev_lstI, x_par, x_aug, x_seti, x_app, x_expr, x_ife, x_ret, x_retN, x_pas, x_brk, x_cnt, x_rse, x_nm, x_tp, evB, evIf, evO, evAs, evDs, evI, evT, evRs, bnd, ok, op1, op2, view, views, tru, frzM, frz, keepA, unslot, slotOf, putA, putAs, putD, nxtO, augD, setiD, appD, retA, asgT, asgTs, blts, liftO, bltD, absD, maxD, minD, int1D, lenD, gcdD, isiD, blsD, intsD, anyD, allD, sumD, tupleD, listD, strD, reprD, keyB, binD, cmpO, cmpD, datB, negD, idxD, getD, ixD, slcD, tyD, D.truth, D.shp, D.shps, D.eqv, D.eqvs, itemsD, rngD, zipO, enumO, intO, isND, doCall, lends, lendA, lentIx, backs, backS, maskS, mask1, k1]
    · have k2 := e_lfrac (m + 1) false false (a := y) (b := x) hx0 bs
      replace k2 : callN fns (m + 3) 43 _ = _ := k2
      rw [ef] at k2
      rw [callN]
      simp [fns, d_law_undone, runF, MP.execs, ev_cst, ev_glb, ev_var, ev_tup, ev_lst, ev_dis0, ev_dis1, ev_bin, ev_neg, ev_boo, ev_not, ev_cmp, ev_chn, ev_ite, ev_idx, ev_slc, ev_call, ev_blt, ev_isi, ev_lstI, x_par, x_aug, x_seti, x_app, x_expr, x_ife, x_ret, x_retN, x_pas, x_brk, x_cnt, x_rse, x_nm, x_tp, evB, evIf, evO, evAs, evDs, evI, evT, evRs, bnd, ok, op1, op2, view, views, tru, frzM, frz, keepA, unslot, slotOf, putA, putAs, putD, nxtO, augD, setiD, appD, retA, asgT, asgTs, blts, liftO, bltD, absD, maxD, minD, int1D, lenD, gcdD, isiD, blsD, intsD, anyD, allD, sumD, tupleD, listD, strD, reprD, keyB, binD, cmpO, cmpD, datB, negD, idxD, getD, ixD, slcD, tyD, D.truth, D.shp, D.shps, D.eqv, D.eqvs, itemsD, rngD, zipO, enumO, intO, isND, doCall, lends, lendA, lentIx, backs, backS, maskS, mask1, k2]
end K00
set_option Elab.async false
set_option linter.all false
set_option maxRecDepth 100000
set_option maxHeartbeats 2000000
namespace K00
open PySem MP
def MP20 : Nat := (10 ^ 60) ^ 20
theorem hMP20 : (2 * MP20 * MP20 + 1).log2 < 9000 := by decide +kernel
theorem pow_le20 {x : Int} {i : Nat} (h : x.natAbs < 10 ^ 60) (hi : i ≤ 20) : (x ^ i).natAbs ≤ MP20 := by
  rw [Int.natAbs_pow]
  exact Nat.le_trans (Nat.pow_le_pow_left (Nat.le_of_lt h) i) (Nat.pow_le_pow_right (by decide) hi)
/-- the powers of a number of the ground g -/
theorem s_powers (E : Nat) {g : Int} {z : D} (G : Gr g) (hz : Nm g z) (h0 : g = 0 → E ≤ 20) : ∃ pw : Nat → D, (∀ k, Shape (pw k)) ∧ z = pw 1 ∧ (∀ m, callN fns (m + 3) 15 [.val false (.int g)] = some (.ok (.dat (pw 0)), [.non])) ∧ (∀ m, callN fns (m + 3) 46 [.val false (.int g)] = some (.ok (.dat (pw 0)), [.non])) ∧
    (∀ m i j, i + j ≤ E → callN fns (m + 3) 20 [.val false (.int g), .val false (pw i), .val false (pw j)] = some (.ok (.dat (pw (i + j))), [.non, .non, .non])) ∧
    (∀ m i j, i + j ≤ E → callN fns (m + 3) 49 [.val false (.int g), .val false (pw i), .val false (pw j)] = some (.ok (.dat (pw (i + j))), [.non, .non, .non])) ∧ (∀ x, z = .int x → pw = pwG g x) ∧ (∀ x y, z = .tup [.int x, .int y] → pw = pw0 x y) := by
  cases hz with
  | @rest _ x g0 h1 h2 =>
    have gle := G.le
    have g2 : 2 ≤ g := by
      rcases G.co with z | ⟨z, _⟩
      · omega
      · exact z
    have hg0 : g ≠ 0 := by omega
    have small : ∀ k : Nat, bits ((x ^ k).fmod g) < 64 := fun k => by
      have := fmod_pos (x ^ k) (m := g) (by omega)
      exact bits_small (by omega) (by omega)
    have one : (1 : Int).fmod g = 1 := by rw [Int.fmod_eq_emod_of_nonneg _ (by omega)]; exact Int.emod_eq_of_lt (by omega) (by omega)
    refine ⟨pwG g x, fun k => .int _, ?_, fun m => ?_, fun m => ?_, fun m i j _ => ?_, fun m i j _ => ?_, fun x' e => (by cases e; rfl), fun _ _ e => (by cases e)⟩
    · unfold pwG
      rw [Int.pow_one, Int.fmod_eq_emod_of_nonneg _ (by omega), Int.emod_eq_of_lt h1 h2]
    · have := e_unit (g := g) (t := false) (m := m + 1)
      rw [if_neg hg0] at this
      unfold pwG
      rw [Int.pow_zero]
      exact this
    · have := e_lunit (m + 2) false g
      rw [if_neg hg0] at this
      unfold pwG
      rw [Int.pow_zero, one]
      exact this
    · have := run_timesG (a := (x ^ i).fmod g) (b := (x ^ j).fmod g) r20 (m + 2) false false false hg0 (by have := small i; have := small j; omega)
      rw [pwG_mul (by omega)] at this
      exact this
    · have := e_ltimesG (a := (x ^ i).fmod g) (b := (x ^ j).fmod g) (m + 2) false false false hg0 (by have := small i; have := small j; omega)
      rw [pwG_mul (by omega)] at this
      exact this
  | @frac x y l h1 h2 =>
    have hE := h0 rfl
    have yp : ∀ k : Nat, y ^ k ≠ 0 := fun k => by have := (low_pow l k).pos; omega
    refine ⟨pw0 x y, fun k => .pair _ _, ?_, fun m => ?_, fun m => ?_, fun m i j hij => ?_, fun m i j hij => ?_, fun x' e => (by cases e), fun _ _ e => (by cases e; rfl)⟩
    · unfold pw0
      rw [Int.pow_one, Int.pow_one]
    · have := e_unit (g := 0) (t := false) (m := m + 1)
      rw [if_pos rfl] at this
      unfold pw0
      rw [Int.pow_zero, Int.pow_zero]
      exact this
    · have := e_lunit (m + 2) false 0
      rw [if_pos rfl] at this
      unfold pw0
      rw [Int.pow_zero, Int.pow_zero]
      exact this
    · have := run_times0 (a := x ^ i) (b := y ^ i) (c := x ^ j) (d := y ^ j) r12 r20 (m + 1) false false false hMP20 (pow_le20 h1 (by omega)) (pow_le20 h2 (by omega)) (pow_le20 h1 (by omega)) (pow_le20 h2 (by omega)) (yp i) (yp j)
      rw [frac_pow l] at this
      exact this
    · have := e_ltimes0 (a := x ^ i) (b := y ^ i) (c := x ^ j) (d := y ^ j) m false false false hMP20 (pow_le20 h1 (by omega)) (pow_le20 h2 (by omega)) (pow_le20 h1 (by omega)) (pow_le20 h2 (by omega)) (yp i) (yp j)
      rw [frac_pow l] at this
      exact this
theorem s_raised {g e : Int} {x : D} (G : Gr g) (hx : Nm g x) (he : e.natAbs ≤ 1000) (h0 : g = 0 → e.natAbs ≤ 20) (hz : e < 0 → zeroB x = false) : ∃ r, Shape r ∧ (∀ m, callN fns (m + 5) 23 [.val false (.int g), .val false x, .val false (.int e)] = some (.ok (.dat r), [.non, .non, .non])) ∧
    ∀ m, callN fns (m + 5) 53 [.val false (.int g), .val false x, .val false (.int e)] = some (.ok (.dat r), [.non, .non, .non]) := by
  by_cases hn : e < 0
  · obtain ⟨z, hzN, u1, u2⟩ := s_undone G hx (hz hn)
    obtain ⟨pw, sh, rfl, k1, k2, k3, k4, _⟩ := s_powers e.natAbs G hzN h0
    exact ⟨_, sh _, fun m => run_raised (i_times := 20) (i_undone := 21) (i_unit := 15) (m := m + 4) r23 false false false (by omega) pw (k3 (m + 1)) (k1 (m + 1)) (fun h => absurd h (by omega)) (fun _ => u1 m),
      fun m => e_nupow false false false (by omega) pw (k4 (m + 1)) (k2 (m + 1)) (fun h => absurd h (by omega)) (fun _ => u2 m)⟩
  · obtain ⟨pw, sh, rfl, k1, k2, k3, k4, _⟩ := s_powers e.natAbs G hx h0
    exact ⟨_, sh _, fun m => run_raised (i_times := 20) (i_undone := 21) (i_unit := 15) (m := m + 4) r23 false false false (by omega) pw (k3 (m + 1)) (k1 (m + 1)) (fun _ => rfl) (fun h => absurd h hn),
      fun m => e_nupow false false false (by omega) pw (k4 (m + 1)) (k2 (m + 1)) (fun _ => rfl) (fun h => absurd h hn)⟩
end K00
set_option Elab.async false
set_option linter.all false
set_option maxRecDepth 100000
set_option maxHeartbeats 2000000
namespace K00
open PySem MP
def zeroD (g : Int) : D := if g = 0 then .tup [.int 0, .int 1] else .int 0
theorem Nm.shp {g : Int} {x : D} (h : Nm g x) : D.shp 12 x = true := by
  cases h <;> simp [D.shp, D.shps]
theorem zeroD_shp (g : Int) : D.shp 12 (zeroD g) = true := by
  unfold zeroD
  split <;> simp [D.shp, D.shps]
theorem Nm.eqz {g : Int} {x : D} (h : Nm g x) : D.eqv x (zeroD g) = zeroB x := by
  cases h with
  | rest h0 h1 h2 =>
    unfold zeroD
    rw [if_neg (by omega)]
    simp [D.eqv, zeroB, Bool.beq_eq_decide_eq]
  | frac l h1 h2 =>
    unfold zeroD
    rw [if_pos rfl]
    simp [D.eqv, D.eqvs, zeroB, Bool.beq_eq_decide_eq]
theorem k_zero (n : Nat) (g : Int) : callN fns (n + 1) 45 [.val false (.int g)] = some (.ok (.dat (zeroD g)), [.non]) := e_lzero n false g
/-- both sides of each of the field's laws -/
theorem k_add {g : Int} {x y : D} (G : Gr g) (hx : Nm g x) (hy : Nm g y) : ∃ r, Shape r ∧ (∀ n, callN fns (n + 7) 31 [.val false (.int g), .val false x, .val false y] = some (.ok (.dat r), [.non, .non, .non])) ∧ ∀ n, callN fns (n + 7) 47 [.val false (.int g), .val false x, .val false y] = some (.ok (.dat r), [.non, .non, .non]) := by
  obtain ⟨r, s, e1, e2⟩ := s_plus hx hy
  exact ⟨r, s, fun n => e_added G.ok hx hy (e1 (n + 3)), fun n => e2 (n + 4)⟩
theorem k_sub {g : Int} {x y : D} (G : Gr g) (hx : Nm g x) (hy : Nm g y) : ∃ r y', Shape r ∧ (∀ n, callN fns (n + 7) 32 [.val false (.int g), .val false x, .val false y] = some (.ok (.dat r), [.non, .non, .non])) ∧ (∀ n, callN fns (n + 7) 48 [.val false (.int g), .val false y] = some (.ok (.dat y'), [.non, .non])) ∧ ∀ n, callN fns (n + 7) 47 [.val false (.int g), .val false x, .val false y'] = some (.ok (.dat r), [.non, .non, .non]) := by
  obtain ⟨y', hy', o1, o2⟩ := s_opp hy
  obtain ⟨r, s, e1, e2⟩ := s_plus hx hy'
  exact ⟨r, y', s, fun n => e_subtracted G.ok hx hy (e_minus (m := n + 5) (o1 (n + 4)) (e1 (n + 2))), fun n => o2 (n + 6), fun n => e2 (n + 4)⟩
theorem k_mul {g : Int} {x y : D} (G : Gr g) (hx : Nm g x) (hy : Nm g y) : ∃ r, Shape r ∧ (∀ n, callN fns (n + 7) 33 [.val false (.int g), .val false x, .val false y] = some (.ok (.dat r), [.non, .non, .non])) ∧ ∀ n, callN fns (n + 7) 49 [.val false (.int g), .val false x, .val false y] = some (.ok (.dat r), [.non, .non, .non]) := by
  obtain ⟨r, s, e1, e2⟩ := s_times G.le hx hy
  exact ⟨r, s, fun n => e_multiplied G.ok hx hy (e1 (n + 3)), fun n => e2 (n + 4)⟩
theorem k_div {g : Int} {x y : D} (G : Gr g) (hx : Nm g x) (hy : Nm g y) (hz : zeroB y = false) : ∃ r y', Shape r ∧ (∀ n, callN fns (n + 7) 34 [.val false (.int g), .val false x, .val false y] = some (.ok (.dat r), [.non, .non, .non])) ∧ (∀ n, callN fns (n + 7) 50 [.val false (.int g), .val false y] = some (.ok (.dat y'), [.non, .non])) ∧ ∀ n, callN fns (n + 7) 49 [.val false (.int g), .val false x, .val false y'] = some (.ok (.dat r), [.non, .non, .non]) := by
  obtain ⟨y', hy', o1, o2⟩ := s_undone G hy hz
  obtain ⟨r, s, e1, e2⟩ := s_times G.le hx hy'
  refine ⟨r, y', s, fun n => ?_, fun n => o2 (n + 3), fun n => e2 (n + 4)⟩
  have z := e_is_zero (t := false) (t1 := false) (m := n + 3) hy
  rw [hz] at z
  exact e_divided G.ok hx hy z (e_over (m := n + 5) (o1 (n + 1)) (e1 (n + 2)))
theorem k_pow {g e : Int} {x : D} (G : Gr g) (hx : Nm g x) (he : e.natAbs ≤ 1000) (h0 : g = 0 → e.natAbs ≤ 20) (hz : e < 0 → zeroB x = false) : ∃ r, Shape r ∧ (∀ n, callN fns (n + 7) 35 [.val false (.int g), .val false x, .val false (.int e)] = some (.ok (.dat r), [.non, .non, .non])) ∧ ∀ n, callN fns (n + 7) 53 [.val false (.int g), .val false x, .val false (.int e)] = some (.ok (.dat r), [.non, .non, .non]) := by
  obtain ⟨r, s, e1, e2⟩ := s_raised G hx he h0 hz
  exact ⟨r, s, fun n => e_raised G.ok hx he hz (e1 (n + 1)), fun n => e2 (n + 2)⟩
end K00
set_option Elab.async false
set_option linter.all false
set_option maxRecDepth 100000
set_option maxHeartbeats 4000000
namespace K00
open PySem MP
theorem k_whole (n : Nat) {g x : Int} (G : Gr g) (h1 : -1000000000000000000000000000000000000000000000000000000000000 < x) (h2 : x < 1000000000000000000000000000000000000000000000000000000000000) : callN fns (n + 7) 29 [.val false (.int g), .val false (.int x)] = some (.ok (.dat (if g = 0 then .tup [.int x, .int 1] else .int (x.fmod g))), [.non, .non]) := by
  have k1 := req_ground (n + 2) false G.ok
  have ki := run_integer r0 r1 (n + 3) false (.int x)
  rw [(intB_iff x).mpr ⟨h1, h2⟩] at ki
  have k2 := run_req_integer (t := false) r9 ki
  have k3 := run_whole_in r13 (n + 5) false false g x
  replace k1 : callN fns (n + 6) 7 _ = _ := k1
  replace k2 : callN fns (n + 6) 9 _ = _ := k2
  replace k3 : callN fns (n + 6) 13 _ = _ := k3
  rw [callN]
  simp [fns, d_whole, runF, MP.execs, ev_cst, ev_glb, ev_var, ev_tup, ev_lst, ev_dis0, ev_dis1, ev_bin, ev_neg, ev_boo, ev_not, ev_cmp, ev_chn, ev_ite, ev_idx, ev_slc, ev_call, ev_blt, ev_isi, ev_lstI, x_par, x_aug, x_seti, x_app, x_expr, x_ife, x_ret, x_retN, x_pas, x_brk, x_cnt, x_rse, x_nm, x_tp, evB, evIf, evO, evAs, evDs, evI, evT, evRs, bnd, ok, op1, op2, view, views, tru, frzM, frz, keepA, unslot, slotOf, putA, putAs, putD, nxtO, augD, setiD, appD, retA, asgT, asgTs, blts, liftO, bltD, absD, maxD, minD, int1D, lenD, gcdD, isiD, blsD, intsD, anyD, allD, sumD, tupleD, listD, strD, reprD, keyB, binD, cmpO, cmpD, datB, negD, idxD, getD, ixD, slcD, tyD, D.truth, D.shp, D.shps, D.eqv, D.eqvs, itemsD, rngD, zipO, enumO, intO, isND, doCall, lends, lendA, lentIx, backs, backS, maskS, mask1, k1, k2, k3]
theorem dice_le {L L' : Int} {d : D} (h : Dice L d) (hl : L ≤ L') : Dice L' d := by
  obtain ⟨a, b, c, e, h1, h2⟩ := h
  exact ⟨a, b, c, e, h1, by omega⟩
theorem e_field (n : Nat) {d : D} {L : Int} (hd : Dice L d) (hL : L < 2 ^ 58) : ∃ d', callN fns (n + 8) 54 [.own true d] = some (.ok (.dat (.bl true)), [.own true d']) ∧ Dice (L + 20) d' := by
  obtain ⟨g, d1, e1, G, hd1⟩ := e_nu_ground (n + 4) hd (by omega)
  replace e1 : callN fns (n + 7) 51 _ = _ := e1
  have g0 : 0 ≤ g := by rcases G.co with z | ⟨z, _⟩ <;> omega
  obtain ⟨x, d2, e2, hx, hd2⟩ := e_nu_drawn (n + 4) false g0 G.le hd1 (by omega)
  obtain ⟨y, d3, e3, hy, hd3⟩ := e_nu_drawn (n + 4) false g0 G.le hd2 (by omega)
  replace e2 : callN fns (n + 7) 52 _ = _ := e2
  replace e3 : callN fns (n + 7) 52 _ = _ := e3
  obtain ⟨ra, sa, a1, a2⟩ := k_add G hx hy
  obtain ⟨rs, y', ss, b1, b2, b3⟩ := k_sub G hx hy
  obtain ⟨rm, sm, c1, c2⟩ := k_mul G hx hy
  have kz := k_zero (n + 6) g
  replace kz : callN fns (n + 7) 45 _ = _ := kz
  have zx := hx.eqz
  have zy := hy.eqz
  have px := hx.shp
  have py := hy.shp
  have pz := zeroD_shp g
  have rest : ∀ (far : Int) (d4 : D), far.natAbs ≤ 1000 → (g = 0 → far.natAbs ≤ 20) → Dice (L + 10) d4 → ∃ few d5 q d6, callN fns (n + 7) 41 [.own true d4, .val false (.lst [.int 0, .int 1, .int (-1), .int 2, .int (-2), .int 3, .int far])] = some (.ok (.dat (.int few)), [.own true d5, .non]) ∧ few.natAbs ≤ 1000 ∧ (g = 0 → few.natAbs ≤ 20) ∧
      callN fns (n + 7) 40 [.own true d5, .val false (.int 1999999999999999999999999999999999999999999999999999999999999)] = some (.ok (.dat (.int q)), [.own true d6, .non]) ∧ 0 ≤ q ∧ q < 1999999999999999999999999999999999999999999999999999999999999 ∧ Dice (L + 12) d6 := fun far d4 f1 f2 hd4 => by
    obtain ⟨z, d5, hz, e5, hd5⟩ := run_pick (P := fns) (f := 41) (r := 40) rfl rfl (n + 5) hd4 (by omega) false (xs := [.int 0, .int 1, .int (-1), .int 2, .int (-2), .int 3, .int far]) (by simp) (by simp only [List.length_cons, List.length_nil]; decide)
    replace e5 : callN fns (n + 7) 41 _ = _ := e5
    obtain ⟨q, d6, e6, q1, q2, hd6⟩ := run_roll (P := fns) (f := 40) rfl (n + 6) hd5 (by omega) false (m := 1999999999999999999999999999999999999999999999999999999999999) (by omega) (by decide +kernel)
    replace e6 : callN fns (n + 7) 40 _ = _ := e6
    obtain ⟨few, rfl, w1, w2⟩ : ∃ few, z = .int few ∧ few.natAbs ≤ 1000 ∧ (g = 0 → few.natAbs ≤ 20) := by
      simp only [List.mem_cons, List.not_mem_nil, or_false] at hz
      rcases hz with rfl | rfl | rfl | rfl | rfl | rfl | rfl
      · exact ⟨_, rfl, by omega, fun _ => by omega⟩
      · exact ⟨_, rfl, by omega, fun _ => by omega⟩
      · exact ⟨_, rfl, by omega, fun _ => by omega⟩
      · exact ⟨_, rfl, by omega, fun _ => by omega⟩
      · exact ⟨_, rfl, by omega, fun _ => by omega⟩
      · exact ⟨_, rfl, by omega, fun _ => by omega⟩
      · exact ⟨_, rfl, f1, f2⟩
    exact ⟨few, d5, q, d6, e5, w1, w2, e6, q1, q2, dice_le hd6 (by omega)⟩
  have kw : ∀ q : Int, 0 ≤ q → q < 1999999999999999999999999999999999999999999999999999999999999 → callN fns (n + 7) 29 [.val false (.int g), .val false (.int (q - 1000000000000000000000000000000000000000000000000000000000000 + 1))] = _ := fun q q1 q2 => k_whole n (g := g) (x := q - 1000000000000000000000000000000000000000000000000000000000000 + 1) G (by omega) (by omega)
  have m1 : bits 2 + bits 1000000000000000000000000000000000000000000000000000000000000 < 1000000 := by decide +kernel
  have fin : ∀ e : Int, e.natAbs ≤ 1000 → (g = 0 → e.natAbs ≤ 20) → (e < 0 → zeroB x = false) → ∃ r, Shape r ∧ callN fns (n + 7) 35 [.val false (.int g), .val false x, .val false (.int e)] = some (.ok (.dat r), [.non, .non, .non]) ∧ callN fns (n + 7) 53 [.val false (.int g), .val false x, .val false (.int e)] = some (.ok (.dat r), [.non, .non, .non]) := fun e h1 h2 h3 => by
    obtain ⟨r, s, k1, k2⟩ := k_pow G hx h1 h2 h3
    exact ⟨r, s, k1 n, k2 n⟩
  by_cases hg : g = 0
  · subst hg
    obtain ⟨r, d4, e4, r1, r2, hd4⟩ := run_roll (P := fns) (f := 40) rfl (n + 6) hd3 (by omega) false (m := 41) (by omega) (by decide +kernel)
    replace e4 : callN fns (n + 7) 40 _ = _ := e4
    obtain ⟨few, d5, q, d6, e5, w1, w2, e6, q1, q2, hd6⟩ := rest (r - 20) d4 (by omega) (fun _ => by omega) (dice_le hd4 (by omega))
    replace kw := kw q q1 q2
    rw [if_pos rfl] at kw
    refine ⟨d6, ?_, dice_le hd6 (by omega)⟩
    rw [callN]
    cases hzy : zeroB y with
    | false =>
      obtain ⟨rd, y2, sd, t1, t2, t3⟩ := k_div G hx hy hzy
      cases hzx : zeroB x with
      | false =>
        obtain ⟨rp, sp, p1, p2⟩ := fin few w1 w2 (fun _ => hzx)
        simp [fns, d_law_field_right, runF, MP.execs, ev_cst, ev_glb, ev_var, ev_tup, ev_lst, ev_dis0, ev_dis1, ev_bin, ev_neg, ev_boo, ev_not, ev_cmp, ev_chn, ev_ite, ev_idx, ev_slc, ev_call, ev_blt, ev_isi, ev_lstI, x_par, x_aug, x_seti, x_app, x_expr, x_ife, x_ret, x_retN, x_pas, x_brk, x_cnt, x_rse, x_nm, x_tp, evB, evIf, evO, evAs, evDs, evI, evT, evRs, bnd, ok, op1, op2, view, views, tru, frzM, frz, keepA, unslot, slotOf, putA, putAs, putD, nxtO, augD, setiD, appD, retA, asgT, asgTs, blts, liftO, bltD, absD, maxD, minD, int1D, lenD, gcdD, isiD, blsD, intsD, anyD, allD, sumD, tupleD, listD, strD, reprD, keyB, binD, cmpO, cmpD, datB, negD, idxD, getD, ixD, slcD, tyD, D.truth, D.shp, D.shps, D.eqv, D.eqvs, itemsD, rngD, zipO, enumO, intO, isND, doCall, lends, lendA, lentIx, backs, backS, maskS, mask1, e1, e2, e3, a1, a2, b1, b2, b3, c1, c2, kz, zx, zy, px, py, pz, hzx, hzy, e4, e5, p1, p2, e6, kw, m1, sa.shp, ss.shp, sm.shp, sp.shp, t1, t2, t3, sd.shp]
      | true =>
        by_cases hn : few < 0
        · obtain ⟨rp, sp, p1, p2⟩ := fin (-few) (by omega) (fun h => by have := w2 h; omega) (fun h => absurd h (by omega))
          simp [fns, d_law_field_right, runF, MP.execs, ev_cst, ev_glb, ev_var, ev_tup, ev_lst, ev_dis0, ev_dis1, ev_bin, ev_neg, ev_boo, ev_not, ev_cmp, ev_chn, ev_ite, ev_idx, ev_slc, ev_call, ev_blt, ev_isi, ev_lstI, x_par, x_aug, x_seti, x_app, x_expr, x_ife, x_ret, x_retN, x_pas, x_brk, x_cnt, x_rse, x_nm, x_tp, evB, evIf, evO, evAs, evDs, evI, evT, evRs, bnd, ok, op1, op2, view, views, tru, frzM, frz, keepA, unslot, slotOf, putA, putAs, putD, nxtO, augD, setiD, appD, retA, asgT, asgTs, blts, liftO, bltD, absD, maxD, minD, int1D, lenD, gcdD, isiD, blsD, intsD, anyD, allD, sumD, tupleD, listD, strD, reprD, keyB, binD, cmpO, cmpD, datB, negD, idxD, getD, ixD, slcD, tyD, D.truth, D.shp, D.shps, D.eqv, D.eqvs, itemsD, rngD, zipO, enumO, intO, isND, doCall, lends, lendA, lentIx, backs, backS, maskS, mask1, e1, e2, e3, a1, a2, b1, b2, b3, c1, c2, kz, zx, zy, px, py, pz, hzx, hzy, e4, e5, p1, p2, e6, kw, m1, sa.shp, ss.shp, sm.shp, sp.shp, t1, t2, t3, sd.shp, hn]
        · obtain ⟨rp, sp, p1, p2⟩ := fin few w1 w2 (fun h => absurd h hn)
          simp [fns, d_law_field_right, runF, MP.execs, ev_cst, ev_glb, ev_var, ev_tup, ev_lst, ev_dis0, ev_dis1, ev_bin, ev_neg, ev_boo, ev_not, ev_cmp, ev_chn, ev_ite, ev_idx, ev_slc, ev_call, ev_blt, ev_isi, ev_lstI, x_par, x_aug, x_seti, x_app, x_expr, x_ife, x_ret, x_retN, x_pas, x_brk, x_cnt, x_rse, x_nm, x_tp, evB, evIf, evO, evAs, evDs, evI, evT, evRs, bnd, ok, op1, op2, view, views, tru, frzM, frz, keepA, unslot, slotOf, putA, putAs, putD, nxtO, augD, setiD, appD, retA, asgT, asgTs, blts, liftO, bltD, absD, maxD, minD, int1D, lenD, gcdD, isiD, blsD, intsD, anyD, allD, sumD, tupleD, listD, strD, reprD, keyB, binD, cmpO, cmpD, datB, negD, idxD, getD, ixD, slcD, tyD, D.truth, D.shp, D.shps, D.eqv, D.eqvs, itemsD, rngD, zipO, enumO, intO, isND, doCall, lends, lendA, lentIx, backs, backS, maskS, mask1, e1, e2, e3, a1, a2, b1, b2, b3, c1, c2, kz, zx, zy, px, py, pz, hzx, hzy, e4, e5, p1, p2, e6, kw, m1, sa.shp, ss.shp, sm.shp, sp.shp, t1, t2, t3, sd.shp, hn]
    | true =>
      cases hzx : zeroB x with
      | false =>
        obtain ⟨rp, sp, p1, p2⟩ := fin few w1 w2 (fun _ => hzx)
        simp [fns, d_law_field_right, runF, MP.execs, ev_cst, ev_glb, ev_var, ev_tup, ev_lst, ev_dis0, ev_dis1, ev_bin, ev_neg, ev_boo, ev_not, ev_cmp, ev_chn, ev_ite, ev_idx, ev_slc, ev_call, ev_blt, ev_isi, ev_lstI, x_par, x_aug, x_seti, x_app, x_expr, x_ife, x_ret, x_retN, x_pas, x_brk, x_cnt, x_rse, x_nm, x_tp, evB, evIf, evO, evAs, evDs, evI, evT, evRs, bnd, ok, op1, op2, view, views, tru, frzM, frz, keepA, unslot, slotOf, putA, putAs, putD, nxtO, augD, setiD, appD, retA, asgT, asgTs, blts, liftO, bltD, absD, maxD, minD, int1D, lenD, gcdD, isiD, blsD, intsD, anyD, allD, sumD, tupleD, listD, strD, reprD, keyB, binD, cmpO, cmpD, datB, negD, idxD, getD, ixD, slcD, tyD, D.truth, D.shp, D.shps, D.eqv, D.eqvs, itemsD, rngD, zipO, enumO, intO, isND, doCall, lends, lendA, lentIx, backs, backS, maskS, mask1, e1, e2, e3, a1, a2, b1, b2, b3, c1, c2, kz, zx, zy, px, py, pz, hzx, hzy, e4, e5, p1, p2, e6, kw, m1, sa.shp, ss.shp, sm.shp, sp.shp]
      | true =>
        by_cases hn : few < 0
        · obtain ⟨rp, sp, p1, p2⟩ := fin (-few) (by omega) (fun h => by have := w2 h; omega) (fun h => absurd h (by omega))
          simp [fns, d_law_field_right, runF, MP.execs, ev_cst, ev_glb, ev_var, ev_tup, ev_lst, ev_dis0, ev_dis1, ev_bin, ev_neg, ev_boo, ev_not, ev_cmp, ev_chn, ev_ite, ev_idx, ev_slc, ev_call, ev_blt, ev_isi, ev_lstI, x_par, x_aug, x_seti, x_app, x_expr, x_ife, x_ret, x_retN, x_pas, x_brk, x_cnt, x_rse, x_nm, x_tp, evB, evIf, evO, evAs, evDs, evI, evT, evRs, bnd, ok, op1, op2, view, views, tru, frzM, frz, keepA, unslot, slotOf, putA, putAs, putD, nxtO, augD, setiD, appD, retA, asgT, asgTs, blts, liftO, bltD, absD, maxD, minD, int1D, lenD, gcdD, isiD, blsD, intsD, anyD, allD, sumD, tupleD, listD, strD, reprD, keyB, binD, cmpO, cmpD, datB, negD, idxD, getD, ixD, slcD, tyD, D.truth, D.shp, D.shps, D.eqv, D.eqvs, itemsD, rngD, zipO, enumO, intO, isND, doCall, lends, lendA, lentIx, backs, backS, maskS, mask1, e1, e2, e3, a1, a2, b1, b2, b3, c1, c2, kz, zx, zy, px, py, pz, hzx, hzy, e4, e5, p1, p2, e6, kw, m1, sa.shp, ss.shp, sm.shp, sp.shp, hn]
        · obtain ⟨rp, sp, p1, p2⟩ := fin few w1 w2 (fun h => absurd h hn)
          simp [fns, d_law_field_right, runF, MP.execs, ev_cst, ev_glb, ev_var, ev_tup, ev_lst, ev_dis0, ev_dis1, ev_bin, ev_neg, ev_boo, ev_not, ev_cmp, ev_chn, ev_ite, ev_idx, ev_slc, ev_call, ev_blt, ev_isi, ev_lstI, x_par, x_aug, x_seti, x_app, x_expr, x_ife, x_ret, x_retN, x_pas, x_brk, x_cnt, x_rse, x_nm, x_tp, evB, evIf, evO, evAs, evDs, evI, evT, evRs, bnd, ok, op1, op2, view, views, tru, frzM, frz, keepA, unslot, slotOf, putA, putAs, putD, nxtO, augD, setiD, appD, retA, asgT, asgTs, blts, liftO, bltD, absD, maxD, minD, int1D, lenD, gcdD, isiD, blsD, intsD, anyD, allD, sumD, tupleD, listD, strD, reprD, keyB, binD, cmpO, cmpD, datB, negD, idxD, getD, ixD, slcD, tyD, D.truth, D.shp, D.shps, D.eqv, D.eqvs, itemsD, rngD, zipO, enumO, intO, isND, doCall, lends, lendA, lentIx, backs, backS, maskS, mask1, e1, e2, e3, a1, a2, b1, b2, b3, c1, c2, kz, zx, zy, px, py, pz, hzx, hzy, e4, e5, p1, p2, e6, kw, m1, sa.shp, ss.shp, sm.shp, sp.shp, hn]
  · have hgp : 0 < g := by omega
    obtain ⟨r, d4', e4', r1, r2, hd4'⟩ := run_roll (P := fns) (f := 40) rfl (n + 6) hd3 (by omega) false (m := 401) (by omega) (by decide +kernel)
    replace e4' : callN fns (n + 7) 40 _ = _ := e4'
    obtain ⟨z, d4, hz, e4, hd4⟩ := run_pick (P := fns) (f := 41) (r := 40) rfl rfl (n + 5) hd4' (by omega) false (xs := [.int 1000, .int (-1000), .int (r - 200)]) (by simp) (by simp only [List.length_cons, List.length_nil]; decide)
    replace e4 : callN fns (n + 7) 41 _ = _ := e4
    obtain ⟨far, rfl, hf⟩ : ∃ far, z = .int far ∧ far.natAbs ≤ 1000 := by
      simp only [List.mem_cons, List.not_mem_nil, or_false] at hz
      rcases hz with rfl | rfl | rfl <;> exact ⟨_, rfl, by omega⟩
    obtain ⟨few, d5, q, d6, e5, w1, w2, e6, q1, q2, hd6⟩ := rest far d4 hf (fun h => absurd h hg) (dice_le hd4 (by omega))
    replace kw := kw q q1 q2
    rw [if_neg hg] at kw
    refine ⟨d6, ?_, dice_le hd6 (by omega)⟩
    rw [callN]
    cases hzy : zeroB y with
    | false =>
      obtain ⟨rd, y2, sd, t1, t2, t3⟩ := k_div G hx hy hzy
      cases hzx : zeroB x with
      | false =>
        obtain ⟨rp, sp, p1, p2⟩ := fin few w1 w2 (fun _ => hzx)
        simp [fns, d_law_field_right, runF, MP.execs, ev_cst, ev_glb, ev_var, ev_tup, ev_lst, ev_dis0, ev_dis1, ev_bin, ev_neg, ev_boo, ev_not, ev_cmp, ev_chn, ev_ite, ev_idx, ev_slc, ev_call, ev_blt, ev_isi, ev_lstI, x_par, x_aug, x_seti, x_app, x_expr, x_ife, x_ret, x_retN, x_pas, x_brk, x_cnt, x_rse, x_nm, x_tp, evB, evIf, evO, evAs, evDs, evI, evT, evRs, bnd, ok, op1, op2, view, views, tru, frzM, frz, keepA, unslot, slotOf, putA, putAs, putD, nxtO, augD, setiD, appD, retA, asgT, asgTs, blts, liftO, bltD, absD, maxD, minD, int1D, lenD, gcdD, isiD, blsD, intsD, anyD, allD, sumD, tupleD, listD, strD, reprD, keyB, binD, cmpO, cmpD, datB, negD, idxD, getD, ixD, slcD, tyD, D.truth, D.shp, D.shps, D.eqv, D.eqvs, itemsD, rngD, zipO, enumO, intO, isND, doCall, lends, lendA, lentIx, backs, backS, maskS, mask1, e1, e2, e3, a1, a2, b1, b2, b3, c1, c2, kz, zx, zy, px, py, pz, hzx, hzy, e4, e5, p1, p2, e6, kw, m1, sa.shp, ss.shp, sm.shp, sp.shp, t1, t2, t3, sd.shp, e4', hg, hgp]
      | true =>
        by_cases hn : few < 0
        · obtain ⟨rp, sp, p1, p2⟩ := fin (-few) (by omega) (fun h => by have := w2 h; omega) (fun h => absurd h (by omega))
          simp [fns, d_law_field_right, runF, MP.execs, ev_cst, ev_glb, ev_var, ev_tup, ev_lst, ev_dis0, ev_dis1, ev_bin, ev_neg, ev_boo, ev_not, ev_cmp, ev_chn, ev_ite, ev_idx, ev_slc, ev_call, ev_blt, ev_isi, ev_lstI, x_par, x_aug, x_seti, x_app, x_expr, x_ife, x_ret, x_retN, x_pas, x_brk, x_cnt, x_rse, x_nm, x_tp, evB, evIf, evO, evAs, evDs, evI, evT, evRs, bnd, ok, op1, op2, view, views, tru, frzM, frz, keepA, unslot, slotOf, putA, putAs, putD, nxtO, augD, setiD, appD, retA, asgT, asgTs, blts, liftO, bltD, absD, maxD, minD, int1D, lenD, gcdD, isiD, blsD, intsD, anyD, allD, sumD, tupleD, listD, strD, reprD, keyB, binD, cmpO, cmpD, datB, negD, idxD, getD, ixD, slcD, tyD, D.truth, D.shp, D.shps, D.eqv, D.eqvs, itemsD, rngD, zipO, enumO, intO, isND, doCall, lends, lendA, lentIx, backs, backS, maskS, mask1, e1, e2, e3, a1, a2, b1, b2, b3, c1, c2, kz, zx, zy, px, py, pz, hzx, hzy, e4, e5, p1, p2, e6, kw, m1, sa.shp, ss.shp, sm.shp, sp.shp, t1, t2, t3, sd.shp, e4', hg, hgp, hn]
        · obtain ⟨rp, sp, p1, p2⟩ := fin few w1 w2 (fun h => absurd h hn)
          simp [fns, d_law_field_right, runF, MP.execs, ev_cst, ev_glb, ev_var, ev_tup, ev_lst, ev_dis0, ev_dis1, ev_bin, ev_neg, ev_boo, ev_not, ev_cmp, ev_chn, ev_ite, ev_idx, ev_slc, ev_call, ev_blt, ev_isi, ev_lstI, x_par, x_aug, x_seti, x_app, x_expr, x_ife, x_ret, x_retN, x_pas, x_brk, x_cnt, x_rse, x_nm, x_tp, evB, evIf, evO, evAs, evDs, evI, evT, evRs, bnd, ok, op1, op2, view, views, tru, frzM, frz, keepA, unslot, slotOf, putA, putAs, putD, nxtO, augD, setiD, appD, retA, asgT, asgTs, blts, liftO, bltD, absD, maxD, minD, int1D, lenD, gcdD, isiD, blsD, intsD, anyD, allD, sumD, tupleD, listD, strD, reprD, keyB, binD, cmpO, cmpD, datB, negD, idxD, getD, ixD, slcD, tyD, D.truth, D.shp, D.shps, D.eqv, D.eqvs, itemsD, rngD, zipO, enumO, intO, isND, doCall, lends, lendA, lentIx, backs, backS, maskS, mask1, e1, e2, e3, a1, a2, b1, b2, b3, c1, c2, kz, zx, zy, px, py, pz, hzx, hzy, e4, e5, p1, p2, e6, kw, m1, sa.shp, ss.shp, sm.shp, sp.shp, t1, t2, t3, sd.shp, e4', hg, hgp, hn]
    | true =>
      cases hzx : zeroB x with
      | false =>
        obtain ⟨rp, sp, p1, p2⟩ := fin few w1 w2 (fun _ => hzx)
        simp [fns, d_law_field_right, runF, MP.execs, ev_cst, ev_glb, ev_var, ev_tup, ev_lst, ev_dis0, ev_dis1, ev_bin, ev_neg, ev_boo, ev_not, ev_cmp, ev_chn, ev_ite, ev_idx, ev_slc, ev_call, ev_blt, ev_isi, ev_lstI, x_par, x_aug, x_seti, x_app, x_expr, x_ife, x_ret, x_retN, x_pas, x_brk, x_cnt, x_rse, x_nm, x_tp, evB, evIf, evO, evAs, evDs, evI, evT, evRs, bnd, ok, op1, op2, view, views, tru, frzM, frz, keepA, unslot, slotOf, putA, putAs, putD, nxtO, augD, setiD, appD, retA, asgT, asgTs, blts, liftO, bltD, absD, maxD, minD, int1D, lenD, gcdD, isiD, blsD, intsD, anyD, allD, sumD, tupleD, listD, strD, reprD, keyB, binD, cmpO, cmpD, datB, negD, idxD, getD, ixD, slcD, tyD, D.truth, D.shp, D.shps, D.eqv, D.eqvs, itemsD, rngD, zipO, enumO, intO, isND, doCall, lends, lendA, lentIx, backs, backS, maskS, mask1, e1, e2, e3, a1, a2, b1, b2, b3, c1, c2, kz, zx, zy, px, py, pz, hzx, hzy, e4, e5, p1, p2, e6, kw, m1, sa.shp, ss.shp, sm.shp, sp.shp, e4', hg, hgp]
      | true =>
        by_cases hn : few < 0
        · obtain ⟨rp, sp, p1, p2⟩ := fin (-few) (by omega) (fun h => by have := w2 h; omega) (fun h => absurd h (by omega))
          simp [fns, d_law_field_right, runF, MP.execs, ev_cst, ev_glb, ev_var, ev_tup, ev_lst, ev_dis0, ev_dis1, ev_bin, ev_neg, ev_boo, ev_not, ev_cmp, ev_chn, ev_ite, ev_idx, ev_slc, ev_call, ev_blt, ev_isi, ev_lstI, x_par, x_aug, x_seti, x_app, x_expr, x_ife, x_ret, x_retN, x_pas, x_brk, x_cnt, x_rse, x_nm, x_tp, evB, evIf, evO, evAs, evDs, evI, evT, evRs, bnd, ok, op1, op2, view, views, tru, frzM, frz, keepA, unslot, slotOf, putA, putAs, putD, nxtO, augD, setiD, appD, retA, asgT, asgTs, blts, liftO, bltD, absD, maxD, minD, int1D, lenD, gcdD, isiD, blsD, intsD, anyD, allD, sumD, tupleD, listD, strD, reprD, keyB, binD, cmpO, cmpD, datB, negD, idxD, getD, ixD, slcD, tyD, D.truth, D.shp, D.shps, D.eqv, D.eqvs, itemsD, rngD, zipO, enumO, intO, isND, doCall, lends, lendA, lentIx, backs, backS, maskS, mask1, e1, e2, e3, a1, a2, b1, b2, b3, c1, c2, kz, zx, zy, px, py, pz, hzx, hzy, e4, e5, p1, p2, e6, kw, m1, sa.shp, ss.shp, sm.shp, sp.shp, e4', hg, hgp, hn]
        · obtain ⟨rp, sp, p1, p2⟩ := fin few w1 w2 (fun h => absurd h hn)
          simp [fns, d_law_field_right, runF, MP.execs, ev_cst, ev_glb, ev_var, ev_tup, ev_lst, ev_dis0, ev_dis1, ev_bin, ev_neg, ev_boo, ev_not, ev_cmp, ev_chn, ev_ite, ev_idx, ev_slc, ev_call, ev_blt, ev_isi, ev_lstI, x_par, x_aug, x_seti, x_app, x_expr, x_ife, x_ret, x_retN, x_pas, x_brk, x_cnt, x_rse, x_nm, x_tp, evB, evIf, evO, evAs, evDs, evI, evT, evRs, bnd, ok, op1, op2, view, views, tru, frzM, frz, keepA, unslot, slotOf, putA, putAs, putD, nxtO, augD, setiD, appD, retA, asgT, asgTs, blts, liftO, bltD, absD, maxD, minD, int1D, lenD, gcdD, isiD, blsD, intsD, anyD, allD, sumD, tupleD, listD, strD, reprD, keyB, binD, cmpO, cmpD, datB, negD, idxD, getD, ixD, slcD, tyD, D.truth, D.shp, D.shps, D.eqv, D.eqvs, itemsD, rngD, zipO, enumO, intO, isND, doCall, lends, lendA, lentIx, backs, backS, maskS, mask1, e1, e2, e3, a1, a2, b1, b2, b3, c1, c2, kz, zx, zy, px, py, pz, hzx, hzy, e4, e5, p1, p2, e6, kw, m1, sa.shp, ss.shp, sm.shp, sp.shp, e4', hg, hgp, hn]
end K00
set_option Elab.async false
set_option linter.all false
set_option maxRecDepth 100000
set_option maxHeartbeats 2000000
namespace K00
open PySem MP
/-- alike modulo p -/
def Md (p x y : Int) : Prop := p ∣ x - y
theorem Md.refl (p x : Int) : Md p x x := ⟨0, by omega⟩
theorem Md.symm {p x y : Int} (h : Md p x y) : Md p y x := by
  obtain ⟨k, hk⟩ := h
  exact ⟨-k, by rw [Int.mul_neg]; omega⟩
theorem Md.trans {p x y z : Int} (h : Md p x y) (h' : Md p y z) : Md p x z := by
  obtain ⟨k, hk⟩ := h
  obtain ⟨l, hl⟩ := h'
  exact ⟨k + l, by rw [Int.mul_add]; omega⟩
theorem Md.mul {p x y z w : Int} (h : Md p x y) (h' : Md p z w) : Md p (x * z) (y * w) := by
  obtain ⟨k, hk⟩ := h
  obtain ⟨l, hl⟩ := h'
  refine ⟨k * z + y * l, ?_⟩
  have e1 : x * z - y * w = (x - y) * z + y * (z - w) := by rw [Int.sub_mul, Int.mul_sub]; omega
  rw [e1, hk, hl, Int.mul_add, Int.mul_assoc, Int.mul_left_comm y p l]
theorem Md.add {p x y z w : Int} (h : Md p x y) (h' : Md p z w) : Md p (x + z) (y + w) := by
  obtain ⟨k, hk⟩ := h
  obtain ⟨l, hl⟩ := h'
  exact ⟨k + l, by rw [Int.mul_add]; omega⟩
theorem Md.fmod {p x : Int} (hp : 0 < p) : Md p (x.fmod p) x := by
  have := fdm x p
  exact ⟨-(x.fdiv p), by rw [Int.mul_neg, Int.mul_comm p]; omega⟩
theorem Md.eq {p x y : Int} (h : Md p x y) (hx0 : 0 ≤ x) (hx : x < p) (hy0 : 0 ≤ y) (hy : y < p) : x = y := by
  have e := (Int.emod_eq_emod_iff_emod_sub_eq_zero).mpr (Int.emod_eq_zero_of_dvd h)
  rw [Int.emod_eq_of_lt hx0 hx, Int.emod_eq_of_lt hy0 hy] at e
  exact e
/-- what is coprime to p goes away -/
theorem Md.cancel {p x y z : Int} (hz : Nat.gcd p.natAbs z.natAbs = 1) (h : Md p (x * z) (y * z)) : Md p x y := by
  have h' : p ∣ (x - y) * z := by
    have := h
    unfold Md at this
    rwa [← Int.sub_mul] at this
  rw [← Int.natAbs_dvd_natAbs, Int.natAbs_mul] at h'
  have := Nat.Coprime.dvd_of_dvd_mul_right hz h'
  exact Int.natAbs_dvd_natAbs.mp this
theorem co_mul {p x y : Int} (hx : Nat.gcd p.natAbs x.natAbs = 1) (hy : Nat.gcd p.natAbs y.natAbs = 1) : Nat.gcd p.natAbs (x * y).natAbs = 1 := by
  rw [Int.natAbs_mul]
  exact Nat.Coprime.mul_right hx hy
/-- a prime that the law draws -/
structure Pr (p : Int) : Prop where
  ok : groundB (.int p) = true
  le : p ≤ 9973
  two : 2 ≤ p
  co : ∀ x : Nat, 1 ≤ x → x < p.toNat → Nat.gcd p.toNat x = 1
theorem Pr.cop {p b : Int} (h : Pr p) (hb : b.fmod p ≠ 0) : Nat.gcd p.natAbs b.natAbs = 1 := by
  have h2 := h.two
  have f := fmod_pos b (m := p) (by omega)
  have h3 := h.co (b.fmod p).natAbs (by omega) (by omega)
  have e := gcd_step (h := b) (t := p)
  rw [show p.toNat = p.natAbs by omega, e, Nat.gcd_comm] at h3
  exact h3
theorem Pr.not {p b : Int} (h : Pr p) (hb : b.fmod p = 0) : p ∣ b := by
  rw [Int.fmod_eq_emod_of_nonneg _ (by have := h.two; omega)] at hb
  exact Int.dvd_of_emod_eq_zero hb
/-- read_at: v * b is a, modulo p -/
theorem k_read {p a b : Int} (h : Pr p) (h1 : Nm 0 (.tup [.int a, .int b])) (hb : b.fmod p ≠ 0) : ∃ v : Int, (∀ n, callN fns (n + 7) 38 [.val false (.int p), .val false (.tup [.int a, .int b])] = some (.ok (.dat (.int v)), [.non, .non])) ∧ 0 ≤ v ∧ v < p ∧ Md p (v * b) a := by
  have h2 := h.two
  have hle := h.le
  have cop := h.cop hb
  cases h1 with
  | frac l x1 y1 =>
    have hM : (4 * M60 * M60 + 4 * M60 + 4).log2 < 9000 := by decide +kernel
    have all : ∀ n, ∃ f s : Int, callN fns (n + 5) 25 [.val false (.int b), .val false (.int p)] = some (.ok (.dat (.int (f.fmod p))), [.non, .non]) ∧ f * b + s * p = 1 := fun n => by
      obtain ⟨f, s, e, hf⟩ := run_undone_rest (a := b) (b := p) (M := M60) r24 r25 (n + 3) false false (by omega) (Nat.le_of_lt y1) (by
        have : (9973 : Nat) ≤ M60 := by decide
        omega) hM
      exact ⟨f, s, e, by rw [hf, Nat.gcd_comm, cop]; rfl⟩
    obtain ⟨f, s, _, hf⟩ := all 0
    refine ⟨(a * f.fmod p).fmod p, fun n => ?_, (fmod_pos _ (by omega)).1, (fmod_pos _ (by omega)).2, ?_⟩
    · obtain ⟨f2, s2, e, hf2⟩ := all n
      have same : f.fmod p = f2.fmod p := inv_same (k := -s2) (by omega) hf (by rw [Int.mul_neg, Int.mul_comm p s2]; omega)
      rw [← same] at e
      have fb := fmod_pos f (m := p) (by omega)
      have g1 : bits a + bits (f.fmod p) < 1000000 := by
        have : bits a < 300 := bits_small (by omega) (by omega)
        have : bits (f.fmod p) < 64 := bits_small (by omega) (by omega)
        omega
      have er := e_read_in (t := false) (t1 := false) (n := n + 4) (by omega) e g1
      exact e_read_at (n := n + 1) h.ok (by omega) (.frac l x1 y1) hb er
    · have m1 : Md p (a * f.fmod p) (a * f) := (Md.refl p a).mul (Md.fmod (by omega))
      have m2 : Md p ((a * f.fmod p).fmod p * b) (a * f * b) := ((Md.fmod (by omega)).trans m1).mul (Md.refl p b)
      have m3 : Md p (a * f * b) a := ⟨-(a * s), by
        have : a * f * b = a * (f * b) := Int.mul_assoc _ _ _
        have e : f * b = 1 - s * p := by omega
        rw [this, e, Int.mul_sub, Int.mul_one, ← Int.mul_assoc, Int.mul_neg, Int.mul_comm p]
        omega⟩
      exact m2.trans m3
end K00
set_option Elab.async false
set_option linter.all false
set_option maxRecDepth 100000
set_option maxHeartbeats 2000000
namespace K00
open PySem MP
theorem nz_left {p b d : Int} (h : (b * d).fmod p ≠ 0) (hp : 0 < p) : b.fmod p ≠ 0 := fun z => h (by
  rw [Int.fmod_eq_emod_of_nonneg _ (by omega)] at z ⊢
  exact Int.emod_eq_zero_of_dvd (Int.dvd_trans (Int.dvd_of_emod_eq_zero z) (Int.dvd_mul_right b d)))
theorem nz_right {p b d : Int} (h : (b * d).fmod p ≠ 0) (hp : 0 < p) : d.fmod p ≠ 0 := by
  rw [Int.mul_comm] at h
  exact nz_left h hp
/-- a fraction in lowest terms whose unreduced bottom p does not divide -/
theorem low_nz {p n m x y : Int} (h : Pr p) (l : Low x y) (e : x * m = n * y) (hm : m.fmod p ≠ 0) : y.fmod p ≠ 0 := fun z => by
  have hy := h.not z
  have d1 : p ∣ x * m := by
    rw [e]
    exact Int.dvd_trans hy (Int.dvd_mul_left n y)
  rw [← Int.natAbs_dvd_natAbs, Int.natAbs_mul] at d1
  have d2 : p.natAbs ∣ x.natAbs := Nat.Coprime.dvd_of_dvd_mul_right (h.cop hm) d1
  have d3 : p.natAbs ∣ y.natAbs := Int.natAbs_dvd_natAbs.mpr hy
  have d4 := Nat.dvd_gcd d2 d3
  rw [l.co] at d4
  have := Nat.le_of_dvd (by omega) d4
  have := h.two
  omega
/-- the read of a fraction is known by its unreduced form -/
theorem read_by {p n m x y v w : Int} (h : Pr p) (l : Low x y) (e : x * m = n * y) (hm : m.fmod p ≠ 0) (hv : Md p (v * y) x) (hw : Md p (w * m) n) : Md p v w := by
  have hy := low_nz h l e hm
  have h1 : Md p (v * y * m) (x * m) := hv.mul (Md.refl p m)
  have h2 : Md p (w * m * y) (n * y) := hw.mul (Md.refl p y)
  rw [e] at h1
  have h3 : Md p (v * (y * m)) (w * (y * m)) := by
    have a1 : v * (y * m) = v * y * m := (Int.mul_assoc _ _ _).symm
    have a2 : w * (y * m) = w * m * y := by rw [Int.mul_comm y m, Int.mul_assoc]
    rw [a1, a2]
    exact h1.trans h2.symm
  exact Md.cancel (co_mul (h.cop hy) (h.cop hm)) h3
theorem k_sums {p a b c d : Int} (h : Pr p) (l1 : Low a b) (l2 : Low c d) (a1 : a.natAbs ≤ 100) (b1 : b.natAbs ≤ 100) (c1 : c.natAbs ≤ 100) (d1 : d.natAbs ≤ 100) (hbd : (b * d).fmod p ≠ 0) : ∃ v w s q : Int, ∃ rs rq : D,
    (∀ n, callN fns (n + 7) 38 [.val false (.int p), .val false (.tup [.int a, .int b])] = some (.ok (.dat (.int v)), [.non, .non])) ∧ (∀ n, callN fns (n + 7) 38 [.val false (.int p), .val false (.tup [.int c, .int d])] = some (.ok (.dat (.int w)), [.non, .non])) ∧
    (∀ n, callN fns (n + 7) 31 [.val false (.int 0), .val false (.tup [.int a, .int b]), .val false (.tup [.int c, .int d])] = some (.ok (.dat rs), [.non, .non, .non])) ∧ (∀ n, callN fns (n + 7) 38 [.val false (.int p), .val false rs] = some (.ok (.dat (.int s)), [.non, .non])) ∧
    (∀ n, callN fns (n + 7) 33 [.val false (.int 0), .val false (.tup [.int a, .int b]), .val false (.tup [.int c, .int d])] = some (.ok (.dat rq), [.non, .non, .non])) ∧ (∀ n, callN fns (n + 7) 38 [.val false (.int p), .val false rq] = some (.ok (.dat (.int q)), [.non, .non])) ∧
    (v + w).fmod p = s ∧ (v * w).fmod p = q ∧ bits v + bits w < 1000000 := by
  have p2 := h.two
  have hle := h.le
  have hb := nz_left hbd (by omega)
  have hd := nz_right hbd (by omega)
  have hx : Nm 0 (.tup [.int a, .int b]) := .frac l1 (by omega) (by omega)
  have hy : Nm 0 (.tup [.int c, .int d]) := .frac l2 (by omega) (by omega)
  obtain ⟨v, ev, v0, v1, mv⟩ := k_read h hx hb
  obtain ⟨w, ew, w0, w1, mw⟩ := k_read h hy hd
  have b0 := l1.pos
  have d0 := l2.pos
  have bd0 : b * d ≠ 0 := Int.mul_ne_zero (by omega) (by omega)
  have m10 : ∀ {u z : Int}, u.natAbs ≤ 100 → z.natAbs ≤ 100 → (u * z).natAbs ≤ 10000 := fun {u z} h1 h2 => by
    rw [Int.natAbs_mul]
    exact Nat.mul_le_mul h1 h2
  have k1 := m10 a1 d1
  have k2 := m10 c1 b1
  have k3 := m10 b1 d1
  have k4 := m10 a1 c1
  obtain ⟨x, y, ef, l, e, xl, yl⟩ := frac_spec (a := a * d + c * b) (b := b * d) bd0
  obtain ⟨x', y', ef', l', e', xl', yl'⟩ := frac_spec (a := a * c) (b := b * d) bd0
  have hs : Nm 0 (.tup [.int x, .int y]) := .frac l (by omega) (by omega)
  have hq : Nm 0 (.tup [.int x', .int y']) := .frac l' (by omega) (by omega)
  obtain ⟨s, es, s0, s1, ms⟩ := k_read h hs (low_nz h l e hbd)
  obtain ⟨q, eq, q0, q1, mq⟩ := k_read h hq (low_nz h l' e' hbd)
  have G0 : groundB (.int 0) = true := by decide +kernel
  refine ⟨v, w, s, q, _, _, ev, ew, fun n => ?_, es, fun n => ?_, eq, ?_, ?_, ?_⟩
  · have := run_plus0 (a := a) (b := b) (c := c) (d := d) (M := 100) r12 r17 (n + 4) false false false (by decide +kernel) a1 b1 c1 d1 (by omega) (by omega)
    rw [ef] at this
    exact e_added G0 hx hy this
  · have := run_times0 (a := a) (b := b) (c := c) (d := d) (M := 100) r12 r20 (n + 4) false false false (by decide +kernel) a1 b1 c1 d1 (by omega) (by omega)
    rw [ef'] at this
    exact e_multiplied G0 hx hy this
  · have mm : Md p ((v + w) * (b * d)) (a * d + c * b) := by
      have h1 : Md p (v * b * d) (a * d) := mv.mul (Md.refl p d)
      have h2 : Md p (w * d * b) (c * b) := mw.mul (Md.refl p b)
      have := h1.add h2
      have e2 : (v + w) * (b * d) = v * b * d + w * d * b := by rw [Int.add_mul, Int.mul_assoc, Int.mul_assoc, Int.mul_comm d b]
      rw [e2]
      exact this
    have m2 := read_by h l e hbd ms mm
    exact ((Md.fmod (by omega)).trans m2.symm).eq (fmod_pos _ (by omega)).1 (fmod_pos _ (by omega)).2 s0 s1
  · have mm : Md p ((v * w) * (b * d)) (a * c) := by
      have := mv.mul mw
      have e2 : v * w * (b * d) = v * b * (w * d) := by rw [Int.mul_assoc, Int.mul_assoc, Int.mul_left_comm w b d]
      rw [e2]
      exact this
    have m2 := read_by h l' e' hbd mq mm
    exact ((Md.fmod (by omega)).trans m2.symm).eq (fmod_pos _ (by omega)).1 (fmod_pos _ (by omega)).2 q0 q1
  · have : bits v < 64 := bits_small (by omega) (by omega)
    have : bits w < 64 := bits_small (by omega) (by omega)
    omega
end K00
set_option Elab.async false
set_option linter.all false
set_option maxRecDepth 100000
set_option maxHeartbeats 4000000
namespace K00
open PySem MP
theorem loopS (n : Nat) {p : Int} (h : Pr p) (s0 s1 s2 s3 s4 s5 s6 s7 s8 s9 s13 s14 s16 : Slot) (ds : List D) (hd : ∀ d ∈ ds, Nm 0 d) (s12 s15 : Slot) : ∃ t12 t15, MP.exec (callN fns (n + 7)) (S.for_ (Tg.nm 12) (I.seq (C.var 11)) (Ss.cons (S.ife (C.cmp .ne (C.bin .mod (C.blt .int1 (Cs.cons (C.idx (C.var 12) (C.cst (D.int 1))) Cs.nil)) (C.var 10)) (C.cst (D.int 0))) (Ss.cons (S.asg (Tg.nm 15) (C.call 38 [false, false] (Cs.cons (C.var 10) (Cs.cons (C.var 12) Cs.nil)))) (Ss.cons (S.ife (C.boo false (Cs.cons (C.not_ (C.chn .le .lt (C.cst (D.int 0)) (C.var 15) (C.var 10))) (Cs.cons (C.cmp .ne (C.bin .mod (C.blt .int1 (Cs.cons (C.bin .sub (C.bin .mul (C.var 15) (C.idx (C.var 12) (C.cst (D.int 1)))) (C.idx (C.var 12) (C.cst (D.int 0)))) Cs.nil)) (C.var 10)) (C.cst (D.int 0))) Cs.nil))) (Ss.cons (S.ret (C.cst (D.bl false))) Ss.nil) Ss.nil) Ss.nil)) Ss.nil) Ss.nil)) [s0, s1, s2, s3, s4, s5, s6, s7, s8, s9, .val false (.int p), .own false (.lst ds), s12, s13, s14, s15, s16] =
    some (.ok .nxt, [s0, s1, s2, s3, s4, s5, s6, s7, s8, s9, .val false (.int p), .val false (.lst ds), t12, s13, s14, t15, s16]) := by
  have p2 := h.two
  have hp0 : p ≠ 0 := by omega
  have hle := h.le
  have key : ∀ es : List D, (∀ d ∈ es, Nm 0 d) → ∀ s12 s15, ∃ t12 t15, forL (Tg.nm 12) (fun ρ => MP.execs (callN fns (n + 7)) (Ss.cons (S.ife (C.cmp .ne (C.bin .mod (C.blt .int1 (Cs.cons (C.idx (C.var 12) (C.cst (D.int 1))) Cs.nil)) (C.var 10)) (C.cst (D.int 0))) (Ss.cons (S.asg (Tg.nm 15) (C.call 38 [false, false] (Cs.cons (C.var 10) (Cs.cons (C.var 12) Cs.nil)))) (Ss.cons (S.ife (C.boo false (Cs.cons (C.not_ (C.chn .le .lt (C.cst (D.int 0)) (C.var 15) (C.var 10))) (Cs.cons (C.cmp .ne (C.bin .mod (C.blt .int1 (Cs.cons (C.bin .sub (C.bin .mul (C.var 15) (C.idx (C.var 12) (C.cst (D.int 1)))) (C.idx (C.var 12) (C.cst (D.int 0)))) Cs.nil)) (C.var 10)) (C.cst (D.int 0))) Cs.nil))) (Ss.cons (S.ret (C.cst (D.bl false))) Ss.nil) Ss.nil) Ss.nil)) Ss.nil) Ss.nil) ρ) es [s0, s1, s2, s3, s4, s5, s6, s7, s8, s9, .val false (.int p), .val false (.lst ds), s12, s13, s14, s15, s16] =
      some (.ok .nxt, [s0, s1, s2, s3, s4, s5, s6, s7, s8, s9, .val false (.int p), .val false (.lst ds), t12, s13, s14, t15, s16]) := by
    intro es
    induction es with
    | nil => intro _ s12 s15; exact ⟨s12, s15, rfl⟩
    | cons d es ih =>
      intro hd s12 s15
      have hn := hd d (List.mem_cons_self ..)
      have hrest := fun v hv => hd v (List.mem_cons_of_mem _ hv)
      cases hn with
      | rest z _ _ => omega
      | @frac x y l x1 y1 =>
        by_cases hb : y.fmod p = 0
        · obtain ⟨t12, t15, e⟩ := ih hrest (.val false (.tup [.int x, .int y])) s15
          refine ⟨t12, t15, ?_⟩
          rw [for_next (ρ1 := [s0, s1, s2, s3, s4, s5, s6, s7, s8, s9, .val false (.int p), .val false (.lst ds), .val false (.tup [.int x, .int y]), s13, s14, s15, s16]) (ρ2 := [s0, s1, s2, s3, s4, s5, s6, s7, s8, s9, .val false (.int p), .val false (.lst ds), .val false (.tup [.int x, .int y]), s13, s14, s15, s16]) (by simp [runF, MP.execs, ev_cst, ev_glb, ev_var, ev_tup, ev_lst, ev_dis0, ev_dis1, ev_bin, ev_neg, ev_boo, ev_not, ev_cmp, ev_chn, ev_ite, ev_idx, ev_slc, ev_call, ev_blt, ev_isi, ev_lstI, x_par, x_aug, x_seti, x_app, x_expr, x_ife, x_ret, x_retN, x_pas, x_brk, x_cnt, x_rse, x_nm, x_tp, evB, evIf, evO, evAs, evDs, evI, evT, evRs, bnd, ok, op1, op2, view, views, tru, frzM, frz, keepA, unslot, slotOf, putA, putAs, putD, nxtO, augD, setiD, appD, retA, asgT, asgTs, blts, liftO, bltD, absD, maxD, minD, int1D, lenD, gcdD, isiD, blsD, intsD, anyD, allD, sumD, tupleD, listD, strD, reprD, keyB, binD, cmpO, cmpD, datB, negD, idxD, getD, ixD, slcD, tyD, D.truth, D.shp, D.shps, D.eqv, D.eqvs, itemsD, rngD, zipO, enumO, intO, isND, doCall, lends, lendA, lentIx, backs, backS, maskS, mask1]) (by simp [runF, MP.execs, ev_cst, ev_glb, ev_var, ev_tup, ev_lst, ev_dis0, ev_dis1, ev_bin, ev_neg, ev_boo, ev_not, ev_cmp, ev_chn, ev_ite, ev_idx, ev_slc, ev_call, ev_blt, ev_isi, ev_lstI, x_par, x_aug, x_seti, x_app, x_expr, x_ife, x_ret, x_retN, x_pas, x_brk, x_cnt, x_rse, x_nm, x_tp, evB, evIf, evO, evAs, evDs, evI, evT, evRs, bnd, ok, op1, op2, view, views, tru, frzM, frz, keepA, unslot, slotOf, putA, putAs, putD, nxtO, augD, setiD, appD, retA, asgT, asgTs, blts, liftO, bltD, absD, maxD, minD, int1D, lenD, gcdD, isiD, blsD, intsD, anyD, allD, sumD, tupleD, listD, strD, reprD, keyB, binD, cmpO, cmpD, datB, negD, idxD, getD, ixD, slcD, tyD, D.truth, D.shp, D.shps, D.eqv, D.eqvs, itemsD, rngD, zipO, enumO, intO, isND, doCall, lends, lendA, lentIx, backs, backS, maskS, mask1, hb, hp0])]
          exact e
        · obtain ⟨v, ev, v0, v1, mv⟩ := k_read h (.frac l x1 y1) hb
          have evn := ev n
          have hz : (v * y - x).fmod p = 0 := by
            rw [Int.fmod_eq_emod_of_nonneg _ (by omega)]
            exact Int.emod_eq_zero_of_dvd mv
          have g1 : bits v + bits y < 1000000 := by
            have : bits v < 64 := bits_small (by omega) (by omega)
            have : bits y < 300 := bits_small (by omega) (by omega)
            omega
          obtain ⟨t12, t15, e⟩ := ih hrest (.val false (.tup [.int x, .int y])) (.val false (.int v))
          refine ⟨t12, t15, ?_⟩
          rw [for_next (ρ1 := [s0, s1, s2, s3, s4, s5, s6, s7, s8, s9, .val false (.int p), .val false (.lst ds), .val false (.tup [.int x, .int y]), s13, s14, s15, s16]) (ρ2 := [s0, s1, s2, s3, s4, s5, s6, s7, s8, s9, .val false (.int p), .val false (.lst ds), .val false (.tup [.int x, .int y]), s13, s14, .val false (.int v), s16]) (by simp [runF, MP.execs, ev_cst, ev_glb, ev_var, ev_tup, ev_lst, ev_dis0, ev_dis1, ev_bin, ev_neg, ev_boo, ev_not, ev_cmp, ev_chn, ev_ite, ev_idx, ev_slc, ev_call, ev_blt, ev_isi, ev_lstI, x_par, x_aug, x_seti, x_app, x_expr, x_ife, x_ret, x_retN, x_pas, x_brk, x_cnt, x_rse, x_nm, x_tp, evB, evIf, evO, evAs, evDs, evI, evT, evRs, bnd, ok, op1, op2, view, views, tru, frzM, frz, keepA, unslot, slotOf, putA, putAs, putD, nxtO, augD, setiD, appD, retA, asgT, asgTs, blts, liftO, bltD, absD, maxD, minD, int1D, lenD, gcdD, isiD, blsD, intsD, anyD, allD, sumD, tupleD, listD, strD, reprD, keyB, binD, cmpO, cmpD, datB, negD, idxD, getD, ixD, slcD, tyD, D.truth, D.shp, D.shps, D.eqv, D.eqvs, itemsD, rngD, zipO, enumO, intO, isND, doCall, lends, lendA, lentIx, backs, backS, maskS, mask1]) (by simp [runF, MP.execs, ev_cst, ev_glb, ev_var, ev_tup, ev_lst, ev_dis0, ev_dis1, ev_bin, ev_neg, ev_boo, ev_not, ev_cmp, ev_chn, ev_ite, ev_idx, ev_slc, ev_call, ev_blt, ev_isi, ev_lstI, x_par, x_aug, x_seti, x_app, x_expr, x_ife, x_ret, x_retN, x_pas, x_brk, x_cnt, x_rse, x_nm, x_tp, evB, evIf, evO, evAs, evDs, evI, evT, evRs, bnd, ok, op1, op2, view, views, tru, frzM, frz, keepA, unslot, slotOf, putA, putAs, putD, nxtO, augD, setiD, appD, retA, asgT, asgTs, blts, liftO, bltD, absD, maxD, minD, int1D, lenD, gcdD, isiD, blsD, intsD, anyD, allD, sumD, tupleD, listD, strD, reprD, keyB, binD, cmpO, cmpD, datB, negD, idxD, getD, ixD, slcD, tyD, D.truth, D.shp, D.shps, D.eqv, D.eqvs, itemsD, rngD, zipO, enumO, intO, isND, doCall, lends, lendA, lentIx, backs, backS, maskS, mask1, hb, hp0, evn, v0, v1, hz, g1])]
          exact e
  obtain ⟨t12, t15, e⟩ := key ds hd s12 s15
  refine ⟨t12, t15, ?_⟩
  rw [x_for, ← e]
  simp [runF, MP.execs, ev_cst, ev_glb, ev_var, ev_tup, ev_lst, ev_dis0, ev_dis1, ev_bin, ev_neg, ev_boo, ev_not, ev_cmp, ev_chn, ev_ite, ev_idx, ev_slc, ev_call, ev_blt, ev_isi, ev_lstI, x_par, x_aug, x_seti, x_app, x_expr, x_ife, x_ret, x_retN, x_pas, x_brk, x_cnt, x_rse, x_nm, x_tp, evB, evIf, evO, evAs, evDs, evI, evT, evRs, bnd, ok, op1, op2, view, views, tru, frzM, frz, keepA, unslot, slotOf, putA, putAs, putD, nxtO, augD, setiD, appD, retA, asgT, asgTs, blts, liftO, bltD, absD, maxD, minD, int1D, lenD, gcdD, isiD, blsD, intsD, anyD, allD, sumD, tupleD, listD, strD, reprD, keyB, binD, cmpO, cmpD, datB, negD, idxD, getD, ixD, slcD, tyD, D.truth, D.shp, D.shps, D.eqv, D.eqvs, itemsD, rngD, zipO, enumO, intO, isND, doCall, lends, lendA, lentIx, backs, backS, maskS, mask1]
end K00
set_option Elab.async false
set_option linter.all false
set_option maxRecDepth 100000
set_option maxHeartbeats 4000000
namespace K00
open PySem MP
/-- a small drawn fraction -/
theorem smallF (n : Nat) {d : D} {L : Int} (hd : Dice L d) (hL : L < 2 ^ 59) : ∃ (a b : Int) (r1 r2 : Int) (d1 d2 : D), Low a b ∧ a.natAbs ≤ 100 ∧ b.natAbs ≤ 100 ∧ callN fns (n + 7) 40 [.own true d, .val false (.int 199)] = some (.ok (.dat (.int r1)), [.own true d1, .non]) ∧ callN fns (n + 7) 40 [.own true d1, .val false (.int 60)] = some (.ok (.dat (.int r2)), [.own true d2, .non]) ∧
    callN fns (n + 7) 43 [.val false (.int (r1 - 99)), .val false (.int (1 + r2))] = some (.ok (.dat (.tup [.int a, .int b])), [.non, .non]) ∧ Dice (L + 2) d2 := by
  obtain ⟨r1, d1, e1, p1, p2, h1⟩ := run_roll (P := fns) (f := 40) rfl (n + 6) hd (by omega) false (m := 199) (by omega) (by decide +kernel)
  obtain ⟨r2, d2, e2, q1, q2, h2⟩ := run_roll (P := fns) (f := 40) rfl (n + 6) h1 (by omega) false (m := 60) (by omega) (by decide +kernel)
  obtain ⟨a, b, ef, l, _, a1, b1⟩ := frac_spec (a := r1 - 99) (b := 1 + r2) (by omega)
  have hs := shared_le (a := r1 - 99) (b := 1 + r2) (by omega)
  have k := e_lfrac (n + 5) false false (a := r1 - 99) (b := 1 + r2) (by omega) (Nat.lt_trans (bits_small (k := 64) (by omega) (by omega)) (by omega))
  rw [ef] at k
  exact ⟨a, b, r1, r2, d1, d2, l, by omega, by omega, e1, e2, k, dice_le h2 (by omega)⟩
theorem compS (n : Nat) {d : D} {L : Int} (hd : Dice L d) (hL : L < 2 ^ 58) : ∃ a b c e d', Low a b ∧ a.natAbs ≤ 100 ∧ b.natAbs ≤ 100 ∧ Low c e ∧ c.natAbs ≤ 100 ∧ e.natAbs ≤ 100 ∧ Dice (L + 4) d' ∧
    ∀ s1 s2 s3 s4 s5 s6 s7 s8 s9 s10 s11 s12 s13 s14 s15 s16 : Slot, ev (callN fns (n + 7)) (C.cmpr (C.call 43 [false, false] (Cs.cons (C.bin .sub (C.call 40 [true, false] (Cs.cons (C.var 0) (Cs.cons (C.cst (D.int 199)) Cs.nil))) (C.cst (D.int 99))) (Cs.cons (C.bin .add (C.cst (D.int 1)) (C.call 40 [true, false] (Cs.cons (C.var 0) (Cs.cons (C.cst (D.int 60)) Cs.nil)))) Cs.nil))) (Tg.nm 16) (I.rng1 (C.cst (D.int 2))) CO.none [16]) [.own true d, s1, s2, s3, s4, s5, s6, s7, s8, s9, s10, s11, s12, s13, s14, s15, s16] = some (.ok (.frs (.lst [.tup [.int a, .int b], .tup [.int c, .int e]])), [.own true d', s1, s2, s3, s4, s5, s6, s7, s8, s9, s10, s11, s12, s13, s14, s15, s16]) := by
  obtain ⟨a, b, r1, r2, d1, d2, l, a1, b1, e1, e2, e3, h2⟩ := smallF n hd (by omega)
  obtain ⟨c, e, r3, r4, d3, d4, l', c1, e1', e4, e5, e6, h4⟩ := smallF n h2 (by omega)
  refine ⟨a, b, c, e, d4, l, a1, b1, l', c1, e1', dice_le h4 (by omega), fun s1 s2 s3 s4 s5 s6 s7 s8 s9 s10 s11 s12 s13 s14 s15 s16 => ?_⟩
  have q1 : smallI 0 = true := by decide +kernel
  have q2 : smallI 2 = true := by decide +kernel
  rw [ev]
  simp [runF, MP.execs, ev_cst, ev_glb, ev_var, ev_tup, ev_lst, ev_dis0, ev_dis1, ev_bin, ev_neg, ev_boo, ev_not, ev_cmp, ev_chn, ev_ite, ev_idx, ev_slc, ev_call, ev_blt, ev_isi, ev_lstI, x_par, x_aug, x_seti, x_app, x_expr, x_ife, x_ret, x_retN, x_pas, x_brk, x_cnt, x_rse, x_nm, x_tp, evB, evIf, evO, evAs, evDs, evI, evT, evRs, bnd, ok, op1, op2, view, views, tru, frzM, frz, keepA, unslot, slotOf, putA, putAs, putD, nxtO, augD, setiD, appD, retA, asgT, asgTs, blts, liftO, bltD, absD, maxD, minD, int1D, lenD, gcdD, isiD, blsD, intsD, anyD, allD, sumD, tupleD, listD, strD, reprD, keyB, binD, cmpO, cmpD, datB, negD, idxD, getD, ixD, slcD, tyD, D.truth, D.shp, D.shps, D.eqv, D.eqvs, itemsD, rngD, zipO, enumO, intO, isND, doCall, lends, lendA, lentIx, backs, backS, maskS, mask1, compL, calm, wipeR, unwipe, intsL, q1, q2, e1, e2, e3, e4, e5, e6]
end K00
set_option Elab.async false
set_option linter.all false
set_option maxRecDepth 100000
set_option maxHeartbeats 8000000
namespace K00
open PySem MP
theorem e_fraction (n : Nat) {a b : Int} (h0 : b ≠ 0) (hb : bits (shared a b) < 9000) (ha : integerB (.int a) = true) (hb2 : integerB (.int b) = true) : callN fns (n + 7) 30 [.val false (.int a), .val false (.int b)] = some (.ok (.dat (fracD a b)), [.non, .non]) := by
  have k1 := run_integer r0 r1 (n + 3) false (.int a)
  have k2 := run_integer r0 r1 (n + 3) false (.int b)
  rw [ha] at k1
  rw [hb2] at k2
  have k3 := run_req_integer (t := false) r9 k1
  have k4 := run_req_integer (t := false) r9 k2
  have k5 := run_fraction_in r12 (n + 5) false false a b h0 hb
  replace k3 : callN fns (n + 6) 9 _ = _ := k3
  replace k4 : callN fns (n + 6) 9 _ = _ := k4
  replace k5 : callN fns (n + 6) 12 _ = some (.ok (.dat (fracD a b)), _) := k5
  rw [callN]
  simp [fns, d_fraction, runF, MP.execs, ev_cst, ev_glb, ev_var, ev_tup, ev_lst, ev_dis0, ev_dis1, ev_bin, ev_neg, ev_boo, ev_not, ev_cmp, ev_chn, ev_ite, ev_idx, ev_slc, ev_call, ev_blt, ev_isi, ev_lstI, x_par, x_aug, x_seti, x_app, x_expr, x_ife, x_ret, x_retN, x_pas, x_brk, x_cnt, x_rse, x_nm, x_tp, evB, evIf, evO, evAs, evDs, evI, evT, evRs, bnd, ok, op1, op2, view, views, tru, frzM, frz, keepA, unslot, slotOf, putA, putAs, putD, nxtO, augD, setiD, appD, retA, asgT, asgTs, blts, liftO, bltD, absD, maxD, minD, int1D, lenD, gcdD, isiD, blsD, intsD, anyD, allD, sumD, tupleD, listD, strD, reprD, keyB, binD, cmpO, cmpD, datB, negD, idxD, getD, ixD, slcD, tyD, D.truth, D.shp, D.shps, D.eqv, D.eqvs, itemsD, rngD, zipO, enumO, intO, isND, doCall, lends, lendA, lentIx, backs, backS, maskS, mask1, k3, k4, k5, h0]
/-- the first half's numbers: top, bottom -/
theorem topB {T many : Int} (hT : T.natAbs < 10 ^ 60) (h1 : 1 ≤ many) (h2 : many ≤ 9) : (T.fdiv 9 * many).natAbs < 10 ^ 60 := by
  rw [Int.fdiv_eq_ediv_of_nonneg _ (by omega), Int.natAbs_mul]
  have h3 : (T / 9).natAbs * many.natAbs ≤ (T / 9).natAbs * 9 := Nat.mul_le_mul_left _ (by omega)
  have h4 : (T / 9).natAbs * 9 < 10 ^ 60 := by omega
  omega
theorem e_prime (n : Nat) {d : D} {L : Int} (hd : Dice L d) (hL : L < 2 ^ 60) : ∃ p d', callN fns (n + 7) 41 [.own true d, .val false (.lst [.int 2, .int 3, .int 5, .int 7, .int 97, .int 997, .int 9973])] = some (.ok (.dat (.int p)), [.own true d', .non]) ∧ Pr p ∧ Dice (L + 1) d' := by
  obtain ⟨x, d', hx, e, hd'⟩ := run_pick (P := fns) (f := 41) (r := 40) rfl rfl (n + 5) hd hL false (xs := [.int 2, .int 3, .int 5, .int 7, .int 97, .int 997, .int 9973]) (by decide) (by decide)
  replace e : callN fns (n + 7) 41 _ = _ := e
  simp only [List.mem_cons, List.not_mem_nil, or_false] at hx
  rcases hx with rfl | rfl | rfl | rfl | rfl | rfl | rfl
  · exact ⟨_, d', e, ⟨by decide +kernel, by decide, by decide, co_of (p := 2) (by decide +kernel)⟩, hd'⟩
  · exact ⟨_, d', e, ⟨by decide +kernel, by decide, by decide, co_of (p := 3) (by decide +kernel)⟩, hd'⟩
  · exact ⟨_, d', e, ⟨by decide +kernel, by decide, by decide, co_of (p := 5) (by decide +kernel)⟩, hd'⟩
  · exact ⟨_, d', e, ⟨by decide +kernel, by decide, by decide, co_of (p := 7) (by decide +kernel)⟩, hd'⟩
  · exact ⟨_, d', e, ⟨by decide +kernel, by decide, by decide, co_of (p := 97) (by decide +kernel)⟩, hd'⟩
  · exact ⟨_, d', e, ⟨by decide +kernel, by decide, by decide, co_of (p := 997) (by decide +kernel)⟩, hd'⟩
  · exact ⟨_, d', e, ⟨by decide +kernel, by decide, by decide, co_of (p := 9973) (by decide +kernel)⟩, hd'⟩
theorem pair_of {x : D} (h : Nm 0 x) : ∃ a b : Int, x = .tup [.int a, .int b] ∧ Low a b ∧ a.natAbs < 10 ^ 60 ∧ b.natAbs < 10 ^ 60 := by
  cases h with
  | rest z _ _ => omega
  | frac l h1 h2 => exact ⟨_, _, rfl, l, h1, h2⟩
end K00
set_option Elab.async false
set_option linter.all false
set_option maxRecDepth 100000
set_option maxHeartbeats 8000000
namespace K00
open PySem MP
theorem e_frr (n : Nat) {d : D} {L : Int} (hd : Dice L d) (hL : L < 2 ^ 57) : ∃ d', callN fns (n + 8) 55 [.own true d] = some (.ok (.dat (.bl true)), [.own true d']) ∧ Dice (L + 30) d' := by
  obtain ⟨x, d1, e1, hx, hd1⟩ := e_nu_drawn (n + 4) false (g := 0) (by omega) (by omega) hd (by omega)
  obtain ⟨y, d2, e2, hy, hd2⟩ := e_nu_drawn (n + 4) false (g := 0) (by omega) (by omega) hd1 (by omega)
  replace e1 : callN fns (n + 7) 52 _ = _ := e1
  replace e2 : callN fns (n + 7) 52 _ = _ := e2
  obtain ⟨A, B, rfl, lx, A1, B1⟩ := pair_of hx
  obtain ⟨C', E', rfl, ly, C1, E1⟩ := pair_of hy
  have B0 := lx.pos
  obtain ⟨m0, d3, e3, m1, m2, hd3⟩ := run_roll (P := fns) (f := 40) rfl (n + 6) hd2 (by omega) false (m := 9) (by omega) (by decide +kernel)
  replace e3 : callN fns (n + 7) 40 _ = _ := e3
  obtain ⟨sg, d4, hsg, e4, hd4⟩ := run_pick (P := fns) (f := 41) (r := 40) rfl rfl (n + 5) hd3 (by omega) false (xs := [.int 1, .int (-1)]) (by decide) (by decide)
  replace e4 : callN fns (n + 7) 41 _ = _ := e4
  obtain ⟨sign, rfl, hs⟩ : ∃ sign : Int, sg = .int sign ∧ (sign = 1 ∨ sign = -1) := by
    simp only [List.mem_cons, List.not_mem_nil, or_false] at hsg
    rcases hsg with rfl | rfl
    · exact ⟨_, rfl, .inl rfl⟩
    · exact ⟨_, rfl, .inr rfl⟩
  obtain ⟨q0, d5, e5, q1, q2, hd5⟩ := run_roll (P := fns) (f := 40) rfl (n + 6) hd4 (by omega) false (m := 99) (by omega) (by decide +kernel)
  replace e5 : callN fns (n + 7) 40 _ = _ := e5
  obtain ⟨tz, d6, htz, e6, hd6⟩ := run_pick (P := fns) (f := 41) (r := 40) rfl rfl (n + 5) hd5 (by omega) false (xs := [.int A, .int (q0 - 49)]) (by simp) (by simp only [List.length_cons, List.length_nil]; decide)
  replace e6 : callN fns (n + 7) 41 _ = _ := e6
  obtain ⟨T, rfl, hT⟩ : ∃ T : Int, tz = .int T ∧ T.natAbs < 10 ^ 60 := by
    simp only [List.mem_cons, List.not_mem_nil, or_false] at htz
    rcases htz with rfl | rfl
    · exact ⟨_, rfl, A1⟩
    · exact ⟨_, rfl, by omega⟩
  obtain ⟨u0, d7, e7, u1, u2, hd7⟩ := run_roll (P := fns) (f := 40) rfl (n + 6) hd6 (by omega) false (m := 50) (by omega) (by decide +kernel)
  replace e7 : callN fns (n + 7) 40 _ = _ := e7
  generalize hmany : 1 + m0 = many at *
  have ht := topB hT (many := many) (by omega) (by omega)
  have g1 : bits (T.fdiv 9) + bits many < 1000000 := by
    have h1 : (T.fdiv 9).natAbs < 10 ^ 60 := by
      rw [Int.fdiv_eq_ediv_of_nonneg _ (by omega)]
      omega
    have : bits (T.fdiv 9) < 300 := bits_small (by omega) (by omega)
    have : bits many < 64 := bits_small (by omega) (by omega)
    omega
  have g9 : bits 9 < 9000 := by decide +kernel
  have g10 : bits 10 < 9000 := by decide +kernel
  generalize hu : 1 + u0 = u at *
  have um : (u * many).natAbs ≤ 450 ∧ 0 < u * many := by
    refine ⟨?_, Int.mul_pos (by omega) (by omega)⟩
    rw [Int.natAbs_mul]
    exact Nat.mul_le_mul (by omega : u.natAbs ≤ 50) (by omega : many.natAbs ≤ 9)
  have g2 : bits u + bits many < 1000000 := by
    have : bits u < 64 := bits_small (by omega) (by omega)
    have : bits many < 64 := bits_small (by omega) (by omega)
    omega
  have g3 : bits (u * many) + bits sign < 1000000 := by
    have : bits (u * many) < 64 := bits_small (by omega) (by omega)
    have : bits sign < 64 := bits_small (by omega) (by omega)
    omega
  have bot : u * many * sign ≠ 0 ∧ (u * many * sign).natAbs ≤ 450 := by
    rcases hs with z | z
    · subst z; rw [Int.mul_one]; exact ⟨by omega, by omega⟩
    · subst z; rw [Int.mul_neg, Int.mul_one]; exact ⟨by omega, by omega⟩
  generalize htop : T.fdiv 9 * many = top at *
  generalize hbot : u * many * sign = bottom at *
  have sb : bits (shared top bottom) < 9000 := by
    have := shared_le (a := top) (b := bottom) bot.1
    exact Nat.lt_trans (bits_small (k := 64) (by omega) (by omega)) (by omega)
  have f1 := e_fraction n (a := top) (b := bottom) bot.1 sb ((intB_iff _).mpr (by omega)) ((intB_iff _).mpr (by omega))
  have f2 := e_lfrac (n + 5) false false (a := top) (b := bottom) bot.1 sb
  replace f2 : callN fns (n + 7) 43 _ = _ := f2
  have shf := (Shape.frac top bottom).shp
  -- the near one
  have sn := shared_le (a := A.fdiv 10 + 1) (b := B) (by omega)
  have f3 := e_lfrac (n + 5) false false (a := A.fdiv 10 + 1) (b := B) (by omega) (Nat.lt_trans (bits_small (k := 300) (by omega) (by omega)) (by omega))
  replace f3 : callN fns (n + 7) 43 _ = _ := f3
  obtain ⟨N1, N2, ef, lnf, _, n1, n2⟩ := frac_spec (a := A.fdiv 10 + 1) (b := B) (by omega)
  have hA10 : (A.fdiv 10 + 1).natAbs < 10 ^ 60 := by
    rw [Int.fdiv_eq_ediv_of_nonneg _ (by omega)]
    omega
  rw [ef] at f3
  obtain ⟨nz, d8, hnz, e8, hd8⟩ := run_pick (P := fns) (f := 41) (r := 40) rfl rfl (n + 5) hd7 (by omega) false (xs := [.tup [.int A, .int B], .tup [.int C', .int E'], .tup [.int N1, .int N2]]) (by simp) (by simp only [List.length_cons, List.length_nil]; decide)
  replace e8 : callN fns (n + 7) 41 _ = _ := e8
  obtain ⟨P', Q', rfl, lp, P1, Q1⟩ : ∃ P' Q' : Int, nz = .tup [.int P', .int Q'] ∧ Low P' Q' ∧ P'.natAbs < 10 ^ 60 ∧ Q'.natAbs < 10 ^ 60 := by
    simp only [List.mem_cons, List.not_mem_nil, or_false] at hnz
    rcases hnz with rfl | rfl | rfl
    · exact ⟨_, _, rfl, lx, A1, B1⟩
    · exact ⟨_, _, rfl, ly, C1, E1⟩
    · exact ⟨_, _, rfl, lnf, by omega, by omega⟩
  have M1 : ∀ {z : Int}, z.natAbs < 10 ^ 60 → z.natAbs ≤ M60 := fun h => Nat.le_of_lt h
  have c1 := e_compared_in (a := A) (b := B) (c := P') (d := Q') (t := false) (t1 := false) (n := n + 5) hM60 (M1 A1) (M1 B1) (M1 P1) (M1 Q1)
  have c2 := e_compared (n := n) (t := false) (t1 := false) (.frac lx A1 B1) (.frac lp P1 Q1) c1
  have g4 := mulG hM60 (M1 A1) (M1 Q1)
  have g5 := mulG hM60 (M1 P1) (M1 B1)
  -- rounded
  have bB : bits B < 300 := bits_small (by omega) (by omega)
  have o1 := e_rounded_in (a := A) (b := B) (t := false) (n := n + 5) (by omega) (by omega)
  have o2 := e_rounded (n := n + 1) (t := false) (.frac lx A1 B1) o1
  replace o2 : callN fns (n + 7) 37 _ = _ := o2
  have fm := fmod_pos A (m := B) B0
  have fd := fdm A B
  have fab : (A.fdiv B).natAbs ≤ A.natAbs := by
    rw [Int.fdiv_eq_ediv_of_nonneg _ (by omega)]
    exact Int.natAbs_ediv_le_natAbs A B
  generalize hR : A.fdiv B = R at *
  have r1 : R * B ≤ A := by omega
  have r2 : A < (R + 1) * B := by
    rw [Int.add_mul, Int.one_mul]
    omega
  have g6 : bits R + bits B < 1000000 := by
    have : bits R < 300 := bits_small (by omega) (by omega)
    omega
  have g7 : bits (R + 1) + bits B < 1000000 := by
    have : bits (R + 1) < 300 := bits_small (by omega) (by omega)
    omega
  obtain ⟨p, d9, e9, hp, hd9⟩ := e_prime n hd8 (by omega)
  obtain ⟨a, b, c, e, d10, l1, a1, b1, l2, c1', e1', hd10, hC⟩ := compS n hd9 (by omega)
  have p2 := hp.two
  have hp0 : p ≠ 0 := by omega
  have hgbd : bits b + bits e < 1000000 := by
    have : bits b < 64 := bits_small (by omega) (by omega)
    have : bits e < 64 := bits_small (by omega) (by omega)
    omega
  have hall : ∀ z ∈ [D.tup [.int a, .int b], .tup [.int c, .int e], .tup [.int A, .int B]], Nm 0 z := fun z hz => by
    simp only [List.mem_cons, List.not_mem_nil, or_false] at hz
    rcases hz with rfl | rfl | rfl
    · exact .frac l1 (by omega) (by omega)
    · exact .frac l2 (by omega) (by omega)
    · exact .frac lx A1 B1
  obtain ⟨t12, t15, hl⟩ := loopS n hp (.own true d10) (.val false (.tup [.int A, .int B])) (.val false (.tup [.int C', .int E'])) (.val false (.int many)) (.val false (.int sign)) (.val false (.int top)) (.val false (.int bottom)) (.val false (.tup [.int P', .int Q'])) (.val false (.int (A * Q' - P' * B))) (.val false (.int R)) .non .non .non _ hall .non .non
  refine ⟨d10, ?_, dice_le hd10 (by omega)⟩
  rw [callN]
  by_cases hbd : (b * e).fmod p = 0
  · simp [fns, d_law_fractions_right, runF, MP.execs, ev_cst, ev_glb, ev_var, ev_tup, ev_lst, ev_dis0, ev_dis1, ev_bin, ev_neg, ev_boo, ev_not, ev_cmp, ev_chn, ev_ite, ev_idx, ev_slc, ev_call, ev_blt, ev_isi, ev_lstI, x_par, x_aug, x_seti, x_app, x_expr, x_ife, x_ret, x_retN, x_pas, x_brk, x_cnt, x_rse, x_nm, x_tp, evB, evIf, evO, evAs, evDs, evI, evT, evRs, bnd, ok, op1, op2, view, views, tru, frzM, frz, keepA, unslot, slotOf, putA, putAs, putD, nxtO, augD, setiD, appD, retA, asgT, asgTs, blts, liftO, bltD, absD, maxD, minD, int1D, lenD, gcdD, isiD, blsD, intsD, anyD, allD, sumD, tupleD, listD, strD, reprD, keyB, binD, cmpO, cmpD, datB, negD, idxD, getD, ixD, slcD, tyD, D.truth, D.shp, D.shps, D.eqv, D.eqvs, itemsD, rngD, zipO, enumO, intO, isND, doCall, lends, lendA, lentIx, backs, backS, maskS, mask1, e1, e2, e3, e4, e5, e6, e7, hmany, hu, htop, hbot, g1, g9, g10, g2, g3, f1, f2, f3, shf, e8, c2, g4, g5, o2, r1, r2, g6, g7, e9, hC, hl, hp0, hgbd, hbd]
  · obtain ⟨v, w, s, q, rs, rq, k1, k2, k3, k4, k5, k6, k7, k8, k9⟩ := k_sums hp l1 l2 a1 b1 c1' e1' hbd
    have k1 := k1 n
    have k2 := k2 n
    have k3 := k3 n
    have k4 := k4 n
    have k5 := k5 n
    have k6 := k6 n
    simp [fns, d_law_fractions_right, runF, MP.execs, ev_cst, ev_glb, ev_var, ev_tup, ev_lst, ev_dis0, ev_dis1, ev_bin, ev_neg, ev_boo, ev_not, ev_cmp, ev_chn, ev_ite, ev_idx, ev_slc, ev_call, ev_blt, ev_isi, ev_lstI, x_par, x_aug, x_seti, x_app, x_expr, x_ife, x_ret, x_retN, x_pas, x_brk, x_cnt, x_rse, x_nm, x_tp, evB, evIf, evO, evAs, evDs, evI, evT, evRs, bnd, ok, op1, op2, view, views, tru, frzM, frz, keepA, unslot, slotOf, putA, putAs, putD, nxtO, augD, setiD, appD, retA, asgT, asgTs, blts, liftO, bltD, absD, maxD, minD, int1D, lenD, gcdD, isiD, blsD, intsD, anyD, allD, sumD, tupleD, listD, strD, reprD, keyB, binD, cmpO, cmpD, datB, negD, idxD, getD, ixD, slcD, tyD, D.truth, D.shp, D.shps, D.eqv, D.eqvs, itemsD, rngD, zipO, enumO, intO, isND, doCall, lends, lendA, lentIx, backs, backS, maskS, mask1, e1, e2, e3, e4, e5, e6, e7, hmany, hu, htop, hbot, g1, g9, g10, g2, g3, f1, f2, f3, shf, e8, c2, g4, g5, o2, r1, r2, g6, g7, e9, hC, hl, hp0, hgbd, hbd, k1, k2, k3, k4, k5, k6, k7, k8, k9]
end K00
set_option Elab.async false
set_option linter.all false
set_option maxRecDepth 100000
set_option maxHeartbeats 2000000
namespace K00
open PySem MP
theorem gr0 : Gr 0 := ⟨by decide +kernel, by decide, .inl rfl⟩
theorem gr2 : Gr 2 := ⟨by decide +kernel, by decide, .inr ⟨by decide, co_of (p := 2) (by decide +kernel)⟩⟩
theorem gr5 : Gr 5 := ⟨by decide +kernel, by decide, .inr ⟨by decide, co_of (p := 5) (by decide +kernel)⟩⟩
theorem gr7 : Gr 7 := ⟨by decide +kernel, by decide, .inr ⟨by decide, co_of (p := 7) (by decide +kernel)⟩⟩
/-- a power, told -/
theorem k_powV {g e : Int} {x z : D} (G : Gr g) (hx : Nm g x) (hzN : Nm g z) (he : e.natAbs ≤ 1000) (h0 : g = 0 → e.natAbs ≤ 20) (hz : e < 0 → zeroB x = false) (b1 : 0 ≤ e → x = z) (b2 : e < 0 → ∀ m, callN fns (m + 4) 21 [.val false (.int g), .val false x] = some (.ok (.dat z), [.non, .non])) :
    ∃ pw : Nat → D, (∀ n, callN fns (n + 7) 35 [.val false (.int g), .val false x, .val false (.int e)] = some (.ok (.dat (pw e.natAbs)), [.non, .non, .non])) ∧ (∀ x, z = .int x → pw = pwG g x) ∧ (∀ x y, z = .tup [.int x, .int y] → pw = pw0 x y) := by
  obtain ⟨pw, sh, rfl, k1, k2, k3, k4, k5, k6⟩ := s_powers e.natAbs G hzN h0
  exact ⟨pw, fun n => e_raised G.ok hx he hz (run_raised (i_times := 20) (i_undone := 21) (i_unit := 15) (m := n + 5) r23 false false false (by omega) pw (k3 (n + 2)) (k1 (n + 2)) b1 (fun h => b2 h (n + 1))), k5, k6⟩
/-- what undoes a number, told -/
theorem undoneV {g x h k : Int} (G : Gr g) (g2 : 2 ≤ g) (h1 : 1 ≤ x) (h2 : x < g) (hk : h * x = 1 + g * k) (m : Nat) : callN fns (m + 4) 21 [.val false (.int g), .val false (.int x)] = some (.ok (.dat (.int (h.fmod g))), [.non, .non]) := by
  have gle := G.le
  have hco : Nat.gcd g.natAbs x.natAbs = 1 := by
    rcases G.co with z | ⟨_, z⟩
    · omega
    · have := z x.natAbs (by omega) (by omega)
      rwa [show g.toNat = g.natAbs by omega] at this
  obtain ⟨f, s, e, hf⟩ := run_undone_rest (a := x) (b := g) (M := 9973) r24 r25 (m + 1) false false (by omega) (by omega) (by omega) (by decide +kernel)
  rw [Nat.gcd_comm, hco] at hf
  have same := inv_same (by omega) (show f * x + s * g = 1 from hf) hk
  rw [same] at e
  replace e : callN fns (m + 3) 25 _ = _ := e
  have hg0 : g ≠ 0 := by omega
  rw [callN]
  simp [fns, d_undone, runF, MP.execs, ev_cst, ev_glb, ev_var, ev_tup, ev_lst, ev_dis0, ev_dis1, ev_bin, ev_neg, ev_boo, ev_not, ev_cmp, ev_chn, ev_ite, ev_idx, ev_slc, ev_call, ev_blt, ev_isi, ev_lstI, x_par, x_aug, x_seti, x_app, x_expr, x_ife, x_ret, x_retN, x_pas, x_brk, x_cnt, x_rse, x_nm, x_tp, evB, evIf, evO, evAs, evDs, evI, evT, evRs, bnd, ok, op1, op2, view, views, tru, frzM, frz, keepA, unslot, slotOf, putA, putAs, putD, nxtO, augD, setiD, appD, retA, asgT, asgTs, blts, liftO, bltD, absD, maxD, minD, int1D, lenD, gcdD, isiD, blsD, intsD, anyD, allD, sumD, tupleD, listD, strD, reprD, keyB, binD, cmpO, cmpD, datB, negD, idxD, getD, ixD, slcD, tyD, D.truth, D.shp, D.shps, D.eqv, D.eqvs, itemsD, rngD, zipO, enumO, intO, isND, doCall, lends, lendA, lentIx, backs, backS, maskS, mask1, hg0, e]
end K00
set_option Elab.async false
set_option linter.all false
set_option maxRecDepth 100000
set_option maxHeartbeats 4000000
namespace K00
open PySem MP
theorem turns (n : Nat) (s0 s1 s2 : Slot) : ∀ (ds : List D) (d : D) (L : Int) (s4 : Slot), Dice L d → L + 50 * ds.length < 2 ^ 57 → ∃ d' t4, forL (Tg.nm 4) (fun ρ => MP.execs (callN fns (n + 8)) (Ss.cons (S.ife (C.boo false (Cs.cons (C.not_ (C.call 54 [true] (Cs.cons (C.var 3) Cs.nil))) (Cs.cons (C.not_ (C.call 55 [true] (Cs.cons (C.var 3) Cs.nil))) Cs.nil))) (Ss.cons (S.ret (C.cst (D.bl false))) Ss.nil) Ss.nil) Ss.nil) ρ) ds [s0, s1, s2, .own false d, s4] = some (.ok .nxt, [s0, s1, s2, .own false d', t4])
  | [], d, L, s4, hd, hL => ⟨d, s4, rfl⟩
  | v :: ds, d, L, s4, hd, hL => by
    rw [List.length_cons] at hL
    obtain ⟨d1, e1, h1⟩ := e_field n hd (by omega)
    obtain ⟨d2, e2, h2⟩ := e_frr n h1 (by omega)
    obtain ⟨d', t4, e⟩ := turns n s0 s1 s2 ds d2 (L + 20 + 30) (.val false v) h2 (by omega)
    refine ⟨d', t4, ?_⟩
    rw [for_next (ρ1 := [s0, s1, s2, .own false d, .val false v]) (ρ2 := [s0, s1, s2, .own false d2, .val false v]) (by simp [runF, MP.execs, ev_cst, ev_glb, ev_var, ev_tup, ev_lst, ev_dis0, ev_dis1, ev_bin, ev_neg, ev_boo, ev_not, ev_cmp, ev_chn, ev_ite, ev_idx, ev_slc, ev_call, ev_blt, ev_isi, ev_lstI, x_par, x_aug, x_seti, x_app, x_expr, x_ife, x_ret, x_retN, x_pas, x_brk, x_cnt, x_rse, x_nm, x_tp, evB, evIf, evO, evAs, evDs, evI, evT, evRs, bnd, ok, op1, op2, view, views, tru, frzM, frz, keepA, unslot, slotOf, putA, putAs, putD, nxtO, augD, setiD, appD, retA, asgT, asgTs, blts, liftO, bltD, absD, maxD, minD, int1D, lenD, gcdD, isiD, blsD, intsD, anyD, allD, sumD, tupleD, listD, strD, reprD, keyB, binD, cmpO, cmpD, datB, negD, idxD, getD, ixD, slcD, tyD, D.truth, D.shp, D.shps, D.eqv, D.eqvs, itemsD, rngD, zipO, enumO, intO, isND, doCall, lends, lendA, lentIx, backs, backS, maskS, mask1]) (by simp [runF, MP.execs, ev_cst, ev_glb, ev_var, ev_tup, ev_lst, ev_dis0, ev_dis1, ev_bin, ev_neg, ev_boo, ev_not, ev_cmp, ev_chn, ev_ite, ev_idx, ev_slc, ev_call, ev_blt, ev_isi, ev_lstI, x_par, x_aug, x_seti, x_app, x_expr, x_ife, x_ret, x_retN, x_pas, x_brk, x_cnt, x_rse, x_nm, x_tp, evB, evIf, evO, evAs, evDs, evI, evT, evRs, bnd, ok, op1, op2, view, views, tru, frzM, frz, keepA, unslot, slotOf, putA, putAs, putD, nxtO, augD, setiD, appD, retA, asgT, asgTs, blts, liftO, bltD, absD, maxD, minD, int1D, lenD, gcdD, isiD, blsD, intsD, anyD, allD, sumD, tupleD, listD, strD, reprD, keyB, binD, cmpO, cmpD, datB, negD, idxD, getD, ixD, slcD, tyD, D.truth, D.shp, D.shps, D.eqv, D.eqvs, itemsD, rngD, zipO, enumO, intO, isND, doCall, lends, lendA, lentIx, backs, backS, maskS, mask1, e1, e2])]
    exact e
theorem spot (n : Nat) (ns : List Int) (k : Nat) (hk : k < 64) (s2 s3 s4 : Slot) : ∃ t3 t4, MP.execs (callN fns (n + 8)) (Ss.cons (S.asg (Tg.nm 3) (C.call 39 [false, false] (Cs.cons (C.var 0) (Cs.cons (C.var 1) Cs.nil)))) (Ss.cons (S.for_ (Tg.nm 4) (I.rng1 (C.cst (D.int 4))) (Ss.cons (S.ife (C.boo false (Cs.cons (C.not_ (C.call 54 [true] (Cs.cons (C.var 3) Cs.nil))) (Cs.cons (C.not_ (C.call 55 [true] (Cs.cons (C.var 3) Cs.nil))) Cs.nil))) (Ss.cons (S.ret (C.cst (D.bl false))) Ss.nil) Ss.nil) Ss.nil)) Ss.nil)) [.val false (.lst (ns.map .int)), .val false (.int k), s2, s3, s4] = some (.ok .nxt, [.val false (.lst (ns.map .int)), .val false (.int k), s2, t3, t4]) := by
  obtain ⟨d0, e1, hd0⟩ := run_dice (P := fns) (f := 39) rfl (n + 7) false false ns k hk
  replace e1 : callN fns (n + 8) 39 _ = _ := e1
  obtain ⟨d', t4, e2⟩ := turns n (.val false (.lst (ns.map .int))) (.val false (.int k)) s2 (intsL 0 4) d0 0 s4 hd0 (by rw [lenI]; decide)
  have q1 : smallI 0 = true := by decide +kernel
  have q2 : smallI 4 = true := by decide +kernel
  have hl : MP.exec (callN fns (n + 8)) (S.for_ (Tg.nm 4) (I.rng1 (C.cst (D.int 4))) (Ss.cons (S.ife (C.boo false (Cs.cons (C.not_ (C.call 54 [true] (Cs.cons (C.var 3) Cs.nil))) (Cs.cons (C.not_ (C.call 55 [true] (Cs.cons (C.var 3) Cs.nil))) Cs.nil))) (Ss.cons (S.ret (C.cst (D.bl false))) Ss.nil) Ss.nil) Ss.nil)) [.val false (.lst (ns.map .int)), .val false (.int k), s2, .own false d0, s4] = some (.ok .nxt, [.val false (.lst (ns.map .int)), .val false (.int k), s2, .own false d', t4]) := by
    rw [x_for, ← e2]
    simp [runF, MP.execs, ev_cst, ev_glb, ev_var, ev_tup, ev_lst, ev_dis0, ev_dis1, ev_bin, ev_neg, ev_boo, ev_not, ev_cmp, ev_chn, ev_ite, ev_idx, ev_slc, ev_call, ev_blt, ev_isi, ev_lstI, x_par, x_aug, x_seti, x_app, x_expr, x_ife, x_ret, x_retN, x_pas, x_brk, x_cnt, x_rse, x_nm, x_tp, evB, evIf, evO, evAs, evDs, evI, evT, evRs, bnd, ok, op1, op2, view, views, tru, frzM, frz, keepA, unslot, slotOf, putA, putAs, putD, nxtO, augD, setiD, appD, retA, asgT, asgTs, blts, liftO, bltD, absD, maxD, minD, int1D, lenD, gcdD, isiD, blsD, intsD, anyD, allD, sumD, tupleD, listD, strD, reprD, keyB, binD, cmpO, cmpD, datB, negD, idxD, getD, ixD, slcD, tyD, D.truth, D.shp, D.shps, D.eqv, D.eqvs, itemsD, rngD, zipO, enumO, intO, isND, doCall, lends, lendA, lentIx, backs, backS, maskS, mask1, q1, q2]
  refine ⟨.own false d', t4, ?_⟩
  simp [runF, MP.execs, ev_cst, ev_glb, ev_var, ev_tup, ev_lst, ev_dis0, ev_dis1, ev_bin, ev_neg, ev_boo, ev_not, ev_cmp, ev_chn, ev_ite, ev_idx, ev_slc, ev_call, ev_blt, ev_isi, ev_lstI, x_par, x_aug, x_seti, x_app, x_expr, x_ife, x_ret, x_retN, x_pas, x_brk, x_cnt, x_rse, x_nm, x_tp, evB, evIf, evO, evAs, evDs, evI, evT, evRs, bnd, ok, op1, op2, view, views, tru, frzM, frz, keepA, unslot, slotOf, putA, putAs, putD, nxtO, augD, setiD, appD, retA, asgT, asgTs, blts, liftO, bltD, absD, maxD, minD, int1D, lenD, gcdD, isiD, blsD, intsD, anyD, allD, sumD, tupleD, listD, strD, reprD, keyB, binD, cmpO, cmpD, datB, negD, idxD, getD, ixD, slcD, tyD, D.truth, D.shp, D.shps, D.eqv, D.eqvs, itemsD, rngD, zipO, enumO, intO, isND, doCall, lends, lendA, lentIx, backs, backS, maskS, mask1, e1, hl]
theorem loop0 (n : Nat) (ns : List Int) (s1 s2 s3 s4 : Slot) : ∃ t1 t3 t4, MP.exec (callN fns (n + 8)) (S.for_ (Tg.nm 1) (I.rng1 (C.blt .max2 (Cs.cons (C.cst (D.int 1)) (Cs.cons (C.blt .min2 (Cs.cons (C.cst (D.int 3)) (Cs.cons (C.blt .len (Cs.cons (C.var 0) Cs.nil)) Cs.nil))) Cs.nil)))) (Ss.cons (S.asg (Tg.nm 3) (C.call 39 [false, false] (Cs.cons (C.var 0) (Cs.cons (C.var 1) Cs.nil)))) (Ss.cons (S.for_ (Tg.nm 4) (I.rng1 (C.cst (D.int 4))) (Ss.cons (S.ife (C.boo false (Cs.cons (C.not_ (C.call 54 [true] (Cs.cons (C.var 3) Cs.nil))) (Cs.cons (C.not_ (C.call 55 [true] (Cs.cons (C.var 3) Cs.nil))) Cs.nil))) (Ss.cons (S.ret (C.cst (D.bl false))) Ss.nil) Ss.nil) Ss.nil)) Ss.nil))) [.val false (.lst (ns.map .int)), s1, s2, s3, s4] = some (.ok .nxt, [.val false (.lst (ns.map .int)), t1, s2, t3, t4]) := by
  have key : ∀ ds : List D, (∀ d ∈ ds, ∃ k : Nat, k < 64 ∧ d = .int k) → ∀ s1 s3 s4, ∃ t1 t3 t4, forL (Tg.nm 1) (fun ρ => MP.execs (callN fns (n + 8)) (Ss.cons (S.asg (Tg.nm 3) (C.call 39 [false, false] (Cs.cons (C.var 0) (Cs.cons (C.var 1) Cs.nil)))) (Ss.cons (S.for_ (Tg.nm 4) (I.rng1 (C.cst (D.int 4))) (Ss.cons (S.ife (C.boo false (Cs.cons (C.not_ (C.call 54 [true] (Cs.cons (C.var 3) Cs.nil))) (Cs.cons (C.not_ (C.call 55 [true] (Cs.cons (C.var 3) Cs.nil))) Cs.nil))) (Ss.cons (S.ret (C.cst (D.bl false))) Ss.nil) Ss.nil) Ss.nil)) Ss.nil)) ρ) ds [.val false (.lst (ns.map .int)), s1, s2, s3, s4] = some (.ok .nxt, [.val false (.lst (ns.map .int)), t1, s2, t3, t4]) := by
    intro ds
    induction ds with
    | nil => intro _ s1 s3 s4; exact ⟨_, _, _, rfl⟩
    | cons d ds ih =>
      intro hd s1 s3 s4
      obtain ⟨k, hk, rfl⟩ := hd _ (List.mem_cons_self ..)
      obtain ⟨t3, t4, e⟩ := spot n ns k hk s2 s3 s4
      obtain ⟨u1, u3, u4, e2⟩ := ih (fun v hv => hd v (List.mem_cons_of_mem _ hv)) (.val false (.int k)) t3 t4
      refine ⟨u1, u3, u4, ?_⟩
      rw [for_next (ρ1 := [.val false (.lst (ns.map .int)), .val false (.int k), s2, s3, s4]) (by simp [runF, MP.execs, ev_cst, ev_glb, ev_var, ev_tup, ev_lst, ev_dis0, ev_dis1, ev_bin, ev_neg, ev_boo, ev_not, ev_cmp, ev_chn, ev_ite, ev_idx, ev_slc, ev_call, ev_blt, ev_isi, ev_lstI, x_par, x_aug, x_seti, x_app, x_expr, x_ife, x_ret, x_retN, x_pas, x_brk, x_cnt, x_rse, x_nm, x_tp, evB, evIf, evO, evAs, evDs, evI, evT, evRs, bnd, ok, op1, op2, view, views, tru, frzM, frz, keepA, unslot, slotOf, putA, putAs, putD, nxtO, augD, setiD, appD, retA, asgT, asgTs, blts, liftO, bltD, absD, maxD, minD, int1D, lenD, gcdD, isiD, blsD, intsD, anyD, allD, sumD, tupleD, listD, strD, reprD, keyB, binD, cmpO, cmpD, datB, negD, idxD, getD, ixD, slcD, tyD, D.truth, D.shp, D.shps, D.eqv, D.eqvs, itemsD, rngD, zipO, enumO, intO, isND, doCall, lends, lendA, lentIx, backs, backS, maskS, mask1]) e]
      exact e2
  have hm : ∃ K : Nat, K ≤ 3 ∧ evI (callN fns (n + 8)) (I.rng1 (C.blt .max2 (Cs.cons (C.cst (D.int 1)) (Cs.cons (C.blt .min2 (Cs.cons (C.cst (D.int 3)) (Cs.cons (C.blt .len (Cs.cons (C.var 0) Cs.nil)) Cs.nil))) Cs.nil)))) [.val false (.lst (ns.map .int)), s1, s2, s3, s4] = some (.ok (intsL 0 K), [.val false (.lst (ns.map .int)), s1, s2, s3, s4]) := by
    have a1 : smallI 0 = true := by decide +kernel
    by_cases h3 : (ns.length : Int) < 3
    · by_cases h1 : (1 : Int) < (ns.length : Int)
      · refine ⟨ns.length, by omega, ?_⟩
        have a2 : smallI (ns.length : Int) = true := by unfold smallI; rw [decide_eq_true_eq]; omega
        have h1' : 1 < ns.length := by omega
        have h3' : ns.length < 3 := by omega
        simp [runF, MP.execs, ev_cst, ev_glb, ev_var, ev_tup, ev_lst, ev_dis0, ev_dis1, ev_bin, ev_neg, ev_boo, ev_not, ev_cmp, ev_chn, ev_ite, ev_idx, ev_slc, ev_call, ev_blt, ev_isi, ev_lstI, x_par, x_aug, x_seti, x_app, x_expr, x_ife, x_ret, x_retN, x_pas, x_brk, x_cnt, x_rse, x_nm, x_tp, evB, evIf, evO, evAs, evDs, evI, evT, evRs, bnd, ok, op1, op2, view, views, tru, frzM, frz, keepA, unslot, slotOf, putA, putAs, putD, nxtO, augD, setiD, appD, retA, asgT, asgTs, blts, liftO, bltD, absD, maxD, minD, int1D, lenD, gcdD, isiD, blsD, intsD, anyD, allD, sumD, tupleD, listD, strD, reprD, keyB, binD, cmpO, cmpD, datB, negD, idxD, getD, ixD, slcD, tyD, D.truth, D.shp, D.shps, D.eqv, D.eqvs, itemsD, rngD, zipO, enumO, intO, isND, doCall, lends, lendA, lentIx, backs, backS, maskS, mask1, h1, h3, h1', h3', a1, a2]
      · refine ⟨1, by omega, ?_⟩
        have h1' : ¬ 1 < ns.length := by omega
        have h3' : ns.length < 3 := by omega
        have a2 : smallI 1 = true := by decide +kernel
        simp [runF, MP.execs, ev_cst, ev_glb, ev_var, ev_tup, ev_lst, ev_dis0, ev_dis1, ev_bin, ev_neg, ev_boo, ev_not, ev_cmp, ev_chn, ev_ite, ev_idx, ev_slc, ev_call, ev_blt, ev_isi, ev_lstI, x_par, x_aug, x_seti, x_app, x_expr, x_ife, x_ret, x_retN, x_pas, x_brk, x_cnt, x_rse, x_nm, x_tp, evB, evIf, evO, evAs, evDs, evI, evT, evRs, bnd, ok, op1, op2, view, views, tru, frzM, frz, keepA, unslot, slotOf, putA, putAs, putD, nxtO, augD, setiD, appD, retA, asgT, asgTs, blts, liftO, bltD, absD, maxD, minD, int1D, lenD, gcdD, isiD, blsD, intsD, anyD, allD, sumD, tupleD, listD, strD, reprD, keyB, binD, cmpO, cmpD, datB, negD, idxD, getD, ixD, slcD, tyD, D.truth, D.shp, D.shps, D.eqv, D.eqvs, itemsD, rngD, zipO, enumO, intO, isND, doCall, lends, lendA, lentIx, backs, backS, maskS, mask1, h1, h3, h1', h3', a1, a2]
    · refine ⟨3, by omega, ?_⟩
      have h3' : ¬ ns.length < 3 := by omega
      have a2 : smallI 3 = true := by decide +kernel
      simp [runF, MP.execs, ev_cst, ev_glb, ev_var, ev_tup, ev_lst, ev_dis0, ev_dis1, ev_bin, ev_neg, ev_boo, ev_not, ev_cmp, ev_chn, ev_ite, ev_idx, ev_slc, ev_call, ev_blt, ev_isi, ev_lstI, x_par, x_aug, x_seti, x_app, x_expr, x_ife, x_ret, x_retN, x_pas, x_brk, x_cnt, x_rse, x_nm, x_tp, evB, evIf, evO, evAs, evDs, evI, evT, evRs, bnd, ok, op1, op2, view, views, tru, frzM, frz, keepA, unslot, slotOf, putA, putAs, putD, nxtO, augD, setiD, appD, retA, asgT, asgTs, blts, liftO, bltD, absD, maxD, minD, int1D, lenD, gcdD, isiD, blsD, intsD, anyD, allD, sumD, tupleD, listD, strD, reprD, keyB, binD, cmpO, cmpD, datB, negD, idxD, getD, ixD, slcD, tyD, D.truth, D.shp, D.shps, D.eqv, D.eqvs, itemsD, rngD, zipO, enumO, intO, isND, doCall, lends, lendA, lentIx, backs, backS, maskS, mask1, h3, h3', a1, a2]
  obtain ⟨K, hK, e0⟩ := hm
  obtain ⟨u1, u3, u4, e2⟩ := key (intsL 0 K) (fun d hd => by
    obtain ⟨i, b1, b2, rfl⟩ := mem_intsL hd
    exact ⟨i.toNat, by omega, by congr 1; omega⟩) s1 s3 s4
  refine ⟨u1, u3, u4, ?_⟩
  rw [x_for, e0]
  exact e2
/-! ### the written answers -/
theorem lw {x y : Int} (h1 : 0 < y) (h2 : Nat.gcd x.natAbs y.natAbs = 1) (h3 : x.natAbs < 1000) (h4 : y.natAbs < 1000) : Nm 0 (.tup [.int x, .int y]) := .frac ⟨h1, h2⟩ (by omega) (by omega)
theorem a_div7 : callN fns 8 34 [.val false (.int 7), .val false (.int 1), .val false (.int 3)] = some (.ok (.dat (.int 5)), [.non, .non, .non]) := by
  have u := undoneV (g := 7) (x := 3) (h := 5) (k := 2) gr7 (by decide) (by decide) (by decide) (by decide) 2
  have e : (5 : Int).fmod 7 = 5 := by decide
  rw [e] at u
  have t := run_timesG (P := fns) (a := 1) (b := 5) r20 5 false false false (g := 7) (by decide) (by decide +kernel)
  have e2 : ((1 : Int) * 5).fmod 7 = 5 := by decide
  rw [e2] at t
  have z := e_is_zero (t := false) (t1 := false) (m := 4) (x := .int 3) (g := 7) (.rest (by decide) (by decide) (by decide))
  exact e_divided (n := 1) gr7.ok (.rest (by decide) (by decide) (by decide)) (.rest (by decide) (by decide) (by decide)) z (e_over (m := 6) u t)
theorem a_div0 : callN fns 8 34 [.val false (.int 0), .val false (.tup [.int (-1), .int 2]), .val false (.tup [.int (-3), .int 4])] = some (.ok (.dat (.tup [.int 2, .int 3])), [.non, .non, .non]) := by
  have u := run_undone0 (P := fns) (M := 10) (a := -3) (b := 4) r12 r21 4 false false (by decide +kernel) (by decide) (by decide)
  have e : fracD 4 (-3) = .tup [.int (-4), .int 3] := by
    unfold fracD shared
    rfl
  rw [e] at u
  have t := run_times0 (P := fns) (M := 10) (a := -1) (b := 2) (c := -4) (d := 3) r12 r20 4 false false false (by decide +kernel) (by decide) (by decide) (by decide) (by decide) (by decide) (by decide)
  have e2 : fracD ((-1) * (-4)) (2 * 3) = .tup [.int 2, .int 3] := by
    unfold fracD shared
    rfl
  rw [e2] at t
  have hx : Nm 0 (.tup [.int (-1), .int 2]) := lw (by decide) (by decide) (by decide) (by decide)
  have hy : Nm 0 (.tup [.int (-3), .int 4]) := lw (by decide) (by decide) (by decide) (by decide)
  have z := e_is_zero (t := false) (t1 := false) (m := 4) hy
  exact e_divided (n := 1) gr0.ok hx hy z (e_over (m := 6) u t)
theorem a_add : callN fns 8 31 [.val false (.int 0), .val false (.tup [.int 1, .int 2]), .val false (.tup [.int 1, .int 2])] = some (.ok (.dat (.tup [.int 1, .int 1])), [.non, .non, .non]) := by
  have t := run_plus0 (P := fns) (M := 10) (a := 1) (b := 2) (c := 1) (d := 2) r12 r17 5 false false false (by decide +kernel) (by decide) (by decide) (by decide) (by decide) (by decide) (by decide)
  have e2 : fracD (1 * 2 + 1 * 2) (2 * 2) = .tup [.int 1, .int 1] := by
    unfold fracD shared
    rfl
  rw [e2] at t
  have hx : Nm 0 (.tup [.int 1, .int 2]) := lw (by decide) (by decide) (by decide) (by decide)
  exact e_added (n := 1) gr0.ok hx hx t
theorem a_pow1 : callN fns 8 35 [.val false (.int 0), .val false (.tup [.int 1, .int 2]), .val false (.int (-2))] = some (.ok (.dat (.tup [.int 4, .int 1])), [.non, .non, .non]) := by
  have hx : Nm 0 (.tup [.int 1, .int 2]) := lw (by decide) (by decide) (by decide) (by decide)
  have hz : Nm 0 (.tup [.int 2, .int 1]) := lw (by decide) (by decide) (by decide) (by decide)
  have e : fracD 2 1 = .tup [.int 2, .int 1] := by
    unfold fracD shared
    rfl
  obtain ⟨pw, k, _, h⟩ := k_powV (e := -2) gr0 hx hz (by decide) (fun _ => by decide) (fun _ => rfl) (fun h => absurd h (by decide)) (fun _ m => by
    have u := run_undone0 (P := fns) (M := 10) (a := 1) (b := 2) r12 r21 (m + 2) false false (by decide +kernel) (by decide) (by decide)
    rw [e] at u
    exact u)
  have := k 1
  rw [h _ _ rfl] at this
  exact this
theorem a_pow2 : callN fns 8 35 [.val false (.int 5), .val false (.int 0), .val false (.int 0)] = some (.ok (.dat (.int 1)), [.non, .non, .non]) := by
  have hx : Nm 5 (.int 0) := .rest (by decide) (by decide) (by decide)
  obtain ⟨pw, k, h, _⟩ := k_powV (e := 0) gr5 hx hx (by decide) (fun _ => by decide) (fun h => absurd h (by decide)) (fun _ => rfl) (fun h => absurd h (by decide))
  have := k 1
  rw [h _ rfl] at this
  exact this
theorem a_pow3 : callN fns 8 35 [.val false (.int 0), .val false (.tup [.int 0, .int 1]), .val false (.int 0)] = some (.ok (.dat (.tup [.int 1, .int 1])), [.non, .non, .non]) := by
  have hx : Nm 0 (.tup [.int 0, .int 1]) := lw (by decide) (by decide) (by decide) (by decide)
  obtain ⟨pw, k, _, h⟩ := k_powV (e := 0) gr0 hx hx (by decide) (fun _ => by decide) (fun h => absurd h (by decide)) (fun _ => rfl) (fun h => absurd h (by decide))
  have := k 1
  rw [h _ _ rfl] at this
  exact this
theorem a_pow4 : callN fns 8 35 [.val false (.int 2), .val false (.int 1), .val false (.int (-1000))] = some (.ok (.dat (.int 1)), [.non, .non, .non]) := by
  have hx : Nm 2 (.int 1) := .rest (by decide) (by decide) (by decide)
  obtain ⟨pw, k, h, _⟩ := k_powV (e := -1000) gr2 hx hx (by decide) (fun h => absurd h (by decide)) (fun _ => rfl) (fun h => absurd h (by decide)) (fun _ m => undoneV (g := 2) (x := 1) (h := 1) (k := 0) gr2 (by decide) (by decide) (by decide) (by decide) m)
  have := k 1
  rw [h _ rfl] at this
  have e : pwG 2 1 (-1000 : Int).natAbs = .int 1 := by
    unfold pwG
    rw [Int.one_pow]
    rfl
  rw [e] at this
  exact this
theorem a_round (a b r : Int) (h1 : 0 < b) (h2 : Nat.gcd a.natAbs b.natAbs = 1) (h3 : a.natAbs < 1000) (h4 : b.natAbs < 1000) (hr : a.fdiv b = r) : callN fns 8 37 [.val false (.tup [.int a, .int b])] = some (.ok (.dat (.int r)), [.non]) := by
  have o1 := e_rounded_in (a := a) (b := b) (t := false) (n := 6) (by omega) (Nat.lt_trans (bits_small (k := 64) (by omega) (by omega)) (by omega))
  rw [hr] at o1
  exact e_rounded (n := 2) (lw h1 h2 h3 h4) o1
theorem a_cmp (a b c d r : Int) (h1 : 0 < b) (h2 : Nat.gcd a.natAbs b.natAbs = 1) (h3 : a.natAbs < 10) (h4 : b.natAbs < 10) (k1 : 0 < d) (k2 : Nat.gcd c.natAbs d.natAbs = 1) (k3 : c.natAbs < 10) (k4 : d.natAbs < 10)
    (hr : ((if a * d - c * b > 0 then 1 else 0) - (if a * d - c * b < 0 then 1 else 0) : Int) = r) : callN fns 8 36 [.val false (.tup [.int a, .int b]), .val false (.tup [.int c, .int d])] = some (.ok (.dat (.int r)), [.non, .non]) := by
  have o1 := e_compared_in (M := 10) (a := a) (b := b) (c := c) (d := d) (t := false) (t1 := false) (n := 6) (by decide +kernel) (by omega) (by omega) (by omega) (by omega)
  rw [hr] at o1
  exact e_compared (n := 1) (lw h1 h2 (by omega) (by omega)) (lw k1 k2 (by omega) (by omega)) o1
theorem a_read : callN fns 8 38 [.val false (.int 5), .val false (.tup [.int 1, .int 2])] = some (.ok (.dat (.int 3)), [.non, .non]) := by
  have hp : Pr 5 := ⟨by decide +kernel, by decide, by decide, co_of (p := 5) (by decide +kernel)⟩
  obtain ⟨v, e, v0, v1, m⟩ := k_read hp (lw (x := 1) (y := 2) (by decide) (by decide) (by decide) (by decide)) (by decide)
  have hv : v = 3 := by
    obtain ⟨k, hk⟩ := m
    omega
  subst hv
  exact e 1
theorem yes (ns : List Int) (hn : ns.length ≤ 63) : MP.Yes K00.tb 9 56 ns := by
  obtain ⟨u1, u3, u4, e0⟩ := loop0 0 ns .non .non .non .non
  replace e0 : MP.exec (callN fns 8) _ _ = _ := e0
  have w1 := k_whole 1 (g := 0) (x := 3) gr0 (by decide) (by decide)
  have w2 := k_whole 1 (g := 7) (x := -1) gr7 (by decide) (by decide)
  rw [if_pos rfl] at w1
  rw [if_neg (by decide), show ((-1 : Int).fmod 7) = 6 by decide] at w2
  have f1 := e_fraction 1 (a := 6) (b := -4) (by decide) (by decide +kernel) ((intB_iff _).mpr (by decide)) ((intB_iff _).mpr (by decide))
  have f2 := e_fraction 1 (a := 0) (b := -5) (by decide) (by decide +kernel) ((intB_iff _).mpr (by decide)) ((intB_iff _).mpr (by decide))
  have x1 : fracD 6 (-4) = .tup [.int (-3), .int 2] := by
    unfold fracD shared
    rfl
  have x2 : fracD 0 (-5) = .tup [.int 0, .int 1] := by
    unfold fracD shared
    rfl
  rw [x1] at f1
  rw [x2] at f2
  replace w1 : callN fns 8 29 _ = _ := w1
  replace w2 : callN fns 8 29 _ = _ := w2
  replace f1 : callN fns 8 30 _ = _ := f1
  replace f2 : callN fns 8 30 _ = _ := f2
  have b1 := a_round (-1) 2 (-1) (by decide) (by decide) (by decide) (by decide) (by decide)
  have b2 := a_round 7 2 3 (by decide) (by decide) (by decide) (by decide) (by decide)
  have b3 := a_round (-4) 1 (-4) (by decide) (by decide) (by decide) (by decide) (by decide)
  have c1 := a_cmp 1 2 2 3 (-1) (by decide) (by decide) (by decide) (by decide) (by decide) (by decide) (by decide) (by decide) (by decide)
  have c2 := a_cmp (-1) 2 (-1) 2 0 (by decide) (by decide) (by decide) (by decide) (by decide) (by decide) (by decide) (by decide) (by decide)
  refine ⟨[.non], ?_⟩
  show callN fns 9 56 [.val false (.lst (ns.map .int))] = _
  rw [callN]
  simp [fns, d_law, runF, MP.execs, ev_cst, ev_glb, ev_var, ev_tup, ev_lst, ev_dis0, ev_dis1, ev_bin, ev_neg, ev_boo, ev_not, ev_cmp, ev_chn, ev_ite, ev_idx, ev_slc, ev_call, ev_blt, ev_isi, ev_lstI, x_par, x_aug, x_seti, x_app, x_expr, x_ife, x_ret, x_retN, x_pas, x_brk, x_cnt, x_rse, x_nm, x_tp, evB, evIf, evO, evAs, evDs, evI, evT, evRs, bnd, ok, op1, op2, view, views, tru, frzM, frz, keepA, unslot, slotOf, putA, putAs, putD, nxtO, augD, setiD, appD, retA, asgT, asgTs, blts, liftO, bltD, absD, maxD, minD, int1D, lenD, gcdD, isiD, blsD, intsD, anyD, allD, sumD, tupleD, listD, strD, reprD, keyB, binD, cmpO, cmpD, datB, negD, idxD, getD, ixD, slcD, tyD, D.truth, D.shp, D.shps, D.eqv, D.eqvs, itemsD, rngD, zipO, enumO, intO, isND, doCall, lends, lendA, lentIx, backs, backS, maskS, mask1, e0, w1, w2, f1, f2, a_add, a_div7, a_div0, a_pow1, a_pow2, a_pow3, a_pow4, b1, b2, b3, c1, c2, a_read]
end K00
set_option Elab.async false
set_option linter.all false
set_option maxRecDepth 100000
open PySem PySem.W PyProof.Rows
set_option maxHeartbeats 0 in
theorem PySem.Challenge.cw_zeroorone_k00_whole_numbers_of_a_ground_holds : PySem.Challenge.rw_zeroorone_k00_whole_numbers_of_a_ground.Holds := by
  w_on; o_law; k_head; (case hw => w_witness2)
  k_fill
  refine MP.walk_mp (l := PySem.Challenge.rw_zeroorone_k00_whole_numbers_of_a_ground) (m := 63) (n := 9) (f := 56) (tb := K00.tb) (fd := K00.d_law) (tops := K00.tops) rfl (by decide) rfl ⟨rfl, by decide, by decide⟩ (fun w h Y => PySem.W.kIn_of Y) rfl rfl rfl ?T (fun ns hn => K00.yes ns hn)
  case T =>
    intro w mg h KX G
    refine' K00.txt KX G ?a0 ?l0 ?c0 ?k0 ?a1 ?l1 ?c1 ?k1 ?a2 ?l2 ?c2 ?k2 ?a3 ?l3 ?c3 ?k3 ?a4 ?l4 ?c4 ?k4 ?a5 ?l5 ?c5 ?k5 ?a6 ?l6 ?c6 ?k6 ?a7 ?l7 ?c7 ?k7 ?a8 ?l8 ?c8 ?k8 ?a9 ?l9 ?c9 ?k9 ?a10 ?l10 ?c10 ?k10 ?a11 ?l11 ?c11 ?k11 ?a12 ?l12 ?c12 ?k12 ?a13 ?l13 ?c13 ?k13 ?a14 ?l14 ?c14 ?k14 ?a15 ?l15 ?c15 ?k15 ?a16 ?l16 ?c16 ?k16 ?a17 ?l17 ?c17 ?k17 ?a18 ?l18 ?c18 ?k18 ?a19 ?l19 ?c19 ?k19 ?a20 ?l20 ?c20 ?k20 ?a21 ?l21 ?c21 ?k21 ?a22 ?l22 ?c22 ?k22 ?a23 ?l23 ?c23 ?k23 ?a24 ?l24 ?c24 ?k24 ?a25 ?l25 ?c25 ?k25 ?a26 ?l26 ?c26 ?k26 ?a27 ?l27 ?c27 ?k27 ?a28 ?l28 ?c28 ?k28 ?a29 ?l29 ?c29 ?k29 ?a30 ?l30 ?c30 ?k30 ?a31 ?l31 ?c31 ?k31 ?a32 ?l32 ?c32 ?k32 ?a33 ?l33 ?c33 ?k33 ?a34 ?l34 ?c34 ?k34 ?a35 ?l35 ?c35 ?k35 ?a36 ?l36 ?c36 ?k36 ?a37 ?l37 ?c37 ?k37 ?a38 ?l38 ?c38 ?k38 ?a39 ?l39 ?c39 ?k39 ?a40 ?l40 ?c40 ?k40 ?a41 ?l41 ?c41 ?k41 ?a42 ?l42 ?c42 ?k42 ?a43 ?l43 ?c43 ?k43 ?a44 ?l44 ?c44 ?k44 ?a45 ?l45 ?c45 ?k45 ?a46 ?l46 ?c46 ?k46 ?a47 ?l47 ?c47 ?k47 ?a48 ?l48 ?c48 ?k48 ?a49 ?l49 ?c49 ?k49 ?a50 ?l50 ?c50 ?k50 ?a51 ?l51 ?c51 ?k51 ?a52 ?l52 ?c52 ?k52 ?a53 ?l53 ?c53 ?k53 ?a54 ?l54 ?c54 ?k54 ?a55 ?l55 ?c55 ?k55 ?a56 ?l56 ?c56 ?k56 ?i0 ?i1 ?i2 ?i3 ?b0 ?b1 ?b2 ?b3 ?b4 ?b5 ?b6 ?b7 ?b8 ?b9 ?b10 ?b11 ?b12 ?b13 ?b14 ?b15 ?b16 ?b17 ?b18 ?b19 ?gc
    (case a0 => k_is); (case l0 => k_is); (case c0 => k_is); (case k0 => k_is); (case a1 => k_is); (case l1 => k_is); (case c1 => k_is); (case k1 => k_is)
    (case a2 => k_is); (case l2 => k_is); (case c2 => k_is); (case k2 => k_is); (case a3 => k_is); (case l3 => k_is); (case c3 => k_is); (case k3 => k_is)
    (case a4 => k_is); (case l4 => k_is); (case c4 => k_is); (case k4 => k_is); (case a5 => k_is); (case l5 => k_is); (case c5 => k_is); (case k5 => k_is)
    (case a6 => k_is); (case l6 => k_is); (case c6 => k_is); (case k6 => k_is); (case a7 => k_is); (case l7 => k_is); (case c7 => k_is); (case k7 => k_is)
    (case a8 => k_is); (case l8 => k_is); (case c8 => k_is); (case k8 => k_is); (case a9 => k_is); (case l9 => k_is); (case c9 => k_is); (case k9 => k_is)
    (case a10 => k_is); (case l10 => k_is); (case c10 => k_is); (case k10 => k_is); (case a11 => k_is); (case l11 => k_is); (case c11 => k_is); (case k11 => k_is)
    (case a12 => k_is); (case l12 => k_is); (case c12 => k_is); (case k12 => k_is); (case a13 => k_is); (case l13 => k_is); (case c13 => k_is); (case k13 => k_is)
    (case a14 => k_is); (case l14 => k_is); (case c14 => k_is); (case k14 => k_is); (case a15 => k_is); (case l15 => k_is); (case c15 => k_is); (case k15 => k_is)
    (case a16 => k_is); (case l16 => k_is); (case c16 => k_is); (case k16 => k_is); (case a17 => k_is); (case l17 => k_is); (case c17 => k_is); (case k17 => k_is)
    (case a18 => k_is); (case l18 => k_is); (case c18 => k_is); (case k18 => k_is); (case a19 => k_is); (case l19 => k_is); (case c19 => k_is); (case k19 => k_is)
    (case a20 => k_is); (case l20 => k_is); (case c20 => k_is); (case k20 => k_is); (case a21 => k_is); (case l21 => k_is); (case c21 => k_is); (case k21 => k_is)
    (case a22 => k_is); (case l22 => k_is); (case c22 => k_is); (case k22 => k_is); (case a23 => k_is); (case l23 => k_is); (case c23 => k_is); (case k23 => k_is)
    (case a24 => k_is); (case l24 => k_is); (case c24 => k_is); (case k24 => k_is); (case a25 => k_is); (case l25 => k_is); (case c25 => k_is); (case k25 => k_is)
    (case a26 => k_is); (case l26 => k_is); (case c26 => k_is); (case k26 => k_is); (case a27 => k_is); (case l27 => k_is); (case c27 => k_is); (case k27 => k_is)
    (case a28 => k_is); (case l28 => k_is); (case c28 => k_is); (case k28 => k_is); (case a29 => k_is); (case l29 => k_is); (case c29 => k_is); (case k29 => k_is)
    (case a30 => k_is); (case l30 => k_is); (case c30 => k_is); (case k30 => k_is); (case a31 => k_is); (case l31 => k_is); (case c31 => k_is); (case k31 => k_is)
    (case a32 => k_is); (case l32 => k_is); (case c32 => k_is); (case k32 => k_is); (case a33 => k_is); (case l33 => k_is); (case c33 => k_is); (case k33 => k_is)
    (case a34 => k_is); (case l34 => k_is); (case c34 => k_is); (case k34 => k_is); (case a35 => k_is); (case l35 => k_is); (case c35 => k_is); (case k35 => k_is)
    (case a36 => k_is); (case l36 => k_is); (case c36 => k_is); (case k36 => k_is); (case a37 => k_is); (case l37 => k_is); (case c37 => k_is); (case k37 => k_is)
    (case a38 => k_is); (case l38 => k_is); (case c38 => k_is); (case k38 => k_is); (case a39 => k_is); (case l39 => k_is); (case c39 => k_is); (case k39 => k_is)
    (case a40 => k_is); (case l40 => k_is); (case c40 => k_is); (case k40 => k_is); (case a41 => k_is); (case l41 => k_is); (case c41 => k_is); (case k41 => k_is)
    (case a42 => k_is); (case l42 => k_is); (case c42 => k_is); (case k42 => k_is); (case a43 => k_is); (case l43 => k_is); (case c43 => k_is); (case k43 => k_is)
    (case a44 => k_is); (case l44 => k_is); (case c44 => k_is); (case k44 => k_is); (case a45 => k_is); (case l45 => k_is); (case c45 => k_is); (case k45 => k_is)
    (case a46 => k_is); (case l46 => k_is); (case c46 => k_is); (case k46 => k_is); (case a47 => k_is); (case l47 => k_is); (case c47 => k_is); (case k47 => k_is)
    (case a48 => k_is); (case l48 => k_is); (case c48 => k_is); (case k48 => k_is); (case a49 => k_is); (case l49 => k_is); (case c49 => k_is); (case k49 => k_is)
    (case a50 => k_is); (case l50 => k_is); (case c50 => k_is); (case k50 => k_is); (case a51 => k_is); (case l51 => k_is); (case c51 => k_is); (case k51 => k_is)
    (case a52 => k_is); (case l52 => k_is); (case c52 => k_is); (case k52 => k_is); (case a53 => k_is); (case l53 => k_is); (case c53 => k_is); (case k53 => k_is)
    (case a54 => k_is); (case l54 => k_is); (case c54 => k_is); (case k54 => k_is); (case a55 => k_is); (case l55 => k_is); (case c55 => k_is); (case k55 => k_is)
    (case a56 => k_is); (case l56 => k_is); (case c56 => k_is); (case k56 => k_is); (case i0 => k_is); (case i1 => k_is); (case i2 => k_is); (case i3 => k_is)
    (case b0 => k_is); (case b1 => k_is); (case b2 => k_is); (case b3 => k_is); (case b4 => k_is); (case b5 => k_is); (case b6 => k_is); (case b7 => k_is)
    (case b8 => k_is); (case b9 => k_is); (case b10 => k_is); (case b11 => k_is); (case b12 => k_is); (case b13 => k_is); (case b14 => k_is); (case b15 => k_is)
    (case b16 => k_is); (case b17 => k_is); (case b18 => k_is); (case b19 => k_is); (case gc => k_is)
-- depth 9
