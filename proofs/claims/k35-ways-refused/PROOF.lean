import PyProof.Rows.All
import HandS.ForMost
import HandS.ForExc
import HandS.Deep
import HandS.TupAny
import HandS.TupMul
import HandS.TupLe
import HandS.Wide
import HandS.Style
import HandS.IsInst
import HandS.Zip
import KE.GoesEnum
import HandS.Rev
import HandS.Conv
import HandS.CallSlots
import HandS.Defaults
import HandS.MakeKwOnly
import HandS.OwnEq
import HandS.TupSets
import HandS.SetFor
import HandS.Strs
import HandS.SortInts
import KE.SortData
import KE.DatumOrd
import HandS.Comp
import HandS.WordsExc
import PyProof.ZipIter
import PyProof.ListNew
import KE.KItemsList
import KE.DataFind
import HandS.Remove
import HandS.HotCalls
import HandS.ExcIs
import HandS.EndBits
import PySem.Challenge.RW_dotways_k35_ways_refused
section
/-! MP: a small language of pure data, its texts (E, S) and what they mean (den). Core Lean alone. -/
set_option autoImplicit false
namespace MP

inductive D where
  | non
  | bl (b : Bool)
  | int (i : Int)
  | str (s : String)
  | tup (xs : List D)
  | lst (xs : List D)
  | dic (kvs : List (D × D))
  | obj (c : String) (fs : List (String × D))
  | fn (n : String)
  /-- the script -/
  | scr (ns : List Int)
instance : Inhabited D := ⟨.non⟩

abbrev SL : Nat := 16777216

/-! ### equality and order of plain data -/
mutual
def eqD : D → D → Bool
  | .non, .non => true
  | .bl a, .bl b => a == b
  | .bl a, .int j => (if a then 1 else 0) == j
  | .int i, .bl b => i == (if b then 1 else 0)
  | .int i, .int j => i == j
  | .str x, .str y => x == y
  | .lst xs, .lst ys => eqL xs ys
  | .tup xs, .tup ys => eqL xs ys
  | _, _ => false
def eqL : List D → List D → Bool
  | [], [] => true
  | x :: xs, y :: ys => eqD x y && eqL xs ys
  | _, _ => false
end
mutual
/-- plain data: nothing but None, bools, ints, texts, tuples, lists -/
def plnD : D → Bool
  | .non => true
  | .bl _ => true
  | .int _ => true
  | .str _ => true
  | .tup xs => plnL xs
  | .lst xs => plnL xs
  | _ => false
def plnL : List D → Bool
  | [] => true
  | x :: xs => plnD x && plnL xs
end
mutual
def dptD : D → Nat
  | .tup xs => dptL xs + 1
  | .lst xs => dptL xs + 1
  | _ => 0
def dptL : List D → Nat
  | [] => 0
  | x :: xs => max (dptD x) (dptL xs)
end
/-- plain and not deep -/
def pl (d : D) : Bool := plnD d && decide (dptD d ≤ 60)
mutual
def ltD : D → D → Bool
  | .bl a, .bl b => !a && b
  | .int i, .int j => decide (i < j)
  | .lst xs, .lst ys => ltL xs ys
  | .tup xs, .tup ys => ltL xs ys
  | _, _ => false
def ltL : List D → List D → Bool
  | [], [] => false
  | [], _ :: _ => true
  | _ :: _, [] => false
  | x :: xs, y :: ys => if eqD x y then ltL xs ys else ltD x y
end
mutual
/-- the two can be compared place by place (no texts) -/
def alk : D → D → Bool
  | .non, .non => true
  | .bl _, .bl _ => true
  | .int _, .int _ => true
  | .lst xs, .lst ys => alkL xs ys
  | .tup xs, .tup ys => alkL xs ys
  | _, _ => false
def alkL : List D → List D → Bool
  | x :: xs, y :: ys => alk x y && alkL xs ys
  | [], _ => true
  | _ :: _, [] => true
end
def leD (a b : D) : Bool := !ltD b a

/-! ### operators -/
inductive Bop where | add | sub | mul | fdiv | mod | pow
inductive Cop where | eq | ne | lt | le | gt | ge | isin | notin | is | isnot
inductive Ty where | int | bool | tuple | list | dict | str | cls (c : String)
inductive Prim where | len | all | any | sum | abs | min2 | max2 | min1 | max1 | sorted | sortedSet | lenSet | tuple | list

def mulOk (i j : Int) : Bool := decide (i.natAbs < 2 ^ 64) || decide (j.natAbs < 2 ^ 64) || (decide (i.natAbs < 2 ^ 1000) && decide (j.natAbs < 2 ^ 1000))
def repL (xs : List D) (n : Nat) : List D := (List.replicate n xs).flatten
def binOp : Bop → D → D → Option D
  | .add, .int i, .int j => some (.int (i + j))
  | .add, .lst a, .lst b => if a.length + b.length ≤ SL then some (.lst (a ++ b)) else none
  | .add, .tup a, .tup b => if a.length + b.length ≤ SL then some (.tup (a ++ b)) else none
  | .sub, .int i, .int j => some (.int (i - j))
  | .mul, .int i, .int j => if mulOk i j then some (.int (i * j)) else none
  | .mul, .tup a, .int k => if 2 ≤ k ∧ k ≤ 1000 ∧ a.length ≤ 1000 ∧ 0 < a.length then some (.tup (repL a k.toNat)) else none
  | .mul, .lst a, .int k => if 0 ≤ k ∧ k < 1000 ∧ a.length * k.toNat ≤ SL then some (.lst (repL a k.toNat)) else none
  | .fdiv, .int i, .int j => if j ≠ 0 ∧ j.natAbs < 1073741824 then some (.int (i.fdiv j)) else none
  | .mod, .int i, .int j => if j ≠ 0 then some (.int (i.fmod j)) else none
  | .pow, .int i, .int j => if 0 ≤ j ∧ j ≤ 1000000 ∧ i.natAbs < 2 ^ 64 then some (.int (i ^ j.toNat)) else none
  | _, _, _ => none
def allInts : List D → Bool
  | [] => true
  | .int _ :: r => allInts r
  | _ :: _ => false
def isEq (a b : D) : Option Bool :=
  match a, b with
  | .scr ns, .lst [] => some ns.isEmpty
  | a, b => if pl a && pl b then some (eqD a b) else none
def memD (x : D) : List D → Bool
  | [] => false
  | y :: ys => eqD y x || memD x ys
def isIn (x : D) : D → Option Bool
  | .lst ys => if pl x && pl (.lst ys) then some (memD x ys) else none
  | .tup ys => if pl x && pl (.tup ys) then some (memD x ys) else none
  | _ => none
def isOp : D → D → Option Bool
  | .non, .non => some true
  | _, .non => some false
  | .bl a, .bl b => some (a == b)
  | _, _ => none
def cmpOp : Cop → D → D → Option Bool
  | .eq, a, b => isEq a b
  | .ne, a, b => (isEq a b).map (!·)
  | .lt, .int i, .int j => some (decide (i < j))
  | .lt, .tup a, .tup b => if allInts a && allInts b then some (ltL a b) else none
  | .le, .int i, .int j => some (decide (i ≤ j))
  | .gt, .int i, .int j => some (decide (j < i))
  | .ge, .int i, .int j => some (decide (j ≤ i))
  | .isin, a, b => isIn a b
  | .notin, a, b => (isIn a b).map (!·)
  | .is, a, b => isOp a b
  | .isnot, a, b => (isOp a b).map (!·)
  | _, _, _ => none
def isInst : D → Ty → Option Bool
  | .obj c _, .cls c' => if c = c' then some true else none
  | .obj _ _, _ => some false
  | .fn _, _ => none
  | .dic _, _ => none
  | .int _, .int => some true
  | .bl _, .int => some true
  | .bl _, .bool => some true
  | .tup _, .tuple => some true
  | .lst _, .list => some true
  | .scr _, .list => some true
  | .str _, .str => some true
  | _, _ => some false

/-! ### places and slices -/
def ixN (n : Nat) (i : Int) : Option Nat :=
  if 0 ≤ i then (if i < n then some i.toNat else none) else if -(n : Int) ≤ i then some (i + n).toNat else none
def at? (xs : List D) (i : Int) : Option D := (ixN xs.length i).bind fun j => xs[j]?
/-- where a slice's end lies in a row of n -/
def sEnd (n d : Nat) : Option Int → Nat
  | none => d
  | some v => if v < 0 then (v + (n : Int)).toNat else min v.toNat n
def cut (xs : List D) (lo hi : Option Int) : List D :=
  (xs.drop (sEnd xs.length 0 lo)).take (sEnd xs.length xs.length hi - sEnd xs.length 0 lo)

/-! ### built-ins -/
def sumI : List D → Option Int
  | [] => some 0
  | .int i :: r => (sumI r).map (i + ·)
  | _ :: _ => none
def bools : List D → Option (List Bool)
  | [] => some []
  | .bl b :: r => (bools r).map (b :: ·)
  | _ :: _ => none
def sortOk (xs : List D) : Bool :=
  xs.all (fun x => pl x && xs.all (fun y => alk x y)) &&
    (xs.all (fun x => match x with | .tup (_ :: _) => true | _ => false) || xs.all (fun x => match x with | .tup _ => false | .non => false | _ => true))
def sortD (xs : List D) : List D := xs.mergeSort leD
/-- one of each -/
def uniqD : List D → List D
  | [] => []
  | x :: xs => if memD x xs then uniqD xs else x :: uniqD xs
def intsOnly (xs : List D) : Bool := allInts xs
def intTup : D → Bool
  | .tup xs => allInts xs
  | _ => false
/-- a tuple of d small ints -/
def bdTup (d : Nat) : D → Bool
  | .tup xs => xs.length == d && xs.all fun x => match x with
    | .int i => decide (0 ≤ i) && decide (i < 1000)
    | _ => false
  | _ => false
def tupDim : List D → Nat
  | .tup xs :: _ => xs.length
  | _ => 1
def setOkT (xs : List D) : Bool := decide (xs.length < 64) && decide (1 ≤ tupDim xs) && xs.all (bdTup (tupDim xs))
def setOkI (xs : List D) : Bool := decide (xs.length < 64) && allInts xs
def setOk (xs : List D) : Bool := setOkT xs || setOkI xs
def minI : Int → List D → Option Int
  | m, [] => some m
  | m, .int i :: r => minI (if i < m then i else m) r
  | _, _ :: _ => none
def maxI : Int → List D → Option Int
  | m, [] => some m
  | m, .int i :: r => maxI (if i > m then i else m) r
  | _, _ :: _ => none
def prim : Prim → List D → Option D
  | .len, [.lst xs] => some (.int xs.length)
  | .len, [.tup xs] => some (.int xs.length)
  | .len, [.scr xs] => some (.int xs.length)
  | .all, [.lst xs] => (bools xs).map fun bs => .bl (bs.all id)
  | .any, [.lst xs] => (bools xs).map fun bs => .bl (bs.any id)
  | .sum, [.lst xs] => (sumI xs).map .int
  | .abs, [.int i] => some (.int (if i < 0 then -i else i))
  | .min2, [.int i, .int j] => some (.int (if j < i then j else i))
  | .max2, [.int i, .int j] => some (.int (if j > i then j else i))
  | .min1, [.lst (.int i :: r)] => (minI i r).map .int
  | .max1, [.lst (.int i :: r)] => (maxI i r).map .int
  | .sorted, [.lst xs] => if sortOk xs then some (.lst (sortD xs)) else none
  | .sortedSet, [.lst xs] => if setOk xs then some (.lst (sortD (uniqD xs))) else none
  | .lenSet, [.lst xs] => if setOkT xs then some (.int (uniqD xs).length) else none
  | .tuple, [.lst xs] => some (.tup xs)
  | .tuple, [.tup xs] => some (.tup xs)
  | .list, [.lst xs] => some (.lst xs)
  | .list, [.tup xs] => some (.lst xs)
  | _, _ => none
/-- does the built-in hand back a new list -/
def Prim.fresh : Prim → Bool
  | .sorted => true
  | .sortedSet => true
  | .list => true
  | _ => false

/-! ### cells, outcomes -/
/-- what a slot holds: nothing; a value that is never changed; a thing of its own; such a thing, locked; a thing of the caller's that may be changed -/
inductive Cell where
  | un
  | val (d : D)
  | own (d : D)
  | lck (d : D)
  | io (d : D)
abbrev Rho := List Cell
inductive CV where
  | val (d : D)
  | own (d : D)
def CV.d : CV → D
  | .val d => d
  | .own d => d
inductive Out (α : Type) where
  | ok (a : α) (ρ : Rho)
  | ex (c : String) (ρ : Rho)
  | bad
def Out.bind {α β : Type} : Out α → (α → Rho → Out β) → Out β
  | .ok a ρ, f => f a ρ
  | .ex c ρ, _ => .ex c ρ
  | .bad, _ => .bad
@[simp] theorem Out.bind_ok {α β : Type} (a : α) (ρ : Rho) (f : α → Rho → Out β) : (Out.ok a ρ).bind f = f a ρ := rfl
@[simp] theorem Out.bind_ex {α β : Type} (c : String) (ρ : Rho) (f : α → Rho → Out β) : (Out.ex c ρ : Out α).bind f = .ex c ρ := rfl
@[simp] theorem Out.bind_bad {α β : Type} (f : α → Rho → Out β) : (Out.bad : Out α).bind f = .bad := rfl
inductive FOut where
  | ok (cv : CV) (outs : List D)
  | ex (c : String) (outs : List D)
  | bad
structure FD where
  /-- how many parameters -/
  n : Nat
  /-- which parameters may be changed -/
  io : List Nat
  run : List D → FOut
structure Tab where
  fn : String → Option FD
  fuel : Nat

/-- a target: a name, a row of names -/
inductive Tg where
  | nm (i : Nat)
  | tp (is : List Nat)

/-- what is done with a row of values: a new instance by keywords (its parameters: a keyword's place, or a default), == of instances, list(zip(..)), len(set(..)), sorted(set(..)) of ints -/
inductive XOp where
  | new (c : String) (ks : List String) (plan : List (Bool × Int))
  | eqo (c : String)
  | lzip
  | lenSet
/-! ### the texts: expressions -/
inductive E where
  | var (i : Nat)
  /-- a name handed by reference -/
  | ref (i : Nat)
  | cst (d : D)
  | glb (x : String) (d : D)
  | nil
  | cons (e es : E)
  | tup (es : E)
  | lst (es : E)
  | bin (op : Bop) (a b : E)
  | neg (a : E)
  | cmp (op : Cop) (a b : E)
  | chn (o p : Cop) (a b c : E)
  | and (a b : E)
  | or (a b : E)
  | not (a : E)
  | ite (c a b : E)
  | isi (a : E) (t : Ty)
  | call (f : String) (es : E)
  | prm1 (p : Prim) (a : E)
  | prm2 (p : Prim) (a b : E)
  | ix (a b : E)
  | slc (a lo hi : E)
  | rev (a : E)
  | att (a : E) (f : String)
  | itr (a : E)
  | rng1 (a : E)
  | rng2 (a b : E)
  | enm (a : E)
  | zip (a b : E)
  | cmp1 (vs : List Nat) (tg : Tg) (it cond elt : E)
  | cmp2 (vs vs1 : List Nat) (tg : Tg) (it : E) (tg1 : Tg) (it1 cond1 elt : E)
  | pop (i : Nat) (k : E)
  | xop (o : XOp) (es : E)

def peek (ρ : Rho) (i : Nat) : Option D :=
  match ρ[i]? with
  | some (.val d) => some d
  | some (.own d) => some d
  | some (.lck d) => some d
  | some (.io d) => some d
  | _ => none
def ofO (ρ : Rho) : Option D → Out CV
  | some d => .ok (.val d) ρ
  | none => .bad
def ownO (ρ : Rho) : Option D → Out CV
  | some d => .ok (.own d) ρ
  | none => .bad
/-- a list that is made anew is its holder's own -/
def newO (ρ : Rho) : Option D → Out CV
  | some (.lst xs) => .ok (.own (.lst xs)) ρ
  | some d => .ok (.val d) ρ
  | none => .bad
def ofB (ρ : Rho) : Option Bool → Out CV
  | some b => .ok (.val (.bl b)) ρ
  | none => .bad
/-- an operand: a name is looked at, not handed on -/
def opd (a : E) (m : Rho → Out CV) (ρ : Rho) : Out D :=
  match a with
  | .var i => match peek ρ i with
    | some d => .ok d ρ
    | none => .bad
  | _ => (m ρ).bind fun cv ρ' => .ok cv.d ρ'
/-- the first operand, looked at again behind the second -/
def again (a : E) (d : D) (ρ : Rho) : Option D :=
  match a with
  | .var i => peek ρ i
  | _ => some d
def two (a b : E) (ma mb : Rho → Out CV) (ρ : Rho) : Out (D × D) :=
  (opd a ma ρ).bind fun x ρ1 => (opd b mb ρ1).bind fun y ρ2 =>
    match again a x ρ2 with
    | some x' => .ok (x', y) ρ2
    | none => .bad
def val (m : Rho → Out CV) (ρ : Rho) : Out D := (m ρ).bind fun cv ρ' => .ok cv.d ρ'
def binds : List Nat → List D → Rho → Option Rho
  | [], [], ρ => some ρ
  | i :: is, d :: ds, ρ => binds is ds (ρ.set i (.val d))
  | _, _, _ => none
def bindT (tg : Tg) (d : D) (ρ : Rho) : Option Rho :=
  match tg with
  | .nm i => some (ρ.set i (.val d))
  | .tp is => match d with
    | .tup ds => binds is ds ρ
    | _ => none
def wipeR (ρ : Rho) : List Nat → Rho
  | [] => ρ
  | v :: vs => (wipeR ρ vs).set v .un
/-- the slots vs as they were in ρ0 -/
def backR (ρ0 ρ : Rho) : List Nat → Rho
  | [] => ρ
  | v :: vs => (backR ρ0 ρ vs).set v (ρ0.getD v .un)
/-- the slots hold nothing that may be changed -/
def quiet (ρ : Rho) : List Nat → Bool
  | [] => true
  | v :: vs => (match ρ[v]? with
    | some (.un) => true
    | some (.val _) => true
    | _ => false) && quiet ρ vs
def seqOf : D → Option (List D)
  | .lst xs => some xs
  | .tup xs => some xs
  | _ => none
/-- what is walked: its items; a name that is its holder's own is locked meanwhile -/
def iterOf (it : E) (m : Rho → Out CV) (ρ : Rho) : Out (List D × Option Nat) :=
  match it with
  | .itr (.var i) => match ρ[i]? with
    | some (.own (.lst xs)) => .ok (xs, some i) (ρ.set i (.lck (.lst xs)))
    | some (.val d) => match seqOf d with
      | some xs => .ok (xs, none) ρ
      | none => .bad
    | _ => .bad
  | _ => (m ρ).bind fun cv ρ' => match seqOf cv.d with
    | some xs => .ok (xs, none) ρ'
    | none => .bad
def unlock (lk : Option Nat) (ρ : Rho) : Option Rho :=
  match lk with
  | none => some ρ
  | some i => match ρ[i]? with
    | some (.lck d) => some (ρ.set i (.own d))
    | _ => none
def tgIn (tg : Tg) (vs : List Nat) : Bool :=
  match tg with
  | .nm i => vs.contains i
  | .tp is => is.all fun i => vs.contains i
/-- nothing is let out of a comprehension -/
def Out.shut {α : Type} : Out α → Out α
  | .ex _ _ => .bad
  | o => o
/-- the turns of a comprehension: vs its own slots, f what a turn adds -/
def loopC (vs : List Nat) (tg : Tg) (f : Rho → Out (List D)) : List D → List D → Rho → Out (List D)
  | [], acc, ρ => if quiet ρ vs then .ok acc ρ else .bad
  | x :: xs, acc, ρ => match (if quiet ρ vs && tgIn tg vs then bindT tg x (wipeR ρ vs) else none) with
    | none => .bad
    | some ρ1 => (f ρ1).shut.bind fun ys ρ2 => loopC vs tg f xs (acc ++ ys) ρ2
def testOf (cond : E) (m : Rho → Out CV) (ρ : Rho) : Out Bool :=
  match cond with
  | .nil => .ok true ρ
  | _ => (m ρ).bind fun cv ρ' => match cv.d with
    | .bl b => .ok b ρ'
    | _ => .bad
/-- if the test holds the element alone, else nothing -/
def eltOf (cond : E) (mc me : Rho → Out CV) (ρ : Rho) : Out (List D) :=
  (testOf cond mc ρ).bind fun b ρ1 => if b then (val me ρ1).bind fun d ρ2 => .ok [d] ρ2 else .ok [] ρ1
def enumL : Nat → List D → List D
  | _, [] => []
  | k, x :: xs => .tup [.int k, x] :: enumL (k + 1) xs
def zipL : List D → List D → List D
  | x :: xs, y :: ys => .tup [x, y] :: zipL xs ys
  | _, _ => []
def rngL : Int → Nat → List D
  | _, 0 => []
  | a, n + 1 => .int a :: rngL (a + 1) n
def refsOf : E → List Nat
  | .cons (.ref i) es => i :: refsOf es
  | .cons _ es => refsOf es
  | _ => []
/-- which places of an argument list are handed by reference -/
def refPos : Nat → E → List Nat
  | k, .cons (.ref _) es => k :: refPos (k + 1) es
  | k, .cons _ es => refPos (k + 1) es
  | _, _ => []
/-- the cells that are handed by reference, as they stand -/
def ioAt (ρ : Rho) (i : Nat) : Option D :=
  match ρ[i]? with
  | some (.own d) => some d
  | some (.io d) => some d
  | _ => none
def ioPut (ρ : Rho) (i : Nat) (d : D) : Rho :=
  match ρ[i]? with
  | some (.own _) => ρ.set i (.own d)
  | some (.io _) => ρ.set i (.io d)
  | _ => ρ
def fill (ρ : Rho) : E → List D → Option (List D)
  | .cons (.ref i) es, _ :: ds => (ioAt ρ i).bind fun d => (fill ρ es ds).map (d :: ·)
  | .cons _ es, d :: ds => (fill ρ es ds).map (d :: ·)
  | .nil, [] => some []
  | _, _ => none
def ioPuts (ρ : Rho) : List Nat → List D → Option Rho
  | [], [] => some ρ
  | i :: is, d :: ds => ioPuts (ioPut ρ i d) is ds
  | _, _ => none
def nodupN : List Nat → Bool
  | [] => true
  | i :: is => !is.contains i && nodupN is
def callOut (ρ : Rho) (rs : List Nat) : FOut → Out CV
  | .ok cv outs => match ioPuts ρ rs outs with
    | some ρ' => .ok cv ρ'
    | none => .bad
  | .ex c outs => match ioPuts ρ rs outs with
    | some ρ' => .ex c ρ'
    | none => .bad
  | .bad => .bad
def callF (Γ : Tab) (f : String) (es : E) (ρ : Rho) (ds : List D) : Out CV :=
  match Γ.fn f with
  | none => .bad
  | some fd => if refPos 0 es = fd.io ∧ nodupN (refsOf es) = true ∧ ds.length = fd.n then
      match fill ρ es ds with
      | some ds' => callOut ρ (refsOf es) (fd.run ds')
      | none => .bad
    else .bad
def optI : E → D → Option (Option Int)
  | .nil, _ => some none
  | _, .int i => some (some i)
  | _, _ => none
def sliceD (d : D) (lo hi : Option Int) : Option D :=
  match d with
  | .lst xs => some (.lst (cut xs lo hi))
  | .tup xs => some (.tup (cut xs lo hi))
  | _ => none
def ixD : D → D → Option D
  | .scr ns, .int i => (ixN ns.length i).bind fun j => (ns[j]?).map .int
  | .lst xs, .int i => at? xs i
  | .tup xs, .int i => at? xs i
  | _, _ => none

/-- a comprehension's turns, then its slots as they were and the lock taken off -/
def compC (vs : List Nat) (tg : Tg) (f : Rho → Out (List D)) (p : List D × Option Nat) (ρ1 : Rho) : Out CV :=
  if quiet ρ1 vs then
    (loopC vs tg f p.1 [] ρ1).bind fun ys ρ2 => match unlock p.2 (backR ρ1 ρ2 vs) with
      | some ρ3 => .ok (.own (.lst ys)) ρ3
      | none => .bad
  else .bad
/-- the inner turns of a comprehension with two fors -/
def in2 (vs1 : List Nat) (tg1 : Tg) (it1 : E) (m1 : Rho → Out CV) (f : Rho → Out (List D)) (ρa : Rho) : Out (List D) :=
  (iterOf it1 m1 ρa).bind fun p1 ρb => if quiet ρb vs1 then match p1.2 with
      | some _ => .bad
      | none => (loopC vs1 tg1 f p1.1 [] ρb).bind fun ys ρc => .ok ys (backR ρb ρc vs1)
    else .bad

/-! ### values in a row -/
def planD : List (Bool × Int) → List D → Option (List D)
  | [], _ => some []
  | (true, i) :: r, ds => match ds[i.toNat]?, planD r ds with
    | some d, some q => some (d :: q)
    | _, _ => none
  | (false, n) :: r, ds => (planD r ds).map (.int n :: ·)
/-- an instance is made: what __init__ does -/
def newOut (ρ : Rho) : FOut → Out CV
  | .ok (.val .non) [d] => .ok (.own d) ρ
  | .ex z [_] => .ex z ρ
  | _ => .bad
def xNew (Γ : Tab) (c : String) (ks : List String) (plan : List (Bool × Int)) (ρ : Rho) (ds : List D) : Out CV :=
  match Γ.fn (c ++ ".__init__"), planD plan ds with
  | some fd, some as => if fd.io = [0] ∧ as.length + 1 = fd.n ∧ ds.length = ks.length then newOut ρ (fd.run (.obj c [] :: as)) else .bad
  | _, _ => .bad
def eqOut (ρ : Rho) : FOut → Out CV
  | .ok (.val (.bl b)) [] => .ok (.val (.bl b)) ρ
  | _ => .bad
def xEqo (Γ : Tab) (c : String) (ρ : Rho) : List D → Out CV
  | [.obj c1 fs, .obj c2 gs] => match Γ.fn (c ++ ".__eq__") with
    | some fd => if fd.io = [] ∧ fd.n = 2 ∧ c1 = c ∧ c2 = c then eqOut ρ (fd.run [.obj c1 fs, .obj c2 gs]) else .bad
    | none => .bad
  | _ => .bad
def xLzip (ρ : Rho) : List D → Out CV
  | [.lst xs, .lst ys] => .ok (.own (.lst (zipL xs ys))) ρ
  | _ => .bad
def xLenSet (ρ : Rho) : List D → Out CV
  | [.lst xs] => if setOkT xs then .ok (.val (.int (uniqD xs).length)) ρ else .bad
  | _ => .bad
def xden (Γ : Tab) (ρ : Rho) : XOp → List D → Out CV
  | .new c ks plan, ds => xNew Γ c ks plan ρ ds
  | .eqo c, ds => xEqo Γ c ρ ds
  | .lzip, ds => xLzip ρ ds
  | .lenSet, ds => xLenSet ρ ds
/-- not too long -/
def lenC : Out CV → Out CV
  | .ok (.own (.lst ys)) ρ => if ys.length ≤ SL then .ok (.own (.lst ys)) ρ else .bad
  | _ => .bad
def den (Γ : Tab) : E → Rho → Out CV
  | .var i, ρ => match ρ[i]? with
    | some (.val d) => .ok (.val d) ρ
    | some (.own d) => .ok (.val d) (ρ.set i (.val d))
    | _ => .bad
  | .ref i, ρ => match ioAt ρ i with
    | some _ => .ok (.val .non) ρ
    | none => .bad
  | .cst d, ρ => .ok (.val d) ρ
  | .glb _ d, ρ => .ok (.val d) ρ
  | .nil, ρ => .ok (.val (.lst [])) ρ
  | .cons e es, ρ => (val (den Γ e) ρ).bind fun d ρ1 => (den Γ es ρ1).bind fun cv ρ2 => match cv with
    | .val (.lst ds) => .ok (.val (.lst (d :: ds))) ρ2
    | _ => .bad
  | .tup es, ρ => (den Γ es ρ).bind fun cv ρ1 => match cv with
    | .val (.lst ds) => if ds.length ≤ SL then .ok (.val (.tup ds)) ρ1 else .bad
    | _ => .bad
  | .lst es, ρ => (den Γ es ρ).bind fun cv ρ1 => match cv with
    | .val (.lst ds) => if ds.length ≤ SL then .ok (.own (.lst ds)) ρ1 else .bad
    | _ => .bad
  | .bin op a b, ρ => (two a b (den Γ a) (den Γ b) ρ).bind fun p ρ1 => newO ρ1 (binOp op p.1 p.2)
  | .neg a, ρ => (val (den Γ a) ρ).bind fun d ρ1 => match d with
    | .int i => .ok (.val (.int (-i))) ρ1
    | _ => .bad
  | .cmp op a b, ρ => (two a b (den Γ a) (den Γ b) ρ).bind fun p ρ1 => ofB ρ1 (cmpOp op p.1 p.2)
  | .chn o p a b c, ρ => (val (den Γ a) ρ).bind fun x ρ1 => (val (den Γ b) ρ1).bind fun y ρ2 => match cmpOp o x y with
    | some true => (val (den Γ c) ρ2).bind fun z ρ3 => ofB ρ3 (cmpOp p y z)
    | some false => .ok (.val (.bl false)) ρ2
    | none => .bad
  | .and a b, ρ => (val (den Γ a) ρ).bind fun x ρ1 => match x with
    | .bl true => (den Γ b ρ1).bind fun cv ρ2 => match cv.d with
      | .bl k => .ok (.val (.bl k)) ρ2
      | _ => .bad
    | .bl false => .ok (.val (.bl false)) ρ1
    | _ => .bad
  | .or a b, ρ => (val (den Γ a) ρ).bind fun x ρ1 => match x with
    | .bl false => (den Γ b ρ1).bind fun cv ρ2 => match cv.d with
      | .bl k => .ok (.val (.bl k)) ρ2
      | _ => .bad
    | .bl true => .ok (.val (.bl true)) ρ1
    | _ => .bad
  | .not a, ρ => (val (den Γ a) ρ).bind fun x ρ1 => match x with
    | .bl k => .ok (.val (.bl (!k))) ρ1
    | _ => .bad
  | .ite c a b, ρ => (val (den Γ c) ρ).bind fun x ρ1 => match x with
    | .bl true => den Γ a ρ1
    | .bl false => den Γ b ρ1
    | _ => .bad
  | .isi a t, ρ => (opd a (den Γ a) ρ).bind fun x ρ1 => ofB ρ1 (isInst x t)
  | .call f es, ρ => (den Γ es ρ).bind fun cv ρ1 => match cv with
    | .val (.lst ds) => callF Γ f es ρ1 ds
    | _ => .bad
  | .prm1 p a, ρ => (opd a (den Γ a) ρ).bind fun x ρ1 => if p.fresh then ownO ρ1 (prim p [x]) else ofO ρ1 (prim p [x])
  | .prm2 p a b, ρ => (val (den Γ a) ρ).bind fun x ρ1 => (val (den Γ b) ρ1).bind fun y ρ2 => ofO ρ2 (prim p [x, y])
  | .ix a b, ρ => (two a b (den Γ a) (den Γ b) ρ).bind fun p ρ1 => ofO ρ1 (ixD p.1 p.2)
  | .slc a lo hi, ρ => (opd a (den Γ a) ρ).bind fun x ρ1 => (val (den Γ lo) ρ1).bind fun l ρ2 => match optI lo l with
    | none => .bad
    | some l' => (val (den Γ hi) ρ2).bind fun h ρ3 => match optI hi h with
      | none => .bad
      | some h' => match again a x ρ3 with
        | none => .bad
        | some x' => newO ρ3 (sliceD x' l' h')
  | .rev a, ρ => (opd a (den Γ a) ρ).bind fun x ρ1 => match x with
    | .lst xs => .ok (.own (.lst xs.reverse)) ρ1
    | .tup xs => .ok (.val (.tup xs.reverse)) ρ1
    | _ => .bad
  | .att a f, ρ => (opd a (den Γ a) ρ).bind fun x ρ1 => match x with
    | .obj _ fs => ofO ρ1 (fs.lookup f)
    | _ => .bad
  | .itr a, ρ => den Γ a ρ
  | .rng1 a, ρ => (val (den Γ a) ρ).bind fun x ρ1 => match x with
    | .int n => if -(SL : Int) ≤ n ∧ n ≤ SL then .ok (.val (.lst (rngL 0 n.toNat))) ρ1 else .bad
    | _ => .bad
  | .rng2 a b, ρ => (val (den Γ a) ρ).bind fun x ρ1 => (val (den Γ b) ρ1).bind fun y ρ2 => match x, y with
    | .int i, .int j => if -(SL : Int) ≤ i ∧ i ≤ SL ∧ -(SL : Int) ≤ j ∧ j ≤ SL ∧ j - i ≤ SL then .ok (.val (.lst (rngL i (j - i).toNat))) ρ2 else .bad
    | _, _ => .bad
  | .enm a, ρ => (val (den Γ a) ρ).bind fun x ρ1 => match seqOf x with
    | some xs => .ok (.val (.lst (enumL 0 xs))) ρ1
    | none => .bad
  | .zip a b, ρ => (val (den Γ a) ρ).bind fun x ρ1 => (val (den Γ b) ρ1).bind fun y ρ2 => match x, y with
    | .lst xs, .lst ys => .ok (.val (.lst (zipL xs ys))) ρ2
    | .tup xs, .tup ys => .ok (.val (.lst (zipL xs ys))) ρ2
    | _, _ => .bad
  | .cmp1 vs tg it cond elt, ρ => (iterOf it (den Γ it) ρ).bind (compC vs tg (eltOf cond (den Γ cond) (den Γ elt)))
  | .cmp2 vs vs1 tg it tg1 it1 cond1 elt, ρ => (iterOf it (den Γ it) ρ).bind fun p ρ1 => lenC (compC vs tg (in2 vs1 tg1 it1 (den Γ it1) (eltOf cond1 (den Γ cond1) (den Γ elt))) p ρ1)
  | .pop i k, ρ => (val (den Γ k) ρ).bind fun x ρ1 => match ρ1[i]?, x with
    | some (.own (.lst xs)), .int j => match ixN xs.length j with
      | some n => match xs[n]? with
        | some d => .ok (.val d) (ρ1.set i (.own (.lst (xs.eraseIdx n))))
        | none => .bad
      | none => .bad
    | _, _ => .bad
  | .xop o es, ρ => (den Γ es ρ).bind fun cv ρ1 => match cv with
    | .val (.lst ds) => xden Γ ρ1 o ds
    | _ => .bad

/-! ### statements -/
inductive S where
  | nil
  | seq (s t : S)
  | asg (i : Nat) (e : E)
  | asgT (is : List Nat) (e : E)
  | par (i j : Nat) (a b : E)
  | asgIx (i : Nat) (k e : E)
  | augIx (i : Nat) (op : Bop) (k e : E)
  | aug (i : Nat) (op : Bop) (e : E)
  | expr (e : E)
  | app (i : Nat) (e : E)
  | ext (i : Nat) (e : E)
  | rmv (i : Nat) (e : E)
  | ite (c : E) (s t : S)
  | for (tg : Tg) (it : E) (s : S)
  | whl (c : E) (s : S)
  | ret (e : E)
  | rse (c : String)
  | brk
  | cnt
  | tryW (i : Nat) (s : S)
  /-- never walked -/
  | hole
  /-- x = l.pop(k), k not below 0 -/
  | popA (j i : Nat) (k : E)
  /-- the instance's attribute is stored -/
  | asgAt (i : Nat) (f : String) (e : E)
  /-- return a(es), a the value of a def -/
  | retC (fs : List String) (a es : E)
inductive Fl where
  | next (ρ : Rho)
  | ret (cv : CV) (ρ : Rho)
  | brk (ρ : Rho)
  | cnt (ρ : Rho)
  | ex (c : String) (ρ : Rho)
  | bad
/-- from an expression's outcome -/
def Out.fl {α : Type} (o : Out α) (f : α → Rho → Fl) : Fl :=
  match o with
  | .ok a ρ => f a ρ
  | .ex c ρ => .ex c ρ
  | .bad => .bad
@[simp] theorem Out.fl_ok {α : Type} (a : α) (ρ : Rho) (f : α → Rho → Fl) : (Out.ok a ρ).fl f = f a ρ := rfl
@[simp] theorem Out.fl_ex {α : Type} (c : String) (ρ : Rho) (f : α → Rho → Fl) : (Out.ex c ρ : Out α).fl f = .ex c ρ := rfl
@[simp] theorem Out.fl_bad {α : Type} (f : α → Rho → Fl) : (Out.bad : Out α).fl f = .bad := rfl
def Fl.then (o : Fl) (f : Rho → Fl) : Fl :=
  match o with
  | .next ρ => f ρ
  | o => o
@[simp] theorem Fl.then_next (ρ : Rho) (f : Rho → Fl) : (Fl.next ρ).then f = f ρ := rfl
@[simp] theorem Fl.then_ret (cv : CV) (ρ : Rho) (f : Rho → Fl) : (Fl.ret cv ρ).then f = .ret cv ρ := rfl
@[simp] theorem Fl.then_brk (ρ : Rho) (f : Rho → Fl) : (Fl.brk ρ).then f = .brk ρ := rfl
@[simp] theorem Fl.then_cnt (ρ : Rho) (f : Rho → Fl) : (Fl.cnt ρ).then f = .cnt ρ := rfl
@[simp] theorem Fl.then_ex (c : String) (ρ : Rho) (f : Rho → Fl) : (Fl.ex c ρ).then f = .ex c ρ := rfl
@[simp] theorem Fl.then_bad (f : Rho → Fl) : (Fl.bad).then f = .bad := rfl
/-- may the slot be stored to -/
def free (ρ : Rho) (i : Nat) : Bool :=
  match ρ[i]? with
  | some (.io _) => false
  | some (.lck _) => false
  | some _ => true
  | none => false
def CV.cell : CV → Cell
  | .val d => .val d
  | .own d => .own d
def put (ρ : Rho) (i : Nat) (cv : CV) : Fl :=
  if free ρ i then .next (ρ.set i cv.cell) else .bad
def frees (ρ : Rho) : List Nat → Bool
  | [] => true
  | i :: is => free ρ i && frees ρ is
/-- the list in a slot that may be changed -/
def mutL (ρ : Rho) (i : Nat) : Option (List D) :=
  match ioAt ρ i with
  | some (.lst xs) => some xs
  | _ => none
def setIx (ρ : Rho) (i : Nat) (k d : D) : Fl :=
  match mutL ρ i, k with
  | some xs, .int j => match ixN xs.length j with
    | some n => .next (ioPut ρ i (.lst (xs.set n d)))
    | none => .bad
  | _, _ => .bad
def tgFree (tg : Tg) (ρ : Rho) : Bool :=
  match tg with
  | .nm i => free ρ i
  | .tp is => frees ρ is
def forL (tg : Tg) (f : Rho → Fl) : List D → Rho → Fl
  | [], ρ => .next ρ
  | x :: xs, ρ => match (if tgFree tg ρ then bindT tg x ρ else none) with
    | none => .bad
    | some ρ1 => match f ρ1 with
      | .next ρ2 => forL tg f xs ρ2
      | .cnt ρ2 => forL tg f xs ρ2
      | .brk ρ2 => .next ρ2
      | o => o
def whileL (c : Rho → Out CV) (f : Rho → Fl) : Nat → Rho → Fl
  | 0, _ => .bad
  | n + 1, ρ => (val c ρ).fl fun x ρ1 => match x with
    | .bl true => match f ρ1 with
      | .next ρ2 => whileL c f n ρ2
      | .cnt ρ2 => whileL c f n ρ2
      | .brk ρ2 => .next ρ2
      | o => o
    | .bl false => .next ρ1
    | _ => .bad
/-- the refusals, by their numbers -/
def refusals : List String := ["NoFilm", "NoFrame", "NoDot", "NoSpot", "NoRules", "NoTracks", "NoPrices", "NoWay", "NoMoment", "TooMany", "Full", "Taken"]
def eraseD (x : D) : List D → Option (List D)
  | [] => none
  | y :: ys => if eqD y x then some ys else (eraseD x ys).map (y :: ·)

def putFd (f : String) (d : D) : List (String × D) → List (String × D)
  | [] => [(f, d)]
  | (g, x) :: r => if g = f then (g, d) :: r else (g, x) :: putFd f d r
def denS (Γ : Tab) : S → Rho → Fl
  | .nil, ρ => .next ρ
  | .seq s t, ρ => (denS Γ s ρ).then fun ρ1 => denS Γ t ρ1
  | .asg i e, ρ => (den Γ e ρ).fl fun cv ρ1 => put ρ1 i cv
  | .asgT is e, ρ => (val (den Γ e) ρ).fl fun d ρ1 => if frees ρ1 is then match bindT (.tp is) d ρ1 with
      | some ρ2 => .next ρ2
      | none => .bad
    else .bad
  | .par i j a b, ρ => (den Γ a ρ).fl fun x ρ1 => (den Γ b ρ1).fl fun y ρ2 =>
    if free ρ2 i && free ρ2 j && i != j then .next ((ρ2.set j y.cell).set i x.cell) else .bad
  | .asgIx i k e, ρ => (val (den Γ e) ρ).fl fun d ρ1 => if (mutL ρ1 i).isSome then (val (den Γ k) ρ1).fl fun n ρ2 => setIx ρ2 i n d else .bad
  | .augIx i op k e, ρ => if (mutL ρ i).isSome then (val (den Γ k) ρ).fl fun n ρ1 => match mutL ρ1 i with
    | some xs => match ixD (.lst xs) n with
      | some x => (val (den Γ e) ρ1).fl fun y ρ2 => match binOp op x y with
        | some (.int z) => setIx ρ2 i n (.int z)
        | _ => .bad
      | none => .bad
    | none => .bad
    else .bad
  | .aug i op e, ρ => match ρ[i]? with
    | some (.val (.int x)) => (val (den Γ e) ρ).fl fun y ρ1 => match binOp op (.int x) y with
      | some (.int z) => if free ρ1 i then .next (ρ1.set i (.val (.int z))) else .bad
      | _ => .bad
    | _ => .bad
  | .expr e, ρ => (val (den Γ e) ρ).fl fun _ ρ1 => .next ρ1
  | .app i e, ρ => if (mutL ρ i).isSome then (val (den Γ e) ρ).fl fun d ρ1 => match mutL ρ1 i with
    | some xs => if xs.length < SL then .next (ioPut ρ1 i (.lst (xs ++ [d]))) else .bad
    | none => .bad
    else .bad
  | .ext i e, ρ => if (mutL ρ i).isSome then (val (den Γ e) ρ).fl fun d ρ1 => match mutL ρ1 i, seqOf d with
    | some xs, some ys => if xs.length + ys.length ≤ SL then .next (ioPut ρ1 i (.lst (xs ++ ys))) else .bad
    | _, _ => .bad
    else .bad
  | .rmv i e, ρ => if (mutL ρ i).isSome then (val (den Γ e) ρ).fl fun d ρ1 => match mutL ρ1 i with
    | some xs => if pl d && pl (.lst xs) then match eraseD d xs with
        | some ys => .next (ioPut ρ1 i (.lst ys))
        | none => .bad
      else .bad
    | none => .bad
    else .bad
  | .ite c s t, ρ => (val (den Γ c) ρ).fl fun x ρ1 => match x with
    | .bl true => denS Γ s ρ1
    | .bl false => denS Γ t ρ1
    | _ => .bad
  | .for tg it s, ρ => (val (den Γ it) ρ).fl fun d ρ1 => match seqOf d with
    | some xs => forL tg (denS Γ s) xs ρ1
    | none => .bad
  | .whl c s, ρ => whileL (den Γ c) (denS Γ s) Γ.fuel ρ
  | .ret e, ρ => match e with
    | .var i => match ρ[i]? with
      | some (.val d) => .ret (.val d) ρ
      | some (.own d) => .ret (.own d) (ρ.set i .un)
      | _ => .bad
    | _ => (den Γ e ρ).fl fun cv ρ1 => .ret cv ρ1
  | .rse c, ρ => .ex c ρ
  | .brk, ρ => .brk ρ
  | .cnt, ρ => .cnt ρ
  | .tryW i s, ρ => match denS Γ s ρ with
    | .ex c ρ1 => if free ρ1 i then match refusals.findIdx? (· == c) with
        | some k => .ret (.val (.tup [.str "refused", .int k])) ρ1
        | none => .bad
      else .bad
    | o => o
  | .hole, _ => .bad
  | .popA j i k, ρ => if (mutL ρ i).isSome then (val (den Γ k) ρ).fl fun n ρ1 => match mutL ρ1 i, n with
    | some xs, .int m => if 0 ≤ m ∧ m < 1000000 ∧ m < xs.length then match xs[m.toNat]? with
        | some d => if free (ioPut ρ1 i (.lst (xs.eraseIdx m.toNat))) j && i != j then .next ((ioPut ρ1 i (.lst (xs.eraseIdx m.toNat))).set j (.val d)) else .bad
        | none => .bad
      else .bad
    | _, _ => .bad
    else .bad
  | .asgAt i f e, ρ => (val (den Γ e) ρ).fl fun d ρ1 => match ioAt ρ1 i with
    | some (.obj c fs) => if fs.length < 1000 then .next (ioPut ρ1 i (.obj c (putFd f d fs))) else .bad
    | _ => .bad
  | .retC fs a es, ρ => (val (den Γ a) ρ).fl fun d ρ1 => match d with
    | .fn f => if fs.contains f then (den Γ (.call f es) ρ1).fl fun cv ρ2 => .ret cv ρ2 else .bad
    | _ => .bad

/-! ### defs -/
def initRho (n : Nat) (ios : List Nat) : Nat → List D → Rho
  | k, d :: ds => (if ios.contains k then Cell.io d else Cell.val d) :: initRho n ios (k + 1) ds
  | k, [] => List.replicate (n - k) Cell.un
def outsOf (ρ : Rho) : List Nat → Option (List D)
  | [] => some []
  | i :: is => match ρ[i]? with
    | some (.io d) => (outsOf ρ is).map (d :: ·)
    | _ => none
/-- a def: how many parameters, how many slots in all, which parameters may be changed, the body -/
structure Def where
  ps : Nat
  n : Nat
  io : List Nat
  body : S
def Def.run (Γ : Tab) (f : Def) (ds : List D) : FOut :=
  if ds.length = f.ps then
    match denS Γ f.body (initRho f.n f.io 0 ds) with
    | .next ρ => match outsOf ρ f.io with
      | some os => .ok (.val .non) os
      | none => .bad
    | .ret cv ρ => match outsOf ρ f.io with
      | some os => .ok cv os
      | none => .bad
    | .ex c ρ => match outsOf ρ f.io with
      | some os => .ex c os
      | none => .bad
    | _ => .bad
  else .bad
end MP
end
section
set_option autoImplicit false
namespace MP
/-! ### rows of ints as tuples -/
def encZ (ns : List Int) : D := .tup (ns.map .int)
theorem ltL_ints : ∀ ns ms : List Int, ltL (ns.map .int) (ms.map .int) = decide (ns < ms)
  | [], [] => by simp [ltL]
  | [], _ :: _ => by simp [ltL]
  | _ :: _, [] => by simp [ltL]
  | x :: xs, y :: ys => by
    simp only [List.map_cons, ltL, eqD, ltD, ltL_ints xs ys]
    by_cases h : x = y
    · subst h
      simp [List.cons_lt_cons_iff]
    · simp [h, List.cons_lt_cons_iff]
theorem eqL_ints : ∀ ns ms : List Int, eqL (ns.map .int) (ms.map .int) = decide (ns = ms)
  | [], [] => by simp [eqL]
  | [], _ :: _ => by simp [eqL]
  | _ :: _, [] => by simp [eqL]
  | x :: xs, y :: ys => by
    simp only [List.map_cons, eqL, eqD, eqL_ints xs ys]
    by_cases h : x = y <;> simp [h]
theorem eqD_enc (a b : List Int) : eqD (encZ a) (encZ b) = decide (a = b) := by
  unfold encZ
  rw [eqD, eqL_ints]
theorem leD_enc (a b : List Int) : leD (encZ a) (encZ b) = decide (a ≤ b) := by
  unfold leD encZ
  rw [ltD, ltL_ints]
  by_cases h : b < a
  · have h2 : ¬ a ≤ b := fun z => z h
    rw [decide_eq_true h, decide_eq_false h2]; rfl
  · have h2 : a ≤ b := h
    rw [decide_eq_false h, decide_eq_true h2]; rfl
theorem encZ_inj {a b : List Int} (h : encZ a = encZ b) : a = b := by
  have h1 : a.map D.int = b.map D.int := by
    unfold encZ at h
    injection h
  exact List.map_inj_right (fun x y e => by injection e) |>.mp h1
theorem memD_enc (a : List Int) : ∀ l : List (List Int), memD (encZ a) (l.map encZ) = decide (a ∈ l)
  | [] => by simp [memD]
  | b :: l => by
    simp only [List.map_cons, memD, eqD_enc, memD_enc a l, List.mem_cons]
    by_cases h : b = a
    · subst h
      simp
    · have h2 : a ≠ b := fun z => h z.symm
      simp [h, h2]
def uniqZ {α : Type} [DecidableEq α] : List α → List α
  | [] => []
  | x :: xs => if x ∈ xs then uniqZ xs else x :: uniqZ xs
theorem uniqD_enc : ∀ l : List (List Int), uniqD (l.map encZ) = (uniqZ l).map encZ
  | [] => rfl
  | b :: l => by
    simp only [List.map_cons, uniqD, uniqZ, memD_enc, uniqD_enc l]
    by_cases h : b ∈ l <;> simp [h]
theorem mem_uniqZ {α : Type} [DecidableEq α] (a : α) : ∀ l : List α, a ∈ uniqZ l ↔ a ∈ l
  | [] => by simp [uniqZ]
  | b :: l => by
    simp only [uniqZ]
    split
    · rename_i h
      rw [mem_uniqZ a l, List.mem_cons]
      constructor
      · exact .inr
      · rintro (rfl | h2)
        · exact h
        · exact h2
    · rw [List.mem_cons, List.mem_cons, mem_uniqZ a l]
theorem nodup_uniqZ {α : Type} [DecidableEq α] : ∀ l : List α, (uniqZ l).Nodup
  | [] => by simp [uniqZ]
  | b :: l => by
    simp only [uniqZ]
    split
    · exact nodup_uniqZ l
    · rename_i h
      rw [List.nodup_cons]
      exact ⟨fun z => h ((mem_uniqZ b l).mp z), nodup_uniqZ l⟩
def leZ (a b : List Int) : Bool := decide (a ≤ b)
theorem sortD_enc (l : List (List Int)) : sortD (l.map encZ) = (l.mergeSort leZ).map encZ := by
  unfold sortD
  exact (List.map_mergeSort fun a _ b _ => (leD_enc a b).symm).symm
theorem leZ_pairwise (l : List (List Int)) : (l.mergeSort leZ).Pairwise (fun a b => a ≤ b) := by
  have h := List.pairwise_mergeSort (le := leZ) (fun a b c h1 h2 => by
    unfold leZ at *
    exact decide_eq_true (List.le_trans (of_decide_eq_true h1) (of_decide_eq_true h2))) (fun a b => by
    unfold leZ
    rcases List.le_total (α := Int) a b with h | h
    · simp [h]
    · simp [h]) l
  exact h.imp fun h => of_decide_eq_true h
/-- the set of l in order -/
def ssetZ (l : List (List Int)) : List (List Int) := (uniqZ l).mergeSort leZ
theorem mem_ssetZ (a : List Int) (l : List (List Int)) : a ∈ ssetZ l ↔ a ∈ l := by
  unfold ssetZ
  rw [(List.mergeSort_perm _ _).mem_iff, mem_uniqZ]
theorem nodup_ssetZ (l : List (List Int)) : (ssetZ l).Nodup := (List.mergeSort_perm _ _).nodup_iff.mpr (nodup_uniqZ l)
theorem sorted_ssetZ (l : List (List Int)) : (ssetZ l).Pairwise (fun a b => a ≤ b) := leZ_pairwise _
theorem ssetZ_unique {A l : List (List Int)} (h1 : A.Nodup) (h2 : A.Pairwise (fun a b => a ≤ b)) (h3 : ∀ a, a ∈ A ↔ a ∈ l) : A = ssetZ l := by
  have p : A.Perm (ssetZ l) := (List.perm_ext_iff_of_nodup h1 (nodup_ssetZ l)).mpr fun a => (h3 a).trans (mem_ssetZ a l).symm
  exact p.eq_of_pairwise (le := fun a b => a ≤ b) (fun a b _ _ h h' => List.le_antisymm h h') h2 (sorted_ssetZ l)
theorem sset_enc (l : List (List Int)) : sortD (uniqD (l.map encZ)) = (ssetZ l).map encZ := by
  rw [uniqD_enc, sortD_enc]
  rfl
/-! ### ints -/
theorem memD_int (a : Int) : ∀ l : List Int, memD (.int a) (l.map D.int) = decide (a ∈ l)
  | [] => by simp [memD]
  | b :: l => by
    simp only [List.map_cons, memD, eqD, memD_int a l, List.mem_cons]
    by_cases h : b = a
    · subst h; simp
    · have h2 : a ≠ b := fun z => h z.symm
      simp [h, h2]
theorem uniqD_int : ∀ l : List Int, uniqD (l.map D.int) = (uniqZ l).map D.int
  | [] => rfl
  | b :: l => by
    simp only [List.map_cons, uniqD, uniqZ, memD_int, uniqD_int l]
    by_cases h : b ∈ l <;> simp [h]
def leI (a b : Int) : Bool := decide (a ≤ b)
theorem leD_int (a b : Int) : leD (.int a) (.int b) = leI a b := by
  unfold leD leI
  simp only [ltD]
  by_cases h : b < a
  · rw [decide_eq_true h, decide_eq_false (by omega)]; rfl
  · rw [decide_eq_false h, decide_eq_true (by omega)]; rfl
theorem sortD_int (l : List Int) : sortD (l.map D.int) = (l.mergeSort leI).map D.int := by
  unfold sortD
  exact (List.map_mergeSort fun a _ b _ => (leD_int a b).symm).symm
/-- the set of l in order -/
def ssetI (l : List Int) : List Int := (uniqZ l).mergeSort leI
theorem mem_ssetI (a : Int) (l : List Int) : a ∈ ssetI l ↔ a ∈ l := by
  unfold ssetI
  rw [(List.mergeSort_perm _ _).mem_iff, mem_uniqZ]
theorem nodup_ssetI (l : List Int) : (ssetI l).Nodup := (List.mergeSort_perm _ _).nodup_iff.mpr (nodup_uniqZ l)
theorem le_ssetI (l : List Int) : (ssetI l).Pairwise (fun a b => a ≤ b) := by
  have h := List.pairwise_mergeSort (le := leI) (fun a b c h1 h2 => by
    unfold leI at *
    exact decide_eq_true (Int.le_trans (of_decide_eq_true h1) (of_decide_eq_true h2))) (fun a b => by
    unfold leI
    rcases Int.le_total a b with h | h
    · simp [h]
    · simp [h]) (uniqZ l)
  exact h.imp fun h => of_decide_eq_true h
theorem lt_ssetI (l : List Int) : (ssetI l).Pairwise (fun a b => a < b) :=
  List.Pairwise.imp₂ (fun a b h1 h2 => by omega) (le_ssetI l) (nodup_ssetI l)
theorem ssetI_unique {A l : List Int} (h2 : A.Pairwise (fun a b => a < b)) (h3 : ∀ a, a ∈ A ↔ a ∈ l) : A = ssetI l := by
  have h1 : A.Nodup := h2.imp fun h => by omega
  have p : A.Perm (ssetI l) := (List.perm_ext_iff_of_nodup h1 (nodup_ssetI l)).mpr fun a => (h3 a).trans (mem_ssetI a l).symm
  exact p.eq_of_pairwise (le := fun a b => a ≤ b) (fun a b _ _ h h' => Int.le_antisymm h h') (h2.imp fun h => Int.le_of_lt h) (le_ssetI l)
theorem sset_int (l : List Int) : sortD (uniqD (l.map D.int)) = (ssetI l).map D.int := by
  rw [uniqD_int, sortD_int]
  rfl
end MP
end
section
set_option autoImplicit false
/-! MPK: a locked cell stays as it is. -/
namespace MP
def LK (ρ ρ' : Rho) : Prop := ∀ (i : Nat) (d : D), ρ[i]? = some (.lck d) → ρ'[i]? = some (.lck d)
theorem LK.refl (ρ : Rho) : LK ρ ρ := fun _ _ h => h
theorem LK.trans {a b c : Rho} (h : LK a b) (h' : LK b c) : LK a c := fun i d e => h' i d (h i d e)
theorem LK.set {ρ : Rho} {i : Nat} {x : Cell} (h : ∀ d, ρ[i]? ≠ some (.lck d)) : LK ρ (ρ.set i x) := fun j d e => by
  have hne : i ≠ j := fun z => h d (z ▸ e)
  rw [List.getElem?_set_ne hne]
  exact e
def OK {α : Type} (ρ : Rho) : Out α → Prop
  | .ok _ ρ' => LK ρ ρ'
  | .ex _ ρ' => LK ρ ρ'
  | .bad => True
theorem OK.bind {α β : Type} {ρ : Rho} {m : Out α} {f : α → Rho → Out β} (h : OK ρ m) (hf : ∀ a ρ', m = .ok a ρ' → OK ρ' (f a ρ')) : OK ρ (m.bind f) := by
  cases m with
  | ok a ρ' =>
    have q := hf a ρ' rfl
    show OK ρ (f a ρ')
    cases e : f a ρ' with
    | ok b ρ2 =>
      rw [e] at q
      exact LK.trans h q
    | ex z ρ2 =>
      rw [e] at q
      exact LK.trans h q
    | bad => trivial
  | ex z ρ' => exact h
  | bad => trivial
theorem OK.ofO {ρ : Rho} {o : Option D} : OK ρ (MP.ofO ρ o) := by
  cases o <;> first | exact LK.refl ρ | trivial
theorem OK.ownO {ρ : Rho} {o : Option D} : OK ρ (MP.ownO ρ o) := by
  cases o <;> first | exact LK.refl ρ | trivial
theorem OK.newO {ρ : Rho} {o : Option D} : OK ρ (MP.newO ρ o) := by
  cases o with
  | none => trivial
  | some d => cases d <;> exact LK.refl ρ
theorem OK.ofB {ρ : Rho} {o : Option Bool} : OK ρ (MP.ofB ρ o) := by
  cases o <;> first | exact LK.refl ρ | trivial
theorem OK.val {m : Rho → Out CV} {ρ : Rho} (h : OK ρ (m ρ)) : OK ρ (MP.val m ρ) := OK.bind h fun _ ρ' _ => LK.refl ρ'
theorem OK.opd {a : E} {m : Rho → Out CV} {ρ : Rho} (h : OK ρ (m ρ)) : OK ρ (opd a m ρ) := by
  by_cases hv : ∃ i, a = .var i
  · obtain ⟨i, rfl⟩ := hv
    simp only [MP.opd]
    split <;> first | exact LK.refl ρ | trivial
  · have e : MP.opd a m ρ = (m ρ).bind fun cv ρ' => .ok cv.d ρ' := by
      cases a <;> first | rfl | exact absurd ⟨_, rfl⟩ hv
    rw [e]
    exact OK.bind h fun _ ρ' _ => LK.refl ρ'
theorem OK.two {a b : E} {ma mb : Rho → Out CV} {ρ : Rho} (ha : OK ρ (ma ρ)) (hb : ∀ ρ', OK ρ' (mb ρ')) : OK ρ (two a b ma mb ρ) := by
  refine OK.bind (OK.opd ha) fun x ρ1 _ => OK.bind (OK.opd (hb ρ1)) fun y ρ2 _ => ?_
  split <;> first | exact LK.refl ρ2 | trivial
theorem ioPut_lk {ρ : Rho} {i : Nat} {d : D} : LK ρ (ioPut ρ i d) := by
  unfold ioPut
  split
  · rename_i d0 e
    exact LK.set fun d' z => by rw [e] at z; cases z
  · rename_i d0 e
    exact LK.set fun d' z => by rw [e] at z; cases z
  · exact LK.refl ρ
theorem ioPuts_lk : ∀ {rs : List Nat} {ds : List D} {ρ ρ' : Rho}, ioPuts ρ rs ds = some ρ' → LK ρ ρ'
  | [], [], ρ, ρ', h => by
    cases h
    exact LK.refl ρ
  | [], _ :: _, _, _, h => by cases h
  | _ :: _, [], _, _, h => by cases h
  | r :: rs, d :: ds, ρ, ρ', h => ioPut_lk.trans (ioPuts_lk (rs := rs) (ds := ds) h)
theorem OK.callOut {ρ : Rho} {rs : List Nat} {o : FOut} : OK ρ (callOut ρ rs o) := by
  cases o with
  | bad => trivial
  | ok cv outs =>
    simp only [MP.callOut]
    split
    · rename_i ρ' e
      exact ioPuts_lk e
    · trivial
  | ex c outs =>
    simp only [MP.callOut]
    split
    · rename_i ρ' e
      exact ioPuts_lk e
    · trivial
theorem OK.callF {Γ : Tab} {f : String} {es : E} {ρ : Rho} {ds : List D} : OK ρ (callF Γ f es ρ ds) := by
  unfold MP.callF
  split
  · trivial
  · split
    · split
      · exact OK.callOut
      · trivial
    · trivial
theorem quiet_at : ∀ {vs : List Nat} {ρ : Rho}, quiet ρ vs = true → ∀ v ∈ vs, ∀ d, ρ[v]? ≠ some (.lck d)
  | [], _, _, v, h, _ => by cases h
  | w :: vs, ρ, h, v, hv, d => by
    simp only [quiet, Bool.and_eq_true] at h
    rcases List.mem_cons.mp hv with rfl | hv
    · intro z
      rw [z] at h
      cases h.1
    · exact quiet_at h.2 v hv d
theorem wipe_get : ∀ (vs : List Nat) (ρ : Rho) (i : Nat), i ∉ vs → (wipeR ρ vs)[i]? = ρ[i]?
  | [], _, _, _ => rfl
  | v :: vs, ρ, i, h => by
    rw [List.mem_cons, not_or] at h
    show ((wipeR ρ vs).set v .un)[i]? = ρ[i]?
    rw [List.getElem?_set_ne (Ne.symm h.1), wipe_get vs ρ i h.2]
theorem back_get : ∀ (vs : List Nat) (ρ0 ρ : Rho) (i : Nat), i ∉ vs → (backR ρ0 ρ vs)[i]? = ρ[i]?
  | [], _, _, _, _ => rfl
  | v :: vs, ρ0, ρ, i, h => by
    rw [List.mem_cons, not_or] at h
    show ((backR ρ0 ρ vs).set v _)[i]? = ρ[i]?
    rw [List.getElem?_set_ne (Ne.symm h.1), back_get vs ρ0 ρ i h.2]
theorem binds_get : ∀ (is : List Nat) (ds : List D) (ρ ρ' : Rho), binds is ds ρ = some ρ' → ∀ i, i ∉ is → ρ'[i]? = ρ[i]?
  | [], [], ρ, ρ', h, i, _ => by
    cases h
    rfl
  | [], _ :: _, _, _, h, _, _ => by cases h
  | _ :: _, [], _, _, h, _, _ => by cases h
  | j :: is, d :: ds, ρ, ρ', h, i, hi => by
    rw [List.mem_cons, not_or] at hi
    rw [binds_get is ds _ ρ' h i hi.2, List.getElem?_set_ne (Ne.symm hi.1)]
theorem bindT_get {tg : Tg} {x : D} {ρ ρ' : Rho} {vs : List Nat} (h : bindT tg x ρ = some ρ') (ht : tgIn tg vs = true) (i : Nat) (hi : i ∉ vs) : ρ'[i]? = ρ[i]? := by
  cases tg with
  | nm j =>
    cases h
    have hj : j ∈ vs := by simpa [tgIn] using ht
    exact List.getElem?_set_ne fun z => hi (by rw [← z]; exact hj)
  | tp is =>
    cases x <;> first | (cases h; done) | skip
    refine binds_get is _ _ _ h i fun z => hi ?_
    have := List.all_eq_true.mp (show (is.all fun i => vs.contains i) = true from ht) i z
    simpa using this
theorem OK.loopC {vs : List Nat} {tg : Tg} {f : Rho → Out (List D)} (hf : ∀ ρ, OK ρ (f ρ)) : ∀ (xs acc : List D) (ρ : Rho), OK ρ (loopC vs tg f xs acc ρ)
  | [], acc, ρ => by
    simp only [MP.loopC]
    split
    · exact LK.refl ρ
    · trivial
  | x :: xs, acc, ρ => by
    simp only [MP.loopC]
    by_cases hq : (quiet ρ vs && tgIn tg vs) = true
    · rw [if_pos hq]
      rw [Bool.and_eq_true] at hq
      cases e : bindT tg x (wipeR ρ vs) with
      | none => trivial
      | some ρ1 =>
        have l1 : LK ρ ρ1 := fun i d h => by
          have hi : i ∉ vs := fun z => quiet_at hq.1 i z d h
          rw [bindT_get e hq.2 i hi, wipe_get vs ρ i hi]
          exact h
        simp only
        have q := hf ρ1
        cases e2 : f ρ1 with
        | ok ys ρ2 =>
          rw [e2] at q
          have r := OK.loopC (vs := vs) (tg := tg) hf xs (acc ++ ys) ρ2
          show OK ρ (MP.loopC vs tg f xs (acc ++ ys) ρ2)
          cases e3 : MP.loopC vs tg f xs (acc ++ ys) ρ2 with
          | ok zs ρ3 =>
            rw [e3] at r
            exact (l1.trans q).trans r
          | ex z ρ3 =>
            rw [e3] at r
            exact (l1.trans q).trans r
          | bad => trivial
        | ex z ρ2 => trivial
        | bad => trivial
    · rw [if_neg hq]
      trivial
theorem OK.testOf {cond : E} {m : Rho → Out CV} (hm : ∀ ρ, OK ρ (m ρ)) (ρ : Rho) : OK ρ (testOf cond m ρ) := by
  by_cases hc : cond = .nil
  · subst hc
    exact LK.refl ρ
  · have e : MP.testOf cond m ρ = (m ρ).bind fun cv ρ' => match cv.d with
      | .bl b => .ok b ρ'
      | _ => .bad := by
      cases cond <;> first | rfl | exact absurd rfl hc
    rw [e]
    refine OK.bind (hm ρ) fun cv ρ' _ => ?_
    split <;> first | exact LK.refl ρ' | trivial
theorem OK.eltOf {cond : E} {mc me : Rho → Out CV} (hc : ∀ ρ, OK ρ (mc ρ)) (he : ∀ ρ, OK ρ (me ρ)) (ρ : Rho) : OK ρ (eltOf cond mc me ρ) := by
  refine OK.bind (OK.testOf hc ρ) fun b ρ1 _ => ?_
  split
  · exact OK.bind (OK.val (he ρ1)) fun d ρ2 _ => LK.refl ρ2
  · exact LK.refl ρ1
/-- the iterable: at a locked name the cell was its holder's own -/
theorem iterOf_lk {it : E} {m : Rho → Out CV} (hm : ∀ ρ, OK ρ (m ρ)) (ρ : Rho) : OK ρ (iterOf it m ρ) ∧ ∀ p ρ', iterOf it m ρ = .ok p ρ' → ∀ i, p.2 = some i → ∃ xs, ρ[i]? = some (.own (.lst xs)) ∧ ρ'[i]? = some (.lck (.lst xs)) ∧ p.1 = xs := by
  have gen : OK ρ ((m ρ).bind fun cv ρ' => match seqOf cv.d with
      | some xs => (.ok (xs, none) ρ' : Out (List D × Option Nat))
      | none => .bad) ∧ ∀ p ρ', ((m ρ).bind fun cv ρ' => match seqOf cv.d with
      | some xs => (.ok (xs, none) ρ' : Out (List D × Option Nat))
      | none => .bad) = .ok p ρ' → ∀ i, p.2 = some i → ∃ xs, ρ[i]? = some (.own (.lst xs)) ∧ ρ'[i]? = some (.lck (.lst xs)) ∧ p.1 = xs := by
    refine ⟨OK.bind (hm ρ) fun cv ρ' _ => ?_, fun p ρ' h i hi => ?_⟩
    · split <;> first | exact LK.refl ρ' | trivial
    · exfalso
      cases e : m ρ with
      | ok cv ρ1 =>
        rw [e] at h
        simp only [Out.bind] at h
        cases es : seqOf cv.d with
        | none =>
          rw [es] at h
          cases h
        | some xs =>
          rw [es] at h
          cases h
          cases hi
      | ex z ρ1 =>
        rw [e] at h
        cases h
      | bad =>
        rw [e] at h
        cases h
  by_cases hv : ∃ i, it = .itr (.var i)
  · obtain ⟨i, rfl⟩ := hv
    simp only [iterOf]
    cases e : ρ[i]? with
    | none => exact ⟨trivial, fun p ρ' h => by cases h⟩
    | some y =>
      cases y with
      | own d =>
        cases d <;> first | exact ⟨trivial, fun p ρ' h => by cases h⟩ | skip
        rename_i xs
        refine ⟨LK.set (fun d z => by rw [e] at z; cases z), fun p ρ' h j hj => ?_⟩
        cases h
        cases hj
        exact ⟨xs, e, by rw [List.getElem?_set_self (List.getElem?_eq_some_iff.mp e).1], rfl⟩
      | val d =>
        cases d <;> first | exact ⟨trivial, fun p ρ' h => by cases h⟩ | exact ⟨LK.refl ρ, fun p ρ' h j hj => by cases h; cases hj⟩
      | _ => exact ⟨trivial, fun p ρ' h => by cases h⟩
  · have e : iterOf it m ρ = (m ρ).bind fun cv ρ' => match seqOf cv.d with
      | some xs => .ok (xs, none) ρ'
      | none => .bad := by
      cases it <;> first | rfl | skip
      rename_i a
      cases a <;> first | rfl | exact absurd ⟨_, rfl⟩ hv
    rw [e]
    exact gen
/-- behind a comprehension the lock is taken off -/
theorem OK.unlocked {ρ ρ1 ρ2 : Rho} {lk : Option Nat} {vs : List Nat} {f : Rho → Out CV} (l1 : LK ρ ρ1) (l2 : LK ρ1 ρ2) (hq : ∀ v ∈ vs, ∀ d, ρ1[v]? ≠ some (.lck d)) (hl : ∀ i, lk = some i → ∃ xs, ρ[i]? = some (.own (.lst xs))) (hf : ∀ ρ', OK ρ' (f ρ')) :
    OK ρ (match unlock lk (backR ρ1 ρ2 vs) with
      | some ρ3 => f ρ3
      | none => .bad) := by
  have lb : LK ρ (backR ρ1 ρ2 vs) := fun i d h => by
    have hi : i ∉ vs := fun z => hq i z d (l1 i d h)
    rw [back_get vs ρ1 ρ2 i hi]
    exact l2 i d (l1 i d h)
  have lu : ∀ ρ3, unlock lk (backR ρ1 ρ2 vs) = some ρ3 → LK ρ ρ3 := fun ρ3 h => by
    cases lk with
    | none =>
      cases h
      exact lb
    | some i =>
      simp only [unlock] at h
      split at h
      · cases h
        obtain ⟨xs, e⟩ := hl i rfl
        intro j d hj
        have hne : i ≠ j := fun z => by
          subst z
          rw [e] at hj
          cases hj
        rw [List.getElem?_set_ne hne]
        exact lb j d hj
      · cases h
  cases e : unlock lk (backR ρ1 ρ2 vs) with
  | none => trivial
  | some ρ3 =>
    have q := hf ρ3
    simp only
    cases e2 : f ρ3 with
    | ok a ρ4 =>
      rw [e2] at q
      exact (lu ρ3 e).trans q
    | ex z ρ4 =>
      rw [e2] at q
      exact (lu ρ3 e).trans q
    | bad => trivial
theorem OK.comp {vs : List Nat} {tg : Tg} {it : E} {m : Rho → Out CV} {f : Rho → Out (List D)} (hi : ∀ ρ, OK ρ (m ρ)) (hf : ∀ ρ, OK ρ (f ρ)) (ρ : Rho) : OK ρ ((iterOf it m ρ).bind (compC vs tg f)) := by
  obtain ⟨i1, i2⟩ := iterOf_lk (it := it) hi ρ
  cases e : iterOf it m ρ with
  | ex z ρ1 =>
    rw [e] at i1
    exact i1
  | bad => trivial
  | ok p ρ1 =>
    rw [e] at i1
    show OK ρ (compC vs tg f p ρ1)
    unfold compC
    by_cases hq : quiet ρ1 vs = true
    · rw [if_pos hq]
      have l := OK.loopC (vs := vs) (tg := tg) hf p.1 [] ρ1
      cases e2 : MP.loopC vs tg f p.1 [] ρ1 with
      | ok ys ρ2 =>
        rw [e2] at l
        exact OK.unlocked (f := fun ρ3 => .ok (.own (.lst ys)) ρ3) i1 l (quiet_at hq) (fun i hi => by
          obtain ⟨xs, h1, _⟩ := i2 p ρ1 e i hi
          exact ⟨xs, h1⟩) fun ρ' => LK.refl ρ'
      | ex z ρ2 =>
        rw [e2] at l
        exact i1.trans l
      | bad => trivial
    · rw [if_neg hq]
      trivial
theorem OK.in2 {vs1 : List Nat} {tg1 : Tg} {it1 : E} {m : Rho → Out CV} {f : Rho → Out (List D)} (hi : ∀ ρ, OK ρ (m ρ)) (hf : ∀ ρ, OK ρ (f ρ)) (ρ : Rho) : OK ρ (MP.in2 vs1 tg1 it1 m f ρ) := by
  unfold MP.in2
  refine OK.bind (iterOf_lk (it := it1) hi ρ).1 fun p1 ρb _ => ?_
  by_cases hq : quiet ρb vs1 = true
  · rw [if_pos hq]
    cases p1.2 with
    | some _ => trivial
    | none =>
      have l := OK.loopC (vs := vs1) (tg := tg1) hf p1.1 [] ρb
      cases e2 : MP.loopC vs1 tg1 f p1.1 [] ρb with
      | ok ys ρc =>
        rw [e2] at l
        intro i d h
        have hi : i ∉ vs1 := fun z => quiet_at hq i z d h
        rw [back_get vs1 ρb ρc i hi]
        exact l i d h
      | ex z ρc =>
        rw [e2] at l
        exact l
      | bad => trivial
  · rw [if_neg hq]
    trivial
theorem OK.lenC {ρ : Rho} {o : Out CV} (h : OK ρ o) : OK ρ (MP.lenC o) := by
  unfold MP.lenC
  split
  · split
    · exact h
    · trivial
  · trivial
theorem OK.xden {Γ : Tab} {ρ : Rho} {o : XOp} {ds : List D} : OK ρ (MP.xden Γ ρ o ds) := by
  cases o <;> simp only [MP.xden]
  · unfold xNew
    split
    · split
      · unfold newOut
        split <;> first | exact LK.refl ρ | trivial
      · trivial
    · trivial
  · unfold xEqo
    split
    · split
      · split
        · unfold eqOut
          split <;> first | exact LK.refl ρ | trivial
        · trivial
      · trivial
    · trivial
  · unfold xLzip
    split <;> first | exact LK.refl ρ | trivial
  · unfold xLenSet
    split
    · split <;> first | exact LK.refl ρ | trivial
    · trivial
theorem den_lk (Γ : Tab) : ∀ (e : E) (ρ : Rho), OK ρ (den Γ e ρ) := by
  intro e
  induction e with
  | var i =>
    intro ρ
    simp only [den]
    split
    · exact LK.refl ρ
    · rename_i d e
      exact LK.set fun d' z => by rw [e] at z; cases z
    · trivial
  | ref i =>
    intro ρ
    simp only [den]
    split <;> first | exact LK.refl ρ | trivial
  | cst d => exact fun ρ => LK.refl ρ
  | glb n d => exact fun ρ => LK.refl ρ
  | nil => exact fun ρ => LK.refl ρ
  | cons e es he hs =>
    intro ρ
    simp only [den]
    refine OK.bind (OK.val (he ρ)) fun d ρ1 _ => OK.bind (hs ρ1) fun cv ρ2 _ => ?_
    split <;> first | exact LK.refl ρ2 | trivial
  | tup es hs =>
    intro ρ
    simp only [den]
    refine OK.bind (hs ρ) fun cv ρ1 _ => ?_
    split
    · split <;> first | exact LK.refl ρ1 | trivial
    · trivial
  | lst es hs =>
    intro ρ
    simp only [den]
    refine OK.bind (hs ρ) fun cv ρ1 _ => ?_
    split
    · split <;> first | exact LK.refl ρ1 | trivial
    · trivial
  | bin op a b ha hb =>
    intro ρ
    simp only [den]
    exact OK.bind (OK.two (ha ρ) hb) fun p ρ1 _ => OK.newO
  | neg a ha =>
    intro ρ
    simp only [den]
    refine OK.bind (OK.val (ha ρ)) fun d ρ1 _ => ?_
    split <;> first | exact LK.refl ρ1 | trivial
  | cmp op a b ha hb =>
    intro ρ
    simp only [den]
    exact OK.bind (OK.two (ha ρ) hb) fun p ρ1 _ => OK.ofB
  | chn o p a b c ha hb hc =>
    intro ρ
    simp only [den]
    refine OK.bind (OK.val (ha ρ)) fun x ρ1 _ => OK.bind (OK.val (hb ρ1)) fun y ρ2 _ => ?_
    split
    · exact OK.bind (OK.val (hc ρ2)) fun z ρ3 _ => OK.ofB
    · exact LK.refl ρ2
    · trivial
  | and a b ha hb =>
    intro ρ
    simp only [den]
    refine OK.bind (OK.val (ha ρ)) fun x ρ1 _ => ?_
    split
    · refine OK.bind (hb ρ1) fun cv ρ2 _ => ?_
      split <;> first | exact LK.refl ρ2 | trivial
    · exact LK.refl ρ1
    · trivial
  | or a b ha hb =>
    intro ρ
    simp only [den]
    refine OK.bind (OK.val (ha ρ)) fun x ρ1 _ => ?_
    split
    · refine OK.bind (hb ρ1) fun cv ρ2 _ => ?_
      split <;> first | exact LK.refl ρ2 | trivial
    · exact LK.refl ρ1
    · trivial
  | not a ha =>
    intro ρ
    simp only [den]
    refine OK.bind (OK.val (ha ρ)) fun x ρ1 _ => ?_
    split <;> first | exact LK.refl ρ1 | trivial
  | ite c a b hc ha hb =>
    intro ρ
    simp only [den]
    refine OK.bind (OK.val (hc ρ)) fun x ρ1 _ => ?_
    split
    · exact ha ρ1
    · exact hb ρ1
    · trivial
  | isi a t ha =>
    intro ρ
    simp only [den]
    exact OK.bind (OK.opd (ha ρ)) fun x ρ1 _ => OK.ofB
  | call f es hs =>
    intro ρ
    simp only [den]
    refine OK.bind (hs ρ) fun cv ρ1 _ => ?_
    split
    · exact OK.callF
    · trivial
  | prm1 p a ha =>
    intro ρ
    simp only [den]
    refine OK.bind (OK.opd (ha ρ)) fun x ρ1 _ => ?_
    split
    · exact OK.ownO
    · exact OK.ofO
  | prm2 p a b ha hb =>
    intro ρ
    simp only [den]
    exact OK.bind (OK.val (ha ρ)) fun x ρ1 _ => OK.bind (OK.val (hb ρ1)) fun y ρ2 _ => OK.ofO
  | ix a b ha hb =>
    intro ρ
    simp only [den]
    exact OK.bind (OK.two (ha ρ) hb) fun p ρ1 _ => OK.ofO
  | slc a lo hi ha hl hh =>
    intro ρ
    simp only [den]
    refine OK.bind (OK.opd (ha ρ)) fun x ρ1 _ => OK.bind (OK.val (hl ρ1)) fun l ρ2 _ => ?_
    split
    · trivial
    · refine OK.bind (OK.val (hh ρ2)) fun h ρ3 _ => ?_
      split
      · trivial
      · split
        · trivial
        · exact OK.newO
  | rev a ha =>
    intro ρ
    simp only [den]
    refine OK.bind (OK.opd (ha ρ)) fun x ρ1 _ => ?_
    split <;> first | exact LK.refl ρ1 | trivial
  | att a f ha =>
    intro ρ
    simp only [den]
    refine OK.bind (OK.opd (ha ρ)) fun x ρ1 _ => ?_
    split
    · exact OK.ofO
    · trivial
  | itr a ha =>
    intro ρ
    simp only [den]
    exact ha ρ
  | rng1 a ha =>
    intro ρ
    simp only [den]
    refine OK.bind (OK.val (ha ρ)) fun x ρ1 _ => ?_
    split
    · split <;> first | exact LK.refl ρ1 | trivial
    · trivial
  | rng2 a b ha hb =>
    intro ρ
    simp only [den]
    refine OK.bind (OK.val (ha ρ)) fun x ρ1 _ => OK.bind (OK.val (hb ρ1)) fun y ρ2 _ => ?_
    split
    · split <;> first | exact LK.refl ρ2 | trivial
    · trivial
  | enm a ha =>
    intro ρ
    simp only [den]
    refine OK.bind (OK.val (ha ρ)) fun x ρ1 _ => ?_
    split <;> first | exact LK.refl ρ1 | trivial
  | zip a b ha hb =>
    intro ρ
    simp only [den]
    refine OK.bind (OK.val (ha ρ)) fun x ρ1 _ => OK.bind (OK.val (hb ρ1)) fun y ρ2 _ => ?_
    split <;> first | exact LK.refl ρ2 | trivial
  | cmp1 vs tg it cond elt hi hc he =>
    intro ρ
    simp only [den]
    exact OK.comp hi (OK.eltOf hc he) ρ
  | cmp2 vs vs1 tg it tg1 it1 cond1 elt hi hi1 hc he =>
    intro ρ
    simp only [den]
    have q := OK.comp (vs := vs) (tg := tg) (it := it) hi (OK.in2 (vs1 := vs1) (tg1 := tg1) (it1 := it1) hi1 (OK.eltOf (cond := cond1) hc he)) ρ
    revert q
    cases iterOf it (den Γ it) ρ with
    | ok p ρ1 => exact fun q => OK.lenC q
    | ex z ρ1 => exact fun q => q
    | bad => exact fun q => q
  | pop i k hk =>
    intro ρ
    simp only [den]
    refine OK.bind (OK.val (hk ρ)) fun x ρ1 _ => ?_
    split
    · rename_i e _
      split
      · split
        · exact LK.set fun d' z => by rw [e] at z; cases z
        · trivial
      · trivial
    · trivial
  | xop o es hs =>
    intro ρ
    simp only [den]
    refine OK.bind (hs ρ) fun cv ρ1 _ => ?_
    split
    · exact OK.xden
    · trivial
end MP
end
section
set_option autoImplicit false
set_option Elab.async false
set_option linter.all false
set_option maxRecDepth 100000
/-! MPX: reading the meaning of texts. Core Lean alone. -/
namespace MP
/-- f, called with ds, ends so -/
def Calls (Γ : Tab) (f : String) (ds : List D) (out : FOut) : Prop := ∃ fd, Γ.fn f = some fd ∧ fd.n = ds.length ∧ fd.run ds = out
/-- .. and may change the parameters io -/
def CallsIo (Γ : Tab) (f : String) (io : List Nat) (ds : List D) (out : FOut) : Prop := ∃ fd, Γ.fn f = some fd ∧ fd.n = ds.length ∧ fd.io = io ∧ fd.run ds = out
/-- a plain call -/
theorem callF_of {Γ : Tab} {f : String} {es : E} {ρ : Rho} {ds ds' : List D} {out : FOut} (h : CallsIo Γ f (refPos 0 es) ds' out) (hn : nodupN (refsOf es) = true) (hl : ds.length = ds'.length) (hf : fill ρ es ds = some ds') : callF Γ f es ρ ds = callOut ρ (refsOf es) out := by
  obtain ⟨fd, h1, h2, h3, h4⟩ := h
  unfold callF
  rw [h1]
  simp only
  rw [if_pos ⟨h3.symm, hn, by rw [hl, h2]⟩, hf]
  simp only [h4]
def Tab.add (Γ : Tab) (f : String) (d : Def) : Tab := { Γ with fn := fun g => if g = f then some ⟨d.ps, d.io, d.run Γ⟩ else Γ.fn g }
theorem Tab.add_self (Γ : Tab) (f : String) (d : Def) : (Γ.add f d).fn f = some ⟨d.ps, d.io, d.run Γ⟩ := by simp [Tab.add]
theorem Tab.add_ne (Γ : Tab) {f g : String} (d : Def) (h : g ≠ f) : (Γ.add f d).fn g = Γ.fn g := by simp [Tab.add, h]
/-! ### slots -/
theorem wipe_len (ρ : Rho) : ∀ vs : List Nat, (wipeR ρ vs).length = ρ.length
  | [] => rfl
  | v :: vs => by
    show ((wipeR ρ vs).set v .un).length = _
    rw [List.length_set, wipe_len ρ vs]
theorem wipe_at {ρ : Rho} {i : Nat} : ∀ {vs : List Nat}, i ∈ vs → i < ρ.length → (wipeR ρ vs)[i]? = some .un
  | v :: vs, h, hl => by
    show ((wipeR ρ vs).set v .un)[i]? = _
    by_cases e : v = i
    · subst e
      exact List.getElem?_set_self (by rw [wipe_len]; exact hl)
    · rw [List.getElem?_set_ne e]
      exact wipe_at (by rcases List.mem_cons.mp h with z | z; exact absurd z.symm e; exact z) hl
theorem wipe_out : ∀ (vs : List Nat) (ρ : Rho) (i : Nat), i ∉ vs → (wipeR ρ vs)[i]? = ρ[i]?
  | [], _, _, _ => rfl
  | v :: vs, ρ, i, h => by
    show ((wipeR ρ vs).set v .un)[i]? = _
    rw [List.getElem?_set_ne (fun e => h (by rw [e]; exact List.mem_cons_self ..))]
    exact wipe_out vs ρ i fun z => h (List.mem_cons_of_mem _ z)
theorem wipe_same {ρ ρ' : Rho} {vs : List Nat} (hl : ρ.length = ρ'.length) (h : ∀ i, i ∉ vs → ρ[i]? = ρ'[i]?) : wipeR ρ vs = wipeR ρ' vs := by
  apply List.ext_getElem?
  intro i
  by_cases hi : i ∈ vs
  · by_cases hb : i < ρ.length
    · rw [wipe_at hi hb, wipe_at hi (hl ▸ hb)]
    · rw [List.getElem?_eq_none (by rw [wipe_len]; omega), List.getElem?_eq_none (by rw [wipe_len]; omega)]
  · rw [wipe_out vs ρ i hi, wipe_out vs ρ' i hi]
    exact h i hi
theorem wipe_set {ρ : Rho} {vs : List Nat} {i : Nat} {x : Cell} (hi : i ∈ vs) : wipeR (ρ.set i x) vs = wipeR ρ vs :=
  wipe_same (List.length_set ..) fun j hj => List.getElem?_set_ne fun e => hj (by rw [← e]; exact hi)
theorem wipe_wipe {ρ : Rho} {vs : List Nat} : wipeR (wipeR ρ vs) vs = wipeR ρ vs := wipe_same (wipe_len ρ vs) fun i hi => wipe_out vs ρ i hi
theorem quiet_iff : ∀ {vs : List Nat} {ρ : Rho}, quiet ρ vs = true ↔ ∀ v ∈ vs, ρ[v]? = some .un ∨ ∃ d, ρ[v]? = some (.val d)
  | [], ρ => by simp [quiet]
  | v :: vs, ρ => by
    simp only [quiet, Bool.and_eq_true, List.mem_cons, forall_eq_or_imp, quiet_iff (vs := vs)]
    constructor
    · rintro ⟨h1, h2⟩
      refine ⟨?_, h2⟩
      split at h1
      · exact .inl (by assumption)
      · exact .inr ⟨_, by assumption⟩
      · cases h1
    · rintro ⟨h1, h2⟩
      refine ⟨?_, h2⟩
      rcases h1 with h1 | ⟨d, h1⟩ <;> rw [h1]
theorem quiet_set {ρ : Rho} {vs : List Nat} {i : Nat} {d : D} (h : quiet ρ vs = true) : quiet (ρ.set i (.val d)) vs = true := by
  rw [quiet_iff] at h ⊢
  intro v hv
  by_cases e : i = v
  · subst e
    refine .inr ⟨d, List.getElem?_set_self ?_⟩
    rcases h i hv with z | ⟨d', z⟩
    · exact (List.getElem?_eq_some_iff.mp z).1
    · exact (List.getElem?_eq_some_iff.mp z).1
  · rw [List.getElem?_set_ne e]
    exact h v hv
theorem wipe_quiet {ρ : Rho} {vs : List Nat} (h : quiet ρ vs = true) : quiet (wipeR ρ vs) vs = true := by
  rw [quiet_iff] at h ⊢
  intro v hv
  refine .inl (wipe_at hv ?_)
  rcases h v hv with z | ⟨d', z⟩
  · exact (List.getElem?_eq_some_iff.mp z).1
  · exact (List.getElem?_eq_some_iff.mp z).1
theorem backR_len (ρ0 ρ : Rho) : ∀ vs : List Nat, (backR ρ0 ρ vs).length = ρ.length
  | [] => rfl
  | v :: vs => by
    show ((backR ρ0 ρ vs).set v _).length = _
    rw [List.length_set, backR_len ρ0 ρ vs]
theorem backR_at {ρ0 ρ : Rho} {i : Nat} : ∀ {vs : List Nat}, i ∈ vs → i < ρ.length → (backR ρ0 ρ vs)[i]? = some (ρ0.getD i .un)
  | v :: vs, h, hl => by
    show ((backR ρ0 ρ vs).set v _)[i]? = _
    by_cases e : v = i
    · subst e
      exact List.getElem?_set_self (by rw [backR_len]; exact hl)
    · rw [List.getElem?_set_ne e]
      exact backR_at (by rcases List.mem_cons.mp h with z | z; exact absurd z.symm e; exact z) hl
theorem back_out : ∀ (vs : List Nat) (ρ0 ρ : Rho) (i : Nat), i ∉ vs → (backR ρ0 ρ vs)[i]? = ρ[i]?
  | [], _, _, _, _ => rfl
  | v :: vs, ρ0, ρ, i, h => by
    show ((backR ρ0 ρ vs).set v _)[i]? = _
    rw [List.getElem?_set_ne (fun e => h (by rw [e]; exact List.mem_cons_self ..))]
    exact back_out vs ρ0 ρ i fun z => h (List.mem_cons_of_mem _ z)
/-! ### comprehensions, by turns -/
theorem binds_wipe {vs : List Nat} : ∀ (is : List Nat) (ds : List D) (ρ ρ1 : Rho), (∀ i ∈ is, i ∈ vs) → binds is ds ρ = some ρ1 → wipeR ρ1 vs = wipeR ρ vs ∧ ρ1.length = ρ.length ∧ (quiet ρ vs = true → quiet ρ1 vs = true)
  | [], [], ρ, ρ1, _, h => by cases h; exact ⟨rfl, rfl, id⟩
  | [], _ :: _, ρ, ρ1, _, h => by cases h
  | _ :: _, [], ρ, ρ1, _, h => by cases h
  | i :: is, d :: ds, ρ, ρ1, hi, h => by
    obtain ⟨h1, h2, h3⟩ := binds_wipe is ds (ρ.set i (.val d)) ρ1 (fun j hj => hi j (List.mem_cons_of_mem _ hj)) h
    have hm := hi i (List.mem_cons_self ..)
    refine ⟨h1.trans (wipe_set hm), by rw [h2, List.length_set], fun hq => h3 (quiet_set hq)⟩
theorem bindT_wipe {vs : List Nat} {tg : Tg} {x : D} {ρ ρ1 : Rho} (ht : tgIn tg vs = true) (h : bindT tg x ρ = some ρ1) : wipeR ρ1 vs = wipeR ρ vs ∧ (quiet ρ vs = true → quiet ρ1 vs = true) := by
  cases tg with
  | nm i =>
    cases h
    have hm : i ∈ vs := by simpa [tgIn] using ht
    exact ⟨wipe_set hm, quiet_set⟩
  | tp is =>
    cases x <;> first | (cases h; done) | skip
    rename_i ds
    obtain ⟨h1, _, h3⟩ := binds_wipe is ds ρ ρ1 (fun i hi => by
      have := List.all_eq_true.mp (show (is.all fun i => vs.contains i) = true from ht) i hi
      simpa using this) h
    exact ⟨h1, h3⟩
/-- the turns, a state carried along: R what the slots hold at a state, step what a turn adds and the state behind it -/
def foldS {σ : Type} (step : σ → D → List D × σ) : σ → List D → List D × σ
  | s, [] => ([], s)
  | s, x :: xs => ((step s x).1 ++ (foldS step (step s x).2 xs).1, (foldS step (step s x).2 xs).2)
theorem loopC_fold {σ : Type} {vs : List Nat} {tg : Tg} {f : Rho → Out (List D)} (R : σ → Rho) (step : σ → D → List D × σ) (I : σ → Prop) (P : D → Prop) (ht : tgIn tg vs = true)
    (h : ∀ (s : σ) (x : D), I s → P x → ∃ ρ1 ρ2, bindT tg x (wipeR (R s) vs) = some ρ1 ∧ f ρ1 = .ok (step s x).1 ρ2 ∧ quiet ρ2 vs = true ∧ wipeR ρ2 vs = wipeR (R (step s x).2) vs ∧ I (step s x).2) :
    ∀ (xs acc : List D) (s : σ) (ρ : Rho), (∀ x ∈ xs, P x) → I s → quiet ρ vs = true → wipeR ρ vs = wipeR (R s) vs → ∃ ρ2, loopC vs tg f xs acc ρ = .ok (acc ++ (foldS step s xs).1) ρ2 ∧ quiet ρ2 vs = true ∧ wipeR ρ2 vs = wipeR (R (foldS step s xs).2) vs ∧ I (foldS step s xs).2
  | [], acc, s, ρ, _, hi, hr, hw => ⟨ρ, by simp [loopC, hr, foldS], hr, hw, hi⟩
  | x :: xs, acc, s, ρ, hx, hi, hr, hw => by
    obtain ⟨ρ1, ρ2, e1, e2, h3, h4, h5⟩ := h s x hi (hx x (List.mem_cons_self ..))
    obtain ⟨ρ3, e5, h6, h7, h8⟩ := loopC_fold R step I P ht h xs (acc ++ (step s x).1) (step s x).2 ρ2 (fun y hy => hx y (List.mem_cons_of_mem _ hy)) h5 h3 h4
    refine ⟨ρ3, ?_, h6, h7, h8⟩
    simp only [loopC, hr, ht, Bool.and_self, if_true, hw, e1, e2, Out.shut, Out.bind_ok, e5, foldS]
    simp
theorem back_eq {ρ0 ρ ρ' : Rho} {vs : List Nat} (hw : wipeR ρ vs = wipeR ρ' vs) (hl : ρ.length = ρ'.length) (hv : ∀ v ∈ vs, ρ0[v]? = ρ'[v]?) : backR ρ0 ρ vs = ρ' := by
  apply List.ext_getElem?
  intro i
  by_cases hi : i ∈ vs
  · by_cases hb : i < ρ.length
    · rw [backR_at hi hb]
      rw [← hv i hi, List.getD_eq_getElem?_getD]
      have : i < ρ'.length := by omega
      rw [hv i hi, List.getElem?_eq_getElem this]
      rfl
    · rw [List.getElem?_eq_none (by rw [backR_len]; omega), List.getElem?_eq_none (by omega)]
  · rw [back_out vs ρ0 ρ i hi]
    have := congrArg (fun l => l[i]?) hw
    simp only [wipe_out vs _ i hi] at this
    exact this
/-- a comprehension of one clause that changes nothing -/
theorem den_cmp1 {Γ : Tab} {vs : List Nat} {tg : Tg} {it cond elt : E} {ρ ρ' : Rho} {xs : List D} {lk : Option Nat} (g : D → List D) (hit : iterOf it (den Γ it) ρ = .ok (xs, lk) ρ') (hu : unlock lk ρ' = some ρ) (hq : quiet ρ' vs = true) (ht : tgIn tg vs = true)
    (h : ∀ x ∈ xs, ∃ ρ1, bindT tg x (wipeR ρ' vs) = some ρ1 ∧ eltOf cond (den Γ cond) (den Γ elt) ρ1 = .ok (g x) ρ1) : den Γ (.cmp1 vs tg it cond elt) ρ = .ok (.own (.lst (xs.flatMap g))) ρ := by
  simp only [den, hit, Out.bind_ok, compC, hq, if_true]
  have key := loopC_fold (σ := Unit) (vs := vs) (tg := tg) (f := eltOf cond (den Γ cond) (den Γ elt)) (fun _ => ρ') (fun _ x => (g x, ())) (fun _ => True) (fun x => x ∈ xs) ht (fun _ x _ hx => by
    obtain ⟨ρ1, e1, e2⟩ := h x hx
    obtain ⟨w1, w2⟩ := bindT_wipe ht e1
    exact ⟨ρ1, ρ1, e1, e2, w2 (wipe_quiet hq), by rw [w1, wipe_wipe], trivial⟩) xs [] () ρ' (fun x hx => hx) trivial hq rfl
  obtain ⟨ρ2, e1, h2, h3, _⟩ := key
  have hf : ∀ l, (foldS (fun _ x => (g x, ())) () l).1 = l.flatMap g := by
    intro l
    induction l with
    | nil => rfl
    | cons x l ih => simp only [foldS, List.flatMap_cons, ih]
  rw [e1]
  simp only [Out.bind_ok, List.nil_append, hf]
  have hl : ρ2.length = ρ'.length := by
    have := congrArg List.length h3
    simpa [wipe_len] using this
  rw [back_eq h3 hl (fun _ _ => rfl), hu]
/-! ### for -/
theorem forL_ret {tg : Tg} {f : Rho → Fl} (I : Nat → Rho → Prop) (P : CV → Rho → Prop) : ∀ (xs : List D) (k : Nat) (ρ : Rho),
    (∀ (j : Nat) (x : D) (ρ : Rho), xs[j]? = some x → I (k + j) ρ → ∃ ρ1, (if tgFree tg ρ then bindT tg x ρ else none) = some ρ1 ∧ ((∃ ρ2, (f ρ1 = .next ρ2 ∨ f ρ1 = .cnt ρ2) ∧ I (k + j + 1) ρ2) ∨ ∃ cv ρ2, f ρ1 = .ret cv ρ2 ∧ P cv ρ2)) → I k ρ →
    (∃ ρ', forL tg f xs ρ = .next ρ' ∧ I (k + xs.length) ρ') ∨ ∃ cv ρ', forL tg f xs ρ = .ret cv ρ' ∧ P cv ρ'
  | [], k, ρ, _, hi => .inl ⟨ρ, rfl, hi⟩
  | x :: xs, k, ρ, h, hi => by
    obtain ⟨ρ1, e1, h1⟩ := h 0 x ρ rfl hi
    rcases h1 with ⟨ρ2, e2, h2⟩ | ⟨cv, ρ2, e2, h2⟩
    · have ih := forL_ret I P xs (k + 1) ρ2 (fun j y ρ hj hi => by
        have := h (j + 1) y ρ (by simpa using hj) (by rw [show k + (j + 1) = k + 1 + j by omega]; exact hi)
        rw [show k + (j + 1) + 1 = k + 1 + j + 1 by omega] at this
        exact this) h2
      have e3 : forL tg f (x :: xs) ρ = forL tg f xs ρ2 := by
        simp only [forL, e1]
        rcases e2 with e2 | e2 <;> rw [e2]
      rw [e3, List.length_cons, show k + (xs.length + 1) = k + 1 + xs.length by omega]
      exact ih
    · refine .inr ⟨cv, ρ2, ?_, h2⟩
      simp only [forL, e1, e2]
theorem forL_inv {tg : Tg} {f : Rho → Fl} (I : Nat → Rho → Prop) (xs : List D) (ρ : Rho)
    (h : ∀ (j : Nat) (x : D) (ρ : Rho), xs[j]? = some x → I j ρ → ∃ ρ1, (if tgFree tg ρ then bindT tg x ρ else none) = some ρ1 ∧ ∃ ρ2, (f ρ1 = .next ρ2 ∨ f ρ1 = .cnt ρ2) ∧ I (j + 1) ρ2) (hi : I 0 ρ) : ∃ ρ', forL tg f xs ρ = .next ρ' ∧ I xs.length ρ' := by
  rcases forL_ret I (fun _ _ => False) xs 0 ρ (fun j x ρ hj hi => by
    obtain ⟨ρ1, e1, h1⟩ := h j x ρ hj (by rw [Nat.zero_add] at hi; exact hi)
    exact ⟨ρ1, e1, .inl (by rw [Nat.zero_add]; exact h1)⟩) hi with h | ⟨_, _, _, h⟩
  · rw [Nat.zero_add] at h
    exact h
  · exact h.elim
theorem den_for {Γ : Tab} {tg : Tg} {it : E} {s : S} {ρ ρ1 : Rho} {d : D} {xs : List D} (h : val (den Γ it) ρ = .ok d ρ1) (hd : seqOf d = some xs) : denS Γ (.for tg it s) ρ = forL tg (denS Γ s) xs ρ1 := by
  simp only [denS, h, Out.fl_ok, hd]
theorem val_rng1 {Γ : Tab} {a : E} {ρ ρ1 : Rho} {n : Int} (h : val (den Γ a) ρ = .ok (.int n) ρ1) (h0 : 0 ≤ n) (h1 : n ≤ SL) : val (den Γ (.rng1 a)) ρ = .ok (.lst (rngL 0 n.toNat)) ρ1 := by
  simp only [val, den] at h ⊢
  rw [h]
  simp only [Out.bind_ok]
  rw [if_pos ⟨by omega, h1⟩]
  rfl
/-- from what may be there -/
def outO (ρ : Rho) : Option D → Out D
  | some d => .ok d ρ
  | none => .bad
theorem outO_some (ρ : Rho) (d : D) : outO ρ (some d) = .ok d ρ := rfl
theorem opd_var (i : Nat) (m : Rho → Out CV) (ρ : Rho) : opd (.var i) m ρ = outO ρ (peek ρ i) := by
  show (match peek ρ i with | some d => Out.ok d ρ | none => Out.bad) = _
  cases peek ρ i <;> rfl
theorem again_var (i : Nat) (d : D) (ρ : Rho) : again (.var i) d ρ = peek ρ i := rfl
def Cell.see : Cell → Option D
  | .val d => some d
  | .own d => some d
  | .lck d => some d
  | .io d => some d
  | .un => none
theorem see_val (d : D) : (Cell.val d).see = some d := rfl
theorem see_own (d : D) : (Cell.own d).see = some d := rfl
theorem see_lck (d : D) : (Cell.lck d).see = some d := rfl
theorem see_io (d : D) : (Cell.io d).see = some d := rfl
theorem peek_zero (c : Cell) (ρ : Rho) : peek (c :: ρ) 0 = c.see := by cases c <;> rfl
theorem peek_succ (c : Cell) (ρ : Rho) (i : Nat) : peek (c :: ρ) (i + 1) = peek ρ i := rfl
theorem val_ok {m : Rho → Out CV} {ρ ρ' : Rho} {cv : CV} (h : m ρ = .ok cv ρ') : val m ρ = .ok cv.d ρ' := by simp only [val, h, Out.bind_ok]
theorem d_val (d : D) : (CV.val d).d = d := rfl
theorem d_own (d : D) : (CV.own d).d = d := rfl
theorem cell_val (d : D) : (CV.val d).cell = .val d := rfl
theorem cell_own (d : D) : (CV.own d).cell = .own d := rfl
theorem isEq_int (i j : Int) : isEq (.int i) (.int j) = some (decide (i = j)) := by
  simp only [isEq, pl, plnD, dptD, eqD, Nat.zero_le, decide_true, Bool.and_self, if_true]
  by_cases h : i = j <;> simp [h]
theorem isEq_scr (ns : List Int) : isEq (.scr ns) (.lst []) = some ns.isEmpty := rfl
theorem opd_nil  (m : Rho → Out CV) (ρ : Rho) : opd .nil m ρ = val m ρ := rfl
theorem again_nil  (x0 : D) (ρ : Rho) : again .nil x0 ρ = some x0 := rfl
theorem opd_cons (e : E) (es : E) (m : Rho → Out CV) (ρ : Rho) : opd (.cons e es) m ρ = val m ρ := rfl
theorem again_cons (e : E) (es : E) (x0 : D) (ρ : Rho) : again (.cons e es) x0 ρ = some x0 := rfl
theorem testOf_cons (e : E) (es : E) (m : Rho → Out CV) (ρ : Rho) : testOf (.cons e es) m ρ = (m ρ).bind fun cv ρ1 => match cv.d with
    | .bl b0 => .ok b0 ρ1
    | _ => .bad := rfl
theorem opd_tup (es : E) (m : Rho → Out CV) (ρ : Rho) : opd (.tup es) m ρ = val m ρ := rfl
theorem again_tup (es : E) (x0 : D) (ρ : Rho) : again (.tup es) x0 ρ = some x0 := rfl
theorem testOf_tup (es : E) (m : Rho → Out CV) (ρ : Rho) : testOf (.tup es) m ρ = (m ρ).bind fun cv ρ1 => match cv.d with
    | .bl b0 => .ok b0 ρ1
    | _ => .bad := rfl
theorem opd_lst (es : E) (m : Rho → Out CV) (ρ : Rho) : opd (.lst es) m ρ = val m ρ := rfl
theorem again_lst (es : E) (x0 : D) (ρ : Rho) : again (.lst es) x0 ρ = some x0 := rfl
theorem testOf_lst (es : E) (m : Rho → Out CV) (ρ : Rho) : testOf (.lst es) m ρ = (m ρ).bind fun cv ρ1 => match cv.d with
    | .bl b0 => .ok b0 ρ1
    | _ => .bad := rfl
theorem opd_bin (op : Bop) (a : E) (b : E) (m : Rho → Out CV) (ρ : Rho) : opd (.bin op a b) m ρ = val m ρ := rfl
theorem again_bin (op : Bop) (a : E) (b : E) (x0 : D) (ρ : Rho) : again (.bin op a b) x0 ρ = some x0 := rfl
theorem testOf_bin (op : Bop) (a : E) (b : E) (m : Rho → Out CV) (ρ : Rho) : testOf (.bin op a b) m ρ = (m ρ).bind fun cv ρ1 => match cv.d with
    | .bl b0 => .ok b0 ρ1
    | _ => .bad := rfl
theorem opd_neg (a : E) (m : Rho → Out CV) (ρ : Rho) : opd (.neg a) m ρ = val m ρ := rfl
theorem again_neg (a : E) (x0 : D) (ρ : Rho) : again (.neg a) x0 ρ = some x0 := rfl
theorem testOf_neg (a : E) (m : Rho → Out CV) (ρ : Rho) : testOf (.neg a) m ρ = (m ρ).bind fun cv ρ1 => match cv.d with
    | .bl b0 => .ok b0 ρ1
    | _ => .bad := rfl
theorem opd_cmp (op : Cop) (a : E) (b : E) (m : Rho → Out CV) (ρ : Rho) : opd (.cmp op a b) m ρ = val m ρ := rfl
theorem again_cmp (op : Cop) (a : E) (b : E) (x0 : D) (ρ : Rho) : again (.cmp op a b) x0 ρ = some x0 := rfl
theorem testOf_cmp (op : Cop) (a : E) (b : E) (m : Rho → Out CV) (ρ : Rho) : testOf (.cmp op a b) m ρ = (m ρ).bind fun cv ρ1 => match cv.d with
    | .bl b0 => .ok b0 ρ1
    | _ => .bad := rfl
theorem opd_chn (o : Cop) (p : Cop) (a : E) (b : E) (c : E) (m : Rho → Out CV) (ρ : Rho) : opd (.chn o p a b c) m ρ = val m ρ := rfl
theorem again_chn (o : Cop) (p : Cop) (a : E) (b : E) (c : E) (x0 : D) (ρ : Rho) : again (.chn o p a b c) x0 ρ = some x0 := rfl
theorem testOf_chn (o : Cop) (p : Cop) (a : E) (b : E) (c : E) (m : Rho → Out CV) (ρ : Rho) : testOf (.chn o p a b c) m ρ = (m ρ).bind fun cv ρ1 => match cv.d with
    | .bl b0 => .ok b0 ρ1
    | _ => .bad := rfl
theorem opd_and (a : E) (b : E) (m : Rho → Out CV) (ρ : Rho) : opd (.and a b) m ρ = val m ρ := rfl
theorem again_and (a : E) (b : E) (x0 : D) (ρ : Rho) : again (.and a b) x0 ρ = some x0 := rfl
theorem testOf_and (a : E) (b : E) (m : Rho → Out CV) (ρ : Rho) : testOf (.and a b) m ρ = (m ρ).bind fun cv ρ1 => match cv.d with
    | .bl b0 => .ok b0 ρ1
    | _ => .bad := rfl
theorem opd_or (a : E) (b : E) (m : Rho → Out CV) (ρ : Rho) : opd (.or a b) m ρ = val m ρ := rfl
theorem again_or (a : E) (b : E) (x0 : D) (ρ : Rho) : again (.or a b) x0 ρ = some x0 := rfl
theorem testOf_or (a : E) (b : E) (m : Rho → Out CV) (ρ : Rho) : testOf (.or a b) m ρ = (m ρ).bind fun cv ρ1 => match cv.d with
    | .bl b0 => .ok b0 ρ1
    | _ => .bad := rfl
theorem opd_not (a : E) (m : Rho → Out CV) (ρ : Rho) : opd (.not a) m ρ = val m ρ := rfl
theorem again_not (a : E) (x0 : D) (ρ : Rho) : again (.not a) x0 ρ = some x0 := rfl
theorem testOf_not (a : E) (m : Rho → Out CV) (ρ : Rho) : testOf (.not a) m ρ = (m ρ).bind fun cv ρ1 => match cv.d with
    | .bl b0 => .ok b0 ρ1
    | _ => .bad := rfl
theorem opd_ite (c : E) (a : E) (b : E) (m : Rho → Out CV) (ρ : Rho) : opd (.ite c a b) m ρ = val m ρ := rfl
theorem again_ite (c : E) (a : E) (b : E) (x0 : D) (ρ : Rho) : again (.ite c a b) x0 ρ = some x0 := rfl
theorem testOf_ite (c : E) (a : E) (b : E) (m : Rho → Out CV) (ρ : Rho) : testOf (.ite c a b) m ρ = (m ρ).bind fun cv ρ1 => match cv.d with
    | .bl b0 => .ok b0 ρ1
    | _ => .bad := rfl
theorem opd_isi (a : E) (t : Ty) (m : Rho → Out CV) (ρ : Rho) : opd (.isi a t) m ρ = val m ρ := rfl
theorem again_isi (a : E) (t : Ty) (x0 : D) (ρ : Rho) : again (.isi a t) x0 ρ = some x0 := rfl
theorem testOf_isi (a : E) (t : Ty) (m : Rho → Out CV) (ρ : Rho) : testOf (.isi a t) m ρ = (m ρ).bind fun cv ρ1 => match cv.d with
    | .bl b0 => .ok b0 ρ1
    | _ => .bad := rfl
theorem opd_call (f : String) (es : E) (m : Rho → Out CV) (ρ : Rho) : opd (.call f es) m ρ = val m ρ := rfl
theorem again_call (f : String) (es : E) (x0 : D) (ρ : Rho) : again (.call f es) x0 ρ = some x0 := rfl
theorem testOf_call (f : String) (es : E) (m : Rho → Out CV) (ρ : Rho) : testOf (.call f es) m ρ = (m ρ).bind fun cv ρ1 => match cv.d with
    | .bl b0 => .ok b0 ρ1
    | _ => .bad := rfl
theorem opd_prm1 (p : Prim) (a : E) (m : Rho → Out CV) (ρ : Rho) : opd (.prm1 p a) m ρ = val m ρ := rfl
theorem again_prm1 (p : Prim) (a : E) (x0 : D) (ρ : Rho) : again (.prm1 p a) x0 ρ = some x0 := rfl
theorem testOf_prm1 (p : Prim) (a : E) (m : Rho → Out CV) (ρ : Rho) : testOf (.prm1 p a) m ρ = (m ρ).bind fun cv ρ1 => match cv.d with
    | .bl b0 => .ok b0 ρ1
    | _ => .bad := rfl
theorem opd_prm2 (p : Prim) (a : E) (b : E) (m : Rho → Out CV) (ρ : Rho) : opd (.prm2 p a b) m ρ = val m ρ := rfl
theorem again_prm2 (p : Prim) (a : E) (b : E) (x0 : D) (ρ : Rho) : again (.prm2 p a b) x0 ρ = some x0 := rfl
theorem testOf_prm2 (p : Prim) (a : E) (b : E) (m : Rho → Out CV) (ρ : Rho) : testOf (.prm2 p a b) m ρ = (m ρ).bind fun cv ρ1 => match cv.d with
    | .bl b0 => .ok b0 ρ1
    | _ => .bad := rfl
theorem opd_ix (a : E) (b : E) (m : Rho → Out CV) (ρ : Rho) : opd (.ix a b) m ρ = val m ρ := rfl
theorem again_ix (a : E) (b : E) (x0 : D) (ρ : Rho) : again (.ix a b) x0 ρ = some x0 := rfl
theorem testOf_ix (a : E) (b : E) (m : Rho → Out CV) (ρ : Rho) : testOf (.ix a b) m ρ = (m ρ).bind fun cv ρ1 => match cv.d with
    | .bl b0 => .ok b0 ρ1
    | _ => .bad := rfl
theorem opd_slc (a : E) (lo : E) (hi : E) (m : Rho → Out CV) (ρ : Rho) : opd (.slc a lo hi) m ρ = val m ρ := rfl
theorem again_slc (a : E) (lo : E) (hi : E) (x0 : D) (ρ : Rho) : again (.slc a lo hi) x0 ρ = some x0 := rfl
theorem testOf_slc (a : E) (lo : E) (hi : E) (m : Rho → Out CV) (ρ : Rho) : testOf (.slc a lo hi) m ρ = (m ρ).bind fun cv ρ1 => match cv.d with
    | .bl b0 => .ok b0 ρ1
    | _ => .bad := rfl
theorem opd_rev (a : E) (m : Rho → Out CV) (ρ : Rho) : opd (.rev a) m ρ = val m ρ := rfl
theorem again_rev (a : E) (x0 : D) (ρ : Rho) : again (.rev a) x0 ρ = some x0 := rfl
theorem testOf_rev (a : E) (m : Rho → Out CV) (ρ : Rho) : testOf (.rev a) m ρ = (m ρ).bind fun cv ρ1 => match cv.d with
    | .bl b0 => .ok b0 ρ1
    | _ => .bad := rfl
theorem opd_att (a : E) (f : String) (m : Rho → Out CV) (ρ : Rho) : opd (.att a f) m ρ = val m ρ := rfl
theorem again_att (a : E) (f : String) (x0 : D) (ρ : Rho) : again (.att a f) x0 ρ = some x0 := rfl
theorem testOf_att (a : E) (f : String) (m : Rho → Out CV) (ρ : Rho) : testOf (.att a f) m ρ = (m ρ).bind fun cv ρ1 => match cv.d with
    | .bl b0 => .ok b0 ρ1
    | _ => .bad := rfl
theorem opd_cst (d : D) (m : Rho → Out CV) (ρ : Rho) : opd (.cst d) m ρ = val m ρ := rfl
theorem again_cst (d : D) (x0 : D) (ρ : Rho) : again (.cst d) x0 ρ = some x0 := rfl
theorem testOf_cst (d : D) (m : Rho → Out CV) (ρ : Rho) : testOf (.cst d) m ρ = (m ρ).bind fun cv ρ1 => match cv.d with
    | .bl b0 => .ok b0 ρ1
    | _ => .bad := rfl
theorem opd_glb (x : String) (d : D) (m : Rho → Out CV) (ρ : Rho) : opd (.glb x d) m ρ = val m ρ := rfl
theorem again_glb (x : String) (d : D) (x0 : D) (ρ : Rho) : again (.glb x d) x0 ρ = some x0 := rfl
theorem testOf_glb (x : String) (d : D) (m : Rho → Out CV) (ρ : Rho) : testOf (.glb x d) m ρ = (m ρ).bind fun cv ρ1 => match cv.d with
    | .bl b0 => .ok b0 ρ1
    | _ => .bad := rfl
theorem opd_cmp1 (vs : List Nat) (tg : Tg) (it : E) (cond : E) (elt : E) (m : Rho → Out CV) (ρ : Rho) : opd (.cmp1 vs tg it cond elt) m ρ = val m ρ := rfl
theorem again_cmp1 (vs : List Nat) (tg : Tg) (it : E) (cond : E) (elt : E) (x0 : D) (ρ : Rho) : again (.cmp1 vs tg it cond elt) x0 ρ = some x0 := rfl
theorem testOf_cmp1 (vs : List Nat) (tg : Tg) (it : E) (cond : E) (elt : E) (m : Rho → Out CV) (ρ : Rho) : testOf (.cmp1 vs tg it cond elt) m ρ = (m ρ).bind fun cv ρ1 => match cv.d with
    | .bl b0 => .ok b0 ρ1
    | _ => .bad := rfl
theorem opd_cmp2 (vs : List Nat) (vs1 : List Nat) (tg : Tg) (it : E) (tg1 : Tg) (it1 : E) (cond1 : E) (elt : E) (m : Rho → Out CV) (ρ : Rho) : opd (.cmp2 vs vs1 tg it tg1 it1 cond1 elt) m ρ = val m ρ := rfl
theorem again_cmp2 (vs : List Nat) (vs1 : List Nat) (tg : Tg) (it : E) (tg1 : Tg) (it1 : E) (cond1 : E) (elt : E) (x0 : D) (ρ : Rho) : again (.cmp2 vs vs1 tg it tg1 it1 cond1 elt) x0 ρ = some x0 := rfl
theorem testOf_cmp2 (vs : List Nat) (vs1 : List Nat) (tg : Tg) (it : E) (tg1 : Tg) (it1 : E) (cond1 : E) (elt : E) (m : Rho → Out CV) (ρ : Rho) : testOf (.cmp2 vs vs1 tg it tg1 it1 cond1 elt) m ρ = (m ρ).bind fun cv ρ1 => match cv.d with
    | .bl b0 => .ok b0 ρ1
    | _ => .bad := rfl
theorem opd_xop (o : XOp) (es : E) (m : Rho → Out CV) (ρ : Rho) : opd (.xop o es) m ρ = val m ρ := rfl
theorem again_xop (o : XOp) (es : E) (x0 : D) (ρ : Rho) : again (.xop o es) x0 ρ = some x0 := rfl
theorem testOf_xop (o : XOp) (es : E) (m : Rho → Out CV) (ρ : Rho) : testOf (.xop o es) m ρ = (m ρ).bind fun cv ρ1 => match cv.d with
    | .bl b0 => .ok b0 ρ1
    | _ => .bad := rfl
theorem opd_pop (i : Nat) (k : E) (m : Rho → Out CV) (ρ : Rho) : opd (.pop i k) m ρ = val m ρ := rfl
theorem again_pop (i : Nat) (k : E) (x0 : D) (ρ : Rho) : again (.pop i k) x0 ρ = some x0 := rfl
theorem testOf_pop (i : Nat) (k : E) (m : Rho → Out CV) (ρ : Rho) : testOf (.pop i k) m ρ = (m ρ).bind fun cv ρ1 => match cv.d with
    | .bl b0 => .ok b0 ρ1
    | _ => .bad := rfl
theorem testOf_nil (m : Rho → Out CV) (ρ : Rho) : testOf .nil m ρ = .ok true ρ := rfl
theorem cmp_eq (a b : D) : cmpOp .eq a b = isEq a b := by cases a <;> cases b <;> rfl
theorem cmp_ne (a b : D) : cmpOp .ne a b = (isEq a b).map (!·) := by cases a <;> cases b <;> rfl
theorem cmp_isin (a b : D) : cmpOp .isin a b = isIn a b := by cases a <;> cases b <;> rfl
theorem cmp_notin (a b : D) : cmpOp .notin a b = (isIn a b).map (!·) := by cases a <;> cases b <;> rfl
theorem cmp_is (a b : D) : cmpOp .is a b = isOp a b := by cases a <;> cases b <;> rfl
theorem cmp_isnot (a b : D) : cmpOp .isnot a b = (isOp a b).map (!·) := by cases a <;> cases b <;> rfl
theorem cmp_lt (i j : Int) : cmpOp .lt (.int i) (.int j) = some (decide (i < j)) := rfl
theorem cmp_le (i j : Int) : cmpOp .le (.int i) (.int j) = some (decide (i ≤ j)) := rfl
theorem cmp_gt (i j : Int) : cmpOp .gt (.int i) (.int j) = some (decide (j < i)) := rfl
theorem cmp_ge (i j : Int) : cmpOp .ge (.int i) (.int j) = some (decide (j ≤ i)) := rfl
theorem cmp_ltT (a b : List D) : cmpOp .lt (.tup a) (.tup b) = if allInts a && allInts b then some (ltL a b) else none := rfl
theorem inst_non_int  : isInst .non .int = some false := rfl
theorem inst_non_bool  : isInst .non .bool = some false := rfl
theorem inst_non_tuple  : isInst .non .tuple = some false := rfl
theorem inst_non_list  : isInst .non .list = some false := rfl
theorem inst_non_dict  : isInst .non .dict = some false := rfl
theorem inst_non_str  : isInst .non .str = some false := rfl
theorem inst_non_cls  (c : String) : isInst .non (.cls c) = some false := rfl
theorem inst_bl_int (b : Bool) : isInst (.bl b) .int = some true := rfl
theorem inst_bl_bool (b : Bool) : isInst (.bl b) .bool = some true := rfl
theorem inst_bl_tuple (b : Bool) : isInst (.bl b) .tuple = some false := rfl
theorem inst_bl_list (b : Bool) : isInst (.bl b) .list = some false := rfl
theorem inst_bl_dict (b : Bool) : isInst (.bl b) .dict = some false := rfl
theorem inst_bl_str (b : Bool) : isInst (.bl b) .str = some false := rfl
theorem inst_bl_cls (b : Bool) (c : String) : isInst (.bl b) (.cls c) = some false := rfl
theorem is_bl_non (b : Bool) : isOp (.bl b) .non = some false := rfl
theorem inst_int_int (i : Int) : isInst (.int i) .int = some true := rfl
theorem inst_int_bool (i : Int) : isInst (.int i) .bool = some false := rfl
theorem inst_int_tuple (i : Int) : isInst (.int i) .tuple = some false := rfl
theorem inst_int_list (i : Int) : isInst (.int i) .list = some false := rfl
theorem inst_int_dict (i : Int) : isInst (.int i) .dict = some false := rfl
theorem inst_int_str (i : Int) : isInst (.int i) .str = some false := rfl
theorem inst_int_cls (i : Int) (c : String) : isInst (.int i) (.cls c) = some false := rfl
theorem is_int_non (i : Int) : isOp (.int i) .non = some false := rfl
theorem inst_str_int (s : String) : isInst (.str s) .int = some false := rfl
theorem inst_str_bool (s : String) : isInst (.str s) .bool = some false := rfl
theorem inst_str_tuple (s : String) : isInst (.str s) .tuple = some false := rfl
theorem inst_str_list (s : String) : isInst (.str s) .list = some false := rfl
theorem inst_str_dict (s : String) : isInst (.str s) .dict = some false := rfl
theorem inst_str_str (s : String) : isInst (.str s) .str = some true := rfl
theorem inst_str_cls (s : String) (c : String) : isInst (.str s) (.cls c) = some false := rfl
theorem is_str_non (s : String) : isOp (.str s) .non = some false := rfl
theorem inst_tup_int (xs : List D) : isInst (.tup xs) .int = some false := rfl
theorem inst_tup_bool (xs : List D) : isInst (.tup xs) .bool = some false := rfl
theorem inst_tup_tuple (xs : List D) : isInst (.tup xs) .tuple = some true := rfl
theorem inst_tup_list (xs : List D) : isInst (.tup xs) .list = some false := rfl
theorem inst_tup_dict (xs : List D) : isInst (.tup xs) .dict = some false := rfl
theorem inst_tup_str (xs : List D) : isInst (.tup xs) .str = some false := rfl
theorem inst_tup_cls (xs : List D) (c : String) : isInst (.tup xs) (.cls c) = some false := rfl
theorem is_tup_non (xs : List D) : isOp (.tup xs) .non = some false := rfl
theorem inst_lst_int (xs : List D) : isInst (.lst xs) .int = some false := rfl
theorem inst_lst_bool (xs : List D) : isInst (.lst xs) .bool = some false := rfl
theorem inst_lst_tuple (xs : List D) : isInst (.lst xs) .tuple = some false := rfl
theorem inst_lst_list (xs : List D) : isInst (.lst xs) .list = some true := rfl
theorem inst_lst_dict (xs : List D) : isInst (.lst xs) .dict = some false := rfl
theorem inst_lst_str (xs : List D) : isInst (.lst xs) .str = some false := rfl
theorem inst_lst_cls (xs : List D) (c : String) : isInst (.lst xs) (.cls c) = some false := rfl
theorem is_lst_non (xs : List D) : isOp (.lst xs) .non = some false := rfl
theorem inst_scr_int (ns : List Int) : isInst (.scr ns) .int = some false := rfl
theorem inst_scr_bool (ns : List Int) : isInst (.scr ns) .bool = some false := rfl
theorem inst_scr_tuple (ns : List Int) : isInst (.scr ns) .tuple = some false := rfl
theorem inst_scr_list (ns : List Int) : isInst (.scr ns) .list = some true := rfl
theorem inst_scr_dict (ns : List Int) : isInst (.scr ns) .dict = some false := rfl
theorem inst_scr_str (ns : List Int) : isInst (.scr ns) .str = some false := rfl
theorem inst_scr_cls (ns : List Int) (c : String) : isInst (.scr ns) (.cls c) = some false := rfl
theorem is_scr_non (ns : List Int) : isOp (.scr ns) .non = some false := rfl
theorem inst_obj_int (c0 : String) (fs : List (String × D)) : isInst (.obj c0 fs) .int = some false := rfl
theorem inst_obj_bool (c0 : String) (fs : List (String × D)) : isInst (.obj c0 fs) .bool = some false := rfl
theorem inst_obj_tuple (c0 : String) (fs : List (String × D)) : isInst (.obj c0 fs) .tuple = some false := rfl
theorem inst_obj_list (c0 : String) (fs : List (String × D)) : isInst (.obj c0 fs) .list = some false := rfl
theorem inst_obj_dict (c0 : String) (fs : List (String × D)) : isInst (.obj c0 fs) .dict = some false := rfl
theorem inst_obj_str (c0 : String) (fs : List (String × D)) : isInst (.obj c0 fs) .str = some false := rfl
theorem is_obj_non (c0 : String) (fs : List (String × D)) : isOp (.obj c0 fs) .non = some false := rfl
theorem is_non_non : isOp .non .non = some true := rfl
theorem is_bl_bl (a b : Bool) : isOp (.bl a) (.bl b) = some (a == b) := rfl
theorem prim_len_l (xs : List D) : prim .len [.lst xs] = some (.int xs.length) := rfl
theorem prim_len_t (xs : List D) : prim .len [.tup xs] = some (.int xs.length) := rfl
theorem prim_all (xs : List D) : prim .all [.lst xs] = (bools xs).map fun bs => .bl (bs.all id) := rfl
theorem prim_any (xs : List D) : prim .any [.lst xs] = (bools xs).map fun bs => .bl (bs.any id) := rfl
theorem prim_sum (xs : List D) : prim .sum [.lst xs] = (sumI xs).map .int := rfl
theorem prim_tuple_l (xs : List D) : prim .tuple [.lst xs] = some (.tup xs) := rfl
theorem prim_tuple_t (xs : List D) : prim .tuple [.tup xs] = some (.tup xs) := rfl
theorem prim_list_l (xs : List D) : prim .list [.lst xs] = some (.lst xs) := rfl
theorem prim_list_t (xs : List D) : prim .list [.tup xs] = some (.lst xs) := rfl
theorem prim_sorted (xs : List D) : prim .sorted [.lst xs] = if sortOk xs then some (.lst (sortD xs)) else none := rfl
theorem prim_sset (xs : List D) : prim .sortedSet [.lst xs] = if setOk xs then some (.lst (sortD (uniqD xs))) else none := rfl
theorem prim_len_s (xs : List Int) : prim .len [.scr xs] = some (.int xs.length) := rfl
theorem prim_abs (i : Int) : prim .abs [.int i] = some (.int (if i < 0 then -i else i)) := rfl
theorem prim_min2 (i j : Int) : prim .min2 [.int i, .int j] = some (.int (if j < i then j else i)) := rfl
theorem prim_max2 (i j : Int) : prim .max2 [.int i, .int j] = some (.int (if j > i then j else i)) := rfl
theorem prim_min1 (i : Int) (r : List D) : prim .min1 [.lst (.int i :: r)] = (minI i r).map .int := rfl
theorem prim_max1 (i : Int) (r : List D) : prim .max1 [.lst (.int i :: r)] = (maxI i r).map .int := rfl
theorem bin_addI (i j : Int) : binOp .add (.int i) (.int j) = some (.int (i + j)) := rfl
theorem bin_subI (i j : Int) : binOp .sub (.int i) (.int j) = some (.int (i - j)) := rfl
theorem bin_mulI (i j : Int) : binOp .mul (.int i) (.int j) = if mulOk i j then some (.int (i * j)) else none := rfl
theorem bin_fdivI (i j : Int) : binOp .fdiv (.int i) (.int j) = if j ≠ 0 ∧ j.natAbs < 1073741824 then some (.int (i.fdiv j)) else none := rfl
theorem bin_modI (i j : Int) : binOp .mod (.int i) (.int j) = if j ≠ 0 then some (.int (i.fmod j)) else none := rfl
theorem bin_powI (i j : Int) : binOp .pow (.int i) (.int j) = if 0 ≤ j ∧ j ≤ 1000000 ∧ i.natAbs < 2 ^ 64 then some (.int (i ^ j.toNat)) else none := rfl
theorem bin_addL (a b : List D) : binOp .add (.lst a) (.lst b) = if a.length + b.length ≤ SL then some (.lst (a ++ b)) else none := rfl
theorem bin_addT (a b : List D) : binOp .add (.tup a) (.tup b) = if a.length + b.length ≤ SL then some (.tup (a ++ b)) else none := rfl
theorem bin_mulT (a : List D) (k : Int) : binOp .mul (.tup a) (.int k) = if 2 ≤ k ∧ k ≤ 1000 ∧ a.length ≤ 1000 ∧ 0 < a.length then some (.tup (repL a k.toNat)) else none := rfl
theorem bin_mulL (a : List D) (k : Int) : binOp .mul (.lst a) (.int k) = if 0 ≤ k ∧ k < 1000 ∧ a.length * k.toNat ≤ SL then some (.lst (repL a k.toNat)) else none := rfl
theorem ix_l (xs : List D) (i : Int) : ixD (.lst xs) (.int i) = at? xs i := rfl
theorem ix_t (xs : List D) (i : Int) : ixD (.tup xs) (.int i) = at? xs i := rfl
theorem ix_s (ns : List Int) (i : Int) : ixD (.scr ns) (.int i) = (ixN ns.length i).bind fun j => (ns[j]?).map .int := rfl
theorem newO_l (ρ : Rho) (xs : List D) : newO ρ (some (.lst xs)) = .ok (.own (.lst xs)) ρ := rfl
theorem newO_i (ρ : Rho) (i : Int) : newO ρ (some (.int i)) = .ok (.val (.int i)) ρ := rfl
theorem newO_t (ρ : Rho) (xs : List D) : newO ρ (some (.tup xs)) = .ok (.val (.tup xs)) ρ := rfl
theorem newO_s (ρ : Rho) (z : String) : newO ρ (some (.str z)) = .ok (.val (.str z)) ρ := rfl
theorem ofO_some (ρ : Rho) (d : D) : ofO ρ (some d) = .ok (.val d) ρ := rfl
theorem ownO_some (ρ : Rho) (d : D) : ownO ρ (some d) = .ok (.own d) ρ := rfl
theorem ofB_some (ρ : Rho) (b : Bool) : ofB ρ (some b) = .ok (.val (.bl b)) ρ := rfl
theorem optI_nil (d : D) : optI .nil d = some none := rfl
theorem sl_l (xs : List D) (lo hi : Option Int) : sliceD (.lst xs) lo hi = some (.lst (cut xs lo hi)) := rfl
theorem sl_t (xs : List D) (lo hi : Option Int) : sliceD (.tup xs) lo hi = some (.tup (cut xs lo hi)) := rfl
def Cell.mut : Cell → Option D
  | .own d => some d
  | .io d => some d
  | _ => none
theorem mut_own (d : D) : (Cell.own d).mut = some d := rfl
theorem mut_io (d : D) : (Cell.io d).mut = some d := rfl
theorem ioAt_zero (c : Cell) (ρ : Rho) : ioAt (c :: ρ) 0 = c.mut := by cases c <;> rfl
theorem ioAt_succ (c : Cell) (ρ : Rho) (i : Nat) : ioAt (c :: ρ) (i + 1) = ioAt ρ i := rfl
def lstOf : Option D → Option (List D)
  | some (.lst xs) => some xs
  | _ => none
theorem lstOf_lst (xs : List D) : lstOf (some (.lst xs)) = some xs := rfl
theorem mutL_eq (ρ : Rho) (i : Nat) : mutL ρ i = lstOf (ioAt ρ i) := by
  unfold mutL
  cases ioAt ρ i with
  | none => rfl
  | some d => cases d <;> rfl
def setIx1 (ρ : Rho) (i : Nat) (d : D) (xs : List D) : Option Nat → Fl
  | some n => .next (ioPut ρ i (.lst (xs.set n d)))
  | none => .bad
theorem setIx1_some (ρ : Rho) (i : Nat) (d : D) (xs : List D) (n : Nat) : setIx1 ρ i d xs (some n) = .next (ioPut ρ i (.lst (xs.set n d))) := rfl
def setIx0 (ρ : Rho) (i : Nat) (j : Int) (d : D) : Option (List D) → Fl
  | some xs => setIx1 ρ i d xs (ixN xs.length j)
  | none => .bad
theorem setIx0_some (ρ : Rho) (i : Nat) (j : Int) (d : D) (xs : List D) : setIx0 ρ i j d (some xs) = setIx1 ρ i d xs (ixN xs.length j) := rfl
theorem setIx_eq (ρ : Rho) (i : Nat) (j : Int) (d : D) : setIx ρ i (.int j) d = setIx0 ρ i j d (mutL ρ i) := by
  unfold setIx
  cases mutL ρ i with
  | none => rfl
  | some xs =>
    show (match ixN xs.length j with | some n => Fl.next (ioPut ρ i (.lst (xs.set n d))) | none => Fl.bad) = setIx1 ρ i d xs (ixN xs.length j)
    cases ixN xs.length j <;> rfl
theorem ioPut_own (d d' : D) (ρ : Rho) : ioPut (.own d :: ρ) 0 d' = .own d' :: ρ := rfl
theorem ioPut_io (d d' : D) (ρ : Rho) : ioPut (.io d :: ρ) 0 d' = .io d' :: ρ := rfl
theorem ioPut_succ (c : Cell) (ρ : Rho) (i : Nat) (d : D) : ioPut (c :: ρ) (i + 1) d = c :: ioPut ρ i d := by
  unfold ioPut
  simp only [List.getElem?_cons_succ, List.set_cons_succ]
  cases ρ[i]? with
  | none => rfl
  | some x => cases x <;> rfl
theorem at2_0 (x y : D) : at? [x, y] 0 = some x := rfl
theorem at2_1 (x y : D) : at? [x, y] 1 = some y := rfl
theorem ixN2_0 : ixN 2 0 = some 0 := rfl
theorem ixN2_1 : ixN 2 1 = some 1 := rfl
theorem seqOf_l (xs : List D) : seqOf (.lst xs) = some xs := rfl
theorem seqOf_t (xs : List D) : seqOf (.tup xs) = some xs := rfl
end MP
end
section
set_option autoImplicit false
set_option Elab.async false
set_option linter.all false
set_option maxRecDepth 100000
/-! MPY: calls without ado. Core Lean alone. -/
namespace MP
def isRef : E → Bool
  | .ref _ => true
  | _ => false
/-- n arguments, none by reference -/
def argsN : E → Nat → Bool
  | .cons e es, n + 1 => !isRef e && argsN es n
  | .nil, 0 => true
  | _, _ => false
theorem argsN_cons {e es : E} {n : Nat} (h : argsN (.cons e es) n = true) : ∃ k, n = k + 1 ∧ argsN es k = true ∧ ∀ i, e ≠ .ref i := by
  cases n with
  | zero => simp [argsN] at h
  | succ n =>
    simp only [argsN, Bool.and_eq_true] at h
    refine ⟨n, rfl, h.2, ?_⟩
    rintro i rfl
    simp [isRef] at h
theorem argsN_pos : ∀ {es : E} {n k : Nat}, argsN es n = true → refPos k es = [] ∧ refsOf es = []
  | .nil, _, _, _ => ⟨rfl, rfl⟩
  | .cons e es, n, k, h => by
    obtain ⟨m, rfl, h1, h2⟩ := argsN_cons h
    have := argsN_pos (k := k + 1) h1
    cases e <;> first | exact this | exact absurd rfl (h2 _)
theorem argsN_fill {ρ : Rho} : ∀ {es : E} {ds : List D}, argsN es ds.length = true → fill ρ es ds = some ds
  | .nil, [], _ => rfl
  | .nil, _ :: _, h => by simp [argsN] at h
  | .cons e es, ds, h => by
    obtain ⟨m, e1, h1, h2⟩ := argsN_cons h
    cases ds with
    | nil => simp at e1
    | cons d ds =>
      simp only [List.length_cons, Nat.add_right_cancel_iff] at e1
      subst e1
      have := argsN_fill (ρ := ρ) h1
      cases e <;> first | (show (fill ρ es ds).map _ = _; rw [this]; rfl) | exact absurd rfl (h2 _)
/-- a call without references -/
theorem callV {Γ : Tab} {f : String} {ds : List D} {cv : CV} (h : CallsIo Γ f [] ds (.ok cv [])) (es : E) (ρ : Rho) (ha : argsN es ds.length = true) : callF Γ f es ρ ds = .ok cv ρ := by
  obtain ⟨h1, h2⟩ := argsN_pos (k := 0) ha
  rw [callF_of (ds' := ds) (by rw [h1]; exact h) (by rw [h2]; rfl) rfl (argsN_fill ha), h2]
  rfl
theorem callX {Γ : Tab} {f c : String} {ds : List D} (h : CallsIo Γ f [] ds (.ex c [])) (es : E) (ρ : Rho) (ha : argsN es ds.length = true) : callF Γ f es ρ ds = .ex c ρ := by
  obtain ⟨h1, h2⟩ := argsN_pos (k := 0) ha
  rw [callF_of (ds' := ds) (by rw [h1]; exact h) (by rw [h2]; rfl) rfl (argsN_fill ha), h2]
  rfl
/-- a call with the town as its second argument -/
theorem callT {Γ : Tab} {f : String} {ds : List D} {cv : CV} {d0 t t' : D} (h : CallsIo Γ f [1] (d0 :: t :: ds) (.ok cv [t'])) (es : E) (c0 : Cell) (ρ : Rho) (ha : argsN es ds.length = true) : callF Γ f (.cons (.var 0) (.cons (.ref 1) es)) (c0 :: .own t :: ρ) (d0 :: .non :: ds) = .ok cv (c0 :: .own t' :: ρ) := by
  obtain ⟨h1, h2⟩ := argsN_pos (k := 2) ha
  have e1 : refPos 0 (.cons (.var 0) (.cons (.ref 1) es)) = [1] := by show 1 :: refPos 2 es = [1]; rw [h1]
  have e2 : refsOf (.cons (.var 0) (.cons (.ref 1) es)) = [1] := by show 1 :: refsOf es = [1]; rw [h2]
  have e3 : fill (c0 :: .own t :: ρ) (.cons (.var 0) (.cons (.ref 1) es)) (d0 :: .non :: ds) = some (d0 :: t :: ds) := by
    show ((some t).bind fun d => (fill (c0 :: .own t :: ρ) es ds).map (d :: ·)).map (d0 :: ·) = _
    rw [argsN_fill ha]
    rfl
  rw [callF_of (ds := d0 :: .non :: ds) (ds' := d0 :: t :: ds) (out := .ok cv [t']) (by rw [e1]; exact h) (by rw [e2]; rfl) (by simp only [List.length_cons]) e3, e2]
  rfl
theorem callTi {Γ : Tab} {f : String} {ds : List D} {cv : CV} {d0 t t' : D} (h : CallsIo Γ f [1] (d0 :: t :: ds) (.ok cv [t'])) (es : E) (c0 : Cell) (ρ : Rho) (ha : argsN es ds.length = true) : callF Γ f (.cons (.var 0) (.cons (.ref 1) es)) (c0 :: .io t :: ρ) (d0 :: .non :: ds) = .ok cv (c0 :: .io t' :: ρ) := by
  obtain ⟨h1, h2⟩ := argsN_pos (k := 2) ha
  have e1 : refPos 0 (.cons (.var 0) (.cons (.ref 1) es)) = [1] := by show 1 :: refPos 2 es = [1]; rw [h1]
  have e2 : refsOf (.cons (.var 0) (.cons (.ref 1) es)) = [1] := by show 1 :: refsOf es = [1]; rw [h2]
  have e3 : fill (c0 :: .io t :: ρ) (.cons (.var 0) (.cons (.ref 1) es)) (d0 :: .non :: ds) = some (d0 :: t :: ds) := by
    show ((some t).bind fun d => (fill (c0 :: .io t :: ρ) es ds).map (d :: ·)).map (d0 :: ·) = _
    rw [argsN_fill ha]
    rfl
  rw [callF_of (ds := d0 :: .non :: ds) (ds' := d0 :: t :: ds) (out := .ok cv [t']) (by rw [e1]; exact h) (by rw [e2]; rfl) (by simp only [List.length_cons]) e3, e2]
  rfl
theorem optI_cst (v : D) (i : Int) : optI (.cst v) (.int i) = some (some i) := rfl
theorem optI_var (v : Nat) (i : Int) : optI (.var v) (.int i) = some (some i) := rfl
theorem optI_bin (o : Bop) (a b : E) (i : Int) : optI (.bin o a b) (.int i) = some (some i) := rfl
theorem optI_neg (a : E) (i : Int) : optI (.neg a) (.int i) = some (some i) := rfl
theorem optI_glb (x : String) (v : D) (i : Int) : optI (.glb x v) (.int i) = some (some i) := rfl
theorem optI_call (f : String) (es : E) (i : Int) : optI (.call f es) (.int i) = some (some i) := rfl
theorem optI_ix (a b : E) (i : Int) : optI (.ix a b) (.int i) = some (some i) := rfl
theorem flat_fold (g : D → List D) (l : List D) : (foldS (fun (_ : Unit) x => (g x, ())) () l).1 = l.flatMap g := by
  induction l with
  | nil => rfl
  | cons x l ih => simp only [foldS, List.flatMap_cons, ih]
/-- turns that change nothing -/
theorem loopC_same {vs : List Nat} {tg : Tg} {f : Rho → Out (List D)} {ρ : Rho} {xs : List D} (g : D → List D) (hq : quiet ρ vs = true) (ht : tgIn tg vs = true)
    (h : ∀ x ∈ xs, ∃ ρ1, bindT tg x (wipeR ρ vs) = some ρ1 ∧ f ρ1 = .ok (g x) ρ1) : ∃ ρ2, loopC vs tg f xs [] ρ = .ok (xs.flatMap g) ρ2 ∧ backR ρ ρ2 vs = ρ := by
  obtain ⟨ρ2, e1, h2, h3, _⟩ := loopC_fold (σ := Unit) (vs := vs) (tg := tg) (f := f) (fun _ => ρ) (fun _ x => (g x, ())) (fun _ => True) (fun x => x ∈ xs) ht (fun _ x _ hx => by
    obtain ⟨ρ1, e1, e2⟩ := h x hx
    obtain ⟨w1, w2⟩ := bindT_wipe ht e1
    exact ⟨ρ1, ρ1, e1, e2, w2 (wipe_quiet hq), by rw [w1, wipe_wipe], trivial⟩) xs [] () ρ (fun x hx => hx) trivial hq rfl
  rw [flat_fold, List.nil_append] at e1
  refine ⟨ρ2, e1, back_eq h3 ?_ (fun _ _ => rfl)⟩
  have := congrArg List.length h3
  simpa [wipe_len] using this
/-- a comprehension of two clauses that changes nothing -/
theorem den_cmp2 {Γ : Tab} {vs vs1 : List Nat} {tg tg1 : Tg} {it it1 cond elt : E} {ρ ρ' : Rho} {xs : List D} {lk : Option Nat} (g : D → List D) (hit : iterOf it (den Γ it) ρ = .ok (xs, lk) ρ') (hu : unlock lk ρ' = some ρ) (hq : quiet ρ' vs = true) (ht : tgIn tg vs = true) (ht1 : tgIn tg1 vs1 = true)
    (hl : (xs.flatMap g).length ≤ SL)
    (h : ∀ x ∈ xs, ∃ ρ1 ys g1, bindT tg x (wipeR ρ' vs) = some ρ1 ∧ iterOf it1 (den Γ it1) ρ1 = .ok (ys, none) ρ1 ∧ quiet ρ1 vs1 = true ∧ g x = ys.flatMap g1 ∧ ∀ y ∈ ys, ∃ ρ2, bindT tg1 y (wipeR ρ1 vs1) = some ρ2 ∧ eltOf cond (den Γ cond) (den Γ elt) ρ2 = .ok (g1 y) ρ2) :
    den Γ (.cmp2 vs vs1 tg it tg1 it1 cond elt) ρ = .ok (.own (.lst (xs.flatMap g))) ρ := by
  simp only [den, hit, Out.bind_ok, compC, hq, if_true]
  obtain ⟨ρ2, e1, h3⟩ := loopC_same (f := in2 vs1 tg1 it1 (den Γ it1) (eltOf cond (den Γ cond) (den Γ elt))) g hq ht (fun x hx => by
    obtain ⟨ρ1, ys, g1, a1, a2, a3, a4, a5⟩ := h x hx
    refine ⟨ρ1, a1, ?_⟩
    obtain ⟨ρ3, b1, b2⟩ := loopC_same g1 a3 ht1 a5
    simp only [in2, a2, Out.bind_ok, a3, if_true, b1, b2, a4])
  rw [e1]
  simp only [Out.bind_ok, h3, hu, lenC, if_pos hl]
end MP
end
section
set_option autoImplicit false
set_option Elab.async false
set_option linter.all false
set_option maxRecDepth 100000
/-! MPZ: comprehensions whose turns change a state; refusals. Core Lean alone. -/
namespace MP
inductive All2 {α β : Type} (P : α → β → Prop) : List α → List β → Prop
  | nil : All2 P [] []
  | cons {a : α} {b : β} {as : List α} {bs : List β} : P a b → All2 P as bs → All2 P (a :: as) (b :: bs)
theorem All2.len {α β : Type} {P : α → β → Prop} : ∀ {as : List α} {bs : List β}, All2 P as bs → as.length = bs.length
  | _, _, .nil => rfl
  | _, _, .cons _ h => congrArg (· + 1) h.len
theorem All2.right {α β : Type} {P : α → β → Prop} {Q : β → Prop} (hq : ∀ a b, P a b → Q b) : ∀ {as : List α} {bs : List β}, All2 P as bs → ∀ b ∈ bs, Q b
  | _, _, .nil, b, hb => by cases hb
  | _, _, .cons h r, b, hb => by
    rcases List.mem_cons.mp hb with rfl | hb
    · exact hq _ _ h
    · exact All2.right hq r b hb
/-- the turns, by a state that a turn may change as it likes -/
theorem loopC_inv {σ : Type} {vs : List Nat} {tg : Tg} {f : Rho → Out (List D)} (R : σ → Rho) (I : σ → Prop) (P : D → List D → Prop) (ht : tgIn tg vs = true) :
    ∀ (xs acc : List D) (s : σ) (ρ : Rho), (∀ (s : σ) (x : D), I s → x ∈ xs → ∃ s' ys ρ1 ρ2, bindT tg x (wipeR (R s) vs) = some ρ1 ∧ f ρ1 = .ok ys ρ2 ∧ quiet ρ2 vs = true ∧ wipeR ρ2 vs = wipeR (R s') vs ∧ I s' ∧ P x ys) → I s → quiet ρ vs = true → wipeR ρ vs = wipeR (R s) vs →
      ∃ s' yss ρ2, loopC vs tg f xs acc ρ = .ok (acc ++ yss.flatten) ρ2 ∧ quiet ρ2 vs = true ∧ wipeR ρ2 vs = wipeR (R s') vs ∧ I s' ∧ All2 P xs yss
  | [], acc, s, ρ, _, hi, hr, hw => ⟨s, [], ρ, by simp [loopC, hr], hr, hw, hi, .nil⟩
  | x :: xs, acc, s, ρ, h, hi, hr, hw => by
    obtain ⟨s1, ys, ρ1, ρ2, e1, e2, h3, h4, h5, h6⟩ := h s x hi (List.mem_cons_self ..)
    obtain ⟨s', yss, ρ3, e5, h7, h8, h9, h10⟩ := loopC_inv R I P ht xs (acc ++ ys) s1 ρ2 (fun s y hs hy => h s y hs (List.mem_cons_of_mem _ hy)) h5 h3 h4
    refine ⟨s', ys :: yss, ρ3, ?_, h7, h8, h9, .cons h6 h10⟩
    simp only [loopC, hr, ht, Bool.and_self, if_true, hw, e1, e2, Out.shut, Out.bind_ok, e5]
    simp
/-- a comprehension of one clause, by a state -/
theorem den_cmpI {σ : Type} {Γ : Tab} {vs : List Nat} {tg : Tg} {it cond elt : E} {ρ : Rho} {xs : List D} (R : σ → Rho) (I : σ → Prop) (P : D → List D → Prop) (s : σ) (hρ : ρ = R s) (hit : iterOf it (den Γ it) ρ = .ok (xs, none) ρ) (hi : I s) (hq : quiet ρ vs = true) (ht : tgIn tg vs = true) (hR : ∀ s', (R s').length = ρ.length ∧ ∀ v ∈ vs, ρ[v]? = (R s')[v]?)
    (h : ∀ (s : σ) (x : D), I s → x ∈ xs → ∃ s' ys ρ1 ρ2, bindT tg x (wipeR (R s) vs) = some ρ1 ∧ eltOf cond (den Γ cond) (den Γ elt) ρ1 = .ok ys ρ2 ∧ quiet ρ2 vs = true ∧ wipeR ρ2 vs = wipeR (R s') vs ∧ I s' ∧ P x ys) :
    ∃ s' yss, den Γ (.cmp1 vs tg it cond elt) ρ = .ok (.own (.lst yss.flatten)) (R s') ∧ I s' ∧ All2 P xs yss := by
  obtain ⟨s', yss, ρ2, e1, h2, h3, h4, h5⟩ := loopC_inv R I P ht xs [] s ρ h hi hq (by rw [hρ])
  refine ⟨s', yss, ?_, h4, h5⟩
  simp only [den, hit, Out.bind_ok, compC, hq, if_true, e1, List.nil_append, unlock]
  obtain ⟨l1, l2⟩ := hR s'
  have hl : ρ2.length = (R s').length := by
    have := congrArg List.length h3
    simpa [wipe_len] using this
  rw [back_eq h3 hl l2]
/-- .. what is walked being locked meanwhile -/
theorem den_cmpL {σ : Type} {Γ : Tab} {vs : List Nat} {tg : Tg} {it cond elt : E} {ρ : Rho} {xs : List D} {lk : Option Nat} (R R' : σ → Rho) (I : σ → Prop) (P : D → List D → Prop) (s : σ) (hit : iterOf it (den Γ it) ρ = .ok (xs, lk) (R s)) (hu : ∀ s', unlock lk (R s') = some (R' s')) (hi : I s) (hq : quiet (R s) vs = true) (ht : tgIn tg vs = true) (hR : ∀ s', (R s').length = (R s).length ∧ ∀ v ∈ vs, (R s)[v]? = (R s')[v]?)
    (h : ∀ (s : σ) (x : D), I s → x ∈ xs → ∃ s' ys ρ1 ρ2, bindT tg x (wipeR (R s) vs) = some ρ1 ∧ eltOf cond (den Γ cond) (den Γ elt) ρ1 = .ok ys ρ2 ∧ quiet ρ2 vs = true ∧ wipeR ρ2 vs = wipeR (R s') vs ∧ I s' ∧ P x ys) :
    ∃ s' yss, den Γ (.cmp1 vs tg it cond elt) ρ = .ok (.own (.lst yss.flatten)) (R' s') ∧ I s' ∧ All2 P xs yss := by
  obtain ⟨s', yss, ρ2, e1, h2, h3, h4, h5⟩ := loopC_inv R I P ht xs [] s (R s) h hi hq rfl
  refine ⟨s', yss, ?_, h4, h5⟩
  simp only [den, hit, Out.bind_ok, compC, hq, if_true, e1, List.nil_append]
  obtain ⟨l1, l2⟩ := hR s'
  have hl : ρ2.length = (R s').length := by
    have := congrArg List.length h3
    simpa [wipe_len] using this
  rw [back_eq h3 hl l2, hu]
/-- a refusal's word -/
def refd (k : Int) : D := .tup [.str "refused", .int k]
theorem isEq_refd (j k : Int) : isEq (.tup [.str "refused", .int j]) (.tup [.str "refused", .int k]) = some (decide (j = k)) := by
  simp only [isEq, pl, plnD, plnL, dptD, dptL, eqD, eqL, Bool.and_true, Bool.and_self, BEq.rfl, Bool.true_and]
  by_cases h : j = k <;> simp [h]
theorem isEq_refd_int (i k : Int) : isEq (.int i) (.tup [.str "refused", .int k]) = some false := by
  simp only [isEq, pl, plnD, plnL, dptD, dptL, eqD, Bool.and_true, Bool.and_self]
  rfl
theorem fx_NoFilm : refusals.findIdx? (fun x => x == "NoFilm") = some 0 := by decide
theorem fx_NoFrame : refusals.findIdx? (fun x => x == "NoFrame") = some 1 := by decide
theorem fx_NoDot : refusals.findIdx? (fun x => x == "NoDot") = some 2 := by decide
theorem fx_NoSpot : refusals.findIdx? (fun x => x == "NoSpot") = some 3 := by decide
theorem fx_NoRules : refusals.findIdx? (fun x => x == "NoRules") = some 4 := by decide
theorem fx_NoTracks : refusals.findIdx? (fun x => x == "NoTracks") = some 5 := by decide
theorem fx_NoPrices : refusals.findIdx? (fun x => x == "NoPrices") = some 6 := by decide
theorem fx_NoWay : refusals.findIdx? (fun x => x == "NoWay") = some 7 := by decide
theorem fx_NoMoment : refusals.findIdx? (fun x => x == "NoMoment") = some 8 := by decide
theorem fx_TooMany : refusals.findIdx? (fun x => x == "TooMany") = some 9 := by decide
theorem fx_Full : refusals.findIdx? (fun x => x == "Full") = some 10 := by decide
theorem fx_Taken : refusals.findIdx? (fun x => x == "Taken") = some 11 := by decide
end MP
end
section
set_option autoImplicit false
set_option Elab.async false
set_option linter.all false
set_option maxRecDepth 10000
/-! MkFilms: films.py, what its defs hand back. Core Lean alone. -/
namespace MP
local macro_rules
  | `(tactic| simp_arith [$ls,*]) => `(tactic| simp only [Def.run, List.length_cons, List.length_nil, if_true, if_false, Bool.false_eq_true, Bool.true_eq_false, initRho, List.contains_nil, List.contains_cons, denS, den, two, Out.bind_ok, Out.bind_ex, Out.bind_bad, Out.fl_ok, Out.fl_ex, Out.fl_bad, val, Fl.then_next, Fl.then_ret, Fl.then_brk, Fl.then_cnt, Fl.then_ex, Fl.then_bad, Prim.fresh, List.getElem?_cons_zero, List.getElem?_cons_succ, List.set_cons_zero, List.set_cons_succ, outsOf, Bool.not_false, Bool.not_true, put, free, Nat.reduceAdd, Nat.reduceSub, Nat.reduceEqDiff, Nat.reduceBEq, Nat.reduceLT, Nat.reduceLeDiff, List.replicate_zero, List.replicate_succ, Bool.or_false, Bool.or_true, Bool.false_or, Bool.true_or, Bool.and_true, Bool.true_and, Bool.and_false, Bool.false_and, Option.map_some, Option.map_none, Option.bind_some, Option.bind_none, eltOf, decide_true, decide_false, reduceIte, reduceCtorEq, Int.cast_ofNat_Int, Int.reduceEq, Int.reduceLE, Int.reduceLT, Int.reduceNeg, Int.reduceAdd, Int.reduceSub, beq_self_eq_true, BEq.rfl, outO_some, opd_var, again_var, see_val, see_own, see_lck, see_io, peek_zero, peek_succ, d_val, d_own, cell_val, cell_own, isEq_int, isEq_scr, opd_nil, again_nil, opd_cons, again_cons, testOf_cons, opd_tup, again_tup, testOf_tup, opd_lst, again_lst, testOf_lst, opd_bin, again_bin, testOf_bin, opd_neg, again_neg, testOf_neg, opd_cmp, again_cmp, testOf_cmp, opd_chn, again_chn, testOf_chn, opd_and, again_and, testOf_and, opd_or, again_or, testOf_or, opd_not, again_not, testOf_not, opd_ite, again_ite, testOf_ite, opd_isi, again_isi, testOf_isi, opd_call, again_call, testOf_call, opd_prm1, again_prm1, testOf_prm1, opd_prm2, again_prm2, testOf_prm2, opd_ix, again_ix, testOf_ix, opd_slc, again_slc, testOf_slc, opd_rev, again_rev, testOf_rev, opd_att, again_att, testOf_att, opd_cst, again_cst, testOf_cst, opd_glb, again_glb, testOf_glb, opd_cmp1, again_cmp1, testOf_cmp1, opd_cmp2, again_cmp2, testOf_cmp2, opd_pop, again_pop, testOf_pop, opd_xop, again_xop, testOf_xop, testOf_nil, cmp_eq, cmp_ne, cmp_isin, cmp_notin, cmp_is, cmp_isnot, cmp_lt, cmp_le, cmp_gt, cmp_ge, cmp_ltT, inst_non_int, inst_non_bool, inst_non_tuple, inst_non_list, inst_non_dict, inst_non_str, inst_non_cls, inst_bl_int, inst_bl_bool, inst_bl_tuple, inst_bl_list, inst_bl_dict, inst_bl_str, inst_bl_cls, is_bl_non, inst_int_int, inst_int_bool, inst_int_tuple, inst_int_list, inst_int_dict, inst_int_str, inst_int_cls, is_int_non, inst_str_int, inst_str_bool, inst_str_tuple, inst_str_list, inst_str_dict, inst_str_str, inst_str_cls, is_str_non, inst_tup_int, inst_tup_bool, inst_tup_tuple, inst_tup_list, inst_tup_dict, inst_tup_str, inst_tup_cls, is_tup_non, inst_lst_int, inst_lst_bool, inst_lst_tuple, inst_lst_list, inst_lst_dict, inst_lst_str, inst_lst_cls, is_lst_non, inst_scr_int, inst_scr_bool, inst_scr_tuple, inst_scr_list, inst_scr_dict, inst_scr_str, inst_scr_cls, is_scr_non, inst_obj_int, inst_obj_bool, inst_obj_tuple, inst_obj_list, inst_obj_dict, inst_obj_str, is_obj_non, is_non_non, is_bl_bl, prim_len_l, prim_len_t, prim_all, prim_any, prim_sum, prim_tuple_l, prim_tuple_t, prim_list_l, prim_list_t, prim_sorted, prim_sset, prim_len_s, prim_abs, prim_min2, prim_max2, prim_min1, prim_max1, bin_addI, bin_subI, bin_mulI, bin_fdivI, bin_modI, bin_powI, bin_addL, bin_addT, bin_mulT, bin_mulL, ix_l, ix_t, ix_s, newO_l, newO_i, newO_t, newO_s, ofO_some, ownO_some, ofB_some, optI_nil, sl_l, sl_t, mut_own, mut_io, ioAt_zero, ioAt_succ, lstOf_lst, mutL_eq, setIx1_some, setIx0_some, setIx_eq, ioPut_own, ioPut_io, ioPut_succ, at2_0, at2_1, ixN2_0, ixN2_1, Option.isSome_some, Option.isSome_none, seqOf_l, seqOf_t, $ls,*])
def d_is_whole : Def := { ps := 3, n := 3, io := [], body := (.seq (.ret (.and (.isi (.var 0) .int) (.and (.not (.isi (.var 0) .bool)) (.chn .le .le (.var 1) (.var 0) (.var 2))))) .nil) }
def is_dot_c1 : E := (.cmp1 [1] (.nm 1) (.itr (.var 0)) .nil (.call "is_whole" (.cons (.var 1) (.cons (.cst (.int 0)) (.cons (.glb "WIDEST" (.int 99)) .nil)))))
theorem is_dot_c1_o (m : Rho → Out CV) (ρ : Rho) : opd is_dot_c1 m ρ = val m ρ := rfl
def d_is_dot : Def := { ps := 1, n := 2, io := [], body := (.seq (.ret (.and (.isi (.var 0) .tuple) (.and (.cmp .eq (.prm1 .len (.var 0)) (.cst (.int 2))) (.prm1 .all is_dot_c1)))) .nil) }
def is_frame_c1 : E := (.cmp1 [1] (.nm 1) (.itr (.var 0)) .nil (.call "is_dot" (.cons (.var 1) .nil)))
theorem is_frame_c1_o (m : Rho → Out CV) (ρ : Rho) : opd is_frame_c1 m ρ = val m ρ := rfl
def is_frame_c2 : E := (.cmp1 [1, 2] (.tp [1, 2]) (.zip (.var 0) (.slc (.var 0) (.cst (.int 1)) .nil)) .nil (.cmp .lt (.var 1) (.var 2)))
theorem is_frame_c2_o (m : Rho → Out CV) (ρ : Rho) : opd is_frame_c2 m ρ = val m ρ := rfl
def d_is_frame : Def := { ps := 1, n := 3, io := [], body := (.seq (.ite (.or (.not (.isi (.var 0) .tuple)) (.or (.cmp .gt (.prm1 .len (.var 0)) (.glb "FULLEST" (.int 6))) (.not (.prm1 .all is_frame_c1)))) (.seq (.ret (.cst (.bl false))) .nil) .nil) (.seq (.ret (.prm1 .all is_frame_c2)) .nil)) }
def many_dots_c1 : E := (.cmp1 [1] (.nm 1) (.itr (.var 0)) .nil (.prm1 .len (.var 1)))
theorem many_dots_c1_o (m : Rho → Out CV) (ρ : Rho) : opd many_dots_c1 m ρ = val m ρ := rfl
def d_many_dots : Def := { ps := 1, n := 2, io := [], body := (.seq (.ret (.prm1 .sum many_dots_c1)) .nil) }
def is_film_c1 : E := (.cmp1 [1] (.nm 1) (.itr (.var 0)) .nil (.call "is_frame" (.cons (.var 1) .nil)))
theorem is_film_c1_o (m : Rho → Out CV) (ρ : Rho) : opd is_film_c1 m ρ = val m ρ := rfl
def d_is_film : Def := { ps := 1, n := 2, io := [], body := (.seq (.ite (.or (.not (.isi (.var 0) .tuple)) (.or (.not (.chn .le .le (.cst (.int 1)) (.prm1 .len (.var 0)) (.glb "LONGEST" (.int 8)))) (.not (.prm1 .all is_film_c1)))) (.seq (.ret (.cst (.bl false))) .nil) .nil) (.seq (.ret (.cmp .le (.call "many_dots" (.cons (.var 0) .nil)) (.glb "MOST" (.int 24)))) .nil)) }
/-- nothing but plain data -/
abbrev pln (d : D) : Prop := plnD d = true
def isWhole (d : D) (a b : Int) : Bool :=
  match d with
  | .int i => decide (a ≤ i) && decide (i ≤ b)
  | _ => false
theorem run_is_whole (Γ : Tab) {d : D} {a b : Int} (h : pln d) : d_is_whole.run Γ [d, .int a, .int b] = .ok (.val (.bl (isWhole d a b))) [] := by
  unfold d_is_whole
  cases d with
  | int i =>
    simp only [isWhole]
    cases e1 : decide (a ≤ i) <;> cases e2 : decide (i ≤ b) <;> (simp_arith [Def.run]; simp only [e1, e2]; simp_arith [Def.run])
  | dic _ => cases h
  | fn _ => cases h
  | obj _ _ => cases h
  | scr _ => cases h
  | _ => simp only [isWhole]; simp_arith [Def.run]
theorem plnL_mem : ∀ {xs : List D}, plnL xs = true → ∀ {x : D}, x ∈ xs → pln x
  | y :: ys, h, x, hx => by
    simp only [plnL, Bool.and_eq_true] at h
    rcases List.mem_cons.mp hx with rfl | hx
    · exact h.1
    · exact plnL_mem h.2 hx
def isDot (d : D) : Bool :=
  match d with
  | .tup xs => decide (xs.length = 2) && xs.all fun x => isWhole x 0 99
  | _ => false
theorem bools_map (f : D → Bool) : ∀ xs : List D, bools (xs.flatMap fun x => [.bl (f x)]) = some (xs.map f)
  | [] => rfl
  | x :: xs => by
    simp only [List.flatMap_cons, List.singleton_append, bools, bools_map f xs, Option.map_some, List.map_cons]
theorem all_map_id (f : D → Bool) (xs : List D) : (xs.map f).all id = xs.all f := by
  induction xs with
  | nil => rfl
  | cons x xs ih => simp only [List.map_cons, List.all_cons, ih, id]
theorem all_bl {f : D → Bool} {xs : List D} : prim .all [.lst (xs.flatMap fun x => [.bl (f x)])] = some (.bl (xs.all f)) := by
  simp only [prim, bools_map, Option.map_some]
  congr 2
  induction xs with
  | nil => rfl
  | cons x xs ih => simp only [List.map_cons, List.all_cons, ih, id]
theorem int_eq2 (n : Nat) : decide ((n : Int) = 2) = decide (n = 2) := by
  by_cases h : n = 2
  · simp [h]
  · simp [h]; omega
theorem run_is_dot {Γ : Tab} (hw : ∀ (d : D) (a b : Int), pln d → CallsIo Γ "is_whole" [] [d, .int a, .int b] (.ok (.val (.bl (isWhole d a b))) [])) {d : D} (h : pln d) : d_is_dot.run Γ [d] = .ok (.val (.bl (isDot d))) [] := by
  have key : ∀ (xs : List D), plnL xs = true → den Γ is_dot_c1 [.val (.tup xs), .un] = .ok (.own (.lst (xs.flatMap fun x => [.bl (isWhole x 0 99)]))) [.val (.tup xs), .un] := by
    intro xs hx
    refine den_cmp1 (xs := xs) (lk := none) (ρ' := [.val (.tup xs), .un]) _ rfl rfl rfl rfl fun x hm => ⟨[.val (.tup xs), .val x], rfl, ?_⟩
    have px : pln x := plnL_mem hx hm
    simp_arith [Def.run]
    rw [callF_of (hw x 0 99 px) rfl rfl rfl]
    rfl
  unfold d_is_dot
  cases d with
  | tup xs =>
    have hx : plnL xs = true := h
    simp only [isDot]
    cases e1 : decide (xs.length = 2)
    · simp_arith [int_eq2, e1]
    · simp_arith [int_eq2, e1, is_dot_c1_o, key xs hx, bools_map, all_map_id]
  | dic _ => cases h
  | fn _ => cases h
  | obj _ _ => cases h
  | scr _ => cases h
  | _ => simp only [isDot]; simp_arith [Def.run]
def pairLt : D → Bool
  | .tup [.tup a, .tup b] => ltL a b
  | _ => false
def isFrame (d : D) : Bool :=
  match d with
  | .tup xs => decide (xs.length ≤ 6) && xs.all isDot && (zipL xs (xs.drop 1)).all pairLt
  | _ => false
theorem isDot_ints {d : D} (h : isDot d = true) : ∃ xs, d = .tup xs ∧ allInts xs = true := by
  cases d <;> first | (cases h; done) | skip
  rename_i xs
  refine ⟨xs, rfl, ?_⟩
  simp only [isDot, Bool.and_eq_true] at h
  replace h := h.2
  induction xs with
  | nil => rfl
  | cons x xs ih =>
    simp only [List.all_cons, Bool.and_eq_true] at h
    cases x <;> first | (cases h.1; done) | exact ih h.2
theorem int_gt6 (n : Nat) : decide ((6 : Int) < n) = !decide (n ≤ 6) := by
  by_cases h : n ≤ 6
  · simp [h]; omega
  · simp [h]; omega
theorem cut1 (xs : List D) : cut xs (some 1) none = xs.drop 1 := by
  unfold cut sEnd
  simp only [show ¬ ((1 : Int) < 0) by omega, if_false]
  cases xs with
  | nil => rfl
  | cons x xs =>
    have : min (Int.toNat 1) (x :: xs).length = 1 := by simp [Nat.min_def]
    rw [this, List.take_of_length_le (by simp)]
theorem zipL_mem : ∀ {xs ys : List D} {p : D}, p ∈ zipL xs ys → ∃ a b, a ∈ xs ∧ b ∈ ys ∧ p = .tup [a, b]
  | [], _, p, h => by simp [zipL] at h
  | _ :: _, [], p, h => by simp [zipL] at h
  | x :: xs, y :: ys, p, h => by
    simp only [zipL, List.mem_cons] at h
    rcases h with rfl | h
    · exact ⟨x, y, by simp, by simp, rfl⟩
    · obtain ⟨a, b, h1, h2, h3⟩ := zipL_mem h
      exact ⟨a, b, List.mem_cons_of_mem _ h1, List.mem_cons_of_mem _ h2, h3⟩
theorem run_is_frame {Γ : Tab} (hd : ∀ (d : D), pln d → CallsIo Γ "is_dot" [] [d] (.ok (.val (.bl (isDot d))) [])) {d : D} (h : pln d) : d_is_frame.run Γ [d] = .ok (.val (.bl (isFrame d))) [] := by
  have k1 : ∀ (xs : List D), plnL xs = true → den Γ is_frame_c1 [.val (.tup xs), .un, .un] = .ok (.own (.lst (xs.flatMap fun x => [.bl (isDot x)]))) [.val (.tup xs), .un, .un] := by
    intro xs hx
    refine den_cmp1 (xs := xs) (lk := none) (ρ' := [.val (.tup xs), .un, .un]) _ rfl rfl rfl rfl fun x hm => ⟨[.val (.tup xs), .val x, .un], rfl, ?_⟩
    simp_arith [Def.run]
    rw [callF_of (hd x (plnL_mem hx hm)) rfl rfl rfl]
    rfl
  have k2 : ∀ (xs : List D), xs.all isDot = true → den Γ is_frame_c2 [.val (.tup xs), .un, .un] = .ok (.own (.lst ((zipL xs (xs.drop 1)).flatMap fun x => [.bl (pairLt x)]))) [.val (.tup xs), .un, .un] := by
    intro xs hx
    refine den_cmp1 (xs := zipL xs (xs.drop 1)) (lk := none) (ρ' := [.val (.tup xs), .un, .un]) _ ?_ rfl rfl rfl fun p hm => ?_
    · rw [← cut1]
      rfl
    · obtain ⟨a, b, ha, hb, rfl⟩ := zipL_mem hm
      have hb := List.mem_of_mem_drop hb
      obtain ⟨as, rfl, ia⟩ := isDot_ints (List.all_eq_true.mp hx a ha)
      obtain ⟨bs, rfl, ib⟩ := isDot_ints (List.all_eq_true.mp hx b hb)
      refine ⟨[.val (.tup xs), .val (.tup as), .val (.tup bs)], rfl, ?_⟩
      simp_arith [ia, ib, pairLt]
  unfold d_is_frame
  cases d with
  | tup xs =>
    have hx : plnL xs = true := h
    simp only [isFrame]
    cases e1 : decide (xs.length ≤ 6)
    · simp_arith [int_gt6, e1]
    · cases e2 : xs.all isDot
      · simp_arith [int_gt6, e1, is_frame_c1_o, k1 xs hx, bools_map, all_map_id, e2]
      · simp_arith [int_gt6, e1, is_frame_c1_o, k1 xs hx, bools_map, all_map_id, e2, is_frame_c2_o, k2 xs e2]
  | dic _ => cases h
  | fn _ => cases h
  | obj _ _ => cases h
  | scr _ => cases h
  | _ => simp only [isFrame]; simp_arith [Def.run]
/-! ### films -/
def lenD : D → Nat
  | .tup xs => xs.length
  | .lst xs => xs.length
  | _ => 0
def manyDots (xs : List D) : Nat := (xs.map lenD).sum
theorem sumI_lens : ∀ xs : List D, sumI (xs.flatMap fun x => [.int (lenD x)]) = some (manyDots xs : Int)
  | [] => rfl
  | x :: xs => by
    simp only [List.flatMap_cons, List.singleton_append, sumI, sumI_lens xs, Option.map_some, manyDots, List.map_cons, List.sum_cons]
    congr 1
theorem run_many_dots {Γ : Tab} {xs : List D} (h : ∀ x ∈ xs, ∃ ys, x = .tup ys) : d_many_dots.run Γ [.tup xs] = .ok (.val (.int (manyDots xs))) [] := by
  have k1 : den Γ many_dots_c1 [.val (.tup xs), .un] = .ok (.own (.lst (xs.flatMap fun x => [.int (lenD x)]))) [.val (.tup xs), .un] := by
    refine den_cmp1 (xs := xs) (lk := none) (ρ' := [.val (.tup xs), .un]) _ rfl rfl rfl rfl fun x hm => ⟨[.val (.tup xs), .val x], rfl, ?_⟩
    obtain ⟨ys, rfl⟩ := h x hm
    simp_arith [lenD]
  unfold d_many_dots
  simp_arith [many_dots_c1_o, k1, sumI_lens]
theorem isFrame_tup {d : D} (h : isFrame d = true) : ∃ xs, d = .tup xs := by
  cases d <;> first | (cases h; done) | exact ⟨_, rfl⟩
def isFilm (d : D) : Bool :=
  match d with
  | .tup xs => decide (1 ≤ xs.length) && decide (xs.length ≤ 8) && xs.all isFrame && decide (manyDots xs ≤ 24)
  | _ => false
theorem int_ge1 (n : Nat) : decide ((1 : Int) ≤ n) = decide (1 ≤ n) := by
  by_cases h : 1 ≤ n <;> simp [h] <;> omega
theorem int_leN (n k : Nat) : decide ((n : Int) ≤ (k : Int)) = decide (n ≤ k) := by
  by_cases h : n ≤ k <;> simp [h]
theorem int_le8 (n : Nat) : decide ((n : Int) ≤ 8) = decide (n ≤ 8) := int_leN n 8
theorem int_le24 (n : Nat) : decide ((n : Int) ≤ 24) = decide (n ≤ 24) := int_leN n 24
theorem run_is_film {Γ : Tab} (hd : ∀ (d : D), pln d → CallsIo Γ "is_frame" [] [d] (.ok (.val (.bl (isFrame d))) [])) (hm : ∀ xs : List D, (∀ x ∈ xs, ∃ ys, x = .tup ys) → CallsIo Γ "many_dots" [] [.tup xs] (.ok (.val (.int (manyDots xs))) [])) {d : D} (h : pln d) : d_is_film.run Γ [d] = .ok (.val (.bl (isFilm d))) [] := by
  have k1 : ∀ (xs : List D), plnL xs = true → den Γ is_film_c1 [.val (.tup xs), .un] = .ok (.own (.lst (xs.flatMap fun x => [.bl (isFrame x)]))) [.val (.tup xs), .un] := by
    intro xs hx
    refine den_cmp1 (xs := xs) (lk := none) (ρ' := [.val (.tup xs), .un]) _ rfl rfl rfl rfl fun x hm => ⟨[.val (.tup xs), .val x], rfl, ?_⟩
    simp_arith [Def.run]
    rw [callF_of (hd x (plnL_mem hx hm)) rfl rfl rfl]
    rfl
  unfold d_is_film
  cases d with
  | tup xs =>
    have hx : plnL xs = true := h
    simp only [isFilm]
    cases e0 : decide (1 ≤ xs.length)
    · simp_arith [int_ge1, e0]
    · cases e1 : decide (xs.length ≤ 8)
      · simp_arith [int_ge1, e0, int_le8, e1]
      · cases e2 : xs.all isFrame
        · simp_arith [int_ge1, e0, int_le8, e1, is_film_c1_o, k1 xs hx, bools_map, all_map_id, e2]
        · have hf : callF Γ "many_dots" (.cons (.var 0) .nil) [.val (.tup xs), .un] [.tup xs] = .ok (.val (.int (manyDots xs))) [.val (.tup xs), .un] := by
            rw [callF_of (hm xs fun x hx => isFrame_tup (List.all_eq_true.mp e2 x hx)) rfl rfl rfl]
            rfl
          simp_arith [int_ge1, e0, int_le8, e1, is_film_c1_o, k1 xs hx, bools_map, all_map_id, e2, hf, int_le24]
  | dic _ => cases h
  | fn _ => cases h
  | obj _ _ => cases h
  | scr _ => cases h
  | _ => simp only [isFilm]; simp_arith [Def.run]
end MP
end
section
set_option autoImplicit false
set_option Elab.async false
set_option linter.all false
set_option maxRecDepth 100000
/-! MkDraw: what the laws draw of their script. Core Lean alone. -/
namespace MP
local macro_rules
  | `(tactic| simp_arith [$ls,*]) => `(tactic| simp only [Def.run, List.length_cons, List.length_nil, if_true, if_false, Bool.false_eq_true, Bool.true_eq_false, initRho, List.contains_nil, List.contains_cons, denS, den, two, Out.bind_ok, Out.bind_ex, Out.bind_bad, Out.fl_ok, Out.fl_ex, Out.fl_bad, val, Fl.then_next, Fl.then_ret, Fl.then_brk, Fl.then_cnt, Fl.then_ex, Fl.then_bad, Prim.fresh, List.getElem?_cons_zero, List.getElem?_cons_succ, List.set_cons_zero, List.set_cons_succ, outsOf, Bool.not_false, Bool.not_true, put, free, Nat.reduceAdd, Nat.reduceSub, Nat.reduceEqDiff, Nat.reduceBEq, Nat.reduceLT, Nat.reduceLeDiff, List.replicate_zero, List.replicate_succ, Bool.or_false, Bool.or_true, Bool.false_or, Bool.true_or, Bool.and_true, Bool.true_and, Bool.and_false, Bool.false_and, Option.map_some, Option.map_none, Option.bind_some, Option.bind_none, eltOf, decide_true, decide_false, reduceIte, reduceCtorEq, Int.cast_ofNat_Int, Int.reduceEq, Int.reduceLE, Int.reduceLT, Int.reduceNeg, Int.reduceAdd, Int.reduceSub, beq_self_eq_true, BEq.rfl, outO_some, opd_var, again_var, see_val, see_own, see_lck, see_io, peek_zero, peek_succ, d_val, d_own, cell_val, cell_own, isEq_int, isEq_scr, opd_nil, again_nil, opd_cons, again_cons, testOf_cons, opd_tup, again_tup, testOf_tup, opd_lst, again_lst, testOf_lst, opd_bin, again_bin, testOf_bin, opd_neg, again_neg, testOf_neg, opd_cmp, again_cmp, testOf_cmp, opd_chn, again_chn, testOf_chn, opd_and, again_and, testOf_and, opd_or, again_or, testOf_or, opd_not, again_not, testOf_not, opd_ite, again_ite, testOf_ite, opd_isi, again_isi, testOf_isi, opd_call, again_call, testOf_call, opd_prm1, again_prm1, testOf_prm1, opd_prm2, again_prm2, testOf_prm2, opd_ix, again_ix, testOf_ix, opd_slc, again_slc, testOf_slc, opd_rev, again_rev, testOf_rev, opd_att, again_att, testOf_att, opd_cst, again_cst, testOf_cst, opd_glb, again_glb, testOf_glb, opd_cmp1, again_cmp1, testOf_cmp1, opd_cmp2, again_cmp2, testOf_cmp2, opd_pop, again_pop, testOf_pop, opd_xop, again_xop, testOf_xop, testOf_nil, cmp_eq, cmp_ne, cmp_isin, cmp_notin, cmp_is, cmp_isnot, cmp_lt, cmp_le, cmp_gt, cmp_ge, cmp_ltT, inst_non_int, inst_non_bool, inst_non_tuple, inst_non_list, inst_non_dict, inst_non_str, inst_non_cls, inst_bl_int, inst_bl_bool, inst_bl_tuple, inst_bl_list, inst_bl_dict, inst_bl_str, inst_bl_cls, is_bl_non, inst_int_int, inst_int_bool, inst_int_tuple, inst_int_list, inst_int_dict, inst_int_str, inst_int_cls, is_int_non, inst_str_int, inst_str_bool, inst_str_tuple, inst_str_list, inst_str_dict, inst_str_str, inst_str_cls, is_str_non, inst_tup_int, inst_tup_bool, inst_tup_tuple, inst_tup_list, inst_tup_dict, inst_tup_str, inst_tup_cls, is_tup_non, inst_lst_int, inst_lst_bool, inst_lst_tuple, inst_lst_list, inst_lst_dict, inst_lst_str, inst_lst_cls, is_lst_non, inst_scr_int, inst_scr_bool, inst_scr_tuple, inst_scr_list, inst_scr_dict, inst_scr_str, inst_scr_cls, is_scr_non, inst_obj_int, inst_obj_bool, inst_obj_tuple, inst_obj_list, inst_obj_dict, inst_obj_str, is_obj_non, is_non_non, is_bl_bl, prim_len_l, prim_len_t, prim_all, prim_any, prim_sum, prim_tuple_l, prim_tuple_t, prim_list_l, prim_list_t, prim_sorted, prim_sset, prim_len_s, prim_abs, prim_min2, prim_max2, prim_min1, prim_max1, bin_addI, bin_subI, bin_mulI, bin_fdivI, bin_modI, bin_powI, bin_addL, bin_addT, bin_mulT, bin_mulL, ix_l, ix_t, ix_s, newO_l, newO_i, newO_t, newO_s, ofO_some, ownO_some, ofB_some, optI_nil, sl_l, sl_t, mut_own, mut_io, ioAt_zero, ioAt_succ, lstOf_lst, mutL_eq, setIx1_some, setIx0_some, setIx_eq, ioPut_own, ioPut_io, ioPut_succ, at2_0, at2_1, ixN2_0, ixN2_1, Option.isSome_some, Option.isSome_none, seqOf_l, seqOf_t, $ls,*])
def d__law_draw : Def := { ps := 3, n := 6, io := [1], body := (.seq (.ite (.cmp .gt (.ix (.var 1) (.cst (.int 1))) (.cst (.int 0))) (.seq (.asg 3 (.bin .mod (.ix (.var 1) (.cst (.int 1))) (.var 2))) (.seq (.asgIx 1 (.cst (.int 1)) (.bin .fdiv (.ix (.var 1) (.cst (.int 1))) (.var 2))) (.seq (.ret (.var 3)) .nil))) .nil) (.seq (.asg 4 (.ix (.var 1) (.cst (.int 0)))) (.seq (.augIx 1 .add (.cst (.int 0)) (.cst (.int 1))) (.seq (.ite (.cmp .eq (.var 0) (.lst .nil)) (.seq (.ret (.bin .mod (.var 4) (.var 2))) .nil) .nil) (.seq (.ite (.and (.cmp .lt (.var 4) (.prm1 .len (.var 0))) (.cmp .ge (.ix (.var 0) (.var 4)) (.bin .pow (.cst (.int 10)) (.cst (.int 18))))) (.seq (.asgIx 1 (.cst (.int 1)) (.bin .mod (.bin .fdiv (.ix (.var 0) (.var 4)) (.var 2)) (.bin .mul (.bin .pow (.cst (.int 10)) (.cst (.int 60))) (.bin .pow (.cst (.int 10)) (.cst (.int 60)))))) (.seq (.ret (.bin .mod (.ix (.var 0) (.var 4)) (.var 2))) .nil)) .nil) (.seq (.asg 5 (.bin .mod (.bin .add (.bin .add (.bin .mul (.ix (.var 0) (.bin .mod (.var 4) (.prm1 .len (.var 0)))) (.cst (.int 1103515245))) (.bin .mul (.cst (.int 7919)) (.var 4))) (.cst (.int 12345))) (.cst (.int 2147483647)))) (.seq (.ret (.bin .mod (.bin .mod (.bin .mod (.bin .pow (.var 5) (.cst (.int 5))) (.cst (.int 2147483647))) (.cst (.int 999983))) (.var 2))) .nil))))))) }
def d__law_pick : Def := { ps := 3, n := 3, io := [1], body := (.seq (.ret (.ix (.var 2) (.call "_law_draw" (.cons (.var 0) (.cons (.ref 1) (.cons (.prm1 .len (.var 2)) .nil)))))) .nil) }
theorem mul_r (x : Int) : mulOk x 1103515245 = true := by simp [mulOk]
theorem mul_7919 (x : Int) : mulOk 7919 x = true := by simp [mulOk]
theorem fm_ne (x : Int) : (x.fmod 2147483647).natAbs < 2 ^ 64 := by
  have h1 := Int.fmod_nonneg_of_pos x (show (0 : Int) < 2147483647 by decide)
  have h2 := Int.fmod_lt_of_pos x (show (0 : Int) < 2147483647 by decide)
  omega
theorem pow5 (x : Int) : binOp .pow (.int (x.fmod 2147483647)) (.int 5) = some (.int ((x.fmod 2147483647) ^ 5)) := by
  rw [bin_powI, if_pos ⟨by decide, by decide, fm_ne x⟩]
  rfl
theorem n10 : (Int.natAbs 10 < 2 ^ 64) = True := by decide
set_option exponentiation.threshold 2000 in
theorem p0 : mulOk (10 ^ 60) (10 ^ 60) = true := by
  unfold mulOk
  have h : decide ((10 ^ 60 : Int).natAbs < 2 ^ 1000) = true := by decide +kernel
  rw [h]
  simp
theorem z0 : ((10 : Int) ^ 60 * 10 ^ 60 ≠ 0) = True := by
  simp only [ne_eq, eq_iff_iff, iff_true]
  decide +kernel
theorem run_draw {Γ : Tab} {ns : List Int} {a l m : Int} (ha : 0 ≤ a) (hl : 0 ≤ l) (hm : 0 < m) (hm2 : m < 1073741824) :
    ∃ v a' l' : Int, 0 ≤ v ∧ v < m ∧ 0 ≤ a' ∧ 0 ≤ l' ∧ d__law_draw.run Γ [.scr ns, .lst [.int a, .int l], .int m] = .ok (.val (.int v)) [.lst [.int a', .int l']] := by
  unfold d__law_draw
  have m0 : (m ≠ 0) = True := by simp; omega
  have m1 : (m.natAbs < 1073741824) = True := by simp; omega
  cases e1 : decide (0 < l)
  · have sl : (0 ≤ SL) = True := by simp
    cases ns with
    | nil =>
      refine ⟨a.fmod m, a + 1, l, Int.fmod_nonneg_of_pos _ hm, Int.fmod_lt_of_pos _ hm, by omega, hl, ?_⟩
      simp_arith [e1, m0, m1, sl, and_self, List.isEmpty_nil]
    | cons n ns =>
      have hat : ∀ j : Int, 0 ≤ j → j < ((n :: ns).length : Int) → ∃ x, (ixN (n :: ns).length j).bind (fun k => ((n :: ns)[k]?).map D.int) = some (.int x) := fun j h0 h1 => by
        have hk : j.toNat < (n :: ns).length := by omega
        refine ⟨(n :: ns)[j.toNat], ?_⟩
        unfold ixN
        rw [if_pos h0, if_pos h1]
        simp only [Option.bind_some, List.getElem?_eq_getElem hk, Option.map_some]
      have rest : ∀ x : Int, 0 ≤ (((x * 1103515245 + 7919 * a + 12345).fmod 2147483647) ^ 5).fmod 2147483647 := fun x => Int.fmod_nonneg_of_pos _ (by decide)
      cases e2 : decide (a < ((n :: ns).length : Int))
      · have hL : (0 : Int) < ((n :: ns).length : Int) := by simp only [List.length_cons]; omega
        obtain ⟨x, hx⟩ := hat (a.fmod ((n :: ns).length : Int)) (Int.fmod_nonneg_of_pos _ hL) (Int.fmod_lt_of_pos _ hL)
        refine ⟨(((((x * 1103515245 + 7919 * a + 12345).fmod 2147483647) ^ 5).fmod 2147483647).fmod 999983).fmod m, a + 1, l, Int.fmod_nonneg_of_pos _ hm, Int.fmod_lt_of_pos _ hm, by omega, hl, ?_⟩
        simp only [List.length_cons] at e2 hx
        have l0 : ((((ns.length + 1 : Nat) : Int)) ≠ 0) = True := by simp; omega
        simp_arith [e1, m0, m1, sl, and_self, List.isEmpty_cons, e2, hx, l0, mul_r, mul_7919, pow5, fm_ne, Int.reduceNe, Int.reduceToNat]
      · have ha2 : a < ((n :: ns).length : Int) := of_decide_eq_true e2
        obtain ⟨y, hy⟩ := hat a ha ha2
        have hL : (0 : Int) < ((n :: ns).length : Int) := by simp only [List.length_cons]; omega
        simp only [List.length_cons] at e2 hy
        cases e3 : decide ((10 : Int) ^ 18 ≤ y)
        · obtain ⟨x, hx⟩ := hat (a.fmod ((n :: ns).length : Int)) (Int.fmod_nonneg_of_pos _ hL) (Int.fmod_lt_of_pos _ hL)
          refine ⟨(((((x * 1103515245 + 7919 * a + 12345).fmod 2147483647) ^ 5).fmod 2147483647).fmod 999983).fmod m, a + 1, l, Int.fmod_nonneg_of_pos _ hm, Int.fmod_lt_of_pos _ hm, by omega, hl, ?_⟩
          simp only [List.length_cons] at hx
          have l0 : ((((ns.length + 1 : Nat) : Int)) ≠ 0) = True := by simp; omega
          simp_arith [e1, m0, m1, sl, and_self, List.isEmpty_cons, e2, hx, hy, l0, mul_r, mul_7919, pow5, fm_ne, Int.reduceNe, Int.reduceToNat, n10, p0, z0, e3, and_true]
        · refine ⟨y.fmod m, a + 1, (y.fdiv m).fmod (10 ^ 60 * 10 ^ 60), Int.fmod_nonneg_of_pos _ hm, Int.fmod_lt_of_pos _ hm, by omega, Int.fmod_nonneg_of_pos _ (by decide), ?_⟩
          simp_arith [e1, m0, m1, sl, and_self, List.isEmpty_cons, e2, hy, Int.reduceNe, Int.reduceToNat, n10, p0, z0, e3, and_true]
  · refine ⟨l.fmod m, a, l.fdiv m, Int.fmod_nonneg_of_pos _ hm, Int.fmod_lt_of_pos _ hm, ha, ?_, ?_⟩
    · exact Int.fdiv_nonneg hl (by omega)
    · simp_arith [e1, m0, m1, and_self]
/-- a town: how far the script is drawn, what is left of a number -/
def twn (t : Int × Int) : D := .lst [.int t.1, .int t.2]
def OkT (t : Int × Int) : Prop := 0 ≤ t.1 ∧ 0 ≤ t.2
/-- f draws: at every town it hands back something of P, and a town -/
def Draws (Γ : Tab) (f : String) (io : List Nat) (args : D → List D) (P : D → Prop) : Prop :=
  ∀ t, OkT t → ∃ v t', P v ∧ OkT t' ∧ CallsIo Γ f io (args (twn t)) (.ok (.val v) [twn t'])
def DrawOk (Γ : Tab) : Prop := ∀ (ns : List Int) (m : Int), 0 < m → m < 1073741824 → Draws Γ "_law_draw" [1] (fun t => [.scr ns, t, .int m]) fun v => ∃ i : Int, v = .int i ∧ 0 ≤ i ∧ i < m
theorem draw_ok {Γ Γ' : Tab} (h : Γ'.fn "_law_draw" = some ⟨d__law_draw.ps, d__law_draw.io, d__law_draw.run Γ⟩) : DrawOk Γ' := fun ns m h1 h2 t ht => by
  obtain ⟨v, a', l', g1, g2, g3, g4, e⟩ := run_draw (Γ := Γ) (ns := ns) ht.1 ht.2 h1 h2
  exact ⟨.int v, (a', l'), ⟨v, rfl, g1, g2⟩, ⟨g3, g4⟩, _, h, rfl, rfl, e⟩
theorem at_mem {xs : List D} {i : Int} (h0 : 0 ≤ i) (h1 : i < xs.length) : ∃ x ∈ xs, at? xs i = some x := by
  have hk : i.toNat < xs.length := by omega
  refine ⟨xs[i.toNat], List.getElem_mem hk, ?_⟩
  unfold at? ixN
  rw [if_pos h0, if_pos h1]
  simp only [Option.bind_some, List.getElem?_eq_getElem hk]
def PickOk (Γ : Tab) : Prop := ∀ (ns : List Int) (d : D) (xs : List D), (d = .lst xs ∨ d = .tup xs) → 0 < xs.length → xs.length < 1073741824 → Draws Γ "_law_pick" [1] (fun t => [.scr ns, t, d]) fun v => v ∈ xs
theorem run_pick {Γ : Tab} (hd : DrawOk Γ) {ns : List Int} {d : D} {xs : List D} (h : d = .lst xs ∨ d = .tup xs) (h0 : 0 < xs.length) (h1 : xs.length < 1073741824) {t : Int × Int} (ht : OkT t) :
    ∃ v t', v ∈ xs ∧ OkT t' ∧ d__law_pick.run Γ [.scr ns, twn t, d] = .ok (.val v) [twn t'] := by
  obtain ⟨v, t', ⟨i, rfl, g1, g2⟩, ht', hc⟩ := hd ns xs.length (by omega) (by omega) t ht
  obtain ⟨x, hx, ex⟩ := at_mem g1 g2
  refine ⟨x, t', hx, ht', ?_⟩
  have hf : ∀ d, callF Γ "_law_draw" (.cons (.var 0) (.cons (.ref 1) (.cons (.prm1 .len (.var 2)) .nil))) [.val (.scr ns), .io (twn t), .val d] [.scr ns, .non, .int xs.length] = .ok (.val (.int i)) [.val (.scr ns), .io (twn t'), .val d] := fun d =>
    (callF_of (ds' := [.scr ns, twn t, .int xs.length]) hc (by rfl) (by rfl) (by rfl)).trans (by rfl)
  unfold d__law_pick
  rcases h with rfl | rfl
  · simp_arith [hf, ex]
  · simp_arith [hf, ex]
theorem pick_ok {Γ Γ' : Tab} (hd : DrawOk Γ) (h : Γ'.fn "_law_pick" = some ⟨d__law_pick.ps, d__law_pick.io, d__law_pick.run Γ⟩) : PickOk Γ' := fun ns d xs h1 h2 h3 t ht => by
  obtain ⟨v, t', g1, g2, e⟩ := run_pick hd (ns := ns) h1 h2 h3 ht
  exact ⟨v, t', g1, g2, _, h, rfl, rfl, e⟩
end MP
end
section
set_option autoImplicit false
set_option Elab.async false
set_option linter.all false
set_option maxRecDepth 100000
/-! MkGen: what the laws make: frames, films. Core Lean alone. -/
namespace MP
local macro_rules
  | `(tactic| simp_arith [$ls,*]) => `(tactic| simp only [Def.run, List.length_cons, List.length_nil, if_true, if_false, Bool.false_eq_true, Bool.true_eq_false, initRho, List.contains_nil, List.contains_cons, denS, den, two, Out.bind_ok, Out.bind_ex, Out.bind_bad, Out.fl_ok, Out.fl_ex, Out.fl_bad, val, Fl.then_next, Fl.then_ret, Fl.then_brk, Fl.then_cnt, Fl.then_ex, Fl.then_bad, Prim.fresh, List.getElem?_cons_zero, List.getElem?_cons_succ, List.set_cons_zero, List.set_cons_succ, outsOf, Bool.not_false, Bool.not_true, put, free, Nat.reduceAdd, Nat.reduceSub, Nat.reduceEqDiff, Nat.reduceBEq, Nat.reduceLT, Nat.reduceLeDiff, List.replicate_zero, List.replicate_succ, Bool.or_false, Bool.or_true, Bool.false_or, Bool.true_or, Bool.and_true, Bool.true_and, Bool.and_false, Bool.false_and, Option.map_some, Option.map_none, Option.bind_some, Option.bind_none, eltOf, decide_true, decide_false, reduceIte, reduceCtorEq, Int.cast_ofNat_Int, Int.reduceEq, Int.reduceLE, Int.reduceLT, Int.reduceNeg, Int.reduceAdd, Int.reduceSub, beq_self_eq_true, BEq.rfl, outO_some, opd_var, again_var, see_val, see_own, see_lck, see_io, peek_zero, peek_succ, d_val, d_own, cell_val, cell_own, isEq_int, isEq_scr, opd_nil, again_nil, opd_cons, again_cons, testOf_cons, opd_tup, again_tup, testOf_tup, opd_lst, again_lst, testOf_lst, opd_bin, again_bin, testOf_bin, opd_neg, again_neg, testOf_neg, opd_cmp, again_cmp, testOf_cmp, opd_chn, again_chn, testOf_chn, opd_and, again_and, testOf_and, opd_or, again_or, testOf_or, opd_not, again_not, testOf_not, opd_ite, again_ite, testOf_ite, opd_isi, again_isi, testOf_isi, opd_call, again_call, testOf_call, opd_prm1, again_prm1, testOf_prm1, opd_prm2, again_prm2, testOf_prm2, opd_ix, again_ix, testOf_ix, opd_slc, again_slc, testOf_slc, opd_rev, again_rev, testOf_rev, opd_att, again_att, testOf_att, opd_cst, again_cst, testOf_cst, opd_glb, again_glb, testOf_glb, opd_cmp1, again_cmp1, testOf_cmp1, opd_cmp2, again_cmp2, testOf_cmp2, opd_pop, again_pop, testOf_pop, opd_xop, again_xop, testOf_xop, testOf_nil, cmp_eq, cmp_ne, cmp_isin, cmp_notin, cmp_is, cmp_isnot, cmp_lt, cmp_le, cmp_gt, cmp_ge, cmp_ltT, inst_non_int, inst_non_bool, inst_non_tuple, inst_non_list, inst_non_dict, inst_non_str, inst_non_cls, inst_bl_int, inst_bl_bool, inst_bl_tuple, inst_bl_list, inst_bl_dict, inst_bl_str, inst_bl_cls, is_bl_non, inst_int_int, inst_int_bool, inst_int_tuple, inst_int_list, inst_int_dict, inst_int_str, inst_int_cls, is_int_non, inst_str_int, inst_str_bool, inst_str_tuple, inst_str_list, inst_str_dict, inst_str_str, inst_str_cls, is_str_non, inst_tup_int, inst_tup_bool, inst_tup_tuple, inst_tup_list, inst_tup_dict, inst_tup_str, inst_tup_cls, is_tup_non, inst_lst_int, inst_lst_bool, inst_lst_tuple, inst_lst_list, inst_lst_dict, inst_lst_str, inst_lst_cls, is_lst_non, inst_scr_int, inst_scr_bool, inst_scr_tuple, inst_scr_list, inst_scr_dict, inst_scr_str, inst_scr_cls, is_scr_non, inst_obj_int, inst_obj_bool, inst_obj_tuple, inst_obj_list, inst_obj_dict, inst_obj_str, is_obj_non, is_non_non, is_bl_bl, prim_len_l, prim_len_t, prim_all, prim_any, prim_sum, prim_tuple_l, prim_tuple_t, prim_list_l, prim_list_t, prim_sorted, prim_sset, prim_len_s, prim_abs, prim_min2, prim_max2, prim_min1, prim_max1, bin_addI, bin_subI, bin_mulI, bin_fdivI, bin_modI, bin_powI, bin_addL, bin_addT, bin_mulT, bin_mulL, ix_l, ix_t, ix_s, newO_l, newO_i, newO_t, newO_s, ofO_some, ownO_some, ofB_some, optI_nil, sl_l, sl_t, mut_own, mut_io, ioAt_zero, ioAt_succ, lstOf_lst, mutL_eq, setIx1_some, setIx0_some, setIx_eq, ioPut_own, ioPut_io, ioPut_succ, at2_0, at2_1, ixN2_0, ixN2_1, Option.isSome_some, Option.isSome_none, seqOf_l, seqOf_t, $ls,*])
def _law_frame_b1 : S := (.seq (.app 4 (.tup (.cons (.call "_law_draw" (.cons (.var 0) (.cons (.ref 1) (.cons (.var 3) .nil)))) (.cons (.call "_law_draw" (.cons (.var 0) (.cons (.ref 1) (.cons (.var 3) .nil)))) .nil)))) .nil)
def _law_frame_l1 : S := (.for (.nm 5) (.rng1 (.call "_law_draw" (.cons (.var 0) (.cons (.ref 1) (.cons (.bin .add (.var 2) (.cst (.int 1))) .nil))))) _law_frame_b1)
def d__law_frame : Def := { ps := 4, n := 6, io := [1], body := (.seq (.asg 4 (.lst .nil)) (.seq _law_frame_l1 (.seq (.ret (.prm1 .tuple (.prm1 .sortedSet (.var 4)))) .nil))) }
def _law_film_c1 : E := (.cmp1 [8] (.nm 8) (.itr (.var 6)) .nil (.prm1 .len (.var 8)))
theorem _law_film_c1_o (m : Rho → Out CV) (ρ : Rho) : opd _law_film_c1 m ρ = val m ρ := rfl
def _law_film_b1 : S := (.seq (.app 6 (.slc (.call "_law_frame" (.cons (.var 0) (.cons (.ref 1) (.cons (.var 3) (.cons (.var 5) .nil))))) .nil (.bin .sub (.var 4) (.prm1 .sum _law_film_c1)))) .nil)
def _law_film_l1 : S := (.for (.nm 7) (.rng1 (.bin .add (.cst (.int 1)) (.call "_law_draw" (.cons (.var 0) (.cons (.ref 1) (.cons (.var 2) .nil)))))) _law_film_b1)
def d__law_film : Def := { ps := 5, n := 9, io := [1], body := (.seq (.asg 5 (.call "_law_pick" (.cons (.var 0) (.cons (.ref 1) (.cons (.lst (.cons (.cst (.int 3)) (.cons (.cst (.int 5)) (.cons (.cst (.int 12)) (.cons (.cst (.int 100)) .nil))))) .nil))))) (.seq (.asg 6 (.lst .nil)) (.seq _law_film_l1 (.seq (.ret (.prm1 .tuple (.var 6))) .nil)))) }
def DotZ (w : Int) (r : List Int) : Prop := ∃ x y, r = [x, y] ∧ 0 ≤ x ∧ x < w ∧ 0 ≤ y ∧ y < w
def encF (rows : List (List Int)) : D := .tup (rows.map encZ)
structure FrameZ (w : Int) (n : Nat) (rows : List (List Int)) : Prop where
  len : rows.length ≤ n
  dot : ∀ r ∈ rows, DotZ w r
  srt : rows.Pairwise (fun a b => a < b)
theorem len_uniqZ {α : Type} [DecidableEq α] : ∀ l : List α, (uniqZ l).length ≤ l.length
  | [] => Nat.le_refl _
  | b :: l => by
    have := len_uniqZ l
    simp only [uniqZ]
    split <;> simp only [List.length_cons] <;> omega
theorem frame_sset {w : Int} {n : Nat} {rows : List (List Int)} (h1 : rows.length ≤ n) (h2 : ∀ r ∈ rows, DotZ w r) : FrameZ w n (ssetZ rows) where
  len := by
    unfold ssetZ
    rw [List.length_mergeSort]
    exact Nat.le_trans (len_uniqZ rows) h1
  dot := fun r hr => h2 r ((mem_ssetZ r rows).mp hr)
  srt := by
    have a := sorted_ssetZ rows
    have b : (ssetZ rows).Pairwise (fun a b => a ≠ b) := nodup_ssetZ rows
    exact (a.and b).imp fun ⟨h, h'⟩ => by
      rcases List.le_iff_lt_or_eq.mp h with z | z
      · exact z
      · exact absurd z h'
theorem setOk_rows {w : Int} (hw : w ≤ 1000) {rows : List (List Int)} (h1 : rows.length < 64) (h2 : ∀ r ∈ rows, DotZ w r) : setOk (rows.map encZ) = true := by
  suffices hT : setOkT (rows.map encZ) = true by simp [setOk, hT]
  have hb : ∀ r ∈ rows, bdTup 2 (encZ r) = true := fun r hr => by
    obtain ⟨x, y, rfl, a, b, c, d⟩ := h2 r hr
    simp [encZ, bdTup]
    omega
  unfold setOkT
  rw [List.length_map, decide_eq_true h1]
  cases rows with
  | nil => rfl
  | cons r rs =>
    have hd : tupDim ((r :: rs).map encZ) = 2 := by
      obtain ⟨x, y, rfl, _⟩ := h2 r (by simp)
      rfl
    rw [hd]
    simp only [Bool.true_and, show decide (1 ≤ 2) = true by decide, List.all_eq_true, List.mem_map, forall_exists_index, and_imp]
    rintro x r' hr rfl
    exact hb r' hr
def FrameOk (Γ : Tab) : Prop := ∀ (ns : List Int) (n : Nat) (w : Int), n < 60 → 0 < w → w ≤ 1000 → Draws Γ "_law_frame" [1] (fun t => [.scr ns, t, .int n, .int w]) fun v => ∃ rows, v = encF rows ∧ FrameZ w n rows
theorem rng_len (n : Nat) (a : Int) : (rngL a n).length = n := by
  induction n generalizing a with
  | zero => rfl
  | succ n ih =>
    show (rngL (a + 1) n).length + 1 = n + 1
    rw [ih]
theorem run_frame {Γ : Tab} (hd : DrawOk Γ) {ns : List Int} {n : Nat} {w : Int} (hn : n < 60) (hw : 0 < w) (hw2 : w ≤ 1000) {t : Int × Int} (ht : OkT t) :
    ∃ rows t', FrameZ w n rows ∧ OkT t' ∧ d__law_frame.run Γ [.scr ns, twn t, .int n, .int w] = .ok (.val (encF rows)) [twn t'] := by
  -- the loop
  have loop : ∃ (rows : List (List Int)) (t' : Int × Int) (cell : Cell), rows.length ≤ n ∧ (∀ r ∈ rows, DotZ w r) ∧ OkT t' ∧ denS Γ _law_frame_l1 [.val (.scr ns), .io (twn t), .val (.int n), .val (.int w), .own (.lst []), .un] = .next [.val (.scr ns), .io (twn t'), .val (.int n), .val (.int w), .own (.lst (rows.map encZ)), cell] := by
    obtain ⟨_, t1, ⟨k, rfl, k0, k1⟩, ht1, hc⟩ := hd ns (n + 1) (by omega) (by omega) t ht
    have hf : callF Γ "_law_draw" (.cons (.var 0) (.cons (.ref 1) (.cons (.bin .add (.var 2) (.cst (.int 1))) .nil))) [.val (.scr ns), .io (twn t), .val (.int n), .val (.int w), .own (.lst []), .un] [.scr ns, .non, .int (n + 1)] = .ok (.val (.int k)) [.val (.scr ns), .io (twn t1), .val (.int n), .val (.int w), .own (.lst []), .un] :=
      (callF_of (ds' := [.scr ns, twn t, .int (n + 1)]) hc (by rfl) (by rfl) (by rfl)).trans (by rfl)
    have hi : val (den Γ (.rng1 (.call "_law_draw" (.cons (.var 0) (.cons (.ref 1) (.cons (.bin .add (.var 2) (.cst (.int 1))) .nil)))))) [.val (.scr ns), .io (twn t), .val (.int n), .val (.int w), .own (.lst []), .un] = .ok (.lst (rngL 0 k.toNat)) [.val (.scr ns), .io (twn t1), .val (.int n), .val (.int w), .own (.lst []), .un] :=
      val_rng1 (by simp_arith [hf]) k0 (by have : SL = 16777216 := rfl; omega)
    unfold _law_frame_l1
    rw [den_for hi rfl]
    have inv := forL_inv (tg := .nm 5) (f := denS Γ _law_frame_b1)
      (fun j ρ => ∃ (rows : List (List Int)) (t' : Int × Int) (cell : Cell), rows.length = j ∧ (∀ r ∈ rows, DotZ w r) ∧ OkT t' ∧ (cell = Cell.un ∨ ∃ d, cell = Cell.val d) ∧ ρ = [.val (.scr ns), .io (twn t'), .val (.int n), .val (.int w), .own (.lst (rows.map encZ)), cell])
      (rngL 0 k.toNat) [.val (.scr ns), .io (twn t1), .val (.int n), .val (.int w), .own (.lst []), .un] ?_ ⟨[], t1, .un, rfl, by simp, ht1, .inl rfl, rfl⟩
    · obtain ⟨ρ', e, rows, t', cell, h1, h2, h3, h4, rfl⟩ := inv
      rw [rng_len] at h1
      exact ⟨rows, t', cell, by omega, h2, h3, e⟩
    · rintro j x ρ hj ⟨rows, t', cell, h1, h2, h3, h4, rfl⟩
      refine ⟨[.val (.scr ns), .io (twn t'), .val (.int n), .val (.int w), .own (.lst (rows.map encZ)), .val x], by rcases h4 with rfl | ⟨d, rfl⟩ <;> rfl, ?_⟩
      obtain ⟨_, t2, ⟨x0, rfl, x1, x2⟩, ht2, hc1⟩ := hd ns w hw (by omega) t' h3
      obtain ⟨_, t3, ⟨y0, rfl, y1, y2⟩, ht3, hc2⟩ := hd ns w hw (by omega) t2 ht2
      have f1 : ∀ q t4 t5 v, CallsIo Γ "_law_draw" [1] [.scr ns, twn t4, .int w] (.ok (.val (.int v)) [twn t5]) → callF Γ "_law_draw" (.cons (.var 0) (.cons (.ref 1) (.cons (.var 3) .nil))) [.val (.scr ns), .io (twn t4), .val (.int n), .val (.int w), .own (.lst q), .val x] [.scr ns, .non, .int w] = .ok (.val (.int v)) [.val (.scr ns), .io (twn t5), .val (.int n), .val (.int w), .own (.lst q), .val x] := fun q t4 t5 v hc =>
        (callF_of (ds' := [.scr ns, twn t4, .int w]) hc (by rfl) (by rfl) (by rfl)).trans (by rfl)
      have hj : j < k.toNat := by
        have := (List.getElem?_eq_some_iff.mp hj).1
        rw [rng_len] at this
        exact this
      have hl : (rows.length < SL) = True := by
        have : SL = 16777216 := rfl
        simp only [eq_iff_iff, iff_true]
        omega
      have s2 : (2 ≤ SL) = True := by simp only [eq_iff_iff, iff_true]; decide
      refine ⟨[.val (.scr ns), .io (twn t3), .val (.int n), .val (.int w), .own (.lst ((rows ++ [[x0, y0]]).map encZ)), .val x], .inl ?_, rows ++ [[x0, y0]], t3, .val x, by simp [h1], ?_, ht3, .inr ⟨x, rfl⟩, rfl⟩
      · unfold _law_frame_b1
        simp_arith [f1 _ _ _ _ hc1, f1 _ _ _ _ hc2, hl, s2, List.length_map, List.map_append, List.map_cons, List.map_nil, encZ]
      · intro r hr
        rcases List.mem_append.mp hr with hr | hr
        · exact h2 r hr
        · rcases List.mem_singleton.mp hr with rfl
          exact ⟨x0, y0, rfl, x1, x2, y1, y2⟩
  obtain ⟨rows, t', cell, h1, h2, h3, e⟩ := loop
  refine ⟨ssetZ rows, t', frame_sset h1 h2, h3, ?_⟩
  have hs := setOk_rows hw2 (show rows.length < 64 by omega) h2
  have sl : (0 ≤ SL) = True := by simp only [eq_iff_iff, iff_true]; decide
  unfold d__law_frame
  simp_arith [e, hs, sset_enc, sl, encF]
theorem frame_ok {Γ Γ' : Tab} (hd : DrawOk Γ) (h : Γ'.fn "_law_frame" = some ⟨d__law_frame.ps, d__law_frame.io, d__law_frame.run Γ⟩) : FrameOk Γ' := fun ns n w h1 h2 h3 t ht => by
  obtain ⟨rows, t', g1, g2, e⟩ := run_frame hd (ns := ns) h1 h2 h3 ht
  exact ⟨_, t', ⟨rows, rfl, g1⟩, g2, _, h, rfl, rfl, e⟩
/-! ### films -/
abbrev Film := List (List (List Int))
def encM (m : Film) : D := .tup (m.map encF)
def total (m : Film) : Nat := (m.map List.length).sum
structure FilmZ (w : Int) (n dots most : Nat) (m : Film) : Prop where
  pos : 1 ≤ m.length
  len : m.length ≤ n
  frm : ∀ f ∈ m, FrameZ w dots f
  tot : total m ≤ most
theorem FrameZ.take {w : Int} {n : Nat} {rows : List (List Int)} (h : FrameZ w n rows) (k : Nat) : FrameZ w n (rows.take k) where
  len := Nat.le_trans (List.length_take_le' k rows) h.len
  dot := fun r hr => h.dot r (List.mem_of_mem_take hr)
  srt := h.srt.sublist (List.take_sublist k rows)
theorem cut_take (xs : List D) (k : Nat) : cut xs none (some (k : Int)) = xs.take k := by
  unfold cut sEnd
  simp only [show ¬ ((k : Int) < 0) by omega, if_false, List.drop_zero, Nat.sub_zero, Int.toNat_natCast]
  by_cases h : k ≤ xs.length
  · rw [Nat.min_eq_left h]
  · rw [Nat.min_eq_right (by omega), List.take_of_length_le (Nat.le_refl _), List.take_of_length_le (by omega)]
theorem lens_made : ∀ m : Film, (m.map encF).flatMap (fun x => [D.int (lenD x)]) = m.map fun f => D.int f.length
  | [] => rfl
  | f :: m => by
    have e : lenD (encF f) = f.length := by simp only [encF, lenD, List.length_map]
    rw [List.map_cons, List.flatMap_cons, lens_made m, e]
    rfl
theorem sum_lens : ∀ m : Film, sumI (m.map fun f => D.int f.length) = some (total m : Int)
  | [] => rfl
  | f :: m => by
    simp only [List.map_cons, sumI, sum_lens m, Option.map_some, total, List.sum_cons]
    congr 1
def widths : List Int := [3, 5, 12, 100]
theorem widths_ok {w : Int} (h : w ∈ widths) : 0 < w ∧ w ≤ 100 := by
  simp only [widths, List.mem_cons, List.not_mem_nil, or_false] at h
  omega
def FilmOk (Γ : Tab) : Prop := ∀ (ns : List Int) (n dots most : Nat), 0 < n → n < 60 → dots < 60 → most < 60 → Draws Γ "_law_film" [1] (fun t => [.scr ns, t, .int n, .int dots, .int most]) fun v => ∃ w m, w ∈ widths ∧ v = encM m ∧ FilmZ w n dots most m
theorem run_film {Γ : Tab} (hd : DrawOk Γ) (hp : PickOk Γ) (hf : FrameOk Γ) {ns : List Int} {n dots most : Nat} (hn0 : 0 < n) (hn : n < 60) (hdo : dots < 60) (hmo : most < 60) {t : Int × Int} (ht : OkT t) :
    ∃ w m t', w ∈ widths ∧ FilmZ w n dots most m ∧ OkT t' ∧ d__law_film.run Γ [.scr ns, twn t, .int n, .int dots, .int most] = .ok (.val (encM m)) [twn t'] := by
  obtain ⟨v, t0, hv, ht0, hc0⟩ := hp ns (.lst [.int 3, .int 5, .int 12, .int 100]) [.int 3, .int 5, .int 12, .int 100] (.inl rfl) (by decide) (by decide) t ht
  obtain ⟨w, hw, rfl⟩ : ∃ w, w ∈ widths ∧ v = .int w := by
    simp only [List.mem_cons, List.not_mem_nil, or_false] at hv
    rcases hv with rfl | rfl | rfl | rfl
    · exact ⟨3, by decide, rfl⟩
    · exact ⟨5, by decide, rfl⟩
    · exact ⟨12, by decide, rfl⟩
    · exact ⟨100, by decide, rfl⟩
  obtain ⟨w0, w1⟩ := widths_ok hw
  have fp : callF Γ "_law_pick" (.cons (.var 0) (.cons (.ref 1) (.cons (.lst (.cons (.cst (.int 3)) (.cons (.cst (.int 5)) (.cons (.cst (.int 12)) (.cons (.cst (.int 100)) .nil))))) .nil))) [.val (.scr ns), .io (twn t), .val (.int n), .val (.int dots), .val (.int most), .un, .un, .un, .un] [.scr ns, .non, .lst [.int 3, .int 5, .int 12, .int 100]] = .ok (.val (.int w)) [.val (.scr ns), .io (twn t0), .val (.int n), .val (.int dots), .val (.int most), .un, .un, .un, .un] :=
    (callF_of (ds' := [.scr ns, twn t, .lst [.int 3, .int 5, .int 12, .int 100]]) hc0 (by rfl) (by rfl) (by rfl)).trans (by rfl)
  -- the loop
  have loop : ∃ (m : Film) (t' : Int × Int) (cell : Cell), FilmZ w n dots most m ∧ OkT t' ∧ denS Γ _law_film_l1 [.val (.scr ns), .io (twn t0), .val (.int n), .val (.int dots), .val (.int most), .val (.int w), .own (.lst []), .un, .un] = .next [.val (.scr ns), .io (twn t'), .val (.int n), .val (.int dots), .val (.int most), .val (.int w), .own (.lst (m.map encF)), cell, .un] := by
    obtain ⟨_, t1, ⟨k, rfl, k0, k1⟩, ht1, hc⟩ := hd ns n (by omega) (by omega) t0 ht0
    have hf1 : callF Γ "_law_draw" (.cons (.var 0) (.cons (.ref 1) (.cons (.var 2) .nil))) [.val (.scr ns), .io (twn t0), .val (.int n), .val (.int dots), .val (.int most), .val (.int w), .own (.lst []), .un, .un] [.scr ns, .non, .int n] = .ok (.val (.int k)) [.val (.scr ns), .io (twn t1), .val (.int n), .val (.int dots), .val (.int most), .val (.int w), .own (.lst []), .un, .un] :=
      (callF_of (ds' := [.scr ns, twn t0, .int n]) hc (by rfl) (by rfl) (by rfl)).trans (by rfl)
    have hi : val (den Γ (.rng1 (.bin .add (.cst (.int 1)) (.call "_law_draw" (.cons (.var 0) (.cons (.ref 1) (.cons (.var 2) .nil))))))) [.val (.scr ns), .io (twn t0), .val (.int n), .val (.int dots), .val (.int most), .val (.int w), .own (.lst []), .un, .un] = .ok (.lst (rngL 0 (1 + k).toNat)) [.val (.scr ns), .io (twn t1), .val (.int n), .val (.int dots), .val (.int most), .val (.int w), .own (.lst []), .un, .un] :=
      val_rng1 (by simp_arith [hf1]) (by omega) (by have : SL = 16777216 := rfl; omega)
    unfold _law_film_l1
    rw [den_for hi rfl]
    have inv := forL_inv (tg := .nm 7) (f := denS Γ _law_film_b1)
      (fun j ρ => ∃ (m : Film) (t' : Int × Int) (cell : Cell), m.length = j ∧ (∀ f ∈ m, FrameZ w dots f) ∧ total m ≤ most ∧ OkT t' ∧ (cell = Cell.un ∨ ∃ d, cell = Cell.val d) ∧ ρ = [.val (.scr ns), .io (twn t'), .val (.int n), .val (.int dots), .val (.int most), .val (.int w), .own (.lst (m.map encF)), cell, .un])
      (rngL 0 (1 + k).toNat) [.val (.scr ns), .io (twn t1), .val (.int n), .val (.int dots), .val (.int most), .val (.int w), .own (.lst []), .un, .un] ?_ ⟨[], t1, .un, rfl, by simp, Nat.zero_le _, ht1, .inl rfl, rfl⟩
    · obtain ⟨ρ', e, m, t', cell, h1, h2, h3, h4, h5, rfl⟩ := inv
      rw [rng_len] at h1
      exact ⟨m, t', cell, ⟨by omega, by omega, h2, h3⟩, h4, e⟩
    · rintro j x ρ hj ⟨m, t', cell, h1, h2, h3, h4, h5, rfl⟩
      refine ⟨[.val (.scr ns), .io (twn t'), .val (.int n), .val (.int dots), .val (.int most), .val (.int w), .own (.lst (m.map encF)), .val x, .un], by rcases h5 with rfl | ⟨d, rfl⟩ <;> rfl, ?_⟩
      obtain ⟨_, t2, ⟨rows, rfl, hr⟩, ht2, hc1⟩ := hf ns dots w hdo w0 (by omega) t' h4
      have f1 : callF Γ "_law_frame" (.cons (.var 0) (.cons (.ref 1) (.cons (.var 3) (.cons (.var 5) .nil)))) [.val (.scr ns), .io (twn t'), .val (.int n), .val (.int dots), .val (.int most), .val (.int w), .own (.lst (m.map encF)), .val x, .un] [.scr ns, .non, .int dots, .int w] = .ok (.val (encF rows)) [.val (.scr ns), .io (twn t2), .val (.int n), .val (.int dots), .val (.int most), .val (.int w), .own (.lst (m.map encF)), .val x, .un] :=
        (callF_of (ds' := [.scr ns, twn t', .int dots, .int w]) hc1 (by rfl) (by rfl) (by rfl)).trans (by rfl)
      have c1 : den Γ _law_film_c1 [.val (.scr ns), .io (twn t2), .val (.int n), .val (.int dots), .val (.int most), .val (.int w), .own (.lst (m.map encF)), .val x, .un] = .ok (.own (.lst (m.map fun f => .int f.length))) [.val (.scr ns), .io (twn t2), .val (.int n), .val (.int dots), .val (.int most), .val (.int w), .own (.lst (m.map encF)), .val x, .un] := by
        rw [← lens_made]
        refine den_cmp1 (xs := m.map encF) (lk := some 6) (ρ' := [.val (.scr ns), .io (twn t2), .val (.int n), .val (.int dots), .val (.int most), .val (.int w), .lck (.lst (m.map encF)), .val x, .un]) _ rfl rfl rfl rfl fun y hm => ⟨[.val (.scr ns), .io (twn t2), .val (.int n), .val (.int dots), .val (.int most), .val (.int w), .lck (.lst (m.map encF)), .val x, .val y], rfl, ?_⟩
        obtain ⟨f, _, rfl⟩ := List.mem_map.mp hm
        simp_arith [lenD, encF]
      have ho : ∀ i, optI (.bin .sub (.var 4) (.prm1 .sum _law_film_c1)) (.int i) = some (some i) := fun _ => rfl
      have hcut : (most : Int) - (total m : Int) = ((most - total m : Nat) : Int) := by omega
      have hj : j < (1 + k).toNat := by
        have := (List.getElem?_eq_some_iff.mp hj).1
        rw [rng_len] at this
        exact this
      have hl : (m.length < SL) = True := by
        have : SL = 16777216 := rfl
        simp only [eq_iff_iff, iff_true]
        omega
      have etk : D.tup ((rows.map encZ).take (most - total m)) = encF (rows.take (most - total m)) := by simp only [encF, List.map_take]
      refine ⟨[.val (.scr ns), .io (twn t2), .val (.int n), .val (.int dots), .val (.int most), .val (.int w), .own (.lst ((m ++ [rows.take (most - total m)]).map encF)), .val x, .un], .inl ?_, m ++ [rows.take (most - total m)], t2, .val x, by simp [h1], ?_, ?_, ht2, .inr ⟨x, rfl⟩, rfl⟩
      · unfold _law_film_b1
        simp_arith [f1, _law_film_c1_o, c1, sum_lens, ho, hcut, hl, List.length_map, List.map_append, List.map_cons, List.map_nil, encF, cut_take, etk]
      · intro f hf
        rcases List.mem_append.mp hf with hf | hf
        · exact h2 f hf
        · rcases List.mem_singleton.mp hf with rfl
          exact hr.take _
      · have : (rows.take (most - total m)).length ≤ most - total m := List.length_take_le _ _
        simp only [total, List.map_append, List.sum_append, List.map_cons, List.map_nil, List.sum_cons, List.sum_nil] at *
        omega
  obtain ⟨m, t', cell, h1, h2, e⟩ := loop
  refine ⟨w, m, t', hw, h1, h2, ?_⟩
  have sl : (0 ≤ SL) = True := by simp only [eq_iff_iff, iff_true]; decide
  have sl4 : (4 ≤ SL) = True := by simp only [eq_iff_iff, iff_true]; decide
  unfold d__law_film
  simp_arith [fp, e, sl, sl4, encM]
theorem film_ok {Γ Γ' : Tab} (hd : DrawOk Γ) (hp : PickOk Γ) (hf : FrameOk Γ) (h : Γ'.fn "_law_film" = some ⟨d__law_film.ps, d__law_film.io, d__law_film.run Γ⟩) : FilmOk Γ' := fun ns n dots most h1 h2 h3 h4 t ht => by
  obtain ⟨w, m, t', g0, g1, g2, e⟩ := run_film hd hp hf (ns := ns) h1 h2 h3 h4 ht
  exact ⟨_, t', ⟨w, m, g0, rfl, g1⟩, g2, _, h, rfl, rfl, e⟩
end MP
end
section
set_option autoImplicit false
set_option Elab.async false
set_option linter.all false
set_option maxRecDepth 100000
/-! MkBad: things that are no films. Core Lean alone. -/
namespace MP
local macro_rules
  | `(tactic| simp_arith [$ls,*]) => `(tactic| simp only [Def.run, List.length_cons, List.length_nil, if_true, if_false, Bool.false_eq_true, Bool.true_eq_false, initRho, List.contains_nil, List.contains_cons, denS, den, two, Out.bind_ok, Out.bind_ex, Out.bind_bad, Out.fl_ok, Out.fl_ex, Out.fl_bad, val, Fl.then_next, Fl.then_ret, Fl.then_brk, Fl.then_cnt, Fl.then_ex, Fl.then_bad, Prim.fresh, List.getElem?_cons_zero, List.getElem?_cons_succ, List.set_cons_zero, List.set_cons_succ, outsOf, Bool.not_false, Bool.not_true, put, free, Nat.reduceAdd, Nat.reduceSub, Nat.reduceEqDiff, Nat.reduceBEq, Nat.reduceLT, Nat.reduceLeDiff, List.replicate_zero, List.replicate_succ, Bool.or_false, Bool.or_true, Bool.false_or, Bool.true_or, Bool.and_true, Bool.true_and, Bool.and_false, Bool.false_and, Option.map_some, Option.map_none, Option.bind_some, Option.bind_none, eltOf, decide_true, decide_false, reduceIte, reduceCtorEq, Int.cast_ofNat_Int, Int.reduceEq, Int.reduceLE, Int.reduceLT, Int.reduceNeg, Int.reduceAdd, Int.reduceSub, beq_self_eq_true, BEq.rfl, outO_some, opd_var, again_var, see_val, see_own, see_lck, see_io, peek_zero, peek_succ, d_val, d_own, cell_val, cell_own, isEq_int, isEq_scr, opd_nil, again_nil, opd_cons, again_cons, testOf_cons, opd_tup, again_tup, testOf_tup, opd_lst, again_lst, testOf_lst, opd_bin, again_bin, testOf_bin, opd_neg, again_neg, testOf_neg, opd_cmp, again_cmp, testOf_cmp, opd_chn, again_chn, testOf_chn, opd_and, again_and, testOf_and, opd_or, again_or, testOf_or, opd_not, again_not, testOf_not, opd_ite, again_ite, testOf_ite, opd_isi, again_isi, testOf_isi, opd_call, again_call, testOf_call, opd_prm1, again_prm1, testOf_prm1, opd_prm2, again_prm2, testOf_prm2, opd_ix, again_ix, testOf_ix, opd_slc, again_slc, testOf_slc, opd_rev, again_rev, testOf_rev, opd_att, again_att, testOf_att, opd_cst, again_cst, testOf_cst, opd_glb, again_glb, testOf_glb, opd_cmp1, again_cmp1, testOf_cmp1, opd_cmp2, again_cmp2, testOf_cmp2, opd_pop, again_pop, testOf_pop, opd_xop, again_xop, testOf_xop, testOf_nil, cmp_eq, cmp_ne, cmp_isin, cmp_notin, cmp_is, cmp_isnot, cmp_lt, cmp_le, cmp_gt, cmp_ge, cmp_ltT, inst_non_int, inst_non_bool, inst_non_tuple, inst_non_list, inst_non_dict, inst_non_str, inst_non_cls, inst_bl_int, inst_bl_bool, inst_bl_tuple, inst_bl_list, inst_bl_dict, inst_bl_str, inst_bl_cls, is_bl_non, inst_int_int, inst_int_bool, inst_int_tuple, inst_int_list, inst_int_dict, inst_int_str, inst_int_cls, is_int_non, inst_str_int, inst_str_bool, inst_str_tuple, inst_str_list, inst_str_dict, inst_str_str, inst_str_cls, is_str_non, inst_tup_int, inst_tup_bool, inst_tup_tuple, inst_tup_list, inst_tup_dict, inst_tup_str, inst_tup_cls, is_tup_non, inst_lst_int, inst_lst_bool, inst_lst_tuple, inst_lst_list, inst_lst_dict, inst_lst_str, inst_lst_cls, is_lst_non, inst_scr_int, inst_scr_bool, inst_scr_tuple, inst_scr_list, inst_scr_dict, inst_scr_str, inst_scr_cls, is_scr_non, inst_obj_int, inst_obj_bool, inst_obj_tuple, inst_obj_list, inst_obj_dict, inst_obj_str, is_obj_non, is_non_non, is_bl_bl, prim_len_l, prim_len_t, prim_all, prim_any, prim_sum, prim_tuple_l, prim_tuple_t, prim_list_l, prim_list_t, prim_sorted, prim_sset, prim_len_s, prim_abs, prim_min2, prim_max2, prim_min1, prim_max1, bin_addI, bin_subI, bin_mulI, bin_fdivI, bin_modI, bin_powI, bin_addL, bin_addT, bin_mulT, bin_mulL, ix_l, ix_t, ix_s, newO_l, newO_i, newO_t, newO_s, ofO_some, ownO_some, ofB_some, optI_nil, sl_l, sl_t, mut_own, mut_io, ioAt_zero, ioAt_succ, lstOf_lst, mutL_eq, setIx1_some, setIx0_some, setIx_eq, ioPut_own, ioPut_io, ioPut_succ, at2_0, at2_1, ixN2_0, ixN2_1, Option.isSome_some, Option.isSome_none, seqOf_l, seqOf_t, $ls,*])
def _law_no_film_c1 : E := (.cmp1 [4] (.nm 4) (.rng1 (.cst (.int 6))) .nil (.tup (.cons (.var 4) (.cons (.cst (.int 0)) .nil))))
theorem _law_no_film_c1_o (m : Rho → Out CV) (ρ : Rho) : opd _law_no_film_c1 m ρ = val m ρ := rfl
def d__law_no_film : Def := { ps := 2, n := 5, io := [1], body := (.seq (.asg 2 (.lst (.cons (.cst .non) (.cons (.tup .nil) (.cons (.lst (.cons (.tup .nil) .nil)) (.cons (.tup (.cons (.lst .nil) .nil)) (.cons (.tup (.cons (.tup (.cons (.tup (.cons (.cst (.int 1)) (.cons (.cst (.int 2)) .nil))) .nil)) (.cons (.cst .non) .nil))) (.cons (.tup (.cons (.tup (.cons (.tup (.cons (.tup (.cons (.cst (.int 1)) (.cons (.cst (.int 2)) .nil))) .nil)) .nil)) .nil)) (.cons (.tup (.cons (.tup (.cons (.tup (.cons (.cst (.int 1)) (.cons (.cst (.int 100)) .nil))) .nil)) .nil)) (.cons (.tup (.cons (.tup (.cons (.tup (.cons (.neg (.cst (.int 1))) (.cons (.cst (.int 0)) .nil))) .nil)) .nil)) .nil)))))))))) (.seq (.app 2 (.tup (.cons (.tup (.cons (.tup (.cons (.cst (.int 1)) (.cons (.cst (.int 2)) .nil))) (.cons (.tup (.cons (.cst (.int 1)) (.cons (.cst (.int 1)) .nil))) .nil))) .nil))) (.seq (.ext 2 (.lst (.cons (.tup (.cons (.tup (.cons (.tup (.cons (.cst (.int 1)) (.cons (.cst (.int 2)) .nil))) (.cons (.tup (.cons (.cst (.int 1)) (.cons (.cst (.int 2)) .nil))) .nil))) .nil)) (.cons (.bin .mul (.tup (.cons (.tup .nil) .nil)) (.cst (.int 9))) (.cons (.tup (.cons (.tup (.cons (.tup (.cons (.cst (.bl true)) (.cons (.cst (.int 1)) .nil))) .nil)) .nil)) (.cons (.tup (.cons (.tup (.cons (.tup (.cons (.cst (.int 1)) (.cons (.cst (.int 2)) (.cons (.cst (.int 3)) .nil)))) .nil)) .nil)) (.cons (.cst (.str "film")) (.cons (.cst (.int 7)) (.cons (.tup (.cons (.tup (.cons (.cst (.int 1)) (.cons (.cst (.int 2)) .nil))) .nil)) .nil))))))))) (.seq (.asg 3 (.prm1 .tuple _law_no_film_c1)) (.seq (.ext 2 (.lst (.cons (.tup (.cons (.bin .add (.var 3) (.tup (.cons (.tup (.cons (.cst (.int 7)) (.cons (.cst (.int 0)) .nil))) .nil))) .nil)) (.cons (.tup (.cons (.var 3) (.cons (.var 3) (.cons (.var 3) (.cons (.var 3) (.cons (.tup (.cons (.tup (.cons (.cst (.int 0)) (.cons (.cst (.int 0)) .nil))) .nil)) .nil)))))) (.cons (.tup (.cons (.tup (.cons (.tup (.cons (.cst (.int 1)) (.cons (.cst (.str "2")) .nil))) .nil)) .nil)) (.cons (.tup (.cons (.tup (.cons (.tup (.cons (.cst (.int 1)) (.cons (.cst .non) .nil))) .nil)) .nil)) .nil)))))) (.seq (.ret (.call "_law_pick" (.cons (.var 0) (.cons (.ref 1) (.cons (.var 2) .nil))))) .nil)))))) }
def dd (x y : Int) : D := .tup [.int x, .int y]
def six : D := .tup [dd 0 0, dd 1 0, dd 2 0, dd 3 0, dd 4 0, dd 5 0]
def badFilms : List D := [.non, .tup [], .lst [.tup []], .tup [.lst []], .tup [.tup [dd 1 2], .non], .tup [.tup [.tup [dd 1 2]]], .tup [.tup [dd 1 100]], .tup [.tup [dd (-1) 0]],
  .tup [.tup [dd 1 2, dd 1 1]], .tup [.tup [dd 1 2, dd 1 2]], .tup (repL [.tup []] 9), .tup [.tup [.tup [.bl true, .int 1]]], .tup [.tup [.tup [.int 1, .int 2, .int 3]]], .str "film", .int 7, .tup [dd 1 2],
  .tup [.tup ([dd 0 0, dd 1 0, dd 2 0, dd 3 0, dd 4 0, dd 5 0] ++ [dd 7 0])], .tup [six, six, six, six, .tup [dd 0 0]], .tup [.tup [.tup [.int 1, .str "2"]]], .tup [.tup [.tup [.int 1, .non]]]]
theorem bad_no : ∀ x ∈ badFilms, isFilm x = false ∧ plnD x = true := by decide
def NoFilmOk (Γ : Tab) : Prop := ∀ ns : List Int, Draws Γ "_law_no_film" [1] (fun t => [.scr ns, t]) fun v => v ∈ badFilms
theorem run_no_film {Γ : Tab} (hp : PickOk Γ) {ns : List Int} {t : Int × Int} (ht : OkT t) : ∃ v t', v ∈ badFilms ∧ OkT t' ∧ d__law_no_film.run Γ [.scr ns, twn t] = .ok (.val v) [twn t'] := by
  obtain ⟨v, t', hv, ht', hc⟩ := hp ns (.lst badFilms) badFilms (.inl rfl) (by show 0 < 20; omega) (by show 20 < 1073741824; omega) t ht
  refine ⟨v, t', hv, ht', ?_⟩
  have c1 : ∀ q, den Γ _law_no_film_c1 [.val (.scr ns), .io (twn t), .own q, .un, .un] = .ok (.own (.lst [dd 0 0, dd 1 0, dd 2 0, dd 3 0, dd 4 0, dd 5 0])) [.val (.scr ns), .io (twn t), .own q, .un, .un] := fun q =>
    den_cmp1 (xs := rngL 0 6) (lk := none) (ρ' := [.val (.scr ns), .io (twn t), .own q, .un, .un]) (fun x => [.tup [x, .int 0]]) rfl rfl rfl rfl fun x hm => ⟨[.val (.scr ns), .io (twn t), .own q, .un, .val x], rfl, by simp_arith [SL]⟩
  have f1 : callF Γ "_law_pick" (.cons (.var 0) (.cons (.ref 1) (.cons (.var 2) .nil))) [.val (.scr ns), .io (twn t), .val (.lst badFilms), .val six, .un] [.scr ns, .non, .lst badFilms] = .ok (.val v) [.val (.scr ns), .io (twn t'), .val (.lst badFilms), .val six, .un] :=
    (callF_of (ds' := [.scr ns, twn t, .lst badFilms]) hc (by rfl) (by rfl) (by simp only [fill, ioAt_succ, ioAt_zero, mut_io, Option.map_some, Option.bind_some])).trans (by simp only [refsOf, callOut, ioPuts, ioPut_succ, ioPut_io])
  unfold d__law_no_film
  simp_arith [SL, c1, _law_no_film_c1_o, List.cons_append, List.nil_append, dd, Int.reduceLE, and_self]
  erw [f1]
  rfl
theorem calls_of {Γ Γ' : Tab} {f : String} {d : Def} {io : List Nat} {ds : List D} {out : FOut} (h : Γ'.fn f = some ⟨d.ps, d.io, d.run Γ⟩) (h1 : d.ps = ds.length) (h2 : d.io = io) (e : d.run Γ ds = out) : CallsIo Γ' f io ds out := ⟨_, h, h1, h2, e⟩
theorem no_film_ok {Γ Γ' : Tab} (hp : PickOk Γ) (h : Γ'.fn "_law_no_film" = some ⟨d__law_no_film.ps, d__law_no_film.io, d__law_no_film.run Γ⟩) : NoFilmOk Γ' := by
  intro ns t ht
  obtain ⟨v, t', g1, g2, e⟩ := run_no_film hp (ns := ns) ht
  refine ⟨v, t', g1, g2, ?_⟩
  exact calls_of h rfl rfl e
end MP
end
section
set_option autoImplicit false
set_option Elab.async false
set_option linter.all false
set_option maxRecDepth 100000
/-! MkFilmsZ: drawn films are films. Core Lean alone. -/
namespace MP
theorem pln_encZ (r : List Int) : plnD (encZ r) = true := by
  unfold encZ
  show plnL (r.map D.int) = true
  induction r with
  | nil => rfl
  | cons x r ih => simp only [List.map_cons, plnL, plnD, ih, Bool.and_self]
theorem plnL_map {α : Type} {f : α → D} : ∀ {l : List α}, (∀ a ∈ l, plnD (f a) = true) → plnL (l.map f) = true
  | [], _ => rfl
  | a :: l, h => by
    simp only [List.map_cons, plnL, h a (by simp), plnL_map fun b hb => h b (List.mem_cons_of_mem _ hb), Bool.and_self]
theorem pln_encF (rows : List (List Int)) : plnD (encF rows) = true := plnL_map fun r _ => pln_encZ r
theorem pln_encM (m : Film) : plnD (encM m) = true := plnL_map fun f _ => pln_encF f
theorem dot_is {w : Int} (hw : w ≤ 100) {r : List Int} (h : DotZ w r) : isDot (encZ r) = true := by
  obtain ⟨x, y, rfl, a, b, c, d⟩ := h
  simp only [encZ, isDot, List.map_cons, List.map_nil, List.length_cons, List.length_nil, List.all_cons, List.all_nil, isWhole, Bool.and_true, Bool.and_eq_true, decide_eq_true_eq]
  refine ⟨trivial, ⟨?_, ?_⟩, ?_, ?_⟩ <;> omega
theorem zip_lt : ∀ {rows : List (List Int)}, rows.Pairwise (fun a b => a < b) → (zipL (rows.map encZ) ((rows.map encZ).drop 1)).all pairLt = true
  | [], _ => rfl
  | [_], _ => rfl
  | a :: b :: rows, h => by
    have ih := zip_lt (List.Pairwise.of_cons h)
    simp only [List.map_cons, List.drop_succ_cons, List.drop_zero] at ih ⊢
    simp only [zipL, List.all_cons, Bool.and_eq_true]
    refine ⟨?_, ih⟩
    have hab : a < b := (List.pairwise_cons.mp h).1 b (by simp)
    simp only [encZ, pairLt, ltL_ints, decide_eq_true_eq]
    exact hab
theorem frame_is {w : Int} (hw : w ≤ 100) {rows : List (List Int)} (h : FrameZ w 6 rows) : isFrame (encF rows) = true := by
  simp only [encF, isFrame, List.length_map, Bool.and_eq_true, decide_eq_true_eq]
  refine ⟨⟨h.len, ?_⟩, zip_lt h.srt⟩
  rw [List.all_map, List.all_eq_true]
  exact fun r hr => dot_is hw (h.dot r hr)
theorem many_enc (m : Film) : manyDots (m.map encF) = total m := by
  induction m with
  | nil => rfl
  | cons f m ih =>
    simp only [manyDots, total, List.map_cons, List.sum_cons] at ih ⊢
    rw [ih]
    simp only [encF, lenD, List.length_map]
theorem film_is {w : Int} (hw : w ≤ 100) {n dots most : Nat} (hn : n ≤ 8) (hd : dots ≤ 6) (hm : most ≤ 24) {m : Film} (h : FilmZ w n dots most m) : isFilm (encM m) = true := by
  simp only [encM, isFilm, List.length_map, Bool.and_eq_true, decide_eq_true_eq, many_enc]
  refine ⟨⟨⟨h.pos, Nat.le_trans h.len hn⟩, ?_⟩, Nat.le_trans h.tot hm⟩
  rw [List.all_map, List.all_eq_true]
  exact fun f hf => frame_is hw ⟨Nat.le_trans (h.frm f hf).len hd, (h.frm f hf).dot, (h.frm f hf).srt⟩
end MP
end
section
set_option autoImplicit false
set_option Elab.async false
set_option linter.all false
set_option maxRecDepth 100000
/-! MkOk: the promises of films.py, by the table. Core Lean alone. -/
namespace MP
def WholeOk (Γ : Tab) : Prop := ∀ (d : D) (a b : Int), pln d → CallsIo Γ "is_whole" [] [d, .int a, .int b] (.ok (.val (.bl (isWhole d a b))) [])
theorem whole_ok {Γ Γ' : Tab} (h : Γ'.fn "is_whole" = some ⟨d_is_whole.ps, d_is_whole.io, d_is_whole.run Γ⟩) : WholeOk Γ' := fun _ _ _ hp => calls_of h rfl rfl (run_is_whole Γ hp)
def DotOk (Γ : Tab) : Prop := ∀ d, pln d → CallsIo Γ "is_dot" [] [d] (.ok (.val (.bl (isDot d))) [])
theorem dot_ok {Γ Γ' : Tab} (hw : WholeOk Γ) (h : Γ'.fn "is_dot" = some ⟨d_is_dot.ps, d_is_dot.io, d_is_dot.run Γ⟩) : DotOk Γ' := fun _ hp => calls_of h rfl rfl (run_is_dot hw hp)
def IsFrameOk (Γ : Tab) : Prop := ∀ d, pln d → CallsIo Γ "is_frame" [] [d] (.ok (.val (.bl (isFrame d))) [])
theorem is_frame_ok {Γ Γ' : Tab} (hw : DotOk Γ) (h : Γ'.fn "is_frame" = some ⟨d_is_frame.ps, d_is_frame.io, d_is_frame.run Γ⟩) : IsFrameOk Γ' := fun _ hp => calls_of h rfl rfl (run_is_frame hw hp)
def ManyOk (Γ : Tab) : Prop := ∀ xs : List D, (∀ x ∈ xs, ∃ ys, x = .tup ys) → CallsIo Γ "many_dots" [] [.tup xs] (.ok (.val (.int (manyDots xs))) [])
theorem many_ok {Γ Γ' : Tab} (h : Γ'.fn "many_dots" = some ⟨d_many_dots.ps, d_many_dots.io, d_many_dots.run Γ⟩) : ManyOk Γ' := fun _ hp => calls_of h rfl rfl (run_many_dots hp)
def IsFilmOk (Γ : Tab) : Prop := ∀ d, pln d → CallsIo Γ "is_film" [] [d] (.ok (.val (.bl (isFilm d))) [])
theorem is_film_ok {Γ Γ' : Tab} (hf : IsFrameOk Γ) (hm : ManyOk Γ) (h : Γ'.fn "is_film" = some ⟨d_is_film.ps, d_is_film.io, d_is_film.run Γ⟩) : IsFilmOk Γ' := fun _ hp => calls_of h rfl rfl (run_is_film hf hm hp)
end MP
end
section
set_option Elab.async false
set_option linter.all false
set_option maxRecDepth 100000
set_option maxHeartbeats 2000000
/-! MpState: how data stand in the abstract heap, and a def's state. -/
namespace MPS
open PySem L2 MP

/-- what hangs on the row: the written part, where classes and defs stand -/
structure Wd where
  K : PySem.W.Frag
  κ : String → Addr
  φ : String → Addr
  cls : List String

mutual
inductive Rep (w : Wd) (G : Hp) : V → D → Prop
  | non : Rep w G .non .non
  | bl (b : Bool) : Rep w G (.bl b) (.bl b)
  | int (i : Int) : Rep w G (.int i) (.int i)
  | str (s : String) : Rep w G (.str (Str.ofString s)) (.str s)
  | tup {a : Addr} {vs : List V} {ds : List D} : G a = some (.tup vs) → RepL w G vs ds → Rep w G (.ref a) (.tup ds)
  | lst {a : Addr} {vs : List V} {ds : List D} : G a = some (.lst vs) → RepL w G vs ds → Rep w G (.ref a) (.lst ds)
  | obj {a dx : Addr} {c : String} {fs : List (Str × V)} {ds : List (String × D)} : c ∈ w.cls → G a = some (.ins (w.κ c) dx fs) → RepF w G fs ds → Rep w G (.ref a) (.obj c ds)
  | fn (n : String) : Rep w G (.ref (w.φ n)) (.fn n)
  | scr {a : Addr} {ns : List Int} : SqL w.K G a (ns.map V.int) → Rep w G (.ref a) (.scr ns)
inductive RepL (w : Wd) (G : Hp) : List V → List D → Prop
  | nil : RepL w G [] []
  | cons {v : V} {vs : List V} {d : D} {ds : List D} : Rep w G v d → RepL w G vs ds → RepL w G (v :: vs) (d :: ds)
inductive RepF (w : Wd) (G : Hp) : List (Str × V) → List (String × D) → Prop
  | nil : RepF w G [] []
  | cons {f : String} {v : V} {vs : List (Str × V)} {d : D} {ds : List (String × D)} : Rep w G v d → RepF w G vs ds → RepF w G ((Str.ofString f, v) :: vs) ((f, d) :: ds)
end
/-- an object's content -/
inductive RepO (w : Wd) (G : Hp) : HO → D → Prop
  | lst {vs : List V} {ds : List D} : RepL w G vs ds → RepO w G (.lst vs) (.lst ds)
  | obj {dx : Addr} {c : String} {fs : List (Str × V)} {ds : List (String × D)} : c ∈ w.cls → RepF w G fs ds → RepO w G (.ins (w.κ c) dx fs) (.obj c ds)

section
variable {w : Wd} {G G' H H' : Hp}
theorem same_l {K : PySem.W.Frag} {a : Addr} {xs : List V} (e : Same G G') (h : SqL K G a xs) : SqL K G' a xs := e.seq h
theorem same_t {K : PySem.W.Frag} {a : Addr} {xs : List V} (e : Same G G') (h : SqT K G a xs) : SqT K G' a xs := by
  rcases h with (h | ⟨o, h⟩) | h
  · exact .inl (.inl (e _ _ h))
  · exact .inl (.inr ⟨o, e _ _ h⟩)
  · exact .inr h
mutual
theorem Rep.mono (e : Same G G') : ∀ {v : V} {d : D}, Rep w G v d → Rep w G' v d
  | _, _, .non => .non
  | _, _, .bl b => .bl b
  | _, _, .int i => .int i
  | _, _, .str s => .str s
  | _, _, .tup h r => .tup (e _ _ h) (RepL.mono e r)
  | _, _, .lst h r => .lst (e _ _ h) (RepL.mono e r)
  | _, _, .obj m h r => .obj m (e _ _ h) (RepF.mono e r)
  | _, _, .fn n => .fn n
  | _, _, .scr h => .scr (same_l e h)
theorem RepL.mono (e : Same G G') : ∀ {v : List V} {d : List D}, RepL w G v d → RepL w G' v d
  | _, _, .nil => .nil
  | _, _, .cons h r => .cons (Rep.mono e h) (RepL.mono e r)
theorem RepF.mono (e : Same G G') : ∀ {v : List (Str × V)} {d : List (String × D)}, RepF w G v d → RepF w G' v d
  | _, _, .nil => .nil
  | _, _, .cons h r => .cons (Rep.mono e h) (RepF.mono e r)
end
theorem RepO.mono (e : Same G G') {o : HO} {d : D} : RepO w G o d → RepO w G' o d
  | .lst r => .lst (r.mono e)
  | .obj m r => .obj m (r.mono e)
theorem RepO.rep {a : Addr} {o : HO} {d : D} (h : G a = some o) : RepO w G o d → Rep w G (.ref a) d
  | .lst r => .lst h r
  | .obj m r => .obj m h r
theorem RepL.length : ∀ {vs : List V} {ds : List D}, RepL w G vs ds → vs.length = ds.length
  | _, _, .nil => rfl
  | _, _, .cons _ r => congrArg (· + 1) r.length
theorem RepL.get : ∀ {vs : List V} {ds : List D} {i : Nat} {d : D}, RepL w G vs ds → ds[i]? = some d → ∃ v, vs[i]? = some v ∧ Rep w G v d
  | _, _, _, _, .nil, h => by simp at h
  | _, _, 0, d, .cons h _, e => by
    simp at e
    subst e
    exact ⟨_, rfl, h⟩
  | _, _, i + 1, d, .cons _ r, e => by
    obtain ⟨v, h1, h2⟩ := RepL.get (i := i) r (by simpa using e)
    exact ⟨v, by simpa using h1, h2⟩
theorem RepL.getV : ∀ {vs : List V} {ds : List D} {i : Nat} {v : V}, RepL w G vs ds → vs[i]? = some v → ∃ d, ds[i]? = some d ∧ Rep w G v d
  | _, _, _, _, .nil, h => by simp at h
  | _, _, 0, d, .cons h _, e => by
    simp at e
    subst e
    exact ⟨_, rfl, h⟩
  | _, _, i + 1, d, .cons _ r, e => by
    obtain ⟨v, h1, h2⟩ := RepL.getV (i := i) r (by simpa using e)
    exact ⟨v, by simpa using h1, h2⟩
theorem RepL.append : ∀ {vs us : List V} {ds es : List D}, RepL w G vs ds → RepL w G us es → RepL w G (vs ++ us) (ds ++ es)
  | _, _, _, _, .nil, s => s
  | _, _, _, _, .cons h r, s => .cons h (RepL.append r s)
theorem RepL.drop : ∀ (n : Nat) {vs : List V} {ds : List D}, RepL w G vs ds → RepL w G (vs.drop n) (ds.drop n)
  | 0, _, _, h => h
  | _ + 1, _, _, .nil => .nil
  | n + 1, _, _, .cons _ r => RepL.drop n r
theorem RepL.take : ∀ (n : Nat) {vs : List V} {ds : List D}, RepL w G vs ds → RepL w G (vs.take n) (ds.take n)
  | 0, _, _, _ => .nil
  | _ + 1, _, _, .nil => .nil
  | n + 1, _, _, .cons h r => .cons h (RepL.take n r)
theorem RepL.set {v : V} {d : D} (h : Rep w G v d) : ∀ (n : Nat) {vs : List V} {ds : List D}, RepL w G vs ds → RepL w G (vs.set n v) (ds.set n d)
  | _, _, _, .nil => .nil
  | 0, _, _, .cons _ r => .cons h r
  | n + 1, _, _, .cons q r => .cons q (RepL.set h n r)
theorem RepL.reverse : ∀ {vs : List V} {ds : List D}, RepL w G vs ds → RepL w G vs.reverse ds.reverse
  | _, _, .nil => .nil
  | _, _, .cons h r => by
    rw [List.reverse_cons, List.reverse_cons]
    exact (RepL.reverse r).append (.cons h .nil)
theorem RepL.eraseIdx : ∀ (n : Nat) {vs : List V} {ds : List D}, RepL w G vs ds → RepL w G (vs.eraseIdx n) (ds.eraseIdx n)
  | _, _, _, .nil => .nil
  | 0, _, _, .cons _ r => r
  | n + 1, _, _, .cons h r => .cons h (RepL.eraseIdx n r)
theorem RepF.look (f : String) : ∀ {fs : List (Str × V)} {ds : List (String × D)} {d : D}, (∀ a b : String, Str.ofString a = Str.ofString b → a = b) → RepF w G fs ds → ds.lookup f = some d → ∃ v, fs.lookup (Str.ofString f) = some v ∧ Rep w G v d
  | _, _, _, _, .nil, h => by simp at h
  | (_, v) :: vs, (g, d') :: ds, d, inj, .cons h r, e => by
    by_cases hg : f = g
    · subst hg
      have e2 : d' = d := by simpa [List.lookup] using e
      subst e2
      exact ⟨v, by simp [List.lookup], h⟩
    · have h1 : (f == g) = false := by simpa using hg
      have h2 : (Str.ofString f == Str.ofString g) = false := by
        simpa using fun z => hg (inj _ _ z)
      have e2 : ds.lookup f = some d := by simpa [List.lookup, h1] using e
      obtain ⟨v', q1, q2⟩ := RepF.look f inj r e2
      exact ⟨v', by simp [List.lookup, h2, q1], q2⟩
end

/-! ### heaps -/
theorem same_upd {H : Hp} {p : Addr} {o : HO} (h : H p = none) : Same H (upd H p o) := fun b x e => by
  rw [upd_ne (ne_of_none e h)]
  exact e
theorem Same.back {H H' : Hp} {p : Addr} (e : Same H H') (h : H' p = none) : H p = none := e.free h

/-! ### a def's state -/
/-- a def's frame of reference: the heap at its entry (B), what of it is never changed (G0), the parameters that may be changed: slot and address -/
structure Fc where
  w : Wd
  B : Hp
  G0 : Hp
  io : List (Nat × Addr)
def Mu (ρ : Rho) (i : Nat) (d : D) : Prop := ρ[i]? = some (.own d) ∨ ρ[i]? = some (.lck d) ∨ ρ[i]? = some (.io d)
/-- k, a slot or the place of a thing just made, holds d at the address p -/
def At (ρ : Rho) (τ : List (Addr × D)) (σ : L2.St) : Sum Nat Nat → Addr → D → Prop
  | .inl i, p, d => Mu ρ i d ∧ σ[i]? = some (some (.ref p))
  | .inr j, p, d => τ[j]? = some (p, d)
structure Stt (c : Fc) (ρ : Rho) (G : Hp) (τ : List (Addr × D)) (H : Hp) (σ : L2.St) : Prop where
  gh : Same G H
  g0 : Same c.G0 G
  keep : ∀ a o, c.B a = some o → (∀ q ∈ c.io, a ≠ q.2) → H a = some o
  gnew : ∀ a o, G a = some o → c.G0 a = some o ∨ c.B a = none
  iop : ∀ q ∈ c.io, (∃ o, c.B q.2 = some o) ∧ σ[q.1]? = some (some (.ref q.2)) ∧ ∃ d, ρ[q.1]? = some (.io d)
  len : ρ.length = σ.length
  vals : ∀ (i : Nat) (d : D), ρ[i]? = some (.val d) → ∃ v, σ[i]? = some (some v) ∧ Rep c.w G v d
  muts : ∀ (i : Nat) (d : D), Mu ρ i d → ∃ p, σ[i]? = some (some (.ref p))
  at_ : ∀ k p d, At ρ τ σ k p d → G p = none ∧ ∃ o, H p = some o ∧ RepO c.w G o d
  own : ∀ (i : Nat) (d : D) (p : Addr), (ρ[i]? = some (.own d) ∨ ρ[i]? = some (.lck d)) → σ[i]? = some (some (.ref p)) → c.B p = none
  tmp : ∀ q ∈ τ, c.B q.1 = none
  iom : ∀ (i : Nat) (d : D), ρ[i]? = some (.io d) → ∃ q ∈ c.io, q.1 = i
  inj : ∀ k k' p d d', At ρ τ σ k p d → At ρ τ σ k' p d' → k = k'

section
variable {c : Fc} {ρ : Rho} {G G' H H' : Hp} {τ : List (Addr × D)} {σ : L2.St}

/-- the heap grows -/
structure Grow (G H G' H' : Hp) : Prop where
  hh : Same H H'
  gg : Same G G'
  gh : Same G' H'
  new : ∀ a o, G' a = some o → G a = some o ∨ H a = none
theorem Grow.refl (h : Same G H) : Grow G H G H := ⟨Same.refl H, Same.refl G, h, fun _ _ e => .inl e⟩
theorem Grow.laid {p : Addr} {o : HO} (h : Same G H) (hp : H p = none) : Grow G H (upd G p o) (upd H p o) := by
  have hg : G p = none := h.free hp
  refine ⟨same_upd hp, same_upd hg, fun a u e => ?_, fun a u e => ?_⟩
  · by_cases ha : a = p
    · subst ha
      rw [upd_same] at e ⊢
      exact e
    · rw [upd_ne ha] at e ⊢
      exact h _ _ e
  · by_cases ha : a = p
    · subst ha
      exact .inr hp
    · rw [upd_ne ha] at e
      exact .inl e
theorem Stt.ioA (S : Stt c ρ G τ H σ) {q : Nat × Addr} (hq : q ∈ c.io) : ∃ d, At ρ τ σ (.inl q.1) q.2 d ∧ G q.2 = none ∧ ∃ o, H q.2 = some o ∧ RepO c.w G o d := by
  obtain ⟨_, e, d, ed⟩ := S.iop q hq
  have a : At ρ τ σ (.inl q.1) q.2 d := ⟨.inr (.inr ed), e⟩
  obtain ⟨h1, o, h2, h3⟩ := S.at_ _ _ _ a
  exact ⟨d, a, h1, o, h2, h3⟩
theorem Stt.nB (S : Stt c ρ G τ H σ) {a : Addr} (h : H a = none) : c.B a = none := by
  cases e : c.B a with
  | none => rfl
  | some o =>
    by_cases hio : ∀ q ∈ c.io, a ≠ q.2
    · rw [S.keep a o e hio] at h
      cases h
    · simp only [Classical.not_forall, Decidable.not_not] at hio
      obtain ⟨q, hq, rfl⟩ := hio
      obtain ⟨_, _, _, o', e', _⟩ := S.ioA hq
      rw [e'] at h
      cases h
theorem Stt.grow (S : Stt c ρ G τ H σ) (g : Grow G H G' H') : Stt c ρ G' τ H' σ where
  gh := g.gh
  g0 := S.g0.trans g.gg
  keep := fun a o e n => g.hh _ _ (S.keep a o e n)
  gnew := fun a o e => by
    rcases g.new a o e with h | h
    · exact S.gnew a o h
    · exact .inr (S.nB h)
  iop := S.iop
  len := S.len
  vals := fun i d e => by
    obtain ⟨v, h1, h2⟩ := S.vals i d e
    exact ⟨v, h1, h2.mono g.gg⟩
  muts := S.muts
  at_ := fun k p d h => by
    obtain ⟨h1, o, h2, h3⟩ := S.at_ k p d h
    refine ⟨?_, o, g.hh _ _ h2, h3.mono g.gg⟩
    cases z : G' p with
    | none => rfl
    | some u =>
      rcases g.new _ _ z with q | q
      · rw [h1] at q
        cases q
      · rw [h2] at q
        cases q
  own := S.own
  tmp := S.tmp
  iom := S.iom
  inj := S.inj

theorem at_push {p : Addr} {d : D} {k : Sum Nat Nat} {p' : Addr} {d' : D} (h : At ρ (τ ++ [(p, d)]) σ k p' d') : At ρ τ σ k p' d' ∨ (k = .inr τ.length ∧ p' = p ∧ d' = d) := by
  cases k with
  | inl i => exact .inl h
  | inr j =>
    have h : (τ ++ [(p, d)])[j]? = some (p', d') := h
    by_cases hj : j < τ.length
    · rw [List.getElem?_append_left hj] at h
      exact .inl h
    · rw [List.getElem?_append_right (by omega)] at h
      have hz : j - τ.length = 0 := by
        cases e : j - τ.length with
        | zero => rfl
        | succ n =>
          rw [e] at h
          simp at h
      rw [hz] at h
      simp at h
      exact .inr ⟨by rw [show j = τ.length by omega], h.1.symm, h.2.symm⟩
theorem at_old {p : Addr} {d : D} {k : Sum Nat Nat} {p' : Addr} {d' : D} (h : At ρ τ σ k p' d') : At ρ (τ ++ [(p, d)]) σ k p' d' := by
  cases k with
  | inl i => exact h
  | inr j =>
    have h : τ[j]? = some (p', d') := h
    obtain ⟨hj, _⟩ := List.getElem?_eq_some_iff.mp h
    show (τ ++ [(p, d)])[j]? = some (p', d')
    rw [List.getElem?_append_left hj]
    exact h
theorem at_last {p : Addr} {d : D} : At ρ (τ ++ [(p, d)]) σ (.inr τ.length) p d := by
  show (τ ++ [(p, d)])[τ.length]? = some (p, d)
  rw [List.getElem?_append_right (Nat.le_refl _)]
  simp

/-- a thing is made -/
theorem Stt.push (S : Stt c ρ G τ H σ) {p : Addr} {o : HO} {d : D} (hp : H p = none) (r : RepO c.w G o d) : Stt c ρ G (τ ++ [(p, d)]) (upd H p o) σ where
  gh := fun a u e => by
    rw [upd_ne (ne_of_none (S.gh _ _ e) hp)]
    exact S.gh _ _ e
  g0 := S.g0
  keep := fun a u e n => by
    rw [upd_ne (ne_of_none (S.keep _ _ e n) hp)]
    exact S.keep _ _ e n
  gnew := S.gnew
  iop := S.iop
  len := S.len
  vals := S.vals
  muts := S.muts
  at_ := fun k p' d' h => by
    rcases at_push h with h | ⟨rfl, rfl, rfl⟩
    · obtain ⟨h1, u, h2, h3⟩ := S.at_ k p' d' h
      exact ⟨h1, u, by rw [upd_ne (ne_of_none h2 hp)]; exact h2, h3⟩
    · exact ⟨S.gh.free hp, o, upd_same, r⟩
  own := S.own
  tmp := fun q hq => by
    rcases List.mem_append.mp hq with h | h
    · exact S.tmp q h
    · simp at h
      subst h
      exact S.nB hp
  iom := S.iom
  inj := fun k k' p' d1 d2 h h' => by
    rcases at_push h with a | ⟨ka, pa, _⟩
    · rcases at_push h' with b | ⟨kb, pb, _⟩
      · exact S.inj k k' p' d1 d2 a b
      · obtain ⟨_, u, e, _⟩ := S.at_ _ _ _ a
        rw [pb, hp] at e
        cases e
    · rcases at_push h' with b | ⟨kb, pb, _⟩
      · obtain ⟨_, u, e, _⟩ := S.at_ _ _ _ b
        rw [pa, hp] at e
        cases e
      · rw [ka, kb]

/-- a thing just made is kept as it is from now on -/
theorem Stt.freezeT {p : Addr} {d : D} (S : Stt c ρ G (τ ++ [(p, d)]) H σ) : ∃ G', Same G G' ∧ Stt c ρ G' τ H σ ∧ Rep c.w G' (.ref p) d := by
  obtain ⟨h1, o, h2, h3⟩ := S.at_ _ _ _ at_last
  have sg : Same G (upd G p o) := same_upd h1
  refine ⟨upd G p o, sg, ?_, (h3.mono sg).rep upd_same⟩
  have hB : c.B p = none := S.tmp (p, d) (by simp)
  have ne : ∀ k p' d', At ρ τ σ k p' d' → p' ≠ p := fun k p' d' h z => by
    subst z
    have e := S.inj k (.inr τ.length) p' d' d (at_old h) at_last
    subst e
    have h : τ[τ.length]? = some (p', d') := h
    simp at h
  exact {
    gh := fun a u e => by
      by_cases ha : a = p
      · subst ha
        rw [upd_same] at e
        rw [h2]
        exact e
      · rw [upd_ne ha] at e
        exact S.gh _ _ e
    g0 := S.g0.trans sg
    keep := S.keep
    gnew := fun a u e => by
      by_cases ha : a = p
      · subst ha
        exact .inr hB
      · rw [upd_ne ha] at e
        exact S.gnew _ _ e
    iop := S.iop
    len := S.len
    vals := fun i d e => by
      obtain ⟨v, q1, q2⟩ := S.vals i d e
      exact ⟨v, q1, q2.mono sg⟩
    muts := S.muts
    at_ := fun k p' d' h => by
      obtain ⟨q1, u, q2, q3⟩ := S.at_ k p' d' (at_old h)
      exact ⟨by rw [upd_ne (ne k p' d' h)]; exact q1, u, q2, q3.mono sg⟩
    own := S.own
    tmp := fun q hq => S.tmp q (List.mem_append_left _ hq)
    iom := S.iom
    inj := fun k k' p' d1 d2 a b => S.inj k k' p' d1 d2 (at_old a) (at_old b) }
/-- a thing just made is forgotten -/
theorem Stt.dropT {p : Addr} {d : D} (S : Stt c ρ G (τ ++ [(p, d)]) H σ) : Stt c ρ G τ H σ where
  gh := S.gh
  g0 := S.g0
  keep := S.keep
  gnew := S.gnew
  iop := S.iop
  len := S.len
  vals := S.vals
  muts := S.muts
  at_ := fun k p' d' h => S.at_ k p' d' (at_old h)
  own := S.own
  tmp := fun q hq => S.tmp q (List.mem_append_left _ hq)
  iom := S.iom
  inj := fun k k' p' d1 d2 a b => S.inj k k' p' d1 d2 (at_old a) (at_old b)

theorem mu_set_ne {i j : Nat} {x : Cell} {d : D} (h : i ≠ j) : Mu (ρ.set i x) j d ↔ Mu ρ j d := by
  unfold Mu
  rw [List.getElem?_set_ne h]
theorem set_self {i : Nat} {x y : Cell} (h : ρ[i]? = some y) : (ρ.set i x)[i]? = some x := by
  obtain ⟨hi, _⟩ := List.getElem?_eq_some_iff.mp h
  rw [List.getElem?_set_self hi]

/-- a slot's own thing is kept as it is from now on -/
theorem Stt.freezeS (S : Stt c ρ G τ H σ) {i : Nat} {d : D} (h : ρ[i]? = some (.own d)) : ∃ G' p, Same G G' ∧ Stt c (ρ.set i (.val d)) G' τ H σ ∧ σ[i]? = some (some (.ref p)) ∧ Rep c.w G' (.ref p) d := by
  obtain ⟨p, hp⟩ := S.muts i d (.inl h)
  have hat : At ρ τ σ (.inl i) p d := ⟨.inl h, hp⟩
  obtain ⟨h1, o, h2, h3⟩ := S.at_ _ _ _ hat
  have sg : Same G (upd G p o) := same_upd h1
  have hB : c.B p = none := S.own i d p (.inl h) hp
  have rp : Rep c.w (upd G p o) (.ref p) d := (h3.mono sg).rep upd_same
  have dn : ∀ k p' d', At (ρ.set i (.val d)) τ σ k p' d' → At ρ τ σ k p' d' ∧ k ≠ .inl i := fun k p' d' q => by
    cases k with
    | inr j => exact ⟨q, fun z => by cases z⟩
    | inl j =>
      by_cases hj : i = j
      · subst hj
        obtain ⟨q1, _⟩ := q
        unfold Mu at q1
        rw [set_self h] at q1
        rcases q1 with q1 | q1 | q1 <;> cases q1
      · obtain ⟨q1, q2⟩ := q
        exact ⟨⟨(mu_set_ne hj).mp q1, q2⟩, fun z => hj (Sum.inl.inj z).symm⟩
  have ne : ∀ k p' d', At (ρ.set i (.val d)) τ σ k p' d' → p' ≠ p := fun k p' d' q z => by
    subst z
    obtain ⟨q1, q2⟩ := dn _ _ _ q
    exact q2 (S.inj _ _ _ _ _ q1 hat)
  refine ⟨upd G p o, p, sg, ?_, hp, rp⟩
  exact {
    gh := fun a u e => by
      by_cases ha : a = p
      · subst ha
        rw [upd_same] at e
        rw [h2]
        exact e
      · rw [upd_ne ha] at e
        exact S.gh _ _ e
    g0 := S.g0.trans sg
    keep := S.keep
    gnew := fun a u e => by
      by_cases ha : a = p
      · subst ha
        exact .inr hB
      · rw [upd_ne ha] at e
        exact S.gnew _ _ e
    iop := fun q hq => by
      obtain ⟨e1, e2, e, e3⟩ := S.iop q hq
      have hne : i ≠ q.1 := fun z => by
        rw [← z, h] at e3
        cases e3
      exact ⟨e1, e2, e, by rw [List.getElem?_set_ne hne]; exact e3⟩
    len := by rw [List.length_set]; exact S.len
    vals := fun j d' e => by
      by_cases hj : i = j
      · subst hj
        rw [set_self h] at e
        cases e
        exact ⟨_, hp, rp⟩
      · rw [List.getElem?_set_ne hj] at e
        obtain ⟨v, q1, q2⟩ := S.vals j d' e
        exact ⟨v, q1, q2.mono sg⟩
    muts := fun j d' e => by
      by_cases hj : i = j
      · subst hj
        exact ⟨p, hp⟩
      · exact S.muts j d' ((mu_set_ne hj).mp e)
    at_ := fun k p' d' q => by
      obtain ⟨q1, u, q2, q3⟩ := S.at_ k p' d' (dn _ _ _ q).1
      exact ⟨by rw [upd_ne (ne k p' d' q)]; exact q1, u, q2, q3.mono sg⟩
    own := fun j d' p' e e' => by
      by_cases hj : i = j
      · subst hj
        rw [set_self h] at e
        rcases e with e | e <;> cases e
      · rw [List.getElem?_set_ne hj] at e
        exact S.own j d' p' e e'
    tmp := S.tmp
    iom := fun j d' e => by
      by_cases hj : i = j
      · subst hj
        rw [set_self h] at e
        cases e
      · rw [List.getElem?_set_ne hj] at e
        exact S.iom j d' e
    inj := fun k k' p' d1 d2 a b => S.inj k k' p' d1 d2 (dn _ _ _ a).1 (dn _ _ _ b).1 }

/-- a slot's thing is turned, its kind of cell staying -/
inductive Turned : Cell → D → Cell → D → Prop
  | own (d d' : D) : Turned (.own d) d (.own d') d'
  | io (d d' : D) : Turned (.io d) d (.io d') d'
theorem Stt.turn (S : Stt c ρ G τ H σ) {i : Nat} {x x' : Cell} {d d' : D} {p : Addr} {o' : HO} (h : ρ[i]? = some x) (t : Turned x d x' d') (hp : σ[i]? = some (some (.ref p))) (r : RepO c.w G o' d') : Stt c (ρ.set i x') G τ (upd H p o') σ := by
  have mu : Mu ρ i d := by
    cases t
    · exact .inl h
    · exact .inr (.inr h)
  have hat : At ρ τ σ (.inl i) p d := ⟨mu, hp⟩
  obtain ⟨h1, o, h2, h3⟩ := S.at_ _ _ _ hat
  have mu' : ∀ e, Mu (ρ.set i x') i e → e = d' := fun e q => by
    unfold Mu at q
    rw [set_self h] at q
    cases t <;> (rcases q with q | q | q <;> cases q <;> rfl)
  have dn : ∀ k q e, At (ρ.set i x') τ σ k q e → (k = .inl i ∧ q = p ∧ e = d') ∨ (k ≠ .inl i ∧ At ρ τ σ k q e) := fun k q e a => by
    cases k with
    | inr j => exact .inr ⟨(fun z => by cases z), a⟩
    | inl j =>
      by_cases hj : i = j
      · subst hj
        obtain ⟨a1, a2⟩ := a
        rw [hp] at a2
        cases a2
        exact .inl ⟨rfl, rfl, mu' e a1⟩
      · obtain ⟨a1, a2⟩ := a
        exact .inr ⟨fun z => hj (Sum.inl.inj z).symm, (mu_set_ne hj).mp a1, a2⟩
  have ne : ∀ k q e, k ≠ .inl i → At ρ τ σ k q e → q ≠ p := fun k q e hk a z => by
    subst z
    exact hk (S.inj _ _ _ _ _ a hat)
  have np : ∀ a u, G a = some u → a ≠ p := fun a u e => ne_of_none e h1
  exact {
    gh := fun a u e => by
      rw [upd_ne (np a u e)]
      exact S.gh _ _ e
    g0 := S.g0
    keep := fun a u e n => by
      have hap : a ≠ p := fun z => by
        subst z
        cases t with
        | own _ _ =>
          rw [S.own i d a (.inl h) hp] at e
          cases e
        | io _ _ =>
          obtain ⟨q, hq, rfl⟩ := S.iom i d h
          obtain ⟨_, e4, _⟩ := S.iop q hq
          rw [hp] at e4
          cases e4
          exact n q hq rfl
      rw [upd_ne hap]
      exact S.keep a u e n
    gnew := S.gnew
    iop := fun q hq => by
      obtain ⟨e1, e2, e, e3⟩ := S.iop q hq
      refine ⟨e1, e2, ?_⟩
      by_cases hj : i = q.1
      · rw [← hj] at e3
        rw [h] at e3
        cases e3
        cases t with
        | io _ _ => exact ⟨d', by rw [← hj]; exact set_self h⟩
      · exact ⟨e, by rw [List.getElem?_set_ne hj]; exact e3⟩
    len := by rw [List.length_set]; exact S.len
    vals := fun j e q => by
      by_cases hj : i = j
      · subst hj
        rw [set_self h] at q
        cases t <;> cases q
      · rw [List.getElem?_set_ne hj] at q
        exact S.vals j e q
    muts := fun j e q => by
      by_cases hj : i = j
      · subst hj
        exact ⟨p, hp⟩
      · exact S.muts j e ((mu_set_ne hj).mp q)
    at_ := fun k q e a => by
      rcases dn k q e a with ⟨rfl, rfl, rfl⟩ | ⟨hk, a⟩
      · exact ⟨h1, o', upd_same, r⟩
      · obtain ⟨q1, u, q2, q3⟩ := S.at_ k q e a
        exact ⟨q1, u, by rw [upd_ne (ne k q e hk a)]; exact q2, q3⟩
    own := fun j e q a b => by
      by_cases hj : i = j
      · subst hj
        rw [set_self h] at a
        cases t with
        | own _ _ => exact S.own i d q (.inl h) b
        | io _ _ => rcases a with a | a <;> cases a
      · rw [List.getElem?_set_ne hj] at a
        exact S.own j e q a b
    tmp := S.tmp
    iom := fun j e a => by
      by_cases hj : i = j
      · subst hj
        rw [set_self h] at a
        cases t with
        | own _ _ => cases a
        | io _ _ => exact S.iom i d h
      · rw [List.getElem?_set_ne hj] at a
        exact S.iom j e a
    inj := fun k k' q e e' a b => by
      rcases dn k q e a with ⟨rfl, rfl, rfl⟩ | ⟨hk, a⟩
      · rcases dn k' q e' b with ⟨rfl, _, _⟩ | ⟨hk', b⟩
        · rfl
        · exact absurd rfl (ne k' _ _ hk' b)
      · rcases dn k' q e' b with ⟨rfl, rfl, rfl⟩ | ⟨hk', b⟩
        · exact absurd rfl (ne k _ _ hk a)
        · exact S.inj k k' q e e' a b }
/-- the thing just made is turned -/
theorem Stt.turnT {p : Addr} {d : D} (S : Stt c ρ G (τ ++ [(p, d)]) H σ) {o' : HO} {d' : D} (r : RepO c.w G o' d') : Stt c ρ G (τ ++ [(p, d')]) (upd H p o') σ := by
  obtain ⟨h1, o, h2, h3⟩ := S.at_ _ _ _ at_last
  have hB : c.B p = none := S.tmp (p, d) (by simp)
  have ne : ∀ k q e, At ρ τ σ k q e → q ≠ p := fun k q e a z => by
    subst z
    have e := S.inj k (.inr τ.length) q e d (at_old a) at_last
    subst e
    have a : τ[τ.length]? = some (q, e) := a
    simp at a
  exact {
    gh := fun a u e => by
      rw [upd_ne (ne_of_none e h1)]
      exact S.gh _ _ e
    g0 := S.g0
    keep := fun a u e n => by
      rw [upd_ne (ne_of_none e hB)]
      exact S.keep _ _ e n
    gnew := S.gnew
    iop := S.iop
    len := S.len
    vals := S.vals
    muts := S.muts
    at_ := fun k q e a => by
      rcases at_push a with a | ⟨rfl, rfl, rfl⟩
      · obtain ⟨q1, u, q2, q3⟩ := S.at_ k q e (at_old a)
        exact ⟨q1, u, by rw [upd_ne (ne k q e a)]; exact q2, q3⟩
      · exact ⟨h1, o', upd_same, r⟩
    own := S.own
    tmp := fun q hq => by
      rcases List.mem_append.mp hq with h | h
      · exact S.tmp q (List.mem_append_left _ h)
      · simp at h
        subst h
        exact hB
    iom := S.iom
    inj := fun k k' q e e' a b => by
      rcases at_push a with a1 | ⟨ka, pa, _⟩
      · rcases at_push b with b1 | ⟨kb, pb, _⟩
        · exact S.inj k k' q e e' (at_old a1) (at_old b1)
        · exact absurd pb (ne _ _ _ a1)
      · rcases at_push b with b1 | ⟨kb, pb, _⟩
        · exact absurd pa (ne _ _ _ b1)
        · rw [ka, kb] }

/-- a slot is given another cell and another value: the new cell holds no thing of its own -/
theorem Stt.store (S : Stt c ρ G τ H σ) {i : Nat} {x : Cell} {v : Option V} (hi : free ρ i = true) (hx : x = .un ∨ ∃ d u, x = .val d ∧ v = some u ∧ Rep c.w G u d) : Stt c (ρ.set i x) G τ H (σ.set i v) := by
  obtain ⟨y, hy, ny⟩ : ∃ y, ρ[i]? = some y ∧ ∀ d, y ≠ .io d := by
    unfold free at hi
    cases e : ρ[i]? with
    | none =>
      rw [e] at hi
      cases hi
    | some y =>
      refine ⟨y, rfl, fun d z => ?_⟩
      subst z
      rw [e] at hi
      cases hi
  obtain ⟨hi1, _⟩ := List.getElem?_eq_some_iff.mp hy
  have hs : i < σ.length := by rw [← S.len]; exact hi1
  have nmu : ∀ e, ¬ Mu (ρ.set i x) i e := fun e q => by
    unfold Mu at q
    rw [set_self hy] at q
    rcases hx with rfl | ⟨d, u, rfl, _⟩ <;> (rcases q with q | q | q <;> cases q)
  have dn : ∀ k q e, At (ρ.set i x) τ (σ.set i v) k q e → At ρ τ σ k q e := fun k q e a => by
    cases k with
    | inr j => exact a
    | inl j =>
      by_cases hj : i = j
      · subst hj
        exact absurd a.1 (nmu e)
      · obtain ⟨a1, a2⟩ := a
        rw [List.getElem?_set_ne hj] at a2
        exact ⟨(mu_set_ne hj).mp a1, a2⟩
  exact {
    gh := S.gh
    g0 := S.g0
    keep := S.keep
    gnew := S.gnew
    iop := fun q hq => by
      obtain ⟨e1, e2, e, e3⟩ := S.iop q hq
      have hne : i ≠ q.1 := fun z => by
        rw [← z, hy] at e3
        exact ny e (Option.some.inj e3)
      exact ⟨e1, by rw [List.getElem?_set_ne hne]; exact e2, e, by rw [List.getElem?_set_ne hne]; exact e3⟩
    len := by rw [List.length_set, List.length_set]; exact S.len
    vals := fun j e q => by
      by_cases hj : i = j
      · subst hj
        rw [set_self hy] at q
        rcases hx with rfl | ⟨d, u, rfl, rfl, r⟩
        · cases q
        · cases q
          exact ⟨u, by rw [List.getElem?_set_self hs], r⟩
      · rw [List.getElem?_set_ne hj] at q ⊢
        exact S.vals j e q
    muts := fun j e q => by
      by_cases hj : i = j
      · subst hj
        exact absurd q (nmu e)
      · rw [List.getElem?_set_ne hj]
        exact S.muts j e ((mu_set_ne hj).mp q)
    at_ := fun k q e a => S.at_ k q e (dn k q e a)
    own := fun j e q a b => by
      by_cases hj : i = j
      · subst hj
        exact absurd (by rcases a with a | a; exact .inl a; exact .inr (.inl a)) (nmu e)
      · rw [List.getElem?_set_ne hj] at a b
        exact S.own j e q a b
    tmp := S.tmp
    iom := fun j e a => by
      by_cases hj : i = j
      · subst hj
        exact absurd (.inr (.inr a)) (nmu e)
      · rw [List.getElem?_set_ne hj] at a
        exact S.iom j e a
    inj := fun k k' q e e' a b => S.inj k k' q e e' (dn _ _ _ a) (dn _ _ _ b) }
end
end MPS
end
section
set_option Elab.async false
set_option linter.all false
set_option maxRecDepth 100000
set_option maxHeartbeats 2000000
/-! MpA: readings of expressions by what they mean; operators. -/
namespace MPS
open PySem L2 MP

/-- a value that is looked at: kept, or a thing as it stands -/
def RepT (w : Wd) (G H : Hp) (v : V) (d : D) : Prop := Rep w G v d ∨ ∃ a o, v = .ref a ∧ H a = some o ∧ RepO w G o d
section
variable {c : Fc} {ρ : Rho} {G G' H H' : Hp} {τ : List (Addr × D)} {σ : L2.St} {W : WX} {Q : VK} {Γ : Tab}

/-- what is wanted behind an expression -/
def Post (c : Fc) (W : WX) (σ : L2.St) (G : Hp) (τ : List (Addr × D)) (Q : VK) : Out CV → Prop
  | .ok (.val d) ρ' => ∀ v H' G', Stt c ρ' G' τ H' σ → Same G G' → Rep c.w G' v d → Q v H'
  | .ok (.own d) ρ' => ∀ p H' G', Stt c ρ' G' (τ ++ [(p, d)]) H' σ → Same G G' → Q (.ref p) H'
  | .ex e ρ' => ∀ H' G', Stt c ρ' G' τ H' σ → Same G G' → W (.ref (c.w.κ e)) none σ H'
  | .bad => False
/-- the same of kept values, of rows of them, of anything that R tells -/
def PostR {α : Type} (c : Fc) (W : WX) (σ : L2.St) (G : Hp) (τ : List (Addr × D)) (R : α → Hp → Hp → Prop) : Out α → Prop
  | .ok a ρ' => ∀ H' G', Stt c ρ' G' τ H' σ → Same G G' → R a G' H'
  | .ex e ρ' => ∀ H' G', Stt c ρ' G' τ H' σ → Same G G' → W (.ref (c.w.κ e)) none σ H'
  | .bad => False
def PostV (c : Fc) (W : WX) (σ : L2.St) (G : Hp) (τ : List (Addr × D)) (Q : VK) : Out D → Prop := PostR c W σ G τ fun d G' H' => ∀ v, Rep c.w G' v d → Q v H'
theorem PostR.mono {α : Type} {R : α → Hp → Hp → Prop} {o : Out α} (e : Same G G') (h : PostR c W σ G τ R o) : PostR c W σ G' τ R o := by
  cases o with
  | ok a ρ' => exact fun H' G2 S s => h H' G2 S (e.trans s)
  | ex x ρ' => exact fun H' G2 S s => h H' G2 S (e.trans s)
  | bad => exact h
theorem PostR.imp {α : Type} {R R' : α → Hp → Hp → Prop} {o : Out α} (h : PostR c W σ G τ R o) (i : ∀ a G' H', R a G' H' → R' a G' H') : PostR c W σ G τ R' o := by
  cases o with
  | ok a ρ' => exact fun H' G2 S s => i _ _ _ (h H' G2 S s)
  | ex x ρ' => exact h
  | bad => exact h
theorem Post.mono {o : Out CV} (e : Same G G') (h : Post c W σ G τ Q o) : Post c W σ G' τ Q o := by
  cases o with
  | ok a ρ' =>
    cases a with
    | val d => exact fun v H' G2 S s => h v H' G2 S (e.trans s)
    | own d => exact fun p H' G2 S s => h p H' G2 S (e.trans s)
  | ex x ρ' => exact fun H' G2 S s => h H' G2 S (e.trans s)
  | bad => exact h
/-- kept values are enough -/
theorem post_of_val {m : Out CV} (h : PostV c W σ G τ Q (m.bind fun cv ρ' => .ok cv.d ρ')) : Post c W σ G τ Q m := by
  cases m with
  | ok a ρ' =>
    cases a with
    | val d => exact fun v H' G2 S s r => h H' G2 S s v r
    | own d =>
      intro p H' G2 S s
      obtain ⟨G3, s3, S3, r⟩ := S.freezeT
      exact h H' G3 S3 (s.trans s3) _ r
  | ex x ρ' => exact h
  | bad => exact h
/-- one behind the other -/
theorem postR_bind {α β : Type} {m : Out α} {f : α → Rho → Out β} {R : β → Hp → Hp → Prop} (h : PostR c W σ G τ R (m.bind f)) :
    match m with
    | .ok a ρ' => ∀ H' G', Stt c ρ' G' τ H' σ → Same G G' → PostR c W σ G' τ R (f a ρ')
    | .ex e ρ' => ∀ H' G', Stt c ρ' G' τ H' σ → Same G G' → W (.ref (c.w.κ e)) none σ H'
    | .bad => False := by
  cases m with
  | ok a ρ' => exact fun H' G' S s => PostR.mono s h
  | ex e ρ' => exact h
  | bad => exact h

/-- the reading of an expression -/
def tD (Γ : Tab) (c : Fc) (W : WX) (p : E) : TE := fun σ H Q => ∃ ρ G τ, Stt c ρ G τ H σ ∧ Post c W σ G τ Q (den Γ p ρ)
/-- .. of an operand: a name is read -/
def tO (Γ : Tab) (c : Fc) (W : WX) (p : E) : TE :=
  match p with
  | .var i => tVar i
  | _ => tD Γ c W p
theorem td_val {p : E} (S : Stt c ρ G τ H σ) (h : PostV c W σ G τ Q (MP.val (den Γ p) ρ)) : tD Γ c W p σ H Q := ⟨ρ, G, τ, S, post_of_val h⟩
/-- an expression's value, then more -/
theorem td_then {β : Type} {p : E} {f : D → Rho → Out β} {R : β → Hp → Hp → Prop} (S : Stt c ρ G τ H σ) (h : PostR c W σ G τ R ((MP.val (den Γ p) ρ).bind f))
    (k : ∀ v d ρ' H' G', Stt c ρ' G' τ H' σ → Same G G' → Rep c.w G' v d → MP.val (den Γ p) ρ = .ok d ρ' → PostR c W σ G' τ R (f d ρ') → Q v H') : tD Γ c W p σ H Q := by
  refine td_val S ?_
  cases e : MP.val (den Γ p) ρ with
  | ok d ρ' =>
    rw [e] at h
    exact fun H' G' S' s v r => k v d ρ' H' G' S' s r e (PostR.mono s h)
  | ex x ρ' =>
    rw [e] at h
    exact h
  | bad =>
    rw [e] at h
    exact h

theorem Rep.top {v : V} {d : D} (h : Rep c.w G v d) : RepT c.w G H v d := .inl h
theorem Stt.peek (S : Stt c ρ G τ H σ) {i : Nat} {d : D} (h : MP.peek ρ i = some d) : ∃ v, σ[i]? = some (some v) ∧ RepT c.w G H v d := by
  unfold MP.peek at h
  cases e : ρ[i]? with
  | none =>
    rw [e] at h
    cases h
  | some x =>
    rw [e] at h
    have mu : Mu ρ i d → ∃ v, σ[i]? = some (some v) ∧ RepT c.w G H v d := fun mu => by
      obtain ⟨p, hp⟩ := S.muts i d mu
      obtain ⟨_, o, h2, h3⟩ := S.at_ (.inl i) p d ⟨mu, hp⟩
      exact ⟨_, hp, .inr ⟨p, o, rfl, h2, h3⟩⟩
    cases x with
    | un => cases h
    | val d' =>
      cases h
      obtain ⟨v, h1, h2⟩ := S.vals i d e
      exact ⟨v, h1, .inl h2⟩
    | own d' =>
      cases h
      exact mu (.inl e)
    | lck d' =>
      cases h
      exact mu (.inr (.inl e))
    | io d' =>
      cases h
      exact mu (.inr (.inr e))
/-- an operand, then more; a name's value stands in its slot -/
theorem to_then {β : Type} {p : E} {f : D → Rho → Out β} {R : β → Hp → Hp → Prop} (S : Stt c ρ G τ H σ) (h : PostR c W σ G τ R ((opd p (den Γ p) ρ).bind f))
    (k : ∀ v d ρ' H' G', Stt c ρ' G' τ H' σ → Same G G' → (∀ i, p = .var i → σ[i]? = some (some v)) → ((∀ i, p ≠ .var i) → Rep c.w G' v d) → RepT c.w G' H' v d → PostR c W σ G' τ R (f d ρ') → Q v H') : tO Γ c W p σ H Q := by
  by_cases hv : ∃ i, p = .var i
  · obtain ⟨i, rfl⟩ := hv
    show tVar i σ H Q
    have h : PostR c W σ G τ R ((match MP.peek ρ i with
      | some d => Out.ok d ρ
      | none => Out.bad).bind f) := h
    cases e : MP.peek ρ i with
    | none =>
      rw [e] at h
      exact h.elim
    | some d =>
      rw [e] at h
      obtain ⟨v, h1, h2⟩ := S.peek e
      exact ⟨v, h1, k v d ρ H G S (Same.refl G) (fun j e => by cases e; exact h1) (fun z => absurd rfl (z i)) h2 h⟩
  · have nv : ∀ i, p ≠ .var i := fun i e => hv ⟨i, e⟩
    have e1 : opd p (den Γ p) ρ = MP.val (den Γ p) ρ := by
      cases p <;> first | rfl | exact absurd rfl (nv _)
    have e2 : tO Γ c W p = tD Γ c W p := by
      cases p <;> first | rfl | exact absurd rfl (nv _)
    rw [e2]
    rw [e1] at h
    exact td_then S h fun v d ρ' H' G' S' s r _ q => k v d ρ' H' G' S' s (fun i e => absurd e (nv i)) (fun _ => r) (.inl r) q
/-- two operands -/
theorem two_then {β : Type} {a b : E} {f : D × D → Rho → Out β} {R : β → Hp → Hp → Prop} {K2 : V → V → Hp → Prop} (S : Stt c ρ G τ H σ) (h : PostR c W σ G τ R ((two a b (den Γ a) (den Γ b) ρ).bind f))
    (k : ∀ v u d e ρ' H' G', Stt c ρ' G' τ H' σ → Same G G' → RepT c.w G' H' v d → RepT c.w G' H' u e → PostR c W σ G' τ R (f (d, e) ρ') → K2 v u H') :
    tO Γ c W a σ H fun x H1 => tO Γ c W b σ H1 fun y H2 => K2 x y H2 := by
  unfold two at h
  have h' : PostR c W σ G τ R ((opd a (den Γ a) ρ).bind fun x ρ1 => ((opd b (den Γ b) ρ1).bind fun y ρ2 =>
    match again a x ρ2 with
    | some x' => Out.ok (x', y) ρ2
    | none => Out.bad).bind f) := by
    cases e : opd a (den Γ a) ρ with
    | ok x ρ1 =>
      rw [e] at h
      exact h
    | ex x ρ1 =>
      rw [e] at h
      exact h
    | bad =>
      rw [e] at h
      exact h
  refine to_then S h' fun v d ρ1 H1 G1 S1 s1 hv hr _ q1 => ?_
  have q1' : PostR c W σ G1 τ R ((opd b (den Γ b) ρ1).bind fun y ρ2 => (match again a d ρ2 with
    | some x' => Out.ok (x', y) ρ2
    | none => Out.bad).bind f) := by
    cases e : opd b (den Γ b) ρ1 with
    | ok x ρ2 =>
      rw [e] at q1
      exact q1
    | ex x ρ2 =>
      rw [e] at q1
      exact q1
    | bad =>
      rw [e] at q1
      exact q1
  refine to_then S1 q1' fun u e ρ2 H2 G2 S2 s2 _ _ hu q2 => ?_
  by_cases hva : ∃ i, a = .var i
  · obtain ⟨i, rfl⟩ := hva
    have q2 : PostR c W σ G2 τ R ((match MP.peek ρ2 i with
      | some x' => Out.ok (x', e) ρ2
      | none => Out.bad).bind f) := q2
    cases e2 : MP.peek ρ2 i with
    | none =>
      rw [e2] at q2
      exact q2.elim
    | some d' =>
      rw [e2] at q2
      obtain ⟨v', h1, h2⟩ := S2.peek e2
      rw [hv i rfl] at h1
      cases h1
      exact k v u d' e ρ2 H2 G2 S2 (s1.trans s2) h2 hu q2
  · have nv : ∀ i, a ≠ .var i := fun i z => hva ⟨i, z⟩
    have e1 : again a d ρ2 = some d := by
      cases a <;> first | rfl | exact absurd rfl (nv _)
    rw [e1] at q2
    exact k v u d e ρ2 H2 G2 S2 (s1.trans s2) (.inl ((hr nv).mono s2)) hu q2

/-! ### how a result is handed on -/
theorem post_grow {d : D} {v : V} (S : Stt c ρ G τ H σ) (q : Post c W σ G τ Q (.ok (.val d) ρ)) (g : Grow G H G' H') (r : Rep c.w G' v d) : Q v H' := q v H' G' (S.grow g) g.gg r
theorem post_here {d : D} {v : V} (S : Stt c ρ G τ H σ) (q : Post c W σ G τ Q (.ok (.val d) ρ)) (r : Rep c.w G v d) : Q v H := q v H G S (Same.refl G) r
/-- a new tuple -/
theorem post_tup {ds : List D} {vs : List V} {p : Addr} (S : Stt c ρ G τ H σ) (q : Post c W σ G τ Q (.ok (.val (.tup ds)) ρ)) (r : RepL c.w G vs ds) (hp : H p = none) : Q (.ref p) (upd H p (.tup vs)) := by
  have g : Grow G H (upd G p (.tup vs)) (upd H p (.tup vs)) := Grow.laid S.gh hp
  exact post_grow S q g (.tup upd_same (r.mono g.gg))
/-- a new list -/
theorem post_lst {ds : List D} {vs : List V} {p : Addr} (S : Stt c ρ G τ H σ) (q : Post c W σ G τ Q (.ok (.own (.lst ds)) ρ)) (r : RepL c.w G vs ds) (hp : H p = none) : Q (.ref p) (upd H p (.lst vs)) :=
  q p _ G (S.push hp (.lst r)) (Same.refl G)

/-! ### what is looked at -/
theorem RepT.int {v : V} {i : Int} (h : RepT c.w G H v (.int i)) : v = .int i := by
  rcases h with h | ⟨a, o, rfl, _, h⟩
  · cases h
    rfl
  · cases h
theorem RepT.bl {v : V} {b : Bool} (h : RepT c.w G H v (.bl b)) : v = .bl b := by
  rcases h with h | ⟨a, o, rfl, _, h⟩
  · cases h
    rfl
  · cases h
theorem RepT.lst {v : V} {ds : List D} (s : Same G H) (h : RepT c.w G H v (.lst ds)) : ∃ a vs, v = .ref a ∧ H a = some (.lst vs) ∧ RepL c.w G vs ds := by
  rcases h with h | ⟨a, o, rfl, e, h⟩
  · cases h with
    | lst h r => exact ⟨_, _, rfl, s _ _ h, r⟩
  · cases h with
    | lst r => exact ⟨a, _, rfl, e, r⟩
theorem RepT.tup {v : V} {ds : List D} (s : Same G H) (h : RepT c.w G H v (.tup ds)) : ∃ a vs, v = .ref a ∧ H a = some (.tup vs) ∧ RepL c.w G vs ds ∧ G a = some (.tup vs) := by
  rcases h with h | ⟨a, o, rfl, e, h⟩
  · cases h with
    | tup h r => exact ⟨_, _, rfl, s _ _ h, r, h⟩
  · cases h
theorem RepT.scr {v : V} {ns : List Int} (s : Same G H) (h : RepT c.w G H v (.scr ns)) : ∃ a, v = .ref a ∧ SqL c.w.K H a (ns.map V.int) := by
  rcases h with h | ⟨a, o, rfl, e, h⟩
  · cases h with
    | scr h => exact ⟨_, rfl, same_l s h⟩
  · cases h
theorem ixN_eq (n : Nat) (i : Int) : L2.ixN n i = MP.ixN n i := rfl
theorem at_rep {w : Wd} {vs : List V} {ds : List D} {i : Int} {d : D} (r : RepL w G vs ds) (h : at? ds i = some d) : ∃ v, atI vs i = some v ∧ Rep w G v d := by
  unfold at? at h
  cases e : MP.ixN ds.length i with
  | none =>
    rw [e] at h
    cases h
  | some j =>
    rw [e] at h
    obtain ⟨v, h1, h2⟩ := r.get (show ds[j]? = some d from h)
    refine ⟨v, ?_, h2⟩
    unfold atI
    rw [ixN_eq, r.length, e]
    exact h1
theorem sEnd_eq (n d : Nat) (o : Option Int) : HT.sIx n d o = sEnd n d o := by cases o <;> rfl
theorem cut_rep {w : Wd} {vs : List V} {ds : List D} {lo hi : Option Int} (r : RepL w G vs ds) : RepL w G (cutV vs lo hi) (cut ds lo hi) := by
  unfold cutV cut
  rw [sEnd_eq, sEnd_eq, r.length]
  exact (r.drop _).take _
end
end MPS
end
section
set_option Elab.async false
set_option linter.all false
set_option maxRecDepth 100000
set_option maxHeartbeats 4000000
/-! MpS: sorted(set(xs)), xs a list of ints. -/
namespace L2
open PySem PySem.Spec PyProof.Rows
/-- an empty set, just made -/
abbrev ns0 (w : World) : Obj := { cls := .type "set", dict := none, data := .set #[] 0 (.fresh 0 0 (!w.params.followText "set-order")) }
section
variable {P : Program} {w : World} {A : Around} {E : Value → Shared → Prop} {s : Shared}
theorem set_of_ints {l : Addr} {items : Array Value} (ns : List Int) {Q : Value → Shared → Prop} (hh : A.handled = none) (hl : s.heap.IsList l items) (hit : IntsAre items.toList ns) (hb : ns.length + 1 < scanBound)
    (h : ∀ (h' : Heap) (tk c : Nat), SetR w h' s.heap.objs.size (fun j => decide (j ∈ ns)) c → c ≤ ns.length → (∀ b o, s.heap.get? b = some o → h'.get? b = some o) → Q (.ref s.heap.objs.size) { s with heap := h', toks := tk }) :
    wpAny (model P w) A (call (.type "set") [.ref l]) Q E s := by
  have len : items.size = ns.length := (Array.length_toList).symm.trans (IntsAre.length hit)
  obtain ⟨mc, mt, hmro⟩ := F.called_set.mro
  have h1 := F.called_set.notType
  have h2 := F.called_set.canCreate
  have h3 := F.called_set.made
  have h4 := F.called_set.sub
  have h5 := F.typeCall_set_1 (.ref l)
  refine wpAny_call (codeAny_of_tree (show wpAny _ _ (callAny (.type "set") _) _ _ _ from wpAny_pure ⟨Code.quiet_builtin _ (by decide +kernel), codeAny_builtin F.entry_type_call ?_⟩))
  rw [Around.under_plain (weight_type_call_type "set" [.ref l] []) rfl]
  repeat (any_goals (first | assumption | wp_step))
  refine codeAny_mono (code_set_led1 (.ref l) (E := E) (Q₁ := fun v t => v = .ref s.heap.objs.size ∧ t = { s with heap := s.heap.push (ns0 w) }) ⟨rfl, rfl⟩) fun r t hr => ?_
  match r, hr with
  | .error e, hr => exact hr
  | .ok .next, hr => exact hr.elim
  | .ok .brk, hr => exact hr.elim
  | .ok .cont, hr => exact hr.elim
  | .ok (.ret obj), hr =>
    obtain ⟨rfl, rfl⟩ := hr
    have hS : (s.heap.push (ns0 w)).get? s.heap.objs.size = some (ns0 w) := Heap.get?_push_size _ rfl
    have hT : Shared.TypeIs { s with heap := s.heap.push (ns0 w) } (.ref s.heap.objs.size) "set" := ⟨_, hS, rfl⟩
    have h6 := F.called_set.init.lookup
    have h7 := F.called_set.init.bind (.ref s.heap.objs.size)
    repeat (any_goals (first | assumption | wp_step))
    refine codeAny_mono (codeAny_call_builtin (R := wants (fun v t => v = .none ∧ ∃ h' tk c, t = { s with heap := h', toks := tk } ∧ SetR w h' s.heap.objs.size (fun j => decide (j ∈ ns)) c ∧ c ≤ ns.length ∧ ∀ b o, s.heap.get? b = some o → h'.get? b = some o) E)
      F.called_set.init.plain F.entry_set_init (check_set_init_1 hT ?_)) fun r2 t2 hr2 => ?_
    · obtain ⟨⟨ocls, odict, odata, oslots⟩, hol, hcl, nl, hdl⟩ := hl
      simp only at hcl hdl
      subst hcl; subst hdl
      have at1 : (s.heap.push (ns0 w)).get? l = some { cls := .type "list", dict := odict, data := .seq items nl, slots := oslots } := Heap.get?_push_of_some _ hol
      have i1 := F.sub_list_set
      have i2 := F.sub_list_frozenset
      have i3 : (Value.type "list" == Value.type "dict") = false := by decide
      have is1 : (s.heap.push (ns0 w)).IsList l items := ⟨_, at1, rfl, nl, rfl⟩
      unfold Builtin.«set.__init__» noKeywords Builtin.Frozenset.updateFrom
      generalize hPI : pyIter = PI
      wp_walk
      subst hPI
      refine wpAny_pyIter_list is1 (wpAny_bind (wpAny_runValue ?_))
      have lt0 : l < s.heap.objs.size := Heap.lt_size hol
      have sz1 : (s.heap.push (ns0 w)).objs.size = s.heap.objs.size + 1 := Heap.size_push ..
      have ne1 : l ≠ (s.heap.push (ns0 w)).objs.size := by rw [sz1]; exact Nat.ne_of_lt (Nat.lt_succ_of_lt lt0)
      have nin : s.heap.objs.size ∉ [(s.heap.push (ns0 w)).objs.size, l] := by
        rw [sz1]
        simp only [List.mem_cons, List.not_mem_nil, or_false, not_or]
        exact ⟨Nat.ne_of_lt (Nat.lt_succ_self _), Nat.ne_of_gt lt0⟩
      have vals : ∀ (i : Nat) (v : Value), items[i]? = some v → ∃ k t, ns[i]? = some k ∧ v = .int k t := fun i v hv => by
        have hi : i < ns.length := by rw [← len]; exact (Array.getElem?_eq_some_iff.mp hv).1
        obtain ⟨t, e⟩ := IntsAre.int_at hit i v (by rw [Array.getElem?_toList]; exact hv)
        exact ⟨ns[i], t, List.getElem?_eq_getElem hi, by rw [e, List.getD_eq_getElem?_getD, List.getElem?_eq_getElem hi]; rfl⟩
      have hh3 : A.in1.in1.in1.handled = none := by simp [hh]
      refine set_update_ints ((Walks.list hh3 _ l ne1 items).toS) s.heap.objs.size nin ns len hb vals (items.size - 0) 0 _ (by omega) (Nat.zero_le _) ⟨⟨_, Heap.get?_push_size _ rfl, rfl, rfl⟩, is1.push _⟩ ⟨0, Nat.le_refl 0, setR_new_at (Heap.get?_push_of_some _ hS)⟩ fun t3 c3 mv hc3 hR => ?_
      obtain ⟨h', g2, d', tk', os'⟩ := t3
      cases (mv.gens : g2 = s.gens)
      cases (mv.drawn : d' = s.drawn)
      cases (mv.os : os' = s.os)
      refine wpAny_pure (show wpAny _ _ (ret Value.none) _ _ _ from wpAny_pure ⟨rfl, h', tk', c3, rfl, hR, by rw [← len]; exact hc3, fun b o e => ?_⟩)
      have hb0 : b < s.heap.objs.size := Heap.lt_size e
      refine mv.heap b o ?_ (Heap.get?_push_of_some _ (Heap.get?_push_of_some _ e))
      simp only [List.mem_cons, List.not_mem_nil, or_false, not_or, sz1]
      exact ⟨Nat.ne_of_lt hb0, Nat.ne_of_lt (Nat.lt_succ_of_lt hb0)⟩
    · match r2, hr2 with
      | .error e, hr2 => exact hr2
      | .ok .next, hr2 => exact hr2.elim
      | .ok .brk, hr2 => exact hr2.elim
      | .ok .cont, hr2 => exact hr2.elim
      | .ok (.ret v), hr2 =>
        obtain ⟨rfl, h', tk, c', rfl, q1, q2, q3⟩ := hr2
        repeat (any_goals (first | assumption | wp_step))
        exact h _ _ _ q1 q2 q3
end
section
variable {X : Cx}
/-- set(xs), xs a list of ints -/
def rSetOfI (K : PySem.W.Frag) (w : World) : List V → Hp → VK → Prop := fun xs H Q => ∃ (l : Addr) (ns : List Int), xs = [V.ref l] ∧ SqL K H l (ns.map V.int) ∧ ns.length < 64 ∧ ∀ a c, H a = none → c ≤ ns.length → Q (.ref a) (upd H a (SetO w a (fun j => decide (j ∈ ns)) c))
theorem cr_setOfI (hc : X.calm = true) : CallR X (.type "set") (rSetOfI X.K X.w) := by
  intro pins s σ H xs us Q I r h
  obtain ⟨l, ns, rfl, hl, hf, q⟩ := h
  rw [Vals.ref1 r]
  obtain ⟨its, rv, pl, hz⟩ := I.list hl
  exact set_of_ints ns (I.ok.hd hc) pl.isList (by simpa using rv.ints) (by unfold scanBound; omega) fun h' tk c R hc' k =>
    ⟨.ref s.heap.objs.size, upd H s.heap.objs.size (SetO X.w s.heap.objs.size (fun j => decide (j ∈ ns)) c), I.laid (t' := tk) k (Nat.le_refl _) (setO_new R), rfl, q _ c (I.hok.fresh (Nat.le_refl _)) hc'⟩
end
end L2
end
section
set_option Elab.async false
set_option linter.all false
set_option maxRecDepth 100000
set_option maxHeartbeats 2000000
/-! MpB: operators, comparisons, built-ins, by values. -/
namespace MPS
open PySem L2 MP

/-! ### texts -/
theorem ofString_inj {a b : String} (h : Str.ofString a = Str.ofString b) : a = b := by
  rw [Str.ofString_eq_toList, Str.ofString_eq_toList] at h
  have h1 : a.toList.map Char.toNat = b.toList.map Char.toNat := by
    have := congrArg (fun s : Str => s.cps.toList) h
    simpa using this
  have h2 : a.toList = b.toList := by
    refine List.map_inj_right (f := Char.toNat) (fun x y e => ?_) |>.mp h1
    exact Char.toNat_inj.mp e
  exact String.toList_inj.mp h2
theorem  strOk_of (a : String) :  PyData.strOk (Str.ofString a) = true := by
  rw [Str.ofString_eq_toList]
  unfold  PyData.strOk
  simp only [List.all_toArray, List.all_map, List.all_eq_true, Function.comp, decide_eq_true_eq]
  intro x _
  have := x.valid
  have h : x.toNat < 1114112 := by
    rcases this with h | ⟨_, h⟩
    · exact Nat.lt_trans h (by decide)
    · exact h
  exact h

/-! ### plain data as the library's -/
mutual
def toP : D → PyData
  | .non => .none
  | .bl b => .bool b
  | .int i => .int i
  | .str s => .str (Str.ofString s)
  | .tup xs => .tuple (toPs xs)
  | .lst xs => .list (toPs xs)
  | _ => .none
def toPs : List D → List PyData
  | [] => []
  | x :: xs => toP x :: toPs xs
end
theorem toPs_map : ∀ xs : List D, toPs xs = xs.map toP
  | [] => rfl
  | x :: xs => by
    rw [toPs, toPs_map xs]
    rfl
mutual
theorem toP_lay : ∀ d : D, plnD d = true → (toP d).canLay0 = true
  | .non, _ => by simp [toP, PyData.canLay0]
  | .bl _, _ => by simp [toP, PyData.canLay0]
  | .int _, _ => by simp [toP, PyData.canLay0]
  | .str s, _ => by simp [toP, PyData.canLay0,  strOk_of]
  | .tup xs, h => by
    rw [plnD] at h
    simp only [toP, PyData.canLay0]
    exact toPs_lay xs h
  | .lst xs, h => by
    rw [plnD] at h
    simp only [toP, PyData.canLay0]
    exact toPs_lay xs h
  | .dic _, h => by simp [plnD] at h
  | .obj _ _, h => by simp [plnD] at h
  | .fn _, h => by simp [plnD] at h
  | .scr _, h => by simp [plnD] at h
theorem toPs_lay : ∀ xs : List D, plnL xs = true → PyData.canLayAll0 (toPs xs) = true
  | [], _ => by simp [toPs, PyData.canLayAll0]
  | x :: xs, h => by
    rw [plnL, Bool.and_eq_true] at h
    simp only [toPs, PyData.canLayAll0, Bool.and_eq_true]
    exact ⟨toP_lay x h.1, toPs_lay xs h.2⟩
end
mutual
theorem toP_depth : ∀ d : D, (toP d).depth = MP.dptD d
  | .non => by simp [toP, PyData.depth, MP.dptD]
  | .bl _ => by simp [toP, PyData.depth, MP.dptD]
  | .int _ => by simp [toP, PyData.depth, MP.dptD]
  | .str s => by simp [toP, PyData.depth, MP.dptD]
  | .tup xs => by simp only [toP, PyData.depth, MP.dptD, toPs_depth xs]
  | .lst xs => by simp only [toP, PyData.depth, MP.dptD, toPs_depth xs]
  | .dic _ => by simp [toP, PyData.depth, MP.dptD]
  | .obj _ _ => by simp [toP, PyData.depth, MP.dptD]
  | .fn _ => by simp [toP, PyData.depth, MP.dptD]
  | .scr _ => by simp [toP, PyData.depth, MP.dptD]
theorem toPs_depth : ∀ xs : List D, PyData.depthAll (toPs xs) = MP.dptL xs
  | [] => by simp [toPs, PyData.depthAll, MP.dptL]
  | x :: xs => by simp only [toPs, PyData.depthAll, MP.dptL, toP_depth x, toPs_depth xs]
end
theorem shaped_of {d : D} (h : pl d = true) : SeqAt.shaped (toP d) = true := by
  unfold pl at h
  rw [Bool.and_eq_true] at h
  unfold SeqAt.shaped
  rw [toP_lay d h.1, toP_depth]
  have := of_decide_eq_true h.2
  simp
  omega
theorem str_beq (a b : String) : (Str.ofString a == Str.ofString b) = (a == b) := by
  by_cases h : a = b
  · subst h
    simp
  · rw [beq_eq_false_iff_ne.mpr h, beq_eq_false_iff_ne.mpr fun z => h (ofString_inj z)]
mutual
theorem eqD_eqv : ∀ a b : D, plnD a = true → plnD b = true → eqD a b = PyData.eqv (toP a) (toP b)
  | .non, b, _, hb => by cases b <;> simp [eqD, toP, PyData.eqv, plnD] at hb ⊢
  | .bl _, b, _, hb => by cases b <;> simp [eqD, toP, PyData.eqv, plnD] at hb ⊢
  | .int _, b, _, hb => by cases b <;> simp [eqD, toP, PyData.eqv, plnD] at hb ⊢
  | .str s, b, _, hb => by
    cases b
    case str t =>
      simp only [eqD, toP, PyData.eqv]
      exact (str_beq s t).symm
    all_goals simp [eqD, toP, PyData.eqv, plnD] at hb ⊢
  | .tup xs, b, ha, hb => by
    cases b <;> simp [eqD, toP, PyData.eqv, plnD] at ha hb ⊢
    exact eqL_eqv xs _ ha hb
  | .lst xs, b, ha, hb => by
    cases b <;> simp [eqD, toP, PyData.eqv, plnD] at ha hb ⊢
    exact eqL_eqv xs _ ha hb
  | .dic _, b, ha, hb => by simp [plnD] at ha
  | .obj _ _, b, ha, hb => by simp [plnD] at ha
  | .fn _, b, ha, hb => by simp [plnD] at ha
  | .scr _, b, ha, hb => by simp [plnD] at ha
theorem eqL_eqv : ∀ a b : List D, plnL a = true → plnL b = true → eqL a b = PyData.eqvAll (toPs a) (toPs b)
  | [], [], _, _ => by simp [eqL, toPs, PyData.eqvAll]
  | [], _ :: _, _, _ => by simp [eqL, toPs, PyData.eqvAll]
  | _ :: _, [], _, _ => by simp [eqL, toPs, PyData.eqvAll]
  | x :: xs, y :: ys, ha, hb => by
    rw [plnL, Bool.and_eq_true] at ha hb
    simp only [eqL, toPs, PyData.eqvAll, eqD_eqv x y ha.1 hb.1, eqL_eqv xs ys ha.2 hb.2]
end
section
variable {c : Fc} {ρ : Rho} {G G' H H' : Hp} {τ : List (Addr × D)} {σ : L2.St} {W : WX} {Q : VK} {w : Wd}
mutual
theorem Rep.dp (s : Same G H) : ∀ {v : V} {d : D}, plnD d = true → Rep w G v d → Dp w.K H v (toP d)
  | _, _, _, .non => by simp only [toP]; exact .non
  | _, _, _, .bl b => by simp only [toP]; exact .bl b
  | _, _, _, .int i => by simp only [toP]; exact .int i
  | _, _, _, .str x => by simp only [toP]; exact .str _
  | _, _, h, .tup e r => by
    rw [plnD] at h
    simp only [toP]
    exact .tup (.inl (.inl (s _ _ e))) (RepL.dp s h r)
  | _, _, h, .lst e r => by
    rw [plnD] at h
    simp only [toP]
    exact .lst (.inl (.inl (s _ _ e))) (RepL.dp s h r)
  | _, _, h, .obj _ _ _ => by simp [plnD] at h
  | _, _, h, .fn _ => by simp [plnD] at h
  | _, _, h, .scr _ => by simp [plnD] at h
theorem RepL.dp (s : Same G H) : ∀ {vs : List V} {ds : List D}, plnL ds = true → RepL w G vs ds → DpAll w.K H vs (toPs ds)
  | _, _, _, .nil => by simp only [toPs]; exact .nil
  | _, _, h, .cons e r => by
    rw [plnL, Bool.and_eq_true] at h
    simp only [toPs]
    exact .cons (Rep.dp s h.1 e) (RepL.dp s h.2 r)
end
theorem RepT.dp (s : Same G H) {v : V} {d : D} (h : plnD d = true) (r : RepT w G H v d) : Dp w.K H v (toP d) := by
  rcases r with r | ⟨a, o, rfl, e, r⟩
  · exact r.dp s h
  · cases r with
    | lst r =>
      rw [plnD] at h
      simp only [toP]
      exact .lst (.inl (.inl e)) (r.dp s h)
    | obj _ r => simp [plnD] at h
theorem pl_plain {d : D} (h : pl d = true) : plnD d = true := by
  unfold pl at h
  rw [Bool.and_eq_true] at h
  exact h.1

/-! ### operators -/
theorem OpR.or {X : Cx} {f : Value → Value → Sem Value} {r r' : R2} (h : OpR X f r) (h' : OpR X f r') : OpR X f (fun x y H Q => r x y H Q ∨ r' x y H Q) := fun pins s σ H x y v u Q I rx ry q => by
  rcases q with q | q
  · exact h pins s σ H x y v u Q I rx ry q
  · exact h' pins s σ H x y v u Q I rx ry q
def bop : Bop → Operator
  | .add => .Add
  | .sub => .Sub
  | .mul => .Mult
  | .fdiv => .FloorDiv
  | .mod => .Mod
  | .pow => .Pow
def rBin (K : PySem.W.Frag) : Bop → R2
  | .add => fun x y H Q => rI0 (fun i j => .int (i + j)) x y H Q ∨ (rCat x y H Q ∨ rCatA K x y H Q)
  | .sub => rI0 fun i j => .int (i - j)
  | .mul => fun x y H Q => rI CMul (fun i j => .int (i * j)) x y H Q ∨ (rI CMulW (fun i j => .int (i * j)) x y H Q ∨ (rRep x y H Q ∨ rRepT K x y H Q))
  | .fdiv => rI CDivN fun i j => .int (i.fdiv j)
  | .mod => rI (fun _ j => j ≠ 0) fun i j => .int (i.fmod j)
  | .pow => rI CPow fun i j => .int (i ^ j.toNat)
theorem op_bin {X : Cx} : ∀ op : Bop, OpR X (binaryOp (bop op)) (rBin X.K op)
  | .add => OpR.or op_add (OpR.or op_cat op_catA)
  | .sub => op_sub
  | .mul => OpR.or op_mul (OpR.or op_mulW (OpR.or op_rep op_repT))
  | .fdiv => op_fdivN
  | .mod => op_modN
  | .pow => op_pow
theorem rep_flat {vs : List V} {ds : List D} (r : RepL w G vs ds) : ∀ n : Nat, RepL w G (List.replicate n vs).flatten (List.replicate n ds).flatten
  | 0 => .nil
  | n + 1 => by
    rw [List.replicate_succ, List.replicate_succ, List.flatten_cons, List.flatten_cons]
    exact r.append (rep_flat r n)
theorem sl_eq : sizeLine = SL := sizeLine_eq
theorem lt64 {i : Int} (h : i.natAbs < 2 ^ 64) : -(2 ^ 64) < i ∧ i < 2 ^ 64 := by omega
theorem mulOk_of {i j : Int} (h : mulOk i j = true) : CMul i j ∨ CMulW i j := by
  unfold mulOk at h
  rcases Bool.or_eq_true_iff.mp h with h | h
  · rcases Bool.or_eq_true_iff.mp h with h | h
    · exact .inl (.inl (lt64 (of_decide_eq_true h)))
    · exact .inl (.inr (lt64 (of_decide_eq_true h)))
  · have h' := Bool.and_eq_true_iff.mp h
    exact .inr (wide_mul (of_decide_eq_true h'.1) (of_decide_eq_true h'.2) (Nat.zero_lt_succ _) (Nat.zero_lt_succ _) (Nat.le_of_ble_eq_true rfl))
theorem bin_ok {op : Bop} {x y : V} {d e : D} (S : Stt c ρ G τ H σ) (hx : RepT c.w G H x d) (hy : RepT c.w G H y e) (q : Post c W σ G τ Q (newO ρ (binOp op d e))) : rBin c.w.K op x y H Q := by
  have here : ∀ i : Int, Post c W σ G τ Q (newO ρ (some (.int i))) → Q (.int i) H := fun i q => post_here S q (.int i)
  cases op
  case add =>
    cases d <;> cases e <;> first | exact False.elim q | skip
    case int.int =>
      cases hx.int
      cases hy.int
      exact .inl ⟨_, _, rfl, rfl, here _ q⟩
    case tup.tup =>
      simp only [binOp] at q
      split at q
      · rename_i hl
        obtain ⟨a, vs, rfl, ea, ra, ga⟩ := hx.tup S.gh
        obtain ⟨b, us, rfl, eb, rb, gb⟩ := hy.tup S.gh
        refine .inr (.inr ⟨a, b, vs, us, rfl, rfl, .inl (.inl ea), .inl (.inl eb), ?_, fun z => ?_, fun _ z => ?_, fun _ _ p hp => post_tup S q (ra.append rb) hp⟩)
        · rw [ra.length, rb.length, sl_eq]
          exact hl
        · subst z
          cases ra
          exact post_here S q (.tup gb rb)
        · subst z
          cases rb
          exact post_here S q (.tup ga (by rw [List.append_nil]; exact ra))
      · exact False.elim q
    case lst.lst =>
      simp only [binOp] at q
      split at q
      · rename_i hl
        obtain ⟨a, vs, rfl, ea, ra⟩ := hx.lst S.gh
        obtain ⟨b, us, rfl, eb, rb⟩ := hy.lst S.gh
        refine .inr (.inl ⟨a, b, vs, us, rfl, rfl, ea, eb, ?_, fun p hp => post_lst S q (ra.append rb) hp⟩)
        rw [ra.length, rb.length, sl_eq]
        exact hl
      · exact False.elim q
  case sub =>
    cases d <;> cases e <;> first | exact False.elim q | skip
    cases hx.int
    cases hy.int
    exact ⟨_, _, rfl, rfl, here _ q⟩
  case mul =>
    cases d <;> cases e <;> first | exact False.elim q | skip
    case int.int i j =>
      cases hx.int
      cases hy.int
      simp only [binOp] at q
      split at q
      · rename_i hm
        rcases mulOk_of hm with hm | hm
        · exact .inl ⟨_, _, rfl, rfl, hm, here _ q⟩
        · exact .inr (.inl ⟨_, _, rfl, rfl, hm, here _ q⟩)
      · exact False.elim q
    case tup.int ds k =>
      cases hy.int
      simp only [binOp] at q
      split at q
      · rename_i hm
        obtain ⟨a, vs, rfl, ea, ra, ga⟩ := hx.tup S.gh
        refine .inr (.inr (.inr ⟨a, k, vs, rfl, rfl, .inl (.inl ea), ?_, hm.1, hm.2.1, by rw [ra.length]; exact hm.2.2.1, fun p hp => post_tup S q (rep_flat ra _) hp⟩))
        intro z
        subst z
        have := ra.length
        have h0 := hm.2.2.2
        simp at this
        omega
      · exact False.elim q
    case lst.int ds k =>
      cases hy.int
      simp only [binOp] at q
      split at q
      · rename_i hm
        obtain ⟨a, vs, rfl, ea, ra⟩ := hx.lst S.gh
        exact .inr (.inr (.inl ⟨a, k, vs, rfl, rfl, ea, by omega, by omega, by rw [ra.length, sl_eq]; exact hm.2.2, fun p hp => post_lst S q (rep_flat ra _) hp⟩))
      · exact False.elim q
  case fdiv =>
    cases d <;> cases e <;> first | exact False.elim q | skip
    cases hx.int
    cases hy.int
    simp only [binOp] at q
    split at q
    · rename_i hm
      exact ⟨_, _, rfl, rfl, hm, here _ q⟩
    · exact False.elim q
  case mod =>
    cases d <;> cases e <;> first | exact False.elim q | skip
    cases hx.int
    cases hy.int
    simp only [binOp] at q
    split at q
    · rename_i hm
      exact ⟨_, _, rfl, rfl, hm, here _ q⟩
    · exact False.elim q
  case pow =>
    cases d <;> cases e <;> first | exact False.elim q | skip
    cases hx.int
    cases hy.int
    simp only [binOp] at q
    split at q
    · rename_i hm
      exact ⟨_, _, rfl, rfl, hm, here _ q⟩
    · exact False.elim q

/-! ### comparisons -/
def cop : Cop → CmpOp
  | .eq => .Eq
  | .ne => .NotEq
  | .lt => .Lt
  | .le => .LtE
  | .gt => .Gt
  | .ge => .GtE
  | .isin => .In
  | .notin => .NotIn
  | .is => .Is
  | .isnot => .IsNot
def rInT (K : PySem.W.Frag) : R2 := fun x y H Q => ∃ d ds, Dp K H x d ∧ Dp K H y (.tuple ds) ∧ SeqAt.shaped d = true ∧ SeqAt.shaped (.tuple ds) = true ∧ Q (.bl (ds.any fun z => PyData.eqv z d)) H
def rNotInT (K : PySem.W.Frag) : R2 := fun x y H Q => ∃ d ds, Dp K H x d ∧ Dp K H y (.tuple ds) ∧ SeqAt.shaped d = true ∧ SeqAt.shaped (.tuple ds) = true ∧ Q (.bl (!ds.any fun z => PyData.eqv z d)) H
theorem lay_tup {ds : List PyData} (h : SeqAt.shaped (.tuple ds) = true) : PyData.canLayAll0 ds = true := by
  have := SeqAt.canLay_of_shaped h
  simpa [PyData.canLay0] using this
theorem op_inT {X : Cx} (hu : X.A.units + 65 < cLine) : OpR X (compareOp .In) (rInT X.K) := by
  intro pins s σ H x y v u Q I rx ry h
  obtain ⟨d, ds, hd, he, sd, se, q⟩ := h
  obtain ⟨as, r1⟩ := Dp.reads I d x v hd rx
  obtain ⟨bs, r2⟩ := Dp.reads I (.tuple ds) y u he ry
  exact SeqAt.in_tuple_reads r2 r1 (lay_tup se) (SeqAt.canLay_of_shaped sd) (PyProof.Rows.room_in_shaped sd hu) ⟨.bl _, H, I, rfl, q⟩
theorem op_notInT {X : Cx} (hu : X.A.units + 65 < cLine) : OpR X (compareOp .NotIn) (rNotInT X.K) := by
  intro pins s σ H x y v u Q I rx ry h
  obtain ⟨d, ds, hd, he, sd, se, q⟩ := h
  obtain ⟨as, r1⟩ := Dp.reads I d x v hd rx
  obtain ⟨bs, r2⟩ := Dp.reads I (.tuple ds) y u he ry
  exact SeqAt.notIn_tuple_reads r2 r1 (lay_tup se) (SeqAt.canLay_of_shaped sd) (PyProof.Rows.room_in_shaped sd hu) ⟨.bl _, H, I, rfl, q⟩
def rIsNn : R2 := fun x y H Q => y = .non ∧ Q (.bl (decide (x = .non))) H
def rNotNn : R2 := fun x y H Q => y = .non ∧ Q (.bl (!decide (x = .non))) H
def rIsBb : R2 := fun x y H Q => ∃ a b, x = .bl a ∧ y = .bl b ∧ Q (.bl (decide (a = b))) H
def rNotBb : R2 := fun x y H Q => ∃ a b, x = .bl a ∧ y = .bl b ∧ Q (.bl (!decide (a = b))) H
def rCmp (K : PySem.W.Frag) : Cop → R2
  | .eq => rEqD K
  | .ne => rNeD K
  | .lt => fun x y H Q => rI0 (fun i j => .bl (decide (i < j))) x y H Q ∨ rLtT K x y H Q
  | .le => rI0 fun i j => .bl (decide (i ≤ j))
  | .gt => rI0 fun i j => .bl (decide (j < i))
  | .ge => rI0 fun i j => .bl (decide (j ≤ i))
  | .isin => fun x y H Q => rInD K x y H Q ∨ rInT K x y H Q
  | .notin => fun x y H Q => rNotInD K x y H Q ∨ rNotInT K x y H Q
  | .is => fun x y H Q => rIsNn x y H Q ∨ rIsBb x y H Q
  | .isnot => fun x y H Q => rNotNn x y H Q ∨ rNotBb x y H Q
theorem op_cmp {X : Cx} (hu : X.A.units + 100 < cLine) : ∀ op : Cop, OpR X (compareOp (cop op)) (rCmp X.K op)
  | .eq => op_eqD (by omega)
  | .ne => op_neD (by omega)
  | .lt => OpR.or op_lt (op_ltT (by omega))
  | .le => op_le
  | .gt => op_gt
  | .ge => op_ge
  | .isin => OpR.or (op_inD (by omega)) (op_inT (by omega))
  | .notin => OpR.or (op_notInD (by omega)) (op_notInT (by omega))
  | .is => OpR.or op_isN op_is_bl
  | .isnot => OpR.or op_notN op_isnot_bl
theorem ints_rep : ∀ {vs : List V} {ds : List D}, RepL w G vs ds → allInts ds = true → ∃ ns : List Int, vs = ns.map V.int ∧ ds = ns.map D.int
  | _, _, .nil, _ => ⟨[], rfl, rfl⟩
  | _, _, .cons (d := d) h r, e => by
    cases d with
    | int i =>
      obtain ⟨ns, h1, h2⟩ := ints_rep r (by simpa [allInts] using e)
      cases h
      exact ⟨i :: ns, by rw [h1]; rfl, by rw [h2]; rfl⟩
    | _ => simp [allInts] at e
theorem ltL_lex : ∀ ns ms : List Int, ltL (ns.map D.int) (ms.map D.int) = HT.lexLt ns ms
  | [], [] => by simp [ltL, HT.lexLt]
  | [], _ :: _ => by simp [ltL, HT.lexLt]
  | _ :: _, [] => by simp [ltL, HT.lexLt]
  | x :: xs, y :: ys => by
    simp only [List.map_cons, ltL, eqD, ltD, HT.lexLt, ltL_lex xs ys]
    by_cases h : x = y
    · subst h
      simp
    · simp [h]
theorem mem_any (x : D) (hx : plnD x = true) : ∀ ys : List D, plnL ys = true → memD x ys = (toPs ys).any fun z => PyData.eqv z (toP x)
  | [], _ => by simp [memD, toPs]
  | y :: ys, h => by
    rw [plnL, Bool.and_eq_true] at h
    simp only [memD, toPs, List.any_cons, eqD_eqv y x h.1 hx, mem_any x hx ys h.2]
theorem cmp_ok {op : Cop} {x y : V} {d e : D} (S : Stt c ρ G τ H σ) (hx : RepT c.w G H x d) (hy : RepT c.w G H y e) (q : Post c W σ G τ Q (ofB ρ (cmpOp op d e))) : rCmp c.w.K op x y H Q := by
  have here : ∀ b : Bool, Post c W σ G τ Q (ofB ρ (some b)) → Q (.bl b) H := fun b q => post_here S q (.bl b)
  have eqs : ∀ r : Bool → Bool, Post c W σ G τ Q (ofB ρ ((isEq d e).map r)) → ∃ p p', Dp c.w.K H x p ∧ Dp c.w.K H y p' ∧ SeqAt.shaped p = true ∧ SeqAt.shaped p' = true ∧ Q (.bl (r (PyData.eqv p p'))) H := by
    intro r q
    by_cases hs : ∃ ns, d = .scr ns ∧ e = .lst []
    · obtain ⟨ns, rfl, rfl⟩ := hs
      obtain ⟨a, rfl, ea⟩ := hx.scr S.gh
      obtain ⟨b, vs, rfl, eb, rb⟩ := hy.lst S.gh
      cases rb
      have hd : ∀ ns : List Int, DpAll c.w.K H (ns.map V.int) (ns.map PyData.int) := fun ns => by
        induction ns with
        | nil => exact .nil
        | cons i r ih => exact .cons (.int i) ih
      have hlay : ∀ ns : List Int, PyData.canLayAll0 (ns.map PyData.int) = true ∧ PyData.depthAll (ns.map PyData.int) = 0 := fun ns => by
        induction ns with
        | nil => simp [PyData.canLayAll0, PyData.depthAll]
        | cons i r ih => simp [PyData.canLayAll0, PyData.depthAll, PyData.canLay0, PyData.depth, ih]
      refine ⟨.list (ns.map PyData.int), .list [], .lst ea (hd ns), .lst (.inl (.inl eb)) .nil, ?_, ?_, ?_⟩
      · unfold SeqAt.shaped
        simp [PyData.canLay0, PyData.depth, hlay ns]
      · unfold SeqAt.shaped
        simp [PyData.canLay0, PyData.depth, PyData.canLayAll0, PyData.depthAll]
      · have e : PyData.eqv (.list (ns.map PyData.int)) (.list []) = ns.isEmpty := by
          cases ns <;> simp [PyData.eqv, PyData.eqvAll]
        rw [e]
        exact here _ q
    · have e1 : isEq d e = if pl d && pl e then some (eqD d e) else none := by
        unfold isEq
        split
        · exact absurd ⟨_, rfl, rfl⟩ hs
        · rfl
      rw [e1] at q
      split at q
      · rename_i h
        rw [Bool.and_eq_true] at h
        have e2 := eqD_eqv d e (pl_plain h.1) (pl_plain h.2)
        rw [e2] at q
        exact ⟨toP d, toP e, hx.dp S.gh (pl_plain h.1), hy.dp S.gh (pl_plain h.2), shaped_of h.1, shaped_of h.2, here _ q⟩
      · exact False.elim q
  have ins : ∀ r : Bool → Bool, Post c W σ G τ Q (ofB ρ ((isIn d e).map r)) → (∃ p ps, Dp c.w.K H x p ∧ Dp c.w.K H y (.list ps) ∧ SeqAt.shaped p = true ∧ SeqAt.shaped (.list ps) = true ∧ Q (.bl (r (ps.any fun z => PyData.eqv z p))) H) ∨
      (∃ p ps, Dp c.w.K H x p ∧ Dp c.w.K H y (.tuple ps) ∧ SeqAt.shaped p = true ∧ SeqAt.shaped (.tuple ps) = true ∧ Q (.bl (r (ps.any fun z => PyData.eqv z p))) H) := by
    intro r q
    unfold isIn at q
    split at q
    · split at q
      · rename_i ys _ h
        rw [Bool.and_eq_true] at h
        have h2 := pl_plain h.2
        have e2 := mem_any d (pl_plain h.1) ys (by simpa [plnD] using h2)
        rw [e2] at q
        have dp := hy.dp S.gh h2
        have sh := shaped_of h.2
        simp only [toP] at dp sh
        exact .inl ⟨toP d, toPs ys, hx.dp S.gh (pl_plain h.1), dp, shaped_of h.1, sh, here _ q⟩
      · exact False.elim q
    · split at q
      · rename_i ys _ h
        rw [Bool.and_eq_true] at h
        have h2 := pl_plain h.2
        have e2 := mem_any d (pl_plain h.1) ys (by simpa [plnD] using h2)
        rw [e2] at q
        have dp := hy.dp S.gh h2
        have sh := shaped_of h.2
        simp only [toP] at dp sh
        exact .inr ⟨toP d, toPs ys, hx.dp S.gh (pl_plain h.1), dp, shaped_of h.1, sh, here _ q⟩
      · exact False.elim q
    · exact False.elim q
  have iss : ∀ r : Bool → Bool, Post c W σ G τ Q (ofB ρ ((isOp d e).map r)) → (y = .non ∧ Q (.bl (r (decide (x = .non)))) H) ∨ ∃ a b, x = .bl a ∧ y = .bl b ∧ Q (.bl (r (decide (a = b)))) H := by
    intro r q
    have nn : ∀ {z : V} {d : D}, RepT c.w G H z d → d ≠ .non → z ≠ .non := fun h hd hz => by
      subst hz
      rcases h with h | ⟨a, o, h, _⟩
      · cases h
        exact hd rfl
      · cases h
    have yn : ∀ {z : V}, RepT c.w G H z .non → z = .non := fun h => by
      rcases h with h | ⟨a, o, h, _, z⟩
      · cases h
        rfl
      · cases z
    by_cases he : e = .non
    · subst he
      refine .inl ⟨yn hy, ?_⟩
      by_cases hd : d = .non
      · subst hd
        rw [yn hx]
        exact here _ q
      · rw [decide_eq_false (nn hx hd)]
        have e1 : isOp d .non = some false := by cases d <;> first | rfl | exact absurd rfl hd
        rw [e1] at q
        exact here _ q
    · cases d <;> cases e <;> first | exact False.elim q | exact absurd rfl he | skip
      rename_i a b _
      refine .inr ⟨a, b, hx.bl, hy.bl, ?_⟩
      have e1 : decide (a = b) = (a == b) := by cases a <;> cases b <;> rfl
      rw [e1]
      exact here _ q
  cases op
  case eq => exact eqs id (by simpa [cmpOp] using q)
  case ne => exact eqs (!·) q
  case lt =>
    cases d <;> cases e <;> first | exact False.elim q | skip
    case int.int =>
      cases hx.int
      cases hy.int
      exact .inl ⟨_, _, rfl, rfl, here _ q⟩
    case tup.tup ds es =>
      simp only [cmpOp] at q
      split at q
      · rename_i h
        rw [Bool.and_eq_true] at h
        obtain ⟨a, vs, rfl, ea, ra, ga⟩ := hx.tup S.gh
        obtain ⟨b, us, rfl, eb, rb, gb⟩ := hy.tup S.gh
        obtain ⟨ns, rfl, rfl⟩ := ints_rep ra h.1
        obtain ⟨ms, rfl, rfl⟩ := ints_rep rb h.2
        rw [ltL_lex] at q
        exact .inr ⟨a, b, ns, ms, rfl, rfl, .inl (.inl ea), .inl (.inl eb), here _ q⟩
      · exact False.elim q
  case le =>
    cases d <;> cases e <;> first | exact False.elim q | skip
    cases hx.int
    cases hy.int
    exact ⟨_, _, rfl, rfl, here _ q⟩
  case gt =>
    cases d <;> cases e <;> first | exact False.elim q | skip
    cases hx.int
    cases hy.int
    exact ⟨_, _, rfl, rfl, here _ q⟩
  case ge =>
    cases d <;> cases e <;> first | exact False.elim q | skip
    cases hx.int
    cases hy.int
    exact ⟨_, _, rfl, rfl, here _ q⟩
  case isin => exact ins id (by simpa [cmpOp] using q)
  case notin => exact ins (!·) q
  case is => exact iss id (by simpa [cmpOp] using q)
  case isnot => exact iss (!·) q
end
end MPS
end
section
set_option Elab.async false
set_option linter.all false
set_option maxRecDepth 100000
set_option maxHeartbeats 2000000
/-! MpC: built-ins by values. -/
namespace MPS
open PySem L2 MP
section
variable {c : Fc} {ρ : Rho} {G G' H H' : Hp} {τ : List (Addr × D)} {σ : L2.St} {W : WX} {Q : VK} {w : Wd}
theorem CallR.or {X : Cx} {f : Value} {r r' : List V → Hp → VK → Prop} (h : CallR X f r) (h' : CallR X f r') : CallR X f (fun xs H Q => r xs H Q ∨ r' xs H Q) := fun pins s σ H xs us Q I rx q => by
  rcases q with q | q
  · exact h pins s σ H xs us Q I rx q
  · exact h' pins s σ H xs us Q I rx q
theorem CallR.imp {X : Cx} {f : Value} {r r' : List V → Hp → VK → Prop} (h : CallR X f r) (i : ∀ xs H Q, r' xs H Q → r xs H Q) : CallR X f r' := fun pins s σ H xs us Q I rx q => h pins s σ H xs us Q I rx (i _ _ _ q)

/-! ### sorted, of alike plain data -/
mutual
theorem alk_alike : ∀ a b : D, alk a b = true → PySem.W.alike (toP a) (toP b) = true
  | .non, b, h => by cases b <;> simp [alk, toP, PySem.W.alike] at h ⊢
  | .bl _, b, h => by cases b <;> simp [alk, toP, PySem.W.alike] at h ⊢
  | .int _, b, h => by cases b <;> simp [alk, toP, PySem.W.alike] at h ⊢
  | .str _, b, h => by cases b <;> simp [alk] at h
  | .tup xs, b, h => by
    cases b <;> simp [alk, toP, PySem.W.alike] at h ⊢
    exact alkL_alike xs _ h
  | .lst xs, b, h => by
    cases b <;> simp [alk, toP, PySem.W.alike] at h ⊢
    exact alkL_alike xs _ h
  | .dic _, b, h => by cases b <;> simp [alk] at h
  | .obj _ _, b, h => by cases b <;> simp [alk] at h
  | .fn _, b, h => by cases b <;> simp [alk] at h
  | .scr _, b, h => by cases b <;> simp [alk] at h
theorem alkL_alike : ∀ a b : List D, alkL a b = true → PySem.W.alikeAll (toPs a) (toPs b) = true
  | [], [], _ => by simp [toPs, PySem.W.alikeAll]
  | [], _ :: _, _ => by simp [toPs, PySem.W.alikeAll]
  | _ :: _, [], _ => by simp [toPs, PySem.W.alikeAll]
  | x :: xs, y :: ys, h => by
    rw [alkL, Bool.and_eq_true] at h
    simp only [toPs, PySem.W.alikeAll, alk_alike x y h.1, alkL_alike xs ys h.2, Bool.and_self]
end
mutual
theorem ltD_lt : ∀ a b : D, plnD a = true → plnD b = true → alk a b = true → ltD a b = PySem.W.dataLt (toP a) (toP b)
  | .non, b, _, _, h => by
    cases b <;> simp [alk] at h
    simp [ltD, toP, PySem.W.dataLt_self]
  | .bl x, .bl y, _, _, _ => by
    simp only [ltD, toP, PySem.W.dataLt_bool]
    cases x <;> cases y <;> decide
  | .bl x, .non, _, _, h => by simp [alk] at h
  | .bl x, .int _, _, _, h => by simp [alk] at h
  | .bl x, .str _, _, _, h => by simp [alk] at h
  | .bl x, .tup _, _, _, h => by simp [alk] at h
  | .bl x, .lst _, _, _, h => by simp [alk] at h
  | .bl x, .dic _, _, _, h => by simp [alk] at h
  | .bl x, .obj _ _, _, _, h => by simp [alk] at h
  | .bl x, .fn _, _, _, h => by simp [alk] at h
  | .bl x, .scr _, _, _, h => by simp [alk] at h
  | .int x, b, _, _, h => by
    cases b <;> simp [alk] at h
    simp only [ltD, toP, PySem.W.dataLt_int]
  | .str _, b, _, _, h => by cases b <;> simp [alk] at h
  | .tup xs, b, ha, hb, h => by
    cases b <;> simp [alk] at h
    rename_i ys
    rw [plnD] at ha hb
    simp only [ltD, toP, PySem.W.dataLt_tuple]
    exact ltL_lt xs ys ha hb h
  | .lst xs, b, ha, hb, h => by
    cases b <;> simp [alk] at h
    rename_i ys
    rw [plnD] at ha hb
    simp only [ltD, toP, PySem.W.dataLt_list]
    exact ltL_lt xs ys ha hb h
  | .dic _, b, _, _, h => by cases b <;> simp [alk] at h
  | .obj _ _, b, _, _, h => by cases b <;> simp [alk] at h
  | .fn _, b, _, _, h => by cases b <;> simp [alk] at h
  | .scr _, b, _, _, h => by cases b <;> simp [alk] at h
theorem ltL_lt : ∀ a b : List D, plnL a = true → plnL b = true → alkL a b = true → ltL a b = PyProof.Rows.lexLt PyProof.Rows.itemOrd (PySem.W.keyToksAll (toPs a)) (PySem.W.keyToksAll (toPs b))
  | [], [], _, _, _ => by
    simp only [ltL, toPs]
    exact (PySem.W.dataLt_self (.tuple [])).symm
  | [], y :: ys, _, _, _ => by
    simp only [ltL, toPs, PySem.W.keyToksAll]
    rfl
  | x :: xs, [], _, _, _ => by
    simp only [ltL, toPs, PySem.W.keyToksAll]
    rfl
  | x :: xs, y :: ys, ha, hb, h => by
    rw [alkL, Bool.and_eq_true] at h
    rw [plnL, Bool.and_eq_true] at ha hb
    simp only [ltL, toPs]
    rw [PySem.W.dataLt_cons (alk_alike x y h.1), ← eqD_eqv x y ha.1 hb.1, ← ltD_lt x y ha.1 hb.1 h.1, ← ltL_lt xs ys ha.2 hb.2 h.2]
end

/-- the things with their data -/
theorem each_rel {X : Cx} {pins : List (Addr × Obj)} {s : Shared} (I : Inv X pins σ H s) (hK : X.K = w.K) (sg : Same G H) : ∀ {vs : List V} {ds : List D} {its : List Value}, RepL w G vs ds → plnL ds = true → Vals vs its →
    PySem.W.EachIs (fun (u : Value) (b : V × D) => RelV b.1 u) its (vs.zip ds) ∧ PySem.W.EachIs (fun (u : Value) (b : V × D) => ∃ as, Reads s.heap u (toP b.2) as) its (vs.zip ds) ∧ (vs.zip ds).map (·.2) = ds ∧ (vs.zip ds).map (·.1) = vs ∧ ∀ b ∈ vs.zip ds, Rep w G b.1 b.2
  | _, _, _, .nil, _, .nil => ⟨.nil, .nil, rfl, rfl, fun b hb => by simp at hb⟩
  | v :: vs, d :: ds, u :: its, .cons h r, hp, .cons q t => by
    rw [plnL, Bool.and_eq_true] at hp
    obtain ⟨h1, h2, h3, h4, h5⟩ := each_rel I hK sg r hp.2 t
    have dp := h.dp sg hp.1
    rw [← hK] at dp
    refine ⟨.cons q h1, .cons (Dp.reads I _ _ _ dp q) h2, ?_, ?_, ?_⟩
    · show d :: (vs.zip ds).map (·.2) = d :: ds
      rw [h3]
    · show v :: (vs.zip ds).map (·.1) = v :: vs
      rw [h4]
    · intro b hb
      rcases List.mem_cons.mp (show b ∈ (v, d) :: vs.zip ds from hb) with rfl | hb
      · exact h
      · exact h5 b hb
theorem each_vals : ∀ {us : List Value} {bs : List (V × D)}, PySem.W.EachIs (fun (u : Value) (b : V × D) => RelV b.1 u) us bs → Vals (bs.map (·.1)) us
  | _, _, .nil => .nil
  | _, _, .cons h r => .cons h (each_vals r)
theorem zip_repL : ∀ (bs : List (V × D)), (∀ b ∈ bs, Rep w G b.1 b.2) → RepL w G (bs.map (·.1)) (bs.map (·.2))
  | [], _ => .nil
  | b :: bs, h => .cons (h b List.mem_cons_self) (zip_repL bs fun b hb => h b (List.mem_cons_of_mem _ hb))
def rSortD (w : Wd) : List V → Hp → VK → Prop := fun xs H Q => ∃ a vs ds G, xs = [V.ref a] ∧ H a = some (.lst vs) ∧ Same G H ∧ RepL w G vs ds ∧ sortOk ds = true ∧
  ∀ p us, H p = none → RepL w G us (sortD ds) → Q (.ref p) (upd H p (.lst us))
theorem pln_all : ∀ {ds : List D}, (∀ x ∈ ds, plnD x = true) → plnL ds = true
  | [], _ => rfl
  | d :: ds, h => by
    rw [plnL, h d List.mem_cons_self, pln_all fun x hx => h x (List.mem_cons_of_mem _ hx)]
    rfl
theorem call_sortD {X : Cx} (hK : X.K = w.K) (hu : X.A.units + 100 < cLine) : CallR X (.builtin "sorted") (rSortD w) := by
  intro pins s σ H xs us Q I r h
  obtain ⟨a, vs, ds, G, rfl, ha, sg, rl, ok, q⟩ := h
  rw [Vals.ref1 r]
  obtain ⟨its, rv, hl, hz⟩ := I.list (xs := vs) (.inl (.inl ha))
  unfold sortOk at ok
  rw [Bool.and_eq_true, Bool.or_eq_true] at ok
  obtain ⟨ok1, ok2⟩ := ok
  simp only [List.all_eq_true, Bool.and_eq_true] at ok1 ok2
  have pls : ∀ x ∈ ds, pl x = true := fun x hx => (ok1 x hx).1
  have pln : ∀ x ∈ ds, plnD x = true := fun x hx => pl_plain (pls x hx)
  have alks : ∀ x ∈ ds, ∀ y ∈ ds, alk x y = true := fun x hx y hy => (ok1 x hx).2 y hy
  obtain ⟨h1, h2, h3, h4, h5⟩ := each_rel I hK sg rl (pln_all pln) rv
  have mem2 : ∀ b, b ∈ vs.zip ds → b.2 ∈ ds := fun b hb => by
    rw [← h3]
    exact List.mem_map_of_mem hb
  have e1 : (vs.zip ds).map (fun b => toP b.2) = ds.map toP := by
    have : (vs.zip ds).map (fun b => toP b.2) = ((vs.zip ds).map (·.2)).map toP := by rw [List.map_map]; rfl
    rw [this, h3]
  refine PySem.W.sorted_data (enc := fun b : V × D => toP b.2) hl.isList h1 h2 ?_ ?_ ?_ ?_ fun out ho hout => ?_
  · rw [e1]
    intro d hd d' hd'
    obtain ⟨x, hx, rfl⟩ := List.mem_map.mp hd
    obtain ⟨y, hy, rfl⟩ := List.mem_map.mp hd'
    exact alk_alike x y (alks x hx y hy)
  · rw [e1]
    rcases ok2 with ok2 | ok2
    · refine .inl fun d hd => ?_
      obtain ⟨x, hx, rfl⟩ := List.mem_map.mp hd
      have := ok2 x hx
      split at this
      · rename_i y ys
        exact ⟨toP y, toPs ys, by simp only [toP, toPs]⟩
      · cases this
    · refine .inr fun d hd => ?_
      obtain ⟨x, hx, rfl⟩ := List.mem_map.mp hd
      have h := ok2 x hx
      have hp := pln x hx
      cases x <;> simp [toP, plnD] at h hp ⊢
  · rw [← h1.length, ← rv.length]
    exact hz
  · intro b hb
    have hp := pls _ (mem2 b hb)
    unfold pl at hp
    rw [Bool.and_eq_true] at hp
    have hd := of_decide_eq_true hp.2
    rw [toP_depth]
    omega
  · have ev : ((vs.zip ds).mergeSort (PySem.W.dataLe false fun b : V × D => toP b.2)).map (·.2) = sortD ds := by
      unfold sortD
      rw [List.map_mergeSort (s := leD), h3]
      intro a ha b hb
      have ha' := mem2 a ha
      have hb' := mem2 b hb
      rw [PySem.W.dataLe_eq]
      show (!PySem.W.dataLt (toP b.2) (toP a.2)) = leD a.2 b.2
      unfold leD
      rw [ltD_lt b.2 a.2 (pln _ hb') (pln _ ha') (alks _ hb' _ ha')]
    obtain ⟨ep, he'⟩ := PyProof.Rows.sortedAll_at s.heap its out.toArray
    have rvs := each_vals hout
    have rr : RepL w G (((vs.zip ds).mergeSort (PySem.W.dataLe false fun b : V × D => toP b.2)).map (·.1)) (sortD ds) := by
      rw [← ev]
      exact zip_repL _ fun b hb => h5 b ((List.mergeSort_perm _ _).mem_iff.mp hb)
    have hlen : (((vs.zip ds).mergeSort (PySem.W.dataLe false fun b : V × D => toP b.2)).map (·.1)).length ≤ sizeLine := by
      rw [List.length_map, (List.mergeSort_perm _ _).length_eq, ← h1.length, ← rv.length]
      exact hz
    have he'' : (PyProof.Rows.sortedAll s.heap its out.toArray).get? (s.heap.objs.size + 1) = some { cls := .type "list", data := .seq out.toArray ep } := by
      first | exact he' | simpa using he'
    exact ⟨.ref _, upd H (s.heap.objs.size + 1) (.lst _), I.laid (t' := s.toks) (fun _ _ => PyProof.Rows.sortedAll_old) (Nat.le_succ _) ⟨hlen, out, ep, rvs, he''⟩, rfl, q _ _ (I.hok.fresh (Nat.le_succ _)) rr⟩
end
end MPS
end
section
set_option Elab.async false
set_option linter.all false
set_option maxRecDepth 100000
set_option maxHeartbeats 2000000
/-! MpC2: sets that are made and read at once; the built-ins together. -/
namespace MPS
open PySem L2 MP
section
variable {c : Fc} {ρ : Rho} {G G' H H' : Hp} {τ : List (Addr × D)} {σ : L2.St} {W : WX} {Q : VK} {w : Wd}
/-- the rows of a list of tuples of ints -/
theorem tups_of : ∀ {vs : List V} {ds : List D} {d : Nat}, RepL w G vs ds → ds.all (bdTup d) = true → ∃ ks : List (Addr × List Int), vs = ks.map (fun p => V.ref p.1) ∧ ds = ks.map (fun p => encZ p.2) ∧ ∀ p ∈ ks, G p.1 = some (.tup (p.2.map V.int)) ∧ p.2.length = d ∧ TS.Bd 1000 p.2
  | _, _, _, .nil, _ => ⟨[], rfl, rfl, fun p h => by simp at h⟩
  | v :: vs, e :: ds, d, .cons h r, ha => by
    rw [List.all_cons, Bool.and_eq_true] at ha
    obtain ⟨ks, h1, h2, h3⟩ := tups_of r ha.2
    have hb := ha.1
    cases e with
    | tup xs =>
      simp only [bdTup, Bool.and_eq_true, beq_iff_eq, List.all_eq_true] at hb
      obtain ⟨hl, hb⟩ := hb
      cases h with
      | tup e rl =>
        have hi : allInts xs = true := by
          clear hl e rl ha
          induction xs with
          | nil => rfl
          | cons x xs ih =>
            have hx := hb x List.mem_cons_self
            cases x <;> first | (simp at hx; done) | skip
            rw [allInts]
            exact ih fun y hy => hb y (List.mem_cons_of_mem _ hy)
        obtain ⟨ns, n1, n2⟩ := ints_rep rl hi
        subst n1 n2
        refine ⟨(_, ns) :: ks, by rw [h1]; rfl, by rw [h2]; rfl, fun p hp => ?_⟩
        rcases List.mem_cons.mp hp with rfl | hp
        · refine ⟨e, by simpa using hl, fun m hm => ?_⟩
          have := hb (.int m) (List.mem_map_of_mem hm)
          simp only [Bool.and_eq_true, decide_eq_true_eq] at this
          exact this
        · exact h3 p hp
    | _ => simp [bdTup] at hb
theorem code_le {B : Int} : ∀ {ns ms : List Int}, ns.length = ms.length → TS.Bd B ns → TS.Bd B ms → TS.code B ns ≤ TS.code B ms → ns ≤ ms
  | [], [], _, _, _, _ => List.le_refl _
  | [], _ :: _, h, _, _, _ => by simp at h
  | _ :: _, [], h, _, _, _ => by simp at h
  | x :: xs, y :: ys, hl, h1, h2, hc => by
    have hl' : xs.length = ys.length := by simpa using hl
    rcases Int.lt_trichotomy x y with h | h | h
    · intro z
      rw [List.cons_lt_cons_iff] at z
      rcases z with z | ⟨z, _⟩ <;> omega
    · subst h
      have hc' : TS.code B xs ≤ TS.code B ys := by
        rcases Int.lt_or_le (TS.code B ys) (TS.code B xs) with z | z
        · have := (TS.code_same (d := x) hl'.symm).mpr z
          omega
        · exact z
      have ih := code_le hl' h1.tail h2.tail hc'
      intro z
      rw [List.cons_lt_cons_iff] at z
      rcases z with z | ⟨_, z⟩
      · omega
      · exact ih z
    · have := TS.code_lt hl'.symm h2.tail h1.tail h
      omega
/-- sorted(set(xs)) -/
theorem sset_ok {P : Program} {wo : World} {x : V} {ds : List D} (S : Stt c ρ G τ H σ) (hx : RepT c.w G H x (.lst ds)) (q : Post c W σ G τ Q (ownO ρ (prim .sortedSet [.lst ds]))) :
    rSetOfT c.w.K P wo [x] H (fun v H2 => rSortedT c.w.K P wo [v] H2 Q ∨ rSortedSet wo [v] H2 Q) ∨ rSetOfI c.w.K wo [x] H (fun v H2 => rSortedT c.w.K P wo [v] H2 Q ∨ rSortedSet wo [v] H2 Q) := by
  simp only [prim] at q
  split at q
  · rename_i ok
    unfold setOk at ok
    rw [Bool.or_eq_true] at ok
    rcases ok with ok | ok
    rotate_left
    · unfold setOkI at ok
      rw [Bool.and_eq_true, decide_eq_true_eq] at ok
      obtain ⟨a, vs, rfl, ea, ra⟩ := hx.lst S.gh
      obtain ⟨ns, rfl, rfl⟩ := ints_rep ra ok.2
      have hn : ns.length < 64 := by simpa using ok.1
      refine .inr ⟨a, ns, rfl, .inl (.inl ea), hn, fun b cn hb hc => .inr ?_⟩
      have S2 : Stt c ρ G τ (upd H b (SetO wo b (fun j => decide (j ∈ ns)) cn)) σ := S.grow ⟨same_upd hb, Same.refl G, S.gh.trans (same_upd hb), fun _ _ e => .inl e⟩
      refine ⟨b, _, cn, rfl, upd_same, by omega, fun ms p pw hm _ hp => ?_⟩
      have e1 : ms = ssetI ns := ssetI_unique pw fun k => (hm k).trans (by simp)
      rw [sset_int, ← e1] at q
      refine post_lst S2 q ?_ hp
      have : ∀ ns : List Int, RepL c.w G (ns.map V.int) (ns.map D.int) := fun ns => by
        induction ns with
        | nil => exact .nil
        | cons i r ih => exact .cons (.int i) ih
      exact this ms
    left
    unfold setOkT at ok
    rw [Bool.and_eq_true, Bool.and_eq_true, decide_eq_true_eq, decide_eq_true_eq] at ok
    obtain ⟨⟨ok1, ok2⟩, ok3⟩ := ok
    obtain ⟨a, vs, rfl, ea, ra⟩ := hx.lst S.gh
    obtain ⟨ks, rfl, rfl, hk⟩ := tups_of ra ok3
    refine ⟨a, ks, rfl, .inl (.inl ea), fun p hp => .inl (.inl (S.gh _ _ (hk p hp).1)), by simpa using ok1, fun b L hb hL hL2 => ?_⟩
    have S2 : Stt c ρ G τ (upd H b (SetTO P wo b L)) σ := S.grow ⟨same_upd hb, Same.refl G, S.gh.trans (same_upd hb), fun _ _ e => .inl e⟩
    refine .inl ⟨b, L, _, 1000, rfl, upd_same, fun p hp => .inl (.inl (S2.gh _ _ (hk p (hL p hp)).1)), ok2, fun p hp => ⟨(hk p (hL p hp)).2.1, (hk p (hL p hp)).2.2⟩, fun L' p pm nd hl pw hp => ?_⟩
    have hL' : ∀ p ∈ L', p ∈ ks := fun p hp => hL p (pm.mem_iff.mp hp)
    have pw2 : L'.Pairwise (fun q r => q.2 ≤ r.2) := by
      refine List.Pairwise.imp_of_mem (fun {q r} hq hr h => ?_) pw
      exact code_le ((hk q (hL' q hq)).2.1.trans (hk r (hL' r hr)).2.1.symm) (hk q (hL' q hq)).2.2 (hk r (hL' r hr)).2.2 h
    have e1 : L'.map (·.2) = ssetZ (ks.map (·.2)) := by
      refine ssetZ_unique nd (List.pairwise_map.mpr pw2) fun z => ?_
      constructor
      · intro hz
        obtain ⟨p, hp, rfl⟩ := List.mem_map.mp hz
        exact List.mem_map_of_mem (hL' p hp)
      · intro hz
        obtain ⟨p, hp, rfl⟩ := List.mem_map.mp hz
        obtain ⟨r, hr, e⟩ := List.mem_map.mp (hL2 p hp)
        exact List.mem_map.mpr ⟨r, pm.mem_iff.mpr hr, e⟩
    have e2 : sortD (uniqD (ks.map fun p => encZ p.2)) = L'.map fun p => encZ p.2 := by
      have h1 : (ks.map fun p => encZ p.2) = (ks.map (·.2)).map encZ := by rw [List.map_map]; rfl
      have h2 : (L'.map fun p => encZ p.2) = (L'.map (·.2)).map encZ := by rw [List.map_map]; rfl
      rw [h1, h2, sset_enc, e1]
    rw [e2] at q
    refine post_lst S2 q ?_ hp
    clear pm nd hl pw pw2 e1 e2 q
    induction L' with
    | nil => exact .nil
    | cons p L' ih => exact .cons (.tup (hk p (hL' p List.mem_cons_self)).1 (by
        have : ∀ ns : List Int, RepL c.w G (ns.map V.int) (ns.map D.int) := fun ns => by
          induction ns with
          | nil => exact .nil
          | cons i r ih => exact .cons (.int i) ih
        exact this _)) (ih fun p hp => hL' p (List.mem_cons_of_mem _ hp))
  · exact False.elim q

/-! ### the built-ins -/
def primFn : Prim → String × Value
  | .len => ("len", .builtin "len")
  | .all => ("all", .builtin "all")
  | .any => ("any", .builtin "any")
  | .sum => ("sum", .builtin "sum")
  | .abs => ("abs", .builtin "abs")
  | .min2 => ("min", .builtin "min")
  | .max2 => ("max", .builtin "max")
  | .min1 => ("min", .builtin "min")
  | .max1 => ("max", .builtin "max")
  | .sorted => ("sorted", .builtin "sorted")
  | .tuple => ("tuple", .type "tuple")
  | .list => ("list", .type "list")
  | .sortedSet => ("", .none)
  | .lenSet => ("", .none)
def rPrim (w : Wd) : Prim → List V → Hp → VK → Prop
  | .len => fun xs H Q => ∃ p ys, xs = [.ref p] ∧ (SqL w.K H p ys ∨ SqT w.K H p ys) ∧ Q (.int ys.length) H
  | .all => rAll w.K
  | .any => rAny w.K
  | .sum => rSum w.K
  | .abs => fun xs H Q => ∃ i, xs = [.int i] ∧ Q (.int (if i < 0 then -i else i)) H
  | .min2 => fun xs H Q => ∃ i j, xs = [.int i, .int j] ∧ Q (.int (if j < i then j else i)) H
  | .max2 => fun xs H Q => ∃ i j, xs = [.int i, .int j] ∧ Q (.int (if j > i then j else i)) H
  | .min1 => rMin w.K
  | .max1 => rMax w.K
  | .sorted => rSortD w
  | .tuple => fun xs H Q => ∃ p ys, xs = [.ref p] ∧ ((SqL w.K H p ys ∧ ∀ l, H l = none → Q (.ref l) (upd H l (.tup ys))) ∨ (SqT w.K H p ys ∧ Q (.ref p) H))
  | .list => fun xs H Q => ∃ p ys, xs = [.ref p] ∧ (SqL w.K H p ys ∨ SqT w.K H p ys) ∧ ∀ l, H l = none → Q (.ref l) (upd H l (.lst ys))
  | .sortedSet => fun _ _ _ => False
  | .lenSet => fun _ _ _ => False
theorem call_prim {X : Cx} (hc : X.calm = true) (hu : X.A.units + 100 < cLine) (hK : X.K = w.K) : ∀ p : Prim, CallR X (primFn p).2 (rPrim w p)
  | .len => by
    show CallR X (.builtin "len") _
    unfold rPrim
    rw [← hK]
    exact call_len_seq
  | .all => by
    show CallR X (.builtin "all") _
    unfold rPrim
    rw [← hK]
    exact cr_all hc
  | .any => by
    show CallR X (.builtin "any") _
    unfold rPrim
    rw [← hK]
    exact cr_any hc
  | .sum => by
    show CallR X (.builtin "sum") _
    unfold rPrim
    rw [← hK]
    exact cr_sum hc
  | .abs => call_abs
  | .min2 => call_min2 hc
  | .max2 => call_max2 hc
  | .min1 => by
    show CallR X (.builtin "min") _
    unfold rPrim
    rw [← hK]
    exact cr_min hc
  | .max1 => by
    show CallR X (.builtin "max") _
    unfold rPrim
    rw [← hK]
    exact cr_max hc
  | .sorted => call_sortD hK hu
  | .tuple => by
    show CallR X (.type "tuple") _
    unfold rPrim
    rw [← hK]
    exact call_tuple_of
  | .list => by
    show CallR X (.type "list") _
    unfold rPrim
    rw [← hK]
    exact call_list_of
  | .sortedSet => fun _ _ _ _ _ _ _ _ _ h => h.elim
  | .lenSet => fun _ _ _ _ _ _ _ _ _ h => h.elim
theorem bools_rep : ∀ {vs : List V} {ds : List D} {bs : List Bool}, RepL w G vs ds → bools ds = some bs → vs = bs.map V.bl
  | _, _, _, .nil, e => by
    simp [bools] at e
    subst e
    rfl
  | _, d :: ds, bs, .cons h r, e => by
    cases d with
    | bl b =>
      cases h
      simp only [bools, Option.map_eq_some_iff] at e
      obtain ⟨bs', e1, rfl⟩ := e
      rw [bools_rep r e1]
      rfl
    | _ => simp [bools] at e
theorem sum_rep : ∀ {vs : List V} {ds : List D} {n : Int}, RepL w G vs ds → sumI ds = some n → ∃ ns : List Int, vs = ns.map V.int ∧ n = ns.sum
  | _, _, _, .nil, e => by
    simp [sumI] at e
    subst e
    exact ⟨[], rfl, rfl⟩
  | _, d :: ds, n, .cons h r, e => by
    cases d with
    | int i =>
      cases h
      simp only [sumI, Option.map_eq_some_iff] at e
      obtain ⟨m, e1, rfl⟩ := e
      obtain ⟨ns, rfl, rfl⟩ := sum_rep r e1
      exact ⟨i :: ns, rfl, by rw [List.sum_cons]⟩
    | _ => simp [sumI] at e
theorem min_rep : ∀ {vs : List V} {ds : List D} {m n : Int}, RepL w G vs ds → minI m ds = some n → ∃ ns : List Int, vs = ns.map V.int ∧ (n = m ∨ n ∈ ns) ∧ n ≤ m ∧ ∀ k ∈ ns, n ≤ k
  | _, _, m, n, .nil, e => by
    simp [minI] at e
    subst e
    exact ⟨[], rfl, .inl rfl, Int.le_refl _, fun k h => by simp at h⟩
  | _, d :: ds, m, n, .cons h r, e => by
    cases d with
    | int i =>
      cases h
      simp only [minI] at e
      obtain ⟨ns, rfl, h1, h2, h3⟩ := min_rep r e
      refine ⟨i :: ns, rfl, ?_, ?_, ?_⟩
      · rcases h1 with h1 | h1
        · split at h1
          · exact .inr (by rw [h1]; exact List.mem_cons_self)
          · exact .inl h1
        · exact .inr (List.mem_cons_of_mem _ h1)
      · split at h2 <;> omega
      · intro k hk
        rcases List.mem_cons.mp hk with rfl | hk
        · split at h2 <;> omega
        · exact h3 k hk
    | _ => simp [minI] at e
theorem max_rep : ∀ {vs : List V} {ds : List D} {m n : Int}, RepL w G vs ds → maxI m ds = some n → ∃ ns : List Int, vs = ns.map V.int ∧ (n = m ∨ n ∈ ns) ∧ m ≤ n ∧ ∀ k ∈ ns, k ≤ n
  | _, _, m, n, .nil, e => by
    simp [maxI] at e
    subst e
    exact ⟨[], rfl, .inl rfl, Int.le_refl _, fun k h => by simp at h⟩
  | _, d :: ds, m, n, .cons h r, e => by
    cases d with
    | int i =>
      cases h
      simp only [maxI] at e
      obtain ⟨ns, rfl, h1, h2, h3⟩ := max_rep r e
      refine ⟨i :: ns, rfl, ?_, ?_, ?_⟩
      · rcases h1 with h1 | h1
        · split at h1
          · exact .inr (by rw [h1]; exact List.mem_cons_self)
          · exact .inl h1
        · exact .inr (List.mem_cons_of_mem _ h1)
      · split at h2 <;> omega
      · intro k hk
        rcases List.mem_cons.mp hk with rfl | hk
        · split at h2 <;> omega
        · exact h3 k hk
    | _ => simp [maxI] at e
/-- a built-in of one value that is looked at -/
theorem prim1_ok {p : Prim} {x : V} {d : D} (S : Stt c ρ G τ H σ) (hx : RepT c.w G H x d) (q : Post c W σ G τ Q (if p.fresh then ownO ρ (prim p [d]) else ofO ρ (prim p [d]))) (h1 : p ≠ .sortedSet) (h2 : p ≠ .lenSet) : rPrim c.w p [x] H Q := by
  have int : ∀ i : Int, Post c W σ G τ Q (ofO ρ (some (.int i))) → Q (.int i) H := fun i q => post_here S q (.int i)
  have bl : ∀ b : Bool, Post c W σ G τ Q (ofO ρ (some (.bl b))) → Q (.bl b) H := fun b q => post_here S q (.bl b)
  cases p
  case sortedSet => exact absurd rfl h1
  case lenSet => exact absurd rfl h2
  case len =>
    cases d <;> first | exact False.elim q | skip
    case lst ds =>
      obtain ⟨a, vs, rfl, ea, ra⟩ := hx.lst S.gh
      refine ⟨a, vs, rfl, .inl (.inl (.inl ea)), ?_⟩
      rw [ra.length]
      exact int _ q
    case tup ds =>
      obtain ⟨a, vs, rfl, ea, ra, _⟩ := hx.tup S.gh
      refine ⟨a, vs, rfl, .inr (.inl (.inl ea)), ?_⟩
      rw [ra.length]
      exact int _ q
    case scr ns =>
      obtain ⟨a, rfl, ea⟩ := hx.scr S.gh
      refine ⟨a, _, rfl, .inl ea, ?_⟩
      rw [List.length_map]
      exact int _ q
  case all =>
    cases d <;> first | exact False.elim q | skip
    rename_i ds
    obtain ⟨a, vs, rfl, ea, ra⟩ := hx.lst S.gh
    have q : Post c W σ G τ Q (ofO ρ ((bools ds).map fun bs => .bl (bs.all id))) := q
    cases e : bools ds with
    | none =>
      rw [e] at q
      exact False.elim q
    | some bs =>
      rw [e] at q
      cases bools_rep ra e
      exact ⟨a, bs, rfl, .inl (.inl ea), bl _ q⟩
  case any =>
    cases d <;> first | exact False.elim q | skip
    rename_i ds
    obtain ⟨a, vs, rfl, ea, ra⟩ := hx.lst S.gh
    have q : Post c W σ G τ Q (ofO ρ ((bools ds).map fun bs => .bl (bs.any id))) := q
    cases e : bools ds with
    | none =>
      rw [e] at q
      exact False.elim q
    | some bs =>
      rw [e] at q
      cases bools_rep ra e
      exact ⟨a, bs, rfl, .inl (.inl ea), bl _ q⟩
  case sum =>
    cases d <;> first | exact False.elim q | skip
    rename_i ds
    obtain ⟨a, vs, rfl, ea, ra⟩ := hx.lst S.gh
    have q : Post c W σ G τ Q (ofO ρ ((sumI ds).map .int)) := q
    cases e : sumI ds with
    | none =>
      rw [e] at q
      exact False.elim q
    | some n =>
      rw [e] at q
      obtain ⟨ns, rfl, rfl⟩ := sum_rep ra e
      exact ⟨a, ns, rfl, .inl (.inl ea), int _ q⟩
  case abs =>
    cases d <;> first | exact False.elim q | skip
    cases hx.int
    exact ⟨_, rfl, int _ q⟩
  case min2 => cases d <;> exact False.elim q
  case max2 => cases d <;> exact False.elim q
  case min1 =>
    cases d <;> first | exact False.elim q | skip
    rename_i ds
    cases ds with
    | nil => exact False.elim q
    | cons e r =>
      cases e <;> first | exact False.elim q | skip
      rename_i i
      obtain ⟨a, vs, rfl, ea, ra⟩ := hx.lst S.gh
      have q : Post c W σ G τ Q (ofO ρ ((minI i r).map .int)) := q
      cases e : minI i r with
      | none =>
        rw [e] at q
        exact False.elim q
      | some n =>
        rw [e] at q
        cases ra with
        | cons h ra =>
          cases h
          obtain ⟨ns, rfl, h1, h2, h3⟩ := min_rep ra e
          refine ⟨a, i :: ns, rfl, .inl (.inl ea), by simp, fun m hm hle => ?_⟩
          have hn : n ∈ i :: ns := by
            rcases h1 with rfl | h1
            · exact List.mem_cons_self
            · exact List.mem_cons_of_mem _ h1
          have e1 : m ≤ n := hle n hn
          have e2 : n ≤ m := by
            rcases List.mem_cons.mp hm with rfl | hm
            · exact h2
            · exact h3 m hm
          have : m = n := by omega
          subst this
          exact int _ q
  case max1 =>
    cases d <;> first | exact False.elim q | skip
    rename_i ds
    cases ds with
    | nil => exact False.elim q
    | cons e r =>
      cases e <;> first | exact False.elim q | skip
      rename_i i
      obtain ⟨a, vs, rfl, ea, ra⟩ := hx.lst S.gh
      have q : Post c W σ G τ Q (ofO ρ ((maxI i r).map .int)) := q
      cases e : maxI i r with
      | none =>
        rw [e] at q
        exact False.elim q
      | some n =>
        rw [e] at q
        cases ra with
        | cons h ra =>
          cases h
          obtain ⟨ns, rfl, h1, h2, h3⟩ := max_rep ra e
          refine ⟨a, i :: ns, rfl, .inl (.inl ea), by simp, fun m hm hle => ?_⟩
          have hn : n ∈ i :: ns := by
            rcases h1 with rfl | h1
            · exact List.mem_cons_self
            · exact List.mem_cons_of_mem _ h1
          have e1 : n ≤ m := hle n hn
          have e2 : m ≤ n := by
            rcases List.mem_cons.mp hm with rfl | hm
            · exact h2
            · exact h3 m hm
          have : m = n := by omega
          subst this
          exact int _ q
  case sorted =>
    cases d <;> first | exact False.elim q | skip
    rename_i ds
    obtain ⟨a, vs, rfl, ea, ra⟩ := hx.lst S.gh
    have q : Post c W σ G τ Q (ownO ρ (if sortOk ds = true then some (.lst (sortD ds)) else none)) := q
    split at q
    · rename_i ok
      exact ⟨a, vs, ds, G, rfl, ea, S.gh, ra, ok, fun p us hp rl => post_lst S q rl hp⟩
    · exact False.elim q
  case tuple =>
    cases d <;> first | exact False.elim q | skip
    case lst ds =>
      obtain ⟨a, vs, rfl, ea, ra⟩ := hx.lst S.gh
      exact ⟨a, vs, rfl, .inl ⟨.inl (.inl ea), fun l hl => post_tup S q ra hl⟩⟩
    case tup ds =>
      obtain ⟨a, vs, rfl, ea, ra, ga⟩ := hx.tup S.gh
      exact ⟨a, vs, rfl, .inr ⟨.inl (.inl ea), post_here S q (.tup ga ra)⟩⟩
  case list =>
    cases d <;> first | exact False.elim q | skip
    case lst ds =>
      obtain ⟨a, vs, rfl, ea, ra⟩ := hx.lst S.gh
      exact ⟨a, vs, rfl, .inl (.inl (.inl ea)), fun l hl => post_lst S q ra hl⟩
    case tup ds =>
      obtain ⟨a, vs, rfl, ea, ra, ga⟩ := hx.tup S.gh
      exact ⟨a, vs, rfl, .inr (.inl (.inl ea)), fun l hl => post_lst S q ra hl⟩
theorem prim2_ok {p : Prim} {x y : V} {d e : D} (S : Stt c ρ G τ H σ) (hx : Rep c.w G x d) (hy : Rep c.w G y e) (q : Post c W σ G τ Q (ofO ρ (prim p [d, e]))) : rPrim c.w p [x, y] H Q := by
  have int : ∀ i : Int, Post c W σ G τ Q (ofO ρ (some (.int i))) → Q (.int i) H := fun i q => post_here S q (.int i)
  cases p <;> cases d <;> first | exact False.elim q | skip
  case min2.int i =>
    cases e <;> first | exact False.elim q | skip
    cases hx
    cases hy
    exact ⟨_, _, rfl, int _ q⟩
  case max2.int i =>
    cases e <;> first | exact False.elim q | skip
    cases hx
    cases hy
    exact ⟨_, _, rfl, int _ q⟩
  case min1.lst xs => cases xs with
    | nil => exact False.elim q
    | cons z zs => cases z <;> exact False.elim q
  case max1.lst xs => cases xs with
    | nil => exact False.elim q
    | cons z zs => cases z <;> exact False.elim q
end
end MPS
end
section
set_option Elab.async false
set_option linter.all false
set_option maxRecDepth 100000
set_option maxHeartbeats 2000000
/-! MpD1: a def's promise; when a piece of Python is an MP text; the context. -/
namespace MPS
open PySem L2 MP

/-! ### what a def promises -/
def ArgsOk (w : Wd) (io : List Nat) (G H : Hp) (vs : List V) (ds : List D) : Prop :=
  vs.length = ds.length ∧ (∀ (i : Nat) (v : V) (d : D), vs[i]? = some v → ds[i]? = some d → i ∉ io → Rep w G v d) ∧
  (∀ (i : Nat) (v : V) (d : D), vs[i]? = some v → ds[i]? = some d → i ∈ io → ∃ p o, v = .ref p ∧ G p = none ∧ H p = some o ∧ RepO w G o d) ∧
  (∀ (i j : Nat) (p : Addr), i ∈ io → j ∈ io → vs[i]? = some (.ref p) → vs[j]? = some (.ref p) → i = j)
structure After (w : Wd) (io : List Nat) (vs : List V) (outs : List D) (G H G' H' : Hp) : Prop where
  gg : Same G G'
  gh : Same G' H'
  keep : ∀ a o, H a = some o → (∀ i ∈ io, vs[i]? ≠ some (.ref a)) → H' a = some o
  new : ∀ a o, G' a = some o → G a = some o ∨ H a = none
  outs : ∀ (j i : Nat), io[j]? = some i → ∃ p d o, vs[i]? = some (.ref p) ∧ outs[j]? = some d ∧ G' p = none ∧ H' p = some o ∧ RepO w G' o d
def RepC (w : Wd) (H G' H' : Hp) (v : V) : CV → Prop
  | .val d => Rep w G' v d
  | .own d => ∃ p o, v = .ref p ∧ H p = none ∧ G' p = none ∧ H' p = some o ∧ RepO w G' o d
def spF (w : Wd) (fd : FD) : Sp := fun vs H Q E => vs.length = fd.n ∧ ∃ (G : Hp) (ds : List D), Same G H ∧ ArgsOk w fd.io G H vs ds ∧
  match fd.run ds with
  | .ok cv outs => ∀ v H' G', After w fd.io vs outs G H G' H' → RepC w H G' H' v cv → Q v H'
  | .ex e outs => ∀ H' G', After w fd.io vs outs G H G' H' → E (.ref (w.κ e)) none H'
  | .bad => False
/-- the def called f is fd -/
def FnAt (X : Cx) (w : Wd) (k : Nat) (f : String) (fd : FD) : Prop := ∃ (a : Addr) (dat : FuncData) (ps : List Str), X.mg (Str.ofString f) = some (.ref a) ∧ PySem.W.keepIn X.K (.ref a) = true ∧ Binds X.K dat ps [] ∧
  FnOk X.prog X.w X.K X.mg X.base (L2.CX X.prog X.w) k a dat ps (spF w fd)

/-! ### the context -/
def tyNames : List String := ["NoneType", "bool", "int", "str", "list", "tuple", "dict"]
/-- what the class at C says to isinstance -/
structure ClsF (K : PySem.W.Frag) (C : Addr) : Prop where
  cl : Cls K C
  ha : PySem.W.findIn K (.ref C) "__class__" = some (some (.builtin "object.__class__"))
  hn : PySem.W.specialIn K (.builtin "object.__class__") "__get__" = some (some (.builtin "getset_descriptor.__get__"))
  htk : PySem.W.takesIn K (.builtin "object.__class__") = some true
  hm : PySem.W.mroIn K C (.type "object") = some true
  isK : ∀ t ∈ tyNames, PySem.W.kitOne K (.type t) (.ref C) = some false
  kIs : ∀ t ∈ tyNames, PySem.W.kitOne K (.ref C) (.type t) = some false
  kk : PySem.W.kitOne K (.ref C) (.ref C) = some true
structure Row where
  N : List Str
  bi : List String
  gc : List (String × Int)
  cls : List String
  fns : List String
  exs : List String := []
  tw : Bool := false
  /-- names that no class of the row has -/
  fld : List String := []
  /-- instances made by keywords: class, keywords, how the parameters are filled -/
  mks : List (String × List String × List (Bool × Int)) := []
  /-- classes with an own == -/
  eqs : List String := []
/-- the values of the parameters -/
def planV : List (Bool × Int) → List V → List V
  | [], _ => []
  | (true, i) :: r, zs => zs.getD i.toNat .non :: planV r zs
  | (false, n) :: r, zs => .int n :: planV r zs
/-- C(k = v, ..) is told -/
def MkG (P : Program) (w : World) (K : PySem.W.Frag) (mg : Str → Option Value) (base : Heap) (wd : Wd) (k : Nat) (m : String × List String × List (Bool × Int)) (fd : FD) : Prop :=
  ∃ (j : Nat) (f : Addr) (dat : FuncData) (ps : List Str) (g : List Value → List Value → List Value) (gV : List V → List V → List V), j + 1 ≤ k ∧ Mk K (wd.κ m.1) f ∧ KBn K dat ps 1 (m.2.1.map Str.ofString) g gV ∧
    (∀ x zs, zs.length = m.2.1.length → gV [x] zs = x :: planV m.2.2 zs) ∧ FnOk P w K mg base (L2.CX P w) j f dat ps (spF wd fd)
/-- == of the class's instances is told -/
def EqI (P : Program) (w : World) (K : PySem.W.Frag) (mg : Str → Option Value) (base : Heap) (wd : Wd) (k : Nat) (c : String) (fd : FD) : Prop :=
  ∃ (j : Nat) (f : Addr) (dat : FuncData) (ps : List Str), j ≤ k ∧ PySem.W.findIn K (.ref (wd.κ c)) "__eq__" = some (some (.ref f)) ∧ Binds K dat ps [] ∧ PySem.W.isFn K (.ref f) = true ∧ FnOk P w K mg base (L2.CX P w) j f dat ps (spF wd fd)
structure Gd (R : Row) (X : Cx) (Γ : Tab) (c : Fc) (k : Nat) (W : WX) : Prop where
  calm : X.calm = true
  N : X.N = R.N
  nd : X.N.Nodup
  room : Room k X.A
  K : X.K = c.w.K
  bi : ∀ x ∈ R.bi, X.mg (Str.ofString x) = none
  gc : ∀ p ∈ R.gc, ∃ t, X.mg (Str.ofString p.1) = some (.int p.2 t)
  fns : ∀ f ∈ R.fns, ∃ fd, Γ.fn f = some fd ∧ FnAt X c.w k f fd
  tk : Takes X W
  cls : ∀ n ∈ c.w.cls, ClsF X.K (c.w.κ n)
  cln : R.cls = c.w.cls
  clg : ∀ n ∈ R.cls, X.mg (Str.ofString n) = some (.ref (c.w.κ n))
  fng : ∀ n ∈ R.fns, X.mg (Str.ofString n) = some (.ref (c.w.φ n))
  fld : ∀ n ∈ c.w.cls, ∀ f ∈ R.fld, NoAttr X.K (c.w.κ n) (Str.ofString f)
  mks : ∀ m ∈ R.mks, m.1 ∈ c.w.cls ∧ ∃ fd, Γ.fn (m.1 ++ ".__init__") = some fd ∧ MkG X.prog X.w X.K X.mg X.base c.w k m fd
  eqs : ∀ n ∈ R.eqs, n ∈ c.w.cls ∧ ∃ fd, Γ.fn (n ++ ".__eq__") = some fd ∧ EqI X.prog X.w X.K X.mg X.base c.w k n fd

/-! ### when a piece of Python is an MP text -/
inductive Syn where
  | e (x : Expr)
  /-- what is walked -/
  | i (x : Expr)
  | a (xs : List Expr)
def visB (sc : Scope) (x : Str) : Bool :=
  match sc.names.lookup x with
  | some .local => true
  | some .cell => true
  | some .free => true
  | _ => false
def glB (sc : Scope) (x : Str) : Bool :=
  match sc.names.lookup x with
  | some .globalImplicit => true
  | _ => false
def okName (x : Str) : Bool := !(x == Str.ofString "__debug__") && !(x == Str.ofString "__classdict__") && !(x == Str.ofString "__name__")
/-- the name in slot i -/
def nameB (N : List Str) (sc : Scope) (i : Nat) : Expr → Bool
  | .Name x _ => decide (N[i]? = some x) && visB sc x && okName x
  | _ => false
/-- the built-in called n -/
def biB (bi : List String) (sc : Scope) (n : String) : Expr → Bool
  | .Name x _ => decide (x = Str.ofString n) && glB sc x && bi.contains n
  | _ => false
def tyName : Ty → String
  | .int => "int"
  | .bool => "bool"
  | .tuple => "tuple"
  | .list => "list"
  | .dict => "dict"
  | .str => "str"
  | .cls c => c
def tgB (N : List Str) (sc : Scope) (fn : Str → Bool) : Tg → Expr → Bool
  | .nm i, e => nameB N sc i e && (match e with
    | .Name x _ => (match sc.names.lookup x with
      | some .local => true
      | some .cell => fn x
      | _ => false)
    | _ => false)
  | .tp is, .Tuple es _ _ => decide (is.length = es.length) && (is.zip es).all fun p => nameB N sc p.1 p.2 && (match p.2 with
    | .Name x _ => (match sc.names.lookup x with
      | some .local => true
      | some .cell => fn x
      | _ => false)
    | _ => false)
  | _, _ => false
/-- the names of a block that are its own and captured -/
def blkFn (scope : Scope) (x : Str) : Bool := scope.names.lookup x == some .cell
def noRef (es : E) : Bool := (refsOf es).isEmpty
abbrev Ck := Scope → Syn → Bool
@[simp] def ckVar (R : Row) (i : Nat) : Ck := fun sc s => match s with
  | .e x => nameB R.N sc i x
  | _ => false
@[simp] def ckCst : D → Ck
  | .int i => fun _ s => match s with
    | .e (.Constant (.int j) _ _) => decide (i = j)
    | _ => false
  | .str z => fun _ s => match s with
    | .e (.Constant (.str t) _ _) => decide (Str.ofString z = t)
    | _ => false
  | .bl b => fun _ s => match s with
    | .e (.Constant (.bool d) _ _) => b == d
    | _ => false
  | .non => fun _ s => match s with
    | .e (.Constant .none _ _) => true
    | _ => false
  | _ => fun _ _ => false
@[simp] def ckGlb (R : Row) (n : String) : D → Ck
  | .int i => fun sc s => match s with
    | .e (.Name x _) => decide (x = Str.ofString n) && glB sc x && okName x && (R.gc.lookup n == some i)
    | _ => false
  | .fn m => fun sc s => match s with
    | .e (.Name x _) => decide (x = Str.ofString n) && glB sc x && okName x && (decide (m = n) && R.fns.contains n)
    | _ => false
  | _ => fun _ _ => false
@[simp] def ckNil : Ck := fun _ s => match s with
  | .a [] => true
  | _ => false
@[simp] def ckCons (R : Row) (e : E) (ce cs : Ck) : Ck := fun sc s => match s with
  | .a (x :: xs) => (match e with
    | .ref i => nameB R.N sc i x
    | _ => ce sc (.e x)) && cs sc (.a xs)
  | _ => false
@[simp] def ckTup (nr : Bool) (cs : Ck) : Ck := fun sc s => match s with
  | .e (.Tuple xs _ _) => nr && cs sc (.a xs)
  | _ => false
@[simp] def ckLst (nr : Bool) (cs : Ck) : Ck := fun sc s => match s with
  | .e (.List xs _) => nr && cs sc (.a xs)
  | _ => false
@[simp] def ckBin (op : Bop) (ca cb : Ck) : Ck := fun sc s => match s with
  | .e (.BinOp x o y _) => decide (o = bop op) && ca sc (.e x) && cb sc (.e y)
  | _ => false
@[simp] def ckNeg (ca : Ck) : Ck := fun sc s => match s with
  | .e (.UnaryOp .USub x _) => ca sc (.e x)
  | _ => false
@[simp] def ckCmp (op : Cop) (ca cb : Ck) : Ck := fun sc s => match s with
  | .e (.Compare x [o] [y] _) => decide (o = cop op) && ca sc (.e x) && cb sc (.e y)
  | _ => false
@[simp] def ckChn (op p : Cop) (ca cb cc : Ck) : Ck := fun sc s => match s with
  | .e (.Compare x [o, o'] [y, z] _) => decide (o = cop op) && decide (o' = cop p) && ca sc (.e x) && cb sc (.e y) && cc sc (.e z)
  | _ => false
@[simp] def ckAnd (ca cb : Ck) : Ck := fun sc s => match s with
  | .e (.BoolOp .And (x :: y :: rest) pos) => ca sc (.e x) && cb sc (.e (match rest with
    | [] => y
    | _ => .BoolOp .And (y :: rest) pos))
  | _ => false
@[simp] def ckOr (ca cb : Ck) : Ck := fun sc s => match s with
  | .e (.BoolOp .Or (x :: y :: rest) pos) => ca sc (.e x) && cb sc (.e (match rest with
    | [] => y
    | _ => .BoolOp .Or (y :: rest) pos))
  | _ => false
@[simp] def ckNot (ca : Ck) : Ck := fun sc s => match s with
  | .e (.UnaryOp .Not x _) => ca sc (.e x)
  | _ => false
@[simp] def ckIte (cc ca cb : Ck) : Ck := fun sc s => match s with
  | .e (.IfExp z x y _) => cc sc (.e z) && ca sc (.e x) && cb sc (.e y)
  | _ => false
def clsB (sc : Scope) (n : String) : Expr → Bool
  | .Name z _ => decide (z = Str.ofString n) && glB sc z && okName z
  | _ => false
def tyB (R : Row) (sc : Scope) : Ty → Expr → Bool
  | .cls n, y => R.cls.contains n && clsB sc n y
  | t, y => biB R.bi sc (tyName t) y
def setB (R : Row) (sc : Scope) (ca : Ck) : Expr → Bool
  | .Call g [y] [] _ => biB R.bi sc "set" g && ca sc (.e y)
  | _ => false
@[simp] def ckIsi (R : Row) (t : Ty) (ca : Ck) : Ck := fun sc s => match s with
  | .e (.Call f [x, y] [] _) => biB R.bi sc "isinstance" f && ca sc (.e x) && tyB R sc t y
  | _ => false
@[simp] def ckCall (R : Row) (n : String) (cs : Ck) : Ck := fun sc s => match s with
  | .e (.Call (.Name f _) (x :: xs) [] _) => R.fns.contains n && decide (f = Str.ofString n) && glB sc f && okName f && cs sc (.a (x :: xs))
  | _ => false
@[simp] def ckPrm1 (R : Row) (p : Prim) (ca : Ck) : Ck := fun sc s => match s with
  | .e (.Call f [x] [] _) => (match p with
    | .sortedSet => biB R.bi sc "sorted" f && setB R sc ca x
    | .lenSet => false
    | p => biB R.bi sc (primFn p).1 f && ca sc (.e x))
  | _ => false
@[simp] def ckPrm2 (R : Row) (p : Prim) (ca cb : Ck) : Ck := fun sc s => match s with
  | .e (.Call f [x, y] [] _) => (match p with
    | .min2 => true
    | .max2 => true
    | _ => false) && biB R.bi sc (primFn p).1 f && ca sc (.e x) && cb sc (.e y)
  | _ => false
@[simp] def ckIx (ca cb : Ck) : Ck := fun sc s => match s with
  | .e (.Subscript x y _) => ca sc (.e x) && cb sc (.e y)
  | _ => false
/-- a part of a slice -/
@[simp] def ckPart (lo : E) (cl : Ck) (sc : Scope) : Option Expr → Bool
  | none => (match lo with
    | .nil => true
    | _ => false)
  | some l => (match lo with
    | .nil => false
    | _ => cl sc (.e l))
@[simp] def ckSlc (lo hi : E) (ca cl ch : Ck) : Ck := fun sc s => match s with
  | .e (.Subscript x (.Slice l h none _) _) => ca sc (.e x) && ckPart lo cl sc l && ckPart hi ch sc h
  | _ => false
@[simp] def ckRev (ca : Ck) : Ck := fun sc s => match s with
  | .e (.Subscript x (.Slice none none (some (.UnaryOp .USub (.Constant (.int 1) _ _) _)) _) _) => ca sc (.e x)
  | _ => false
@[simp] def ckF1 (R : Row) (n : String) (ca : Ck) : Ck := fun sc s => match s with
  | .i (.Call f [x] [] _) => biB R.bi sc n f && ca sc (.e x)
  | _ => false
@[simp] def ckF2 (R : Row) (n : String) (ca cb : Ck) : Ck := fun sc s => match s with
  | .i (.Call f [x, y] [] _) => biB R.bi sc n f && ca sc (.e x) && cb sc (.e y)
  | _ => false
@[simp] def ckIfs (cond : E) (cc : Ck) (sc : Scope) : List Expr → Bool
  | [] => (match cond with
    | .nil => true
    | _ => false)
  | [f] => (match cond with
    | .nil => false
    | _ => cc sc (.e f))
  | _ => false
/-- pairs are walked -/
def pairIt : E → Bool
  | .enm _ => true
  | .zip _ _ => true
  | _ => false
/-- what is walked has a form of its own -/
def itB : E → Bool
  | .itr _ => true
  | .rng1 _ => true
  | .rng2 _ _ => true
  | .enm _ => true
  | .zip _ _ => true
  | _ => false
def isTp : Tg → Bool
  | .tp _ => true
  | _ => false
@[simp] def ckCmp1 (R : Row) (ib pi : Bool) (vs : List Nat) (tg : Tg) (cond : E) (ci cc ce : Ck) : Ck := fun sc s => match s with
  | .e (.ListComp el [⟨t, iter, ifs, 0⟩] scope _) =>
    ib && (!pi || isTp tg) && blkC R.N sc scope (vs.map fun i => (R.N.getD i (Str.ofString ""), i)) && ci sc (.i iter) && tgB R.N (relS scope sc) (blkFn scope) tg t && ckIfs cond cc (relS scope sc) ifs && ce (relS scope sc) (.e el)
  | _ => false
@[simp] def ckCmp2 (R : Row) (ib ib1 pi pi1 : Bool) (vs vs1 : List Nat) (tg tg1 : Tg) (cond1 : E) (ci ci1 cc ce : Ck) : Ck := fun sc s => match s with
  | .e (.ListComp el [⟨t, iter, [], 0⟩, ⟨t1, iter1, ifs1, 0⟩] scope _) =>
    ib && ib1 && (!pi || isTp tg) && (!pi1 || isTp tg1) && blkC R.N sc scope (vs.map fun i => (R.N.getD i (Str.ofString ""), i)) && (vs1.all fun i => vs.contains i) && ci sc (.i iter) && tgB R.N (relS scope sc) (blkFn scope) tg t && ci1 (relS scope sc) (.i iter1) && tgB R.N (relS scope sc) (blkFn scope) tg1 t1 && ckIfs cond1 cc (relS scope sc) ifs1 && ce (relS scope sc) (.e el)
  | _ => false
@[simp] def ckItr (ca : Ck) : Ck := fun sc s => match s with
  | .i x => ca sc (.e x)
  | _ => false
@[simp] def ckAtt (R : Row) (f : String) (ca : Ck) : Ck := fun sc s => match s with
  | .e (.Attribute (.Name y p) g _) => decide (g = Str.ofString f) && R.fld.contains f && ca sc (.e (.Name y p))
  | _ => false
/-- keywords by their names -/
def kwB : List String → List Keyword → Bool
  | [], [] => true
  | n :: ns, k :: ks => decide (k.arg = some (Str.ofString n)) && kwB ns ks
  | _, _ => false
def ckX (R : Row) (nr : Bool) (cs : Ck) : XOp → Ck
  | .new c ks plan => fun sc s => match s with
    | .e (.Call y [] kws _) => decide ((c, ks, plan) ∈ R.mks) && clsB sc c y && R.cls.contains c && kwB ks kws && nr && cs sc (.a (kws.map (·.value)))
    | _ => false
  | .eqo c => fun sc s => match s with
    | .e (.Compare x [.Eq] [y] _) => R.eqs.contains c && nr && cs sc (.a [x, y])
    | _ => false
  | .lzip => fun sc s => match s with
    | .e (.Call f [.Call z (y :: ys) [] _] [] _) => biB R.bi sc "list" f && biB R.bi sc "zip" z && nr && cs sc (.a (y :: ys))
    | _ => false
  | .lenSet => fun sc s => match s with
    | .e (.Call f [.Call z [y] [] _] [] _) => biB R.bi sc "len" f && biB R.bi sc "set" z && nr && cs sc (.a [y])
    | _ => false
def ck (R : Row) : E → Ck
  | .var i => ckVar R i
  | .ref _ => fun _ _ => false
  | .cst d => ckCst d
  | .glb n d => ckGlb R n d
  | .nil => ckNil
  | .cons e es => ckCons R e (ck R e) (ck R es)
  | .tup es => ckTup (noRef es) (ck R es)
  | .lst es => ckLst (noRef es) (ck R es)
  | .bin op a b => ckBin op (ck R a) (ck R b)
  | .neg a => ckNeg (ck R a)
  | .cmp op a b => ckCmp op (ck R a) (ck R b)
  | .chn o p a b c => ckChn o p (ck R a) (ck R b) (ck R c)
  | .and a b => ckAnd (ck R a) (ck R b)
  | .or a b => ckOr (ck R a) (ck R b)
  | .not a => ckNot (ck R a)
  | .ite c a b => ckIte (ck R c) (ck R a) (ck R b)
  | .isi a t => ckIsi R t (ck R a)
  | .call n es => ckCall R n (ck R es)
  | .prm1 p a => ckPrm1 R p (ck R a)
  | .prm2 p a b => ckPrm2 R p (ck R a) (ck R b)
  | .ix a b => ckIx (ck R a) (ck R b)
  | .slc a lo hi => ckSlc lo hi (ck R a) (ck R lo) (ck R hi)
  | .rev a => ckRev (ck R a)
  | .att a f => ckAtt R f (ck R a)
  | .itr a => ckItr (ck R a)
  | .rng1 a => ckF1 R "range" (ck R a)
  | .rng2 a b => ckF2 R "range" (ck R a) (ck R b)
  | .enm a => ckF1 R "enumerate" (ck R a)
  | .zip a b => ckF2 R "zip" (ck R a) (ck R b)
  | .cmp1 vs tg it cond elt => ckCmp1 R (itB it) (pairIt it) vs tg cond (ck R it) (ck R cond) (ck R elt)
  | .cmp2 vs vs1 tg it tg1 it1 cond1 elt => ckCmp2 R (itB it) (itB it1) (pairIt it) (pairIt it1) vs vs1 tg tg1 cond1 (ck R it) (ck R it1) (ck R cond1) (ck R elt)
  | .pop _ _ => fun _ _ => false
  | .xop o es => ckX R (noRef es) (ck R es) o

/-! ### shapes -/
section
variable {R : Row} {p : E} {sc : Scope} {x : Expr}
/-- an MP text is no starred thing, no slice, no set -/
theorem ck_shape (h : ck R p sc (.e x) = true) : (∀ e pos, x ≠ .Starred e pos) ∧ (∀ l u s pos, x ≠ .Slice l u s pos) ∧ (∀ es k pos, x ≠ .Set es k pos) := by
  induction p generalizing x with
  | cst d =>
    refine ⟨fun e pos z => ?_, fun l u s pos z => ?_, fun es k pos z => ?_⟩ <;> (subst z; cases d <;> cases h)
  | glb n d =>
    refine ⟨fun e pos z => ?_, fun l u s pos z => ?_, fun es k pos z => ?_⟩ <;> (subst z; cases d <;> cases h)
  | xop o es =>
    refine ⟨fun e pos z => ?_, fun l u s pos z => ?_, fun es k pos z => ?_⟩ <;> (subst z; cases o <;> cases h)
  | _ =>
    refine ⟨fun e pos z => ?_, fun l u s pos z => ?_, fun es k pos z => ?_⟩ <;> (subst z; simp [ck, nameB] at h)
theorem star_cons {es : List Expr} {env : Env} (h : ∀ e pos, x ≠ .Starred e pos) : starEach (x :: es) env = (false, eval x env) :: starEach es env := by
  cases x <;> first | rfl | exact absurd rfl (h _ _)
theorem vis_of {x : Str} (h : visB sc x = true) : Vis sc x := by
  unfold visB at h
  split at h <;> first | cases h | skip
  · exact .inl (by assumption)
  · exact .inr (.inl (by assumption))
  · exact .inr (.inr (by assumption))
theorem gl_of {X : Cx} {x : Str} (h : glB X.env.scope x = true) : Gl X x := by
  unfold glB at h
  split at h
  · assumption
  · cases h
theorem name_of {N : List Str} {i : Nat} (h : nameB N sc i x = true) : ∃ y pos, x = .Name y pos ∧ N[i]? = some y ∧ Vis sc y ∧ (y == ("__debug__" : Str)) = false ∧ (y == ("__classdict__" : Str)) = false := by
  cases x with
  | Name y pos =>
    simp only [nameB, Bool.and_eq_true, decide_eq_true_eq, okName, Bool.not_eq_true'] at h
    exact ⟨y, pos, rfl, h.1.1, vis_of h.1.2, h.2.1.1, h.2.1.2⟩
  | _ => simp [nameB] at h
theorem bi_of {X : Cx} {bi : List String} {n : String} (hb : ∀ x ∈ bi, X.mg (Str.ofString x) = none) (h : biB bi X.env.scope n x = true) : ∃ pos, x = .Name (Str.ofString n) pos ∧ Gl X (Str.ofString n) ∧ X.mg (Str.ofString n) = none := by
  cases x with
  | Name y pos =>
    simp only [biB, Bool.and_eq_true, decide_eq_true_eq] at h
    obtain ⟨⟨rfl, h1⟩, h2⟩ := h
    exact ⟨pos, rfl, gl_of h1, hb n (by simpa using h2)⟩
  | _ => simp [biB] at h
end
theorem boot_prim : ∀ p : Prim, p ≠ .sortedSet → p ≠ .lenSet → bootBuiltins (Str.ofString (primFn p).1) = some (primFn p).2
  | .len, _, _ => by decide +kernel
  | .all, _, _ => by decide +kernel
  | .any, _, _ => by decide +kernel
  | .sum, _, _ => by decide +kernel
  | .abs, _, _ => by decide +kernel
  | .min2, _, _ => by decide +kernel
  | .max2, _, _ => by decide +kernel
  | .min1, _, _ => by decide +kernel
  | .max1, _, _ => by decide +kernel
  | .sorted, _, _ => by decide +kernel
  | .tuple, _, _ => by decide +kernel
  | .list, _, _ => by decide +kernel
  | .sortedSet, h, _ => absurd rfl h
  | .lenSet, _, h => absurd rfl h
theorem prim_name : ∀ p : Prim, Str.ofString (primFn p).1 ≠ ("__name__" : Str) ∧ (Str.ofString (primFn p).1 == ("__debug__" : Str)) = false := by
  intro p
  cases p <;> decide +kernel
end MPS
end
section
set_option Elab.async false
set_option linter.all false
set_option maxRecDepth 100000
set_option maxHeartbeats 2000000
/-! MpD2: expressions mean what den says: names, operators, displays, calls of built-ins. -/
namespace MPS
open PySem L2 MP

theorem PE.imp {X : Cx} {e : Expr} {t t' : TE} (h : PE X e t) (i : ∀ σ H Q, t' σ H Q → t σ H Q) : PE X e t' := ⟨fun pins s σ H Q I q => h.run pins s σ H Q I (i _ _ _ q)⟩
theorem PT.imp {X : Cx} {e : Expr} {t t' : TT} (h : PT X e t) (i : ∀ σ H Q, t' σ H Q → t σ H Q) : PT X e t' := ⟨fun pins s σ H Q I q => h.run pins s σ H Q I (i _ _ _ q)⟩
theorem PA.imp {X : Cx} {es : List Expr} {t t' : TA} (h : PA X es t) (i : ∀ σ H Q, t' σ H Q → t σ H Q) : PA X es t' := ⟨fun pos pins s σ H Q I q => h.run pos pins s σ H Q I (i _ _ _ q)⟩

/-- the arguments, those by reference in their slots -/
def RepArgs (w : Wd) (σ : L2.St) (G : Hp) : E → List V → List D → Prop
  | .cons (.ref i) es, v :: vs, _ :: ds => σ[i]? = some (some v) ∧ RepArgs w σ G es vs ds
  | .cons _ es, v :: vs, d :: ds => Rep w G v d ∧ RepArgs w σ G es vs ds
  | .nil, [], [] => True
  | _, _, _ => False
def PostA (c : Fc) (W : WX) (σ : L2.St) (G : Hp) (τ : List (Addr × D)) (p : E) (Q : List V → Hp → Prop) : Out CV → Prop
  | .ok (.val (.lst ds)) ρ' => ∀ vs H' G', Stt c ρ' G' τ H' σ → Same G G' → RepArgs c.w σ G' p vs ds → Q vs H'
  | .ok _ _ => False
  | .ex e ρ' => ∀ H' G', Stt c ρ' G' τ H' σ → Same G G' → W (.ref (c.w.κ e)) none σ H'
  | .bad => False
def tA (Γ : Tab) (c : Fc) (W : WX) (p : E) : TA := fun σ H Q => ∃ ρ G τ, Stt c ρ G τ H σ ∧ PostA c W σ G τ p Q (den Γ p ρ)
def tT (Γ : Tab) (c : Fc) (W : WX) (p : E) : TT := fun σ H Q => ∃ ρ G τ, Stt c ρ G τ H σ ∧ PostR c W σ G τ (fun d _ H' => ∃ b, d = .bl b ∧ Q b H') (MP.val (den Γ p) ρ)

theorem mem_of_lookup {β : Type} {n : String} {i : β} : ∀ {l : List (String × β)}, l.lookup n = some i → (n, i) ∈ l
  | [], h => by simp at h
  | (m, j) :: l, h => by
    by_cases e : n = m
    · subst e
      have : j = i := by simpa [List.lookup] using h
      subst this
      exact List.mem_cons_self
    · have e' : (n == m) = false := by simpa using e
      have : l.lookup n = some i := by simpa [List.lookup, e'] using h
      exact List.mem_cons_of_mem _ (mem_of_lookup this)
structure Snd (R : Row) (Γ : Tab) (p : E) : Prop where
  e : ∀ {X : Cx} {c : Fc} {W : WX} {k : Nat} {x : Expr}, Gd R X Γ c k W → ck R p X.env.scope (.e x) = true → PE X x (tD Γ c W p)
  t : ∀ {X : Cx} {c : Fc} {W : WX} {k : Nat} {x : Expr}, Gd R X Γ c k W → ck R p X.env.scope (.e x) = true → PT X x (tT Γ c W p)
  a : ∀ {X : Cx} {c : Fc} {W : WX} {k : Nat} {xs : List Expr}, Gd R X Γ c k W → ck R p X.env.scope (.a xs) = true → PA X xs (tA Γ c W p)

section
variable {R : Row} {Γ : Tab} {X : Cx} {c : Fc} {W : WX} {k : Nat} {x : Expr} {ρ : Rho} {G G' H H' : Hp} {τ : List (Addr × D)} {σ : L2.St} {Q : VK}
theorem Gd.un (g : Gd R X Γ c k W) : X.A.units + 100 < cLine := by have := g.room.un; omega
/-- a name as it stands -/
theorem pe_name {i : Nat} (g : Gd R X Γ c k W) (h : nameB R.N X.env.scope i x = true) : PE X x (tVar i) := by
  obtain ⟨y, pos, rfl, h1, h2, h3, h4⟩ := name_of h
  exact pe_var (by rw [g.N]; exact h1) h2 h3 h4
theorem pe_o {p : E} (g : Gd R X Γ c k W) (s : Snd R Γ p) (h : ck R p X.env.scope (.e x) = true) : PE X x (tO Γ c W p) := by
  cases p
  case var i => exact pe_name g h
  all_goals exact s.e g h
/-- a test that is no and, or, not, comparison -/
theorem pt_plain {p : E} (he : PE X x (tD Γ c W p)) (hx : ∀ whole, isTrue x X.env whole = (do let v ← whole; standAt x.pos; holding [v] (truthy v))) : PT X x (tT Γ c W p) := by
  refine PT.imp (pt_val he hx) fun σ H Q h => ?_
  obtain ⟨ρ, G, τ, S, q⟩ := h
  refine td_val S (PostR.imp q fun d G' H' h v r => ?_)
  obtain ⟨b, rfl, q⟩ := h
  cases r
  exact ⟨b, rfl, q⟩
/-- .. that is a comparison or such: its reading as a value, as a test -/
theorem pt_tst {p : E} {t : TE} (ht : PT X x (tTest t)) (i : ∀ σ H Q, tD Γ c W p σ H Q → t σ H Q) : PT X x (tT Γ c W p) := by
  refine PT.imp ht fun σ H Q h => ?_
  obtain ⟨ρ, G, τ, S, q⟩ := h
  refine i _ _ _ (td_val S (PostR.imp q fun d G' H' h v r => ?_))
  obtain ⟨b, rfl, q⟩ := h
  cases r
  exact ⟨b, rfl, q⟩

/-- to the meaning: a place where a value is handed on -/
theorem Post.bindR {α : Type} {m : Out α} {f : α → Rho → Out CV} (h : Post c W σ G τ Q (m.bind f)) : PostR c W σ G τ (fun (o : α × Rho) G' H' => Stt c o.2 G' τ H' σ → Post c W σ G' τ Q (f o.1 o.2)) (m.bind fun a ρ => .ok (a, ρ) ρ) := by
  cases m with
  | ok a ρ' => exact fun H' G' S s S' => Post.mono s h
  | ex e ρ' => exact h
  | bad => exact h

theorem snd_var (i : Nat) : Snd R Γ (.var i) where
  e := fun {X c W k x} g h => by
    refine PE.imp (pe_name g h) fun σ H Q h => ?_
    obtain ⟨ρ, G, τ, S, q⟩ := h
    simp only [den] at q
    split at q
    · rename_i d e
      obtain ⟨v, h1, h2⟩ := S.vals i d e
      exact ⟨v, h1, q v H G S (Same.refl G) h2⟩
    · rename_i d e
      obtain ⟨G', p, s, S', h1, h2⟩ := S.freezeS e
      exact ⟨.ref p, h1, q _ H G' S' s h2⟩
    · exact False.elim q
  t := fun {X c W k x} g h => by
    obtain ⟨y, pos, rfl, _⟩ := name_of h
    refine PT.imp (pt_val (pe_name g h)) fun σ H Q h => ?_
    obtain ⟨ρ, G, τ, S, q⟩ := h
    simp only [MP.val, den] at q
    split at q
    · rename_i d e
      obtain ⟨v, h1, h2⟩ := S.vals i d e
      obtain ⟨b, rfl, q2⟩ := q H G S (Same.refl G)
      cases h2
      exact ⟨_, h1, b, rfl, q2⟩
    · rename_i d e
      obtain ⟨G', p, s, S', h1, h2⟩ := S.freezeS e
      obtain ⟨b, rfl, q⟩ := q H G' S' s
      cases h2
    · exact False.elim q
  a := fun g h => by simp [ck] at h
theorem snd_ref (i : Nat) : Snd R Γ (.ref i) where
  e := fun g h => by simp [ck] at h
  t := fun g h => by simp [ck] at h
  a := fun g h => by simp [ck] at h
theorem snd_cst (d : D) : Snd R Γ (.cst d) := by
  have he : ∀ {X : Cx} {c : Fc} {W : WX} {k : Nat} {x : Expr}, Gd R X Γ c k W → ck R (.cst d) X.env.scope (.e x) = true → PE X x (tD Γ c W (.cst d)) ∧ ∀ whole, isTrue x X.env whole = (do let v ← whole; standAt x.pos; holding [v] (truthy v)) := by
    intro X c W k x g h
    have fin : ∀ (v : V) (σ : L2.St) (H : Hp) (Q : VK), (∀ G, Rep c.w G v d) → tD Γ c W (.cst d) σ H Q → tC v σ H Q := fun v σ H Q r h => by
      obtain ⟨ρ, G, τ, S, q⟩ := h
      exact q v H G S (Same.refl G) (r G)
    cases x <;> first | (cases d <;> simp [ck] at h; done) | skip
    rename_i co j pos
    refine ⟨?_, fun _ => rfl⟩
    cases d <;> cases co <;> first | (simp [ck] at h; done) | skip
    · exact PE.imp pe_non fun σ H Q q => fin .non σ H Q (fun _ => .non) q
    · simp [ck] at h
      subst h
      exact PE.imp pe_bl fun σ H Q q => fin (.bl _) σ H Q (fun _ => .bl _) q
    · simp [ck] at h
      subst h
      exact PE.imp pe_int fun σ H Q q => fin (.int _) σ H Q (fun _ => .int _) q
    · simp [ck] at h
      subst h
      exact PE.imp pe_str fun σ H Q q => fin (.str _) σ H Q (fun _ => .str _) q
  exact ⟨fun g h => (he g h).1, fun g h => pt_plain (he g h).1 (he g h).2, fun g h => by cases d <;> simp [ck] at h⟩
theorem snd_glb (n : String) (d : D) : Snd R Γ (.glb n d) := by
  have he : ∀ {X : Cx} {c : Fc} {W : WX} {k : Nat} {x : Expr}, Gd R X Γ c k W → ck R (.glb n d) X.env.scope (.e x) = true → PE X x (tD Γ c W (.glb n d)) ∧ ∀ whole, isTrue x X.env whole = (do let v ← whole; standAt x.pos; holding [v] (truthy v)) := by
    intro X c W k x g h
    cases d <;> first | (simp [ck] at h; done) | skip
    rotate_left
    · rename_i m
      cases x <;> first | (simp [ck] at h; done) | skip
      rename_i y pos
      simp only [ck, ckVar, ckCst, ckGlb, ckNil, ckCons, ckTup, ckLst, ckBin, ckNeg, ckCmp, ckChn, ckAnd, ckOr, ckNot, ckIte, ckIsi, ckCall, ckPrm1, ckPrm2, ckIx, ckPart, ckSlc, ckF1, ckF2, ckIfs, ckCmp1, ckCmp2, ckItr, Bool.and_eq_true, decide_eq_true_eq, beq_iff_eq, okName, Bool.not_eq_true'] at h
      obtain ⟨⟨⟨rfl, h1⟩, h2⟩, rfl, h3⟩ := h
      refine ⟨PE.imp (pe_glob (v := .ref (c.w.φ m)) (gl_of h1) (g.fng m (by simpa using h3)) rfl h2.1.1) fun σ H Q q => ?_, fun _ => rfl⟩
      obtain ⟨ρ, G, τ, S, q⟩ := q
      exact q _ H G S (Same.refl G) (.fn m)
    rename_i i
    cases x <;> first | (simp [ck] at h; done) | skip
    rename_i y pos
    simp only [ck, ckVar, ckCst, ckGlb, ckNil, ckCons, ckTup, ckLst, ckBin, ckNeg, ckCmp, ckChn, ckAnd, ckOr, ckNot, ckIte, ckIsi, ckCall, ckPrm1, ckPrm2, ckIx, ckPart, ckSlc, ckF1, ckF2, ckIfs, ckCmp1, ckCmp2, ckItr, Bool.and_eq_true, decide_eq_true_eq, beq_iff_eq, okName, Bool.not_eq_true'] at h
    obtain ⟨⟨⟨rfl, h1⟩, h2⟩, h3⟩ := h
    have hm : (n, i) ∈ R.gc := mem_of_lookup h3
    obtain ⟨t, ht⟩ := g.gc _ hm
    refine ⟨PE.imp (pe_glob (v := .int i) (gl_of h1) ht ⟨t, rfl⟩ h2.1.1) fun σ H Q q => ?_, fun _ => rfl⟩
    obtain ⟨ρ, G, τ, S, q⟩ := q
    exact q _ H G S (Same.refl G) (.int i)
  exact ⟨fun g h => (he g h).1, fun g h => pt_plain (he g h).1 (he g h).2, fun g h => by cases d <;> simp [ck] at h⟩
theorem snd_nil : Snd R Γ .nil where
  e := fun g h => by simp [ck] at h
  t := fun g h => by simp [ck] at h
  a := fun {X c W k xs} g h => by
    cases xs with
    | cons x xs => simp [ck] at h
    | nil =>
      refine PA.imp pa_nil fun σ H Q h => ?_
      obtain ⟨ρ, G, τ, S, q⟩ := h
      exact q [] H G S (Same.refl G) trivial
theorem snd_cons {e es : E} (he : Snd R Γ e) (hs : Snd R Γ es) : Snd R Γ (.cons e es) where
  e := fun g h => by simp [ck] at h
  t := fun g h => by simp [ck] at h
  a := fun {X c W k xs} g h => by
    cases xs with
    | nil => simp [ck] at h
    | cons x xs =>
      by_cases hr : ∃ i, e = .ref i
      · obtain ⟨i, rfl⟩ := hr
        simp only [ck, ckVar, ckCst, ckGlb, ckNil, ckCons, ckTup, ckLst, ckBin, ckNeg, ckCmp, ckChn, ckAnd, ckOr, ckNot, ckIte, ckIsi, ckCall, ckPrm1, ckPrm2, ckIx, ckPart, ckSlc, ckF1, ckF2, ckIfs, ckCmp1, ckCmp2, ckItr, Bool.and_eq_true] at h
        obtain ⟨y, pos, rfl, _⟩ := name_of h.1
        refine PA.imp (pa_cons (pe_name g h.1) (hs.a g h.2) (star_cons fun _ _ z => by cases z)) fun σ H Q q => ?_
        obtain ⟨ρ, G, τ, S, q⟩ := q
        simp only [den, MP.val] at q
        cases ei : ioAt ρ i with
        | none =>
          rw [ei] at q
          exact False.elim q
        | some d =>
          rw [ei] at q
          have mu : ∃ p, σ[i]? = some (some (.ref p)) := by
            unfold ioAt at ei
            cases er : ρ[i]? with
            | none => rw [er] at ei; cases ei
            | some y =>
              rw [er] at ei
              cases y <;> first | cases ei | skip
              · exact S.muts i _ (.inl er)
              · exact S.muts i _ (.inr (.inr er))
          obtain ⟨p, hp⟩ := mu
          refine ⟨.ref p, hp, ρ, G, τ, S, ?_⟩
          have q : PostA c W σ G τ (.cons (.ref i) es) Q ((den Γ es ρ).bind fun cv ρ2 => match cv with
            | .val (.lst ds) => .ok (.val (.lst (D.non :: ds))) ρ2
            | _ => .bad) := q
          cases ed : den Γ es ρ with
          | ok cv ρ2 =>
            rw [ed] at q
            cases cv with
            | own d => exact False.elim q
            | val d =>
              cases d <;> first | exact False.elim q | skip
              exact fun vs H' G' S' s r => q (.ref p :: vs) H' G' S' s ⟨hp, r⟩
          | ex z ρ2 =>
            rw [ed] at q
            exact q
          | bad =>
            rw [ed] at q
            exact q
      · have nr : ∀ i, e ≠ .ref i := fun i z => hr ⟨i, z⟩
        have h' : ck R e X.env.scope (.e x) = true ∧ ck R es X.env.scope (.a xs) = true := by
          simp only [ck, ckVar, ckCst, ckGlb, ckNil, ckCons, ckTup, ckLst, ckBin, ckNeg, ckCmp, ckChn, ckAnd, ckOr, ckNot, ckIte, ckIsi, ckCall, ckPrm1, ckPrm2, ckIx, ckPart, ckSlc, ckF1, ckF2, ckIfs, ckCmp1, ckCmp2, ckItr, Bool.and_eq_true] at h
          refine ⟨?_, h.2⟩
          exact h.1
        refine PA.imp (pa_cons (he.e g h'.1) (hs.a g h'.2) (star_cons (ck_shape h'.1).1)) fun σ H Q q => ?_
        obtain ⟨ρ, G, τ, S, q⟩ := q
        simp only [den] at q
        refine td_val S ?_
        cases ev : MP.val (den Γ e) ρ with
        | ex z ρ1 =>
          rw [ev] at q
          exact q
        | bad =>
          rw [ev] at q
          exact q
        | ok d ρ1 =>
          rw [ev] at q
          intro H1 G1 S1 s1 v r
          refine ⟨ρ1, G1, τ, S1, ?_⟩
          have q : PostA c W σ G τ (.cons e es) Q ((den Γ es ρ1).bind fun cv ρ2 => match cv with
            | .val (.lst ds) => .ok (.val (.lst (d :: ds))) ρ2
            | _ => .bad) := q
          cases ed : den Γ es ρ1 with
          | ok cv ρ2 =>
            rw [ed] at q
            cases cv with
            | own d => exact False.elim q
            | val d' =>
              cases d' <;> first | exact False.elim q | skip
              rename_i ds
              intro vs H' G' S' s rr
              refine q (v :: vs) H' G' S' (s1.trans s) ?_
              cases e <;> first | exact absurd rfl (nr _) | exact ⟨r.mono s, rr⟩
          | ex z ρ2 =>
            rw [ed] at q
            exact fun H' G' S' s => q H' G' S' (s1.trans s)
          | bad =>
            rw [ed] at q
            exact q

/-! ### displays, operators -/
theorem repL_of : ∀ {p : E} {vs : List V} {ds : List D} {w : Wd}, noRef p = true → RepArgs w σ G p vs ds → RepL w G vs ds
  | .nil, [], [], _, _, _ => .nil
  | .cons e es, [], _, _, _, r => by cases e <;> simp [RepArgs] at r
  | .cons e es, _ :: _, [], _, _, r => by cases e <;> simp [RepArgs] at r
  | .cons e es, v :: vs, d :: ds, w, h, r => by
    cases e
    case ref i => simp [noRef, refsOf] at h
    all_goals
      obtain ⟨r1, r2⟩ := r
      exact .cons r1 (repL_of (p := es) (by simpa [noRef, refsOf] using h) r2)
/-- an argument list without references, then a display -/
theorem ta_lst {es : E} {f : List D → Rho → Out CV} {Q' : List V → Hp → Prop} (S : Stt c ρ G τ H σ) (hn : noRef es = true) (q : Post c W σ G τ Q ((den Γ es ρ).bind fun cv ρ1 => match cv with
    | .val (.lst ds) => f ds ρ1
    | _ => .bad)) (hk : ∀ ds ρ1 vs H' G', Stt c ρ1 G' τ H' σ → Same G G' → RepL c.w G' vs ds → Post c W σ G' τ Q (f ds ρ1) → Q' vs H') : tA Γ c W es σ H Q' := by
  refine ⟨ρ, G, τ, S, ?_⟩
  cases ed : den Γ es ρ with
  | ok cv ρ2 =>
    rw [ed] at q
    cases cv with
    | own d => exact False.elim q
    | val d =>
      cases d <;> first | exact False.elim q | skip
      exact fun vs H' G' S' s r => hk _ _ vs H' G' S' s (repL_of hn r) (Post.mono s q)
  | ex z ρ2 =>
    rw [ed] at q
    exact q
  | bad =>
    rw [ed] at q
    exact q
theorem snd_of {p : E} (he : ∀ {X : Cx} {c : Fc} {W : WX} {k : Nat} {x : Expr}, Gd R X Γ c k W → ck R p X.env.scope (.e x) = true → PE X x (tD Γ c W p) ∧ ∀ whole, isTrue x X.env whole = (do let v ← whole; standAt x.pos; holding [v] (truthy v)))
    (ha : ∀ (sc : Scope) (xs : List Expr), ck R p sc (.a xs) = false) : Snd R Γ p :=
  ⟨fun g h => (he g h).1, fun g h => pt_plain (he g h).1 (he g h).2, fun g h => by rw [ha] at h; cases h⟩
theorem snd_tup {es : E} (hs : Snd R Γ es) : Snd R Γ (.tup es) := by
  refine snd_of (fun {X c W k x} g h => ?_) (fun _ _ => by simp [ck])
  cases x <;> first | (simp [ck] at h; done) | skip
  simp only [ck, ckVar, ckCst, ckGlb, ckNil, ckCons, ckTup, ckLst, ckBin, ckNeg, ckCmp, ckChn, ckAnd, ckOr, ckNot, ckIte, ckIsi, ckCall, ckPrm1, ckPrm2, ckIx, ckPart, ckSlc, ckF1, ckF2, ckIfs, ckCmp1, ckCmp2, ckItr, Bool.and_eq_true] at h
  refine ⟨PE.imp (pe_tup (hs.a g h.2)) fun σ H Q q => ?_, fun _ => rfl⟩
  obtain ⟨ρ, G, τ, S, q⟩ := q
  refine ta_lst (f := fun ds ρ1 => if ds.length ≤ SL then .ok (.val (.tup ds)) ρ1 else .bad) S h.1 q fun ds ρ1 vs H' G' S' s r q => ?_
  split at q
  · rename_i hl
    exact ⟨by rw [r.length, sl_eq]; exact hl, fun p hp => post_tup S' q r hp⟩
  · exact False.elim q
theorem snd_lst {es : E} (hs : Snd R Γ es) : Snd R Γ (.lst es) := by
  refine snd_of (fun {X c W k x} g h => ?_) (fun _ _ => by simp [ck])
  cases x <;> first | (simp [ck] at h; done) | skip
  simp only [ck, ckVar, ckCst, ckGlb, ckNil, ckCons, ckTup, ckLst, ckBin, ckNeg, ckCmp, ckChn, ckAnd, ckOr, ckNot, ckIte, ckIsi, ckCall, ckPrm1, ckPrm2, ckIx, ckPart, ckSlc, ckF1, ckF2, ckIfs, ckCmp1, ckCmp2, ckItr, Bool.and_eq_true] at h
  refine ⟨PE.imp (pe_lst (hs.a g h.2)) fun σ H Q q => ?_, fun _ => rfl⟩
  obtain ⟨ρ, G, τ, S, q⟩ := q
  refine ta_lst (f := fun ds ρ1 => if ds.length ≤ SL then .ok (.own (.lst ds)) ρ1 else .bad) S h.1 q fun ds ρ1 vs H' G' S' s r q => ?_
  split at q
  · rename_i hl
    exact ⟨by rw [r.length, sl_eq]; exact hl, fun p hp => post_lst S' q r hp⟩
  · exact False.elim q
/-- what follows a meaning, as a row of places -/
theorem post_two {a b : E} {f : D × D → Rho → Out CV} {K2 : V → V → Hp → Prop} (S : Stt c ρ G τ H σ) (q : Post c W σ G τ Q ((two a b (den Γ a) (den Γ b) ρ).bind f))
    (k : ∀ v u d e ρ' H' G', Stt c ρ' G' τ H' σ → Same G G' → RepT c.w G' H' v d → RepT c.w G' H' u e → Post c W σ G' τ Q (f (d, e) ρ') → K2 v u H') :
    tO Γ c W a σ H fun x H1 => tO Γ c W b σ H1 fun y H2 => K2 x y H2 := by
  have q' := q.bindR
  refine two_then (f := fun p ρ => .ok (p, ρ) ρ) S q' fun v u d e ρ' H' G' S' s hv hu q2 => ?_
  exact k v u d e ρ' H' G' S' s hv hu (q2 H' G' S' (Same.refl G') S')
theorem post_opd {a : E} {f : D → Rho → Out CV} {K1 : VK} (S : Stt c ρ G τ H σ) (q : Post c W σ G τ Q ((opd a (den Γ a) ρ).bind f))
    (k : ∀ v d ρ' H' G', Stt c ρ' G' τ H' σ → Same G G' → RepT c.w G' H' v d → Post c W σ G' τ Q (f d ρ') → K1 v H') : tO Γ c W a σ H K1 :=
  to_then (f := fun d ρ => .ok (d, ρ) ρ) S q.bindR fun v d ρ' H' G' S' s _ _ hv q2 => k v d ρ' H' G' S' s hv (q2 H' G' S' (Same.refl G') S')
theorem post_val {a : E} {f : D → Rho → Out CV} {K1 : VK} (S : Stt c ρ G τ H σ) (q : Post c W σ G τ Q ((MP.val (den Γ a) ρ).bind f))
    (k : ∀ v d ρ' H' G', Stt c ρ' G' τ H' σ → Same G G' → Rep c.w G' v d → Post c W σ G' τ Q (f d ρ') → K1 v H') : tD Γ c W a σ H K1 :=
  td_then (f := fun d ρ => .ok (d, ρ) ρ) S q.bindR fun v d ρ' H' G' S' s hv _ q2 => k v d ρ' H' G' S' s hv (q2 H' G' S' (Same.refl G') S')
theorem snd_bin {op : Bop} {a b : E} (ha : Snd R Γ a) (hb : Snd R Γ b) : Snd R Γ (.bin op a b) := by
  refine snd_of (fun {X c W k x} g h => ?_) (fun _ _ => by simp [ck])
  cases x <;> first | (simp [ck] at h; done) | skip
  simp only [ck, ckVar, ckCst, ckGlb, ckNil, ckCons, ckTup, ckLst, ckBin, ckNeg, ckCmp, ckChn, ckAnd, ckOr, ckNot, ckIte, ckIsi, ckCall, ckPrm1, ckPrm2, ckIx, ckPart, ckSlc, ckF1, ckF2, ckIfs, ckCmp1, ckCmp2, ckItr, Bool.and_eq_true, decide_eq_true_eq] at h
  obtain ⟨⟨rfl, h1⟩, h2⟩ := h
  refine ⟨PE.imp (pe_op (op_bin op) (pe_o g ha h1) (pe_o g hb h2)) fun σ H Q q => ?_, fun _ => rfl⟩
  obtain ⟨ρ, G, τ, S, q⟩ := q
  refine post_two (f := fun p ρ1 => newO ρ1 (binOp op p.1 p.2)) S q fun v u d e ρ' H' G' S' s hv hu q => ?_
  rw [g.K]
  exact bin_ok S' hv hu q
theorem snd_neg {a : E} (ha : Snd R Γ a) : Snd R Γ (.neg a) := by
  refine snd_of (fun {X c W k x} g h => ?_) (fun _ _ => by simp [ck])
  cases x <;> first | (simp [ck] at h; done) | skip
  rename_i o y pos
  cases o <;> first | (simp [ck] at h; done) | skip
  simp only [ck, ckVar, ckCst, ckGlb, ckNil, ckCons, ckTup, ckLst, ckBin, ckNeg, ckCmp, ckChn, ckAnd, ckOr, ckNot, ckIte, ckIsi, ckCall, ckPrm1, ckPrm2, ckIx, ckPart, ckSlc, ckF1, ckF2, ckIfs, ckCmp1, ckCmp2, ckItr] at h
  refine ⟨PE.imp (pe_un un_neg (ha.e g h)) fun σ H Q q => ?_, fun _ => rfl⟩
  obtain ⟨ρ, G, τ, S, q⟩ := q
  refine post_val (f := fun d ρ1 => match d with
    | .int i => .ok (.val (.int (-i))) ρ1
    | _ => .bad) S q fun v d ρ' H' G' S' s hv q => ?_
  cases d <;> first | exact False.elim q | skip
  cases hv
  exact ⟨_, rfl, post_here S' q (.int _)⟩
theorem marks_no {op : CmpOp} {y : Expr} (h : ∀ es k pos, y ≠ .Set es k pos) : behindInMarks op y = false := by
  cases y <;> first | rfl | exact absurd rfl (h _ _ _)
theorem snd_cmp {op : Cop} {a b : E} (ha : Snd R Γ a) (hb : Snd R Γ b) : Snd R Γ (.cmp op a b) := by
  have red : ∀ {X : Cx} {c : Fc} {W : WX} {k : Nat}, Gd R X Γ c k W → ∀ σ H Q, tD Γ c W (.cmp op a b) σ H Q → tOp (rCmp X.K op) (tO Γ c W a) (tO Γ c W b) σ H Q := by
    intro X c W k g σ H Q q
    obtain ⟨ρ, G, τ, S, q⟩ := q
    refine post_two (f := fun p ρ1 => ofB ρ1 (cmpOp op p.1 p.2)) S q fun v u d e ρ' H' G' S' s hv hu q => ?_
    rw [g.K]
    exact cmp_ok S' hv hu q
  have sh : ∀ {x : Expr} {sc : Scope}, ck R (.cmp op a b) sc (.e x) = true → ∃ l y pos, x = .Compare l [cop op] [y] pos ∧ ck R a sc (.e l) = true ∧ ck R b sc (.e y) = true := by
    intro x sc h
    cases x <;> first | (simp [ck] at h; done) | skip
    rename_i l ops ys pos
    rcases ops with _ | ⟨o, _ | ⟨o', ops⟩⟩ <;> first | (simp [ck] at h; done) | skip
    rcases ys with _ | ⟨y, _ | ⟨y', ys⟩⟩ <;> first | (simp [ck] at h; done) | skip
    simp only [ck, ckVar, ckCst, ckGlb, ckNil, ckCons, ckTup, ckLst, ckBin, ckNeg, ckCmp, ckChn, ckAnd, ckOr, ckNot, ckIte, ckIsi, ckCall, ckPrm1, ckPrm2, ckIx, ckPart, ckSlc, ckF1, ckF2, ckIfs, ckCmp1, ckCmp2, ckItr, Bool.and_eq_true, decide_eq_true_eq] at h
    obtain ⟨⟨rfl, h1⟩, h2⟩ := h
    exact ⟨l, y, pos, rfl, h1, h2⟩
  refine ⟨fun {X c W k x} g h => ?_, fun {X c W k x} g h => ?_, fun g h => by simp [ck] at h⟩
  · obtain ⟨l, y, pos, rfl, h1, h2⟩ := sh h
    exact PE.imp (pe_cmpR (op_cmp g.un op) (pe_o g ha h1) (pe_o g hb h2) (marks_no (ck_shape h2).2.2)) (red g)
  · obtain ⟨l, y, pos, rfl, h1, h2⟩ := sh h
    exact pt_tst (pt_cmpR (op_cmp g.un op) (pe_o g ha h1) (pe_o g hb h2) (marks_no (ck_shape h2).2.2)) (red g)
theorem snd_chn {o p : Cop} {a b d : E} (ha : Snd R Γ a) (hb : Snd R Γ b) (hd : Snd R Γ d) : Snd R Γ (.chn o p a b d) := by
  have red : ∀ {X : Cx} {c : Fc} {W : WX} {k : Nat}, Gd R X Γ c k W → ∀ σ H Q, tD Γ c W (.chn o p a b d) σ H Q → tChain (rCmp X.K o) (rCmp X.K p) (tD Γ c W a) (tD Γ c W b) (tD Γ c W d) σ H Q := by
    intro X c W k g σ H Q q
    obtain ⟨ρ, G, τ, S, q⟩ := q
    refine post_val (f := fun x ρ1 => (MP.val (den Γ b) ρ1).bind fun y ρ2 => match cmpOp o x y with
      | some true => (MP.val (den Γ d) ρ2).bind fun z ρ3 => ofB ρ3 (cmpOp p y z)
      | some false => .ok (.val (.bl false)) ρ2
      | none => .bad) S q fun v x ρ1 H1 G1 S1 s1 hv q => ?_
    refine post_val (f := fun y ρ2 => match cmpOp o x y with
      | some true => (MP.val (den Γ d) ρ2).bind fun z ρ3 => ofB ρ3 (cmpOp p y z)
      | some false => .ok (.val (.bl false)) ρ2
      | none => .bad) S1 q fun u y ρ2 H2 G2 S2 s2 hu q => ?_
    rw [g.K]
    cases e : cmpOp o x y with
    | none =>
      simp only [e] at q
      exact False.elim q
    | some r =>
      refine cmp_ok (W := W) S2 (.inl (hv.mono s2)) (.inl hu) ?_
      rw [e]
      intro z H3 G3 S3 s3 rz
      cases rz
      refine ⟨r, rfl, ?_⟩
      cases r with
      | false =>
        simp only [e] at q
        rw [if_neg Bool.false_ne_true]
        exact q _ H3 G3 S3 s3 (.bl false)
      | true =>
        simp only [e] at q
        rw [if_pos rfl]
        refine post_val (f := fun z ρ3 => ofB ρ3 (cmpOp p y z)) S3 (Post.mono s3 q) fun w z ρ4 H4 G4 S4 s4 hw q => ?_
        exact cmp_ok S4 (.inl ((hu.mono s3).mono s4)) (.inl hw) q
  have sh : ∀ {x : Expr} {sc : Scope}, ck R (.chn o p a b d) sc (.e x) = true → ∃ l y z pos, x = .Compare l [cop o, cop p] [y, z] pos ∧ ck R a sc (.e l) = true ∧ ck R b sc (.e y) = true ∧ ck R d sc (.e z) = true := by
    intro x sc h
    cases x <;> first | (simp [ck] at h; done) | skip
    rename_i l ops ys pos
    rcases ops with _ | ⟨o1, _ | ⟨o2, _ | ⟨o3, ops⟩⟩⟩ <;> first | (simp [ck] at h; done) | skip
    rcases ys with _ | ⟨y, _ | ⟨z, _ | ⟨z', ys⟩⟩⟩ <;> first | (simp [ck] at h; done) | skip
    simp only [ck, ckVar, ckCst, ckGlb, ckNil, ckCons, ckTup, ckLst, ckBin, ckNeg, ckCmp, ckChn, ckAnd, ckOr, ckNot, ckIte, ckIsi, ckCall, ckPrm1, ckPrm2, ckIx, ckPart, ckSlc, ckF1, ckF2, ckIfs, ckCmp1, ckCmp2, ckItr, Bool.and_eq_true, decide_eq_true_eq] at h
    obtain ⟨⟨⟨⟨rfl, rfl⟩, h1⟩, h2⟩, h3⟩ := h
    exact ⟨l, y, z, pos, rfl, h1, h2, h3⟩
  refine ⟨fun {X c W k x} g h => ?_, fun {X c W k x} g h => ?_, fun g h => by simp [ck] at h⟩
  · obtain ⟨l, y, z, pos, rfl, h1, h2, h3⟩ := sh h
    refine PE.imp (pe_chain (op_cmp g.un o) (op_cmp g.un p) (ha.e g h1) (hb.e g h2) (hd.e g h3) ?_) (red g)
    show behindInMarks _ z = false
    exact marks_no (ck_shape h3).2.2
  · obtain ⟨l, y, z, pos, rfl, h1, h2, h3⟩ := sh h
    refine pt_tst (pt_chain (op_cmp g.un o) (op_cmp g.un p) (ha.e g h1) (hb.e g h2) (hd.e g h3) ?_) (red g)
    show behindInMarks _ z = false
    exact marks_no (ck_shape h3).2.2
end
end MPS
end
section
set_option Elab.async false
set_option linter.all false
set_option maxRecDepth 100000
set_option maxHeartbeats 2000000
/-! MpD3: and, or, not, if; isinstance; built-ins; places and slices. -/
namespace MPS
open PySem L2 MP
section
variable {R : Row} {Γ : Tab} {X : Cx} {c : Fc} {W : WX} {k : Nat} {x : Expr} {ρ : Rho} {G G' H H' : Hp} {τ : List (Addr × D)} {σ : L2.St} {Q : VK}
/-- a test's reading, then more -/
theorem tt_then {β : Type} {a : E} {f : D → Rho → Out β} {R' : β → Hp → Hp → Prop} {K1 : Bool → Hp → Prop} (S : Stt c ρ G τ H σ) (q : PostR c W σ G τ R' ((MP.val (den Γ a) ρ).bind f))
    (hb : ∀ d ρ', (∀ b, d ≠ .bl b) → f d ρ' = .bad)
    (k : ∀ b ρ' H' G', Stt c ρ' G' τ H' σ → Same G G' → PostR c W σ G' τ R' (f (.bl b) ρ') → K1 b H') : tT Γ c W a σ H K1 := by
  refine ⟨ρ, G, τ, S, ?_⟩
  cases e : MP.val (den Γ a) ρ with
  | ok d ρ' =>
    rw [e] at q
    intro H' G' S' s
    by_cases hd : ∃ b, d = .bl b
    · obtain ⟨b, rfl⟩ := hd
      exact ⟨b, rfl, k b ρ' H' G' S' s (PostR.mono s q)⟩
    · have q : PostR c W σ G τ R' (f d ρ') := q
      rw [hb d ρ' fun b z => hd ⟨b, z⟩] at q
      exact False.elim q
  | ex z ρ' =>
    rw [e] at q
    exact q
  | bad =>
    rw [e] at q
    exact q
theorem post_tt {a : E} {f : D → Rho → Out CV} {K1 : Bool → Hp → Prop} (S : Stt c ρ G τ H σ) (q : Post c W σ G τ Q ((MP.val (den Γ a) ρ).bind f))
    (hb : ∀ d ρ', (∀ b, d ≠ .bl b) → f d ρ' = .bad)
    (k : ∀ b ρ' H' G', Stt c ρ' G' τ H' σ → Same G G' → Post c W σ G' τ Q (f (.bl b) ρ') → K1 b H') : tT Γ c W a σ H K1 := by
  refine ⟨ρ, G, τ, S, ?_⟩
  cases e : MP.val (den Γ a) ρ with
  | ok d ρ' =>
    rw [e] at q
    intro H' G' S' s
    by_cases hd : ∃ b, d = .bl b
    · obtain ⟨b, rfl⟩ := hd
      exact ⟨b, rfl, k b ρ' H' G' S' s (Post.mono s q)⟩
    · have q : Post c W σ G τ Q (f d ρ') := q
      rw [hb d ρ' fun b z => hd ⟨b, z⟩] at q
      exact False.elim q
  | ex z ρ' =>
    rw [e] at q
    exact q
  | bad =>
    rw [e] at q
    exact q
theorem pw_of_pt {op : BoolOp} {vs : List Expr} {pos : Pos} {t : TT} (h : PT X (.BoolOp op vs pos) t) : PW X (.BoolOp op vs pos) t := ⟨fun wh pins s σ H Q I q => by
  have := h.run pins s σ H Q I q
  have e : ∀ w w', PySem.isTrue (.BoolOp op vs pos) X.env w = PySem.isTrue (.BoolOp op vs pos) X.env w' := fun w w' => by simp only [PySem.isTrue]
  rw [e wh (eval (.BoolOp op vs pos) X.env)]
  exact this⟩

def blF (cv : CV) (ρ2 : Rho) : Out CV := match cv.d with
      | .bl k => .ok (.val (.bl k)) ρ2
      | _ => .bad
def andF (mb : Rho → Out CV) (x : D) (ρ1 : Rho) : Out CV := match x with
    | .bl true => (mb ρ1).bind blF
    | .bl false => .ok (.val (.bl false)) ρ1
    | _ => .bad
def orF (mb : Rho → Out CV) (x : D) (ρ1 : Rho) : Out CV := match x with
    | .bl false => (mb ρ1).bind blF
    | .bl true => .ok (.val (.bl true)) ρ1
    | _ => .bad
theorem andF_bad (mb : Rho → Out CV) (d : D) (ρ' : Rho) (h : ∀ b, d ≠ .bl b) : andF mb d ρ' = .bad := by
  cases d <;> first | rfl | exact absurd rfl (h _)
theorem orF_bad (mb : Rho → Out CV) (d : D) (ρ' : Rho) (h : ∀ b, d ≠ .bl b) : orF mb d ρ' = .bad := by
  cases d <;> first | rfl | exact absurd rfl (h _)
/-- a value that is a bool, handed on -/
theorem post_bl {b : E} (S : Stt c ρ G τ H σ) (q : Post c W σ G τ Q ((den Γ b ρ).bind blF)) : tD Γ c W b σ H Q := by
  refine td_val S ?_
  unfold MP.val
  cases e : den Γ b ρ with
  | ok cv ρ' =>
    rw [e] at q
    intro H' G' S' s v r
    have q : Post c W σ G τ Q (blF cv ρ') := q
    unfold blF at q
    cases ed : cv.d <;> simp only [ed] at q r <;> first | exact False.elim q | skip
    exact q v H' G' S' s r
  | ex z ρ' =>
    rw [e] at q
    exact q
  | bad =>
    rw [e] at q
    exact q
theorem tt_tail {b : E} {Q : Bool → Hp → Prop} (S : Stt c ρ G τ H σ) (q : PostR c W σ G τ (fun (d : D) _ H' => ∃ k, d = .bl k ∧ Q k H') (((den Γ b ρ).bind blF).bind fun cv ρ2 => .ok cv.d ρ2)) : tT Γ c W b σ H Q := by
  refine ⟨ρ, G, τ, S, ?_⟩
  unfold MP.val
  cases e : den Γ b ρ with
  | ok cv ρ2 =>
    rw [e] at q
    have q : PostR c W σ G τ (fun (d : D) _ H' => ∃ k, d = .bl k ∧ Q k H') ((blF cv ρ2).bind fun cv ρ2 => .ok cv.d ρ2) := q
    unfold blF at q
    cases ed : cv.d <;> simp only [ed] at q <;> first | exact False.elim q | skip
    intro H2 G2 S2 s2
    show ∃ k, cv.d = .bl k ∧ Q k H2
    rw [ed]
    exact q H2 G2 S2 s2
  | ex z ρ2 =>
    rw [e] at q
    exact q
  | bad =>
    rw [e] at q
    exact q
theorem rest_shape {op : BoolOp} {y : Expr} {rest : List Expr} {pos : Pos} {p : E} {sc : Scope} (h : ck R p sc (.e (match rest with
    | [] => y
    | _ => .BoolOp op (y :: rest) pos)) = true) : (rest = [] ∧ ck R p sc (.e y) = true) ∨ ck R p sc (.e (.BoolOp op (y :: rest) pos)) = true := by
  cases rest with
  | nil => exact .inl ⟨rfl, h⟩
  | cons z zs => exact .inr h
theorem snd_and {a b : E} (ha : Snd R Γ a) (hb : Snd R Γ b) : Snd R Γ (.and a b) := by
  have sh : ∀ {x : Expr} {sc : Scope}, ck R (.and a b) sc (.e x) = true → ∃ l y rest pos, x = .BoolOp .And (l :: y :: rest) pos ∧ ck R a sc (.e l) = true ∧ ((rest = [] ∧ ck R b sc (.e y) = true) ∨ ck R b sc (.e (.BoolOp .And (y :: rest) pos)) = true) := by
    intro x sc h
    cases x <;> first | (simp [ck] at h; done) | skip
    rename_i op vs pos
    cases op <;> first | (simp [ck] at h; done) | skip
    rcases vs with _ | ⟨l, _ | ⟨y, rest⟩⟩ <;> first | (simp [ck] at h; done) | skip
    simp only [ck, ckVar, ckCst, ckGlb, ckNil, ckCons, ckTup, ckLst, ckBin, ckNeg, ckCmp, ckChn, ckAnd, ckOr, ckNot, ckIte, ckIsi, ckCall, ckPrm1, ckPrm2, ckIx, ckPart, ckSlc, ckF1, ckF2, ckIfs, ckCmp1, ckCmp2, ckItr, Bool.and_eq_true] at h
    exact ⟨l, y, rest, pos, rfl, h.1, rest_shape h.2⟩
  refine ⟨fun {X c W k x} g h => ?_, fun {X c W k x} g h => ?_, fun g h => by simp [ck] at h⟩
  · obtain ⟨l, y, rest, pos, rfl, h1, h2⟩ := sh h
    have hy : PE X (.BoolOp .And (y :: rest) pos) (tD Γ c W b) := by
      rcases h2 with ⟨rfl, h2⟩ | h2
      · exact pe_one (hb.e g h2)
      · exact hb.e g h2
    refine PE.imp (pe_and (ha.e g h1) hy) fun σ H Q q => ?_
    obtain ⟨ρ, G, τ, S, q⟩ := q
    refine post_val (f := andF (den Γ b)) S q fun v d ρ' H' G' S' s hv q => ?_
    cases hv <;> first | exact False.elim q | skip
    rename_i k
    refine ⟨k, rfl, ?_⟩
    cases k with
    | true =>
      rw [if_pos rfl]
      exact post_bl S' q
    | false =>
      rw [if_neg Bool.false_ne_true]
      exact post_here S' q (.bl false)
  · obtain ⟨l, y, rest, pos, rfl, h1, h2⟩ := sh h
    have hy : PW X (.BoolOp .And (y :: rest) pos) (tT Γ c W b) := by
      rcases h2 with ⟨rfl, h2⟩ | h2
      · exact pw_and1 (hb.t g h2)
      · exact pw_of_pt (hb.t g h2)
    refine PT.imp (pw_and (ha.t g h1) hy).pt fun σ H Q q => ?_
    obtain ⟨ρ, G, τ, S, q⟩ := q
    have e1 : MP.val (den Γ (.and a b)) ρ = (MP.val (den Γ a) ρ).bind fun d ρ' => MP.val (fun ρ => andF (den Γ b) d ρ) ρ' := by
      unfold MP.val
      simp only [den]
      unfold MP.val
      cases den Γ a ρ <;> rfl
    rw [e1] at q
    refine tt_then S q (fun d ρ' h => by show Out.bind (andF (den Γ b) d ρ') _ = _; rw [andF_bad _ _ _ h]; rfl) fun k ρ' H' G' S' s q => ?_
    cases k with
    | false =>
      rw [if_neg Bool.false_ne_true]
      obtain ⟨k, e, q⟩ := q H' G' S' (Same.refl _)
      cases e
      exact q
    | true =>
      rw [if_pos rfl]
      exact tt_tail S' q
theorem snd_or {a b : E} (ha : Snd R Γ a) (hb : Snd R Γ b) : Snd R Γ (.or a b) := by
  have sh : ∀ {x : Expr} {sc : Scope}, ck R (.or a b) sc (.e x) = true → ∃ l y rest pos, x = .BoolOp .Or (l :: y :: rest) pos ∧ ck R a sc (.e l) = true ∧ ((rest = [] ∧ ck R b sc (.e y) = true) ∨ ck R b sc (.e (.BoolOp .Or (y :: rest) pos)) = true) := by
    intro x sc h
    cases x <;> first | (simp [ck] at h; done) | skip
    rename_i op vs pos
    cases op <;> first | (simp [ck] at h; done) | skip
    rcases vs with _ | ⟨l, _ | ⟨y, rest⟩⟩ <;> first | (simp [ck] at h; done) | skip
    simp only [ck, ckVar, ckCst, ckGlb, ckNil, ckCons, ckTup, ckLst, ckBin, ckNeg, ckCmp, ckChn, ckAnd, ckOr, ckNot, ckIte, ckIsi, ckCall, ckPrm1, ckPrm2, ckIx, ckPart, ckSlc, ckF1, ckF2, ckIfs, ckCmp1, ckCmp2, ckItr, Bool.and_eq_true] at h
    exact ⟨l, y, rest, pos, rfl, h.1, rest_shape h.2⟩
  refine ⟨fun {X c W k x} g h => ?_, fun {X c W k x} g h => ?_, fun g h => by simp [ck] at h⟩
  · obtain ⟨l, y, rest, pos, rfl, h1, h2⟩ := sh h
    have hy : PE X (.BoolOp .Or (y :: rest) pos) (tD Γ c W b) := by
      rcases h2 with ⟨rfl, h2⟩ | h2
      · exact pe_one (hb.e g h2)
      · exact hb.e g h2
    refine PE.imp (pe_or (ha.e g h1) hy) fun σ H Q q => ?_
    obtain ⟨ρ, G, τ, S, q⟩ := q
    refine post_val (f := orF (den Γ b)) S q fun v d ρ' H' G' S' s hv q => ?_
    cases hv <;> first | exact False.elim q | skip
    rename_i k
    refine ⟨k, rfl, ?_⟩
    cases k with
    | false =>
      rw [if_neg Bool.false_ne_true]
      exact post_bl S' q
    | true =>
      rw [if_pos rfl]
      exact post_here S' q (.bl true)
  · obtain ⟨l, y, rest, pos, rfl, h1, h2⟩ := sh h
    have hy : PW X (.BoolOp .Or (y :: rest) pos) (tT Γ c W b) := by
      rcases h2 with ⟨rfl, h2⟩ | h2
      · exact pw_or1 (hb.t g h2)
      · exact pw_of_pt (hb.t g h2)
    refine PT.imp (pw_or (ha.t g h1) hy).pt fun σ H Q q => ?_
    obtain ⟨ρ, G, τ, S, q⟩ := q
    have e1 : MP.val (den Γ (.or a b)) ρ = (MP.val (den Γ a) ρ).bind fun d ρ' => MP.val (fun ρ => orF (den Γ b) d ρ) ρ' := by
      unfold MP.val
      simp only [den]
      unfold MP.val
      cases den Γ a ρ <;> rfl
    rw [e1] at q
    refine tt_then S q (fun d ρ' h => by show Out.bind (orF (den Γ b) d ρ') _ = _; rw [orF_bad _ _ _ h]; rfl) fun k ρ' H' G' S' s q => ?_
    cases k with
    | true =>
      rw [if_pos rfl]
      obtain ⟨k, e, q⟩ := q H' G' S' (Same.refl _)
      cases e
      exact q
    | false =>
      rw [if_neg Bool.false_ne_true]
      exact tt_tail S' q
def notF (x : D) (ρ1 : Rho) : Out CV := match x with
    | .bl k => .ok (.val (.bl (!k))) ρ1
    | _ => .bad
theorem snd_not {a : E} (ha : Snd R Γ a) : Snd R Γ (.not a) := by
  have sh : ∀ {x : Expr} {sc : Scope}, ck R (.not a) sc (.e x) = true → ∃ l pos, x = .UnaryOp .Not l pos ∧ ck R a sc (.e l) = true := by
    intro x sc h
    cases x <;> first | (simp [ck] at h; done) | skip
    rename_i op l pos
    cases op <;> first | (simp [ck] at h; done) | skip
    exact ⟨l, pos, rfl, by simpa [ck] using h⟩
  refine ⟨fun {X c W k x} g h => ?_, fun {X c W k x} g h => ?_, fun g h => by simp [ck] at h⟩
  · obtain ⟨l, pos, rfl, h1⟩ := sh h
    refine PE.imp (pe_not (ha.e g h1)) fun σ H Q q => ?_
    obtain ⟨ρ, G, τ, S, q⟩ := q
    refine post_val (f := notF) S q fun v d ρ' H' G' S' s hv q => ?_
    cases hv <;> first | exact False.elim q | skip
    exact ⟨_, rfl, post_here S' q (.bl _)⟩
  · obtain ⟨l, pos, rfl, h1⟩ := sh h
    refine PT.imp (pt_not (ha.t g h1)) fun σ H Q q => ?_
    obtain ⟨ρ, G, τ, S, q⟩ := q
    have e1 : MP.val (den Γ (.not a)) ρ = (MP.val (den Γ a) ρ).bind fun d ρ' => MP.val (fun ρ => notF d ρ) ρ' := by
      unfold MP.val
      simp only [den]
      unfold MP.val
      cases den Γ a ρ <;> rfl
    rw [e1] at q
    refine tt_then S q (fun d ρ' h => by unfold MP.val; cases d <;> first | rfl | exact absurd rfl (h _)) fun k ρ' H' G' S' s q => ?_
    obtain ⟨k, e, q⟩ := q H' G' S' (Same.refl _)
    cases e
    exact q
def iteF (ma mb : Rho → Out CV) (x : D) (ρ1 : Rho) : Out CV := match x with
    | .bl true => ma ρ1
    | .bl false => mb ρ1
    | _ => .bad
theorem snd_ite {z a b : E} (hz : Snd R Γ z) (ha : Snd R Γ a) (hb : Snd R Γ b) : Snd R Γ (.ite z a b) := by
  have he : ∀ {X : Cx} {c : Fc} {W : WX} {k : Nat} {x : Expr}, Gd R X Γ c k W → ck R (.ite z a b) X.env.scope (.e x) = true → PE X x (tD Γ c W (.ite z a b)) := by
    intro X c W k x g h
    cases x <;> first | (simp [ck] at h; done) | skip
    simp only [ck, ckVar, ckCst, ckGlb, ckNil, ckCons, ckTup, ckLst, ckBin, ckNeg, ckCmp, ckChn, ckAnd, ckOr, ckNot, ckIte, ckIsi, ckCall, ckPrm1, ckPrm2, ckIx, ckPart, ckSlc, ckF1, ckF2, ckIfs, ckCmp1, ckCmp2, ckItr, Bool.and_eq_true] at h
    refine PE.imp (pe_ifExp (hz.t g h.1.1) (ha.e g h.1.2) (hb.e g h.2)) fun σ H Q q => ?_
    obtain ⟨ρ, G, τ, S, q⟩ := q
    refine post_tt (f := iteF (den Γ a) (den Γ b)) S q (fun d ρ' h => by cases d <;> first | rfl | exact absurd rfl (h _)) fun k ρ' H' G' S' s q => ?_
    cases k with
    | true =>
      rw [if_pos rfl]
      exact ⟨ρ', G', τ, S', q⟩
    | false =>
      rw [if_neg Bool.false_ne_true]
      exact ⟨ρ', G', τ, S', q⟩
  refine ⟨he, fun {X c W k x} g h => ?_, fun g h => by simp [ck] at h⟩
  have h0 := h
  cases x <;> first | (simp [ck] at h; done) | skip
  rename_i t y u pos
  simp only [ck, ckVar, ckCst, ckGlb, ckNil, ckCons, ckTup, ckLst, ckBin, ckNeg, ckCmp, ckChn, ckAnd, ckOr, ckNot, ckIte, ckIsi, ckCall, ckPrm1, ckPrm2, ckIx, ckPart, ckSlc, ckF1, ckF2, ckIfs, ckCmp1, ckCmp2, ckItr, Bool.and_eq_true] at h
  refine ⟨fun pins s σ H Q I q => ?_⟩
  have hx : PySem.isTrue (.IfExp t y u pos) X.env (eval (.IfExp t y u pos) X.env) = (do if ← PySem.isTrue t X.env (eval t X.env) then PySem.isTrue y X.env (eval y X.env) else PySem.isTrue u X.env (eval u X.env)) := by simp only [PySem.isTrue]
  rw [hx]
  obtain ⟨ρ, G, τ, S, q⟩ := q
  have e1 : MP.val (den Γ (.ite z a b)) ρ = (MP.val (den Γ z) ρ).bind fun d ρ' => MP.val (fun ρ => iteF (den Γ a) (den Γ b) d ρ) ρ' := by
    unfold MP.val
    simp only [den]
    unfold MP.val
    cases den Γ z ρ <;> rfl
  rw [e1] at q
  have qt : tT Γ c W z σ H fun k H1 => if k = true then tT Γ c W a σ H1 Q else tT Γ c W b σ H1 Q := by
    refine tt_then S q (fun d ρ' h => by unfold MP.val; cases d <;> first | rfl | exact absurd rfl (h _)) fun k ρ' H' G' S' s q => ?_
    cases k with
    | true =>
      rw [if_pos rfl]
      exact ⟨ρ', G', τ, S', q⟩
    | false =>
      rw [if_neg Bool.false_ne_true]
      exact ⟨ρ', G', τ, S', q⟩
  refine wpAny_bind (thn ((hz.t g h.1.1).run pins s σ H _ I qt) fun k s1 ⟨H1, I1, q1⟩ => ?_)
  cases k with
  | true =>
    rw [if_pos rfl] at q1
    exact (ha.t g h.1.2).run pins s1 σ H1 Q I1 q1
  | false =>
    rw [if_neg Bool.false_ne_true] at q1
    exact (hb.t g h.2).run pins s1 σ H1 Q I1 q1
end
end MPS
end
section
set_option Elab.async false
set_option linter.all false
set_option maxRecDepth 100000
set_option maxHeartbeats 2000000
/-! MpD4: isinstance; built-ins; places and slices. -/
namespace MPS
open PySem L2 MP
section
variable {R : Row} {Γ : Tab} {X : Cx} {c : Fc} {W : WX} {k : Nat} {x : Expr} {ρ : Rho} {G G' H H' : Hp} {τ : List (Addr × D)} {σ : L2.St} {Q : VK}
/-! ### isinstance -/
def tyOfD : D → String
  | .non => "NoneType"
  | .bl _ => "bool"
  | .int _ => "int"
  | .str _ => "str"
  | .tup _ => "tuple"
  | .lst _ => "list"
  | .scr _ => "list"
  | _ => "dict"
theorem ty_mem (d : D) : tyOfD d ∈ tyNames := by cases d <;> simp [tyOfD, tyNames]
theorem sqL_ty {K : PySem.W.Frag} {a : Addr} {xs : List V} (h : SqL K H a xs) : TyX K H (.ref a) (.type "list") := by
  rcases h with (h | ⟨o, h⟩) | ⟨o, its, n, h, hc, _⟩
  · exact .base (.lst h)
  · exact .base (.frz h)
  · exact .kList h hc
theorem repT_ty {v : V} {d : D} (s : Same G H) (h : RepT c.w G H v d) (hd : ∀ n fs, d ≠ .obj n fs) (hf : ∀ n, d ≠ .fn n) (hk : ∀ kvs, d ≠ .dic kvs) : TyX c.w.K H v (.type (tyOfD d)) := by
  rcases h with h | ⟨a, o, rfl, e, h⟩
  · cases h with
    | non => exact .base .non
    | bl b => exact .base (.bl b)
    | int i => exact .base (.int i)
    | str s => exact .base (.str _)
    | tup e r => exact .base (.tup (s _ _ e))
    | lst e r => exact .base (.lst (s _ _ e))
    | obj _ _ _ => exact absurd rfl (hd _ _)
    | fn n => exact absurd rfl (hf _)
    | scr e => exact sqL_ty (same_l s e)
  · cases h with
    | lst r => exact .base (.lst e)
    | obj _ _ => exact absurd rfl (hd _ _)
theorem repT_obj {v : V} {n : String} {fs : List (String × D)} (s : Same G H) (h : RepT c.w G H v (.obj n fs)) : n ∈ c.w.cls ∧ ∃ a dx vs, v = .ref a ∧ H a = some (.ins (c.w.κ n) dx vs) ∧ RepF c.w G vs fs := by
  rcases h with h | ⟨a, o, rfl, e, h⟩
  · cases h with
    | obj m e r => exact ⟨m, _, _, _, rfl, s _ _ e, r⟩
  · cases h with
    | obj m r => exact ⟨m, a, _, _, rfl, e, r⟩
theorem kit_b (a b : String) (r : Bool) (h : kitB a b = some r) (K : PySem.W.Frag) : PySem.W.kitOne K (.type a) (.type b) = some r := kit_ty h
theorem boot_ty : ∀ t : Ty, (∀ n, t ≠ .cls n) → bootBuiltins (Str.ofString (tyName t)) = some (.type (tyName t)) ∧ Str.ofString (tyName t) ≠ ("__name__" : Str) ∧ (Str.ofString (tyName t) == ("__debug__" : Str)) = false
  | .int, _ => by decide +kernel
  | .bool, _ => by decide +kernel
  | .tuple, _ => by decide +kernel
  | .list, _ => by decide +kernel
  | .dict, _ => by decide +kernel
  | .str, _ => by decide +kernel
  | .cls n, h => absurd rfl (h n)
theorem kit_d {d : D} {t : Ty} {b : Bool} (ht : ∀ n, t ≠ .cls n) (h : isInst d t = some b) (hd : ∀ n fs, d ≠ .obj n fs) : kitB (tyOfD d) (tyName t) = some b := by
  cases d <;> first | (simp [isInst] at h; done) | exact absurd rfl (hd _ _) | skip
  all_goals (cases t <;> first | exact absurd rfl (ht _) | (simp [isInst] at h; subst h; simp only [tyOfD, tyName]; decide +kernel))
theorem boot_isi : bootBuiltins (Str.ofString "isinstance") = some (.builtin "isinstance") := by decide +kernel
theorem snd_isi {a : E} {t : Ty} (ha : Snd R Γ a) : Snd R Γ (.isi a t) := by
  refine snd_of (fun {X c W k x} g h => ?_) (fun _ _ => by simp [ck])
  cases x <;> first | (simp [ck] at h; done) | skip
  rename_i f args kws pos
  rcases args with _ | ⟨y, _ | ⟨z, _ | ⟨z', args⟩⟩⟩ <;> first | (simp [ck] at h; done) | skip
  rcases kws with _ | ⟨kw, kws⟩ <;> first | (simp [ck] at h; done) | skip
  have h' : biB R.bi X.env.scope "isinstance" f = true ∧ ck R a X.env.scope (.e y) = true ∧ tyB R X.env.scope t z = true := by
    simp only [ck, ckVar, ckCst, ckGlb, ckNil, ckCons, ckTup, ckLst, ckBin, ckNeg, ckCmp, ckChn, ckAnd, ckOr, ckNot, ckIte, ckIsi, ckCall, ckPrm1, ckPrm2, ckIx, ckPart, ckSlc, ckF1, ckF2, ckIfs, ckCmp1, ckCmp2, ckItr, Bool.and_eq_true] at h
    exact ⟨h.1.1, h.1.2, h.2⟩
  obtain ⟨h1, h2, h3⟩ := h'
  obtain ⟨fpos, rfl, hg, hm⟩ := bi_of g.bi h1
  by_cases ht : ∃ n, t = .cls n
  · obtain ⟨n, rfl⟩ := ht
    have h3' : (R.cls.contains n && clsB X.env.scope n z) = true := h3
    rw [Bool.and_eq_true] at h3'
    obtain ⟨h6, h4⟩ := h3'
    cases z <;> first | (simp [clsB] at h4; done) | skip
    rename_i zn zpos
    simp only [clsB, Bool.and_eq_true, decide_eq_true_eq, okName, Bool.not_eq_true'] at h4
    obtain ⟨⟨rfl, h4⟩, h5⟩ := h4
    have hn : n ∈ R.cls := by simpa using h6
    have hC := g.cls n (by rw [← g.cln]; exact hn)
    refine ⟨PE.imp (pe_callB call_isi hg hm boot_isi (pa_cons (pe_o g ha h2) (pa_cons (pe_glob (v := .ref (c.w.κ n)) (gl_of h4) (g.clg n hn) rfl h5.1.1) pa_nil rfl) (star_cons (ck_shape h2).1)) (by decide) (by decide) (star_cons (ck_shape h2).1) rfl) fun σ H Q q => ?_, fun _ => rfl⟩
    obtain ⟨ρ, G, τ, S, q⟩ := q
    refine post_opd (f := fun x ρ1 => ofB ρ1 (isInst x (.cls n))) S q fun v d ρ' H' G' S' s hv q => ?_
    cases e : isInst d (.cls n) with
    | none =>
      rw [e] at q
      exact False.elim q
    | some b =>
      rw [e] at q
      by_cases hd : ∃ m fs, d = .obj m fs
      · obtain ⟨m, fs, rfl⟩ := hd
        obtain ⟨_, a, dx, vs, rfl, ea, _⟩ := repT_obj S'.gh hv
        have e : (if m = n then some true else none) = some b := e
        by_cases hmn : m = n
        · subst hmn
          rw [if_pos rfl] at e
          cases e
          exact ⟨_, _, _, _, true, rfl, .own _, .base (.ins ea hC.cl hC.ha hC.hn hC.htk hC.hm), hC.kk, post_here S' q (.bl true)⟩
        · rw [if_neg hmn] at e
          cases e
      · have hd' : ∀ m fs, d ≠ .obj m fs := fun m fs z => hd ⟨m, fs, z⟩
        have hb : b = false := by
          cases d <;> first | exact absurd rfl (hd' _ _) | (simp [isInst] at e; done) | (simp [isInst] at e; exact e.symm) | (simp [isInst] at e; exact e)
        subst hb
        have ty := repT_ty S'.gh hv hd' (fun n z => by subst z; simp [isInst] at e) (fun n z => by subst z; simp [isInst] at e)
        rw [← g.K] at ty
        exact ⟨_, _, _, _, false, rfl, .own _, ty, hC.isK _ (ty_mem d), post_here S' q (.bl false)⟩
  · have ht' : ∀ n, t ≠ .cls n := fun n z => ht ⟨n, z⟩
    have h3 : biB R.bi X.env.scope (tyName t) z = true := by
      cases t <;> first | exact absurd rfl (ht' _) | exact h3
    obtain ⟨zpos, rfl, zg, zm⟩ := bi_of g.bi h3
    obtain ⟨b1, b2, b3⟩ := boot_ty t ht'
    refine ⟨PE.imp (pe_callB call_isi hg hm boot_isi (pa_cons (pe_o g ha h2) (pa_cons (pe_bltn (v := .ty (tyName t)) zg zm b1 rfl b2 b3) pa_nil rfl) (star_cons (ck_shape h2).1)) (by decide) (by decide) (star_cons (ck_shape h2).1) rfl) fun σ H Q q => ?_, fun _ => rfl⟩
    obtain ⟨ρ, G, τ, S, q⟩ := q
    refine post_opd (f := fun x ρ1 => ofB ρ1 (isInst x t)) S q fun v d ρ' H' G' S' s hv q => ?_
    cases e : isInst d t with
    | none =>
      rw [e] at q
      exact False.elim q
    | some b =>
      rw [e] at q
      by_cases hd : ∃ m fs, d = .obj m fs
      · obtain ⟨m, fs, rfl⟩ := hd
        obtain ⟨hm', a, dx, vs, rfl, ea, _⟩ := repT_obj S'.gh hv
        have hC := g.cls m hm'
        have hb : b = false := by
          cases t <;> first | exact absurd rfl (ht' _) | (simp [isInst] at e; exact e.symm) | (simp [isInst] at e; exact e)
        subst hb
        refine ⟨_, _, _, _, false, rfl, .ty _, .base (.ins ea hC.cl hC.ha hC.hn hC.htk hC.hm), ?_, post_here S' q (.bl false)⟩
        refine hC.kIs _ ?_
        cases t <;> first | exact absurd rfl (ht' _) | decide
      · have hd' : ∀ m fs, d ≠ .obj m fs := fun m fs z => hd ⟨m, fs, z⟩
        have ty := repT_ty S'.gh hv hd' (fun n z => by subst z; simp [isInst] at e) (fun n z => by subst z; simp [isInst] at e)
        rw [← g.K] at ty
        exact ⟨_, _, _, _, b, rfl, .ty _, ty, kit_b _ _ _ (kit_d ht' e hd') _, post_here S' q (.bl b)⟩
/-! ### built-ins -/
theorem boot_set : bootBuiltins (Str.ofString "set") = some (.type "set") := by decide +kernel
theorem boot_sorted : bootBuiltins (Str.ofString "sorted") = some (.builtin "sorted") := by decide +kernel
theorem pe_callV {id : Value} {r : List V → Hp → VK → Prop} {n : Str} {e : Expr} {es : List Expr} {t : TA} {p pos : Pos} (hc : CallR X id r) (hid : (∃ s, id = .builtin s) ∨ ∃ s, id = .type s) (hg : Gl X n) (hm : X.mg n = none) (hv : bootBuiltins n = some id) (ha : PA X (e :: es) t) (hn : n ≠ "__name__") (hdb : (n == ("__debug__" : Str)) = false)
    (he : starEach (e :: es) X.env = (false, eval e X.env) :: starEach es X.env) (hpl : (backTo pos (starEach es X.env)).any (·.1) = false) : PE X (.Call (.Name n p) (e :: es) [] pos) (tCB r t) := by
  rcases hid with ⟨s, rfl⟩ | ⟨s, rfl⟩
  · exact pe_callB hc hg hm hv ha hn hdb he hpl
  · exact pe_callTy hc hg hm hv ha hn hdb he hpl
theorem prim_id (p : Prim) (h1 : p ≠ .sortedSet) (h2 : p ≠ .lenSet) : (∃ s, (primFn p).2 = .builtin s) ∨ ∃ s, (primFn p).2 = .type s := by
  cases p <;> first | exact absurd rfl h1 | exact absurd rfl h2 | exact .inl ⟨_, rfl⟩ | exact .inr ⟨_, rfl⟩
theorem pl_one {y : Expr} {env : Env} {pos : Pos} (h : ∀ e q, y ≠ .Starred e q) : (backTo pos (starEach [y] env)).any (·.1) = false := by
  rw [star_cons h]
  rfl
def prmF (p : Prim) (x : D) (ρ1 : Rho) : Out CV := if p.fresh then ownO ρ1 (prim p [x]) else ofO ρ1 (prim p [x])
theorem snd_prm1 {p : Prim} {a : E} (ha : Snd R Γ a) : Snd R Γ (.prm1 p a) := by
  refine snd_of (fun {X c W k x} g h => ?_) (fun _ _ => by simp [ck])
  cases x <;> first | (simp [ck] at h; done) | skip
  rename_i f args kws pos
  rcases args with _ | ⟨y, _ | ⟨z, args⟩⟩ <;> first | (simp [ck] at h; done) | skip
  rcases kws with _ | ⟨kw, kws⟩ <;> first | (simp [ck] at h; done) | skip
  by_cases h1 : p = .sortedSet
  · subst h1
    have h : (biB R.bi X.env.scope "sorted" f && setB R X.env.scope (ck R a) y) = true := h
    rw [Bool.and_eq_true] at h
    obtain ⟨h1, h2⟩ := h
    unfold setB at h2
    split at h2
    · rename_i fs y' pos'
      rw [Bool.and_eq_true] at h2
      obtain ⟨fpos, rfl, fg, fm⟩ := bi_of g.bi h1
      obtain ⟨spos, rfl, sg, sm⟩ := bi_of g.bi h2.1
      have hset := pe_callTy (pos := pos') (p := spos) ((cr_setOfT g.calm (by have := g.un; omega)).or (cr_setOfI g.calm)) sg sm boot_set (pa_cons (pe_o g ha h2.2) pa_nil (star_cons (ck_shape h2.2).1)) (by decide) (by decide) (star_cons (ck_shape h2.2).1) rfl
      refine ⟨PE.imp (pe_callB ((cr_sortedT g.calm).or (cr_sortedSet g.calm)) fg fm boot_sorted (pa_cons hset pa_nil rfl) (by decide) (by decide) rfl rfl) fun σ H Q q => ?_, fun _ => rfl⟩
      obtain ⟨ρ, G, τ, S, q⟩ := q
      refine post_opd (f := prmF .sortedSet) S q fun v d ρ' H' G' S' s hv q => ?_
      cases d <;> first | exact False.elim q | skip
      rw [g.K]
      exact sset_ok S' hv q
    · cases h2
  · by_cases h2 : p = .lenSet
    · subst h2
      simp [ck] at h
    · have h : biB R.bi X.env.scope (primFn p).1 f = true ∧ ck R a X.env.scope (.e y) = true := by
        have h' : (biB R.bi X.env.scope (primFn p).1 f && ck R a X.env.scope (.e y)) = true := by
          cases p <;> first | exact absurd rfl h1 | exact absurd rfl h2 | simpa only [ck, ckVar, ckCst, ckGlb, ckNil, ckCons, ckTup, ckLst, ckBin, ckNeg, ckCmp, ckChn, ckAnd, ckOr, ckNot, ckIte, ckIsi, ckCall, ckPrm1, ckPrm2, ckIx, ckPart, ckSlc, ckF1, ckF2, ckIfs, ckCmp1, ckCmp2, ckItr] using h
        rw [Bool.and_eq_true] at h'
        exact h'
      obtain ⟨fpos, rfl, fg, fm⟩ := bi_of g.bi h.1
      refine ⟨PE.imp (pe_callV (call_prim g.calm g.un g.K p) (prim_id p h1 h2) fg fm (boot_prim p h1 h2) (pa_cons (pe_o g ha h.2) pa_nil (star_cons (ck_shape h.2).1)) (prim_name p).1 (prim_name p).2 (star_cons (ck_shape h.2).1) rfl) fun σ H Q q => ?_, fun _ => rfl⟩
      obtain ⟨ρ, G, τ, S, q⟩ := q
      refine post_opd (f := prmF p) S q fun v d ρ' H' G' S' s hv q => ?_
      exact prim1_ok S' hv q h1 h2
theorem snd_prm2 {p : Prim} {a b : E} (ha : Snd R Γ a) (hb : Snd R Γ b) : Snd R Γ (.prm2 p a b) := by
  refine snd_of (fun {X c W k x} g h => ?_) (fun _ _ => by simp [ck])
  cases x <;> first | (simp [ck] at h; done) | skip
  rename_i f args kws pos
  rcases args with _ | ⟨y, _ | ⟨z, _ | ⟨z', args⟩⟩⟩ <;> first | (simp [ck] at h; done) | skip
  rcases kws with _ | ⟨kw, kws⟩ <;> first | (simp [ck] at h; done) | skip
  simp only [ck, ckVar, ckCst, ckGlb, ckNil, ckCons, ckTup, ckLst, ckBin, ckNeg, ckCmp, ckChn, ckAnd, ckOr, ckNot, ckIte, ckIsi, ckCall, ckPrm1, ckPrm2, ckIx, ckPart, ckSlc, ckF1, ckF2, ckIfs, ckCmp1, ckCmp2, ckItr, Bool.and_eq_true] at h
  obtain ⟨⟨⟨hp, h1⟩, h2⟩, h3⟩ := h
  have n1 : p ≠ .sortedSet := fun z => by subst z; cases hp
  have n2 : p ≠ .lenSet := fun z => by subst z; cases hp
  obtain ⟨fpos, rfl, fg, fm⟩ := bi_of g.bi h1
  refine ⟨PE.imp (pe_callV (call_prim g.calm g.un g.K p) (prim_id p n1 n2) fg fm (boot_prim p n1 n2) (pa_cons (ha.e g h2) (pa_cons (hb.e g h3) pa_nil (star_cons (ck_shape h3).1)) (star_cons (ck_shape h2).1)) (prim_name p).1 (prim_name p).2 (star_cons (ck_shape h2).1) (pl_one (ck_shape h3).1)) fun σ H Q q => ?_, fun _ => rfl⟩
  obtain ⟨ρ, G, τ, S, q⟩ := q
  refine post_val (f := fun x ρ1 => (MP.val (den Γ b) ρ1).bind fun y ρ2 => ofO ρ2 (prim p [x, y])) S q fun v d ρ1 H1 G1 S1 s1 hv q => ?_
  refine post_val (f := fun y ρ2 => ofO ρ2 (prim p [d, y])) S1 q fun u e ρ2 H2 G2 S2 s2 hu q => ?_
  exact prim2_ok S2 (hv.mono s2) hu q

/-! ### places, slices -/
theorem plainIx_of {y : Expr} (h : ∀ l u s pos, y ≠ .Slice l u s pos) : PlainIx y := fun o i => by
  cases y <;> first | rfl | exact absurd rfl (h _ _ _ _)
theorem ix_ok {d e v' : D} {v u : V} (S : Stt c ρ G τ H σ) (hv : RepT c.w G H v d) (hu : RepT c.w G H u e) (h : ixD d e = some v') (q : Post c W σ G τ Q (.ok (.val v') ρ)) : rIxL c.w.K v u H Q ∨ rIxT c.w.K v u H Q := by
  cases d <;> cases e <;> first | (simp [ixD] at h; done) | skip
  case tup.int ds i =>
    cases hu.int
    obtain ⟨a, vs, rfl, ea, ra, _⟩ := hv.tup S.gh
    obtain ⟨z, h1, h2⟩ := at_rep ra (by simpa [ixD] using h)
    exact .inr ⟨a, vs, i, z, rfl, rfl, .inl (.inl ea), h1, post_here S q h2⟩
  case lst.int ds i =>
    cases hu.int
    obtain ⟨a, vs, rfl, ea, ra⟩ := hv.lst S.gh
    obtain ⟨z, h1, h2⟩ := at_rep ra (by simpa [ixD] using h)
    exact .inl ⟨a, vs, i, z, rfl, rfl, .inl (.inl ea), h1, post_here S q h2⟩
  case scr.int ns i =>
    cases hu.int
    obtain ⟨a, rfl, ea⟩ := hv.scr S.gh
    simp only [ixD] at h
    cases e1 : MP.ixN ns.length i with
    | none =>
      rw [e1] at h
      cases h
    | some j =>
      rw [e1] at h
      have h : (ns[j]?).map D.int = some v' := h
      cases e2 : ns[j]? with
      | none =>
        rw [e2] at h
        cases h
      | some n =>
        rw [e2] at h
        cases h
        refine .inl ⟨a, _, i, .int n, rfl, rfl, ea, ?_, post_here S q (.int n)⟩
        unfold atI
        rw [List.length_map, ixN_eq, e1]
        show (ns.map V.int)[j]? = some (.int n)
        rw [List.getElem?_map, e2]
        rfl
theorem snd_ix {a b : E} (ha : Snd R Γ a) (hb : Snd R Γ b) : Snd R Γ (.ix a b) := by
  refine snd_of (fun {X c W k x} g h => ?_) (fun _ _ => by simp [ck])
  cases x <;> first | (simp [ck] at h; done) | skip
  rename_i y z pos
  have h : ck R a X.env.scope (.e y) = true ∧ ck R b X.env.scope (.e z) = true := by
    simp only [ck, ckVar, ckCst, ckGlb, ckNil, ckCons, ckTup, ckLst, ckBin, ckNeg, ckCmp, ckChn, ckAnd, ckOr, ckNot, ckIte, ckIsi, ckCall, ckPrm1, ckPrm2, ckIx, ckPart, ckSlc, ckF1, ckF2, ckIfs, ckCmp1, ckCmp2, ckItr, Bool.and_eq_true] at h
    exact h
  refine ⟨PE.imp (pe_ix (IxR.or ix_list ix_tup) (pe_o g ha h.1) (pe_o g hb h.2) (plainIx_of (ck_shape h.2).2.1)) fun σ H Q q => ?_, fun _ => rfl⟩
  obtain ⟨ρ, G, τ, S, q⟩ := q
  refine post_two (f := fun p ρ1 => ofO ρ1 (ixD p.1 p.2)) S q fun v u d e ρ' H' G' S' s hv hu q => ?_
  rw [g.K]
  cases e1 : ixD d e with
  | none =>
    simp only [e1] at q
    exact False.elim q
  | some v' =>
    simp only [e1] at q
    exact ix_ok S' hv hu e1 q
theorem SlR.or {r r' : V → Option Int → Option Int → Hp → VK → Prop} (h : SlR X r) (h' : SlR X r') : SlR X (fun x lo hi H Q => r x lo hi H Q ∨ r' x lo hi H Q) := by
  intro pins s σ H x v vl vu lo hi sl Q I rx hs pl pu q
  rcases q with q | q
  · exact h pins s σ H x v vl vu lo hi sl Q I rx hs pl pu q
  · exact h' pins s σ H x v vl vu lo hi sl Q I rx hs pl pu q
end
end MPS
end
section
set_option Elab.async false
set_option linter.all false
set_option maxRecDepth 100000
set_option maxHeartbeats 2000000
/-! MpD5: slices; calls of defs. -/
namespace MPS
open PySem L2 MP
section
variable {R : Row} {Γ : Tab} {X : Cx} {c : Fc} {W : WX} {k : Nat} {x : Expr} {ρ : Rho} {G G' H H' : Hp} {τ : List (Addr × D)} {σ : L2.St} {Q : VK}
theorem post_opd' {a : E} {f : D → Rho → Out CV} {K1 : VK} (S : Stt c ρ G τ H σ) (q : Post c W σ G τ Q ((opd a (den Γ a) ρ).bind f))
    (k : ∀ v d ρ' H' G', Stt c ρ' G' τ H' σ → Same G G' → (∀ i, a = .var i → σ[i]? = some (some v)) → ((∀ i, a ≠ .var i) → Rep c.w G' v d) → Post c W σ G' τ Q (f d ρ') → K1 v H') : tO Γ c W a σ H K1 :=
  to_then (f := fun d ρ => .ok (d, ρ) ρ) S q.bindR fun v d ρ' H' G' S' s h1 h2 _ q2 => k v d ρ' H' G' S' s h1 h2 (q2 H' G' S' (Same.refl G') S')
/-- the first operand, looked at again -/
theorem again_ok {a : E} {d d' : D} {v : V} (S : Stt c ρ G τ H σ) (h1 : ∀ i, a = .var i → σ[i]? = some (some v)) (h2 : (∀ i, a ≠ .var i) → Rep c.w G v d) (e : again a d ρ = some d') : RepT c.w G H v d' := by
  by_cases hva : ∃ i, a = .var i
  · obtain ⟨i, rfl⟩ := hva
    obtain ⟨v', q1, q2⟩ := S.peek (show MP.peek ρ i = some d' from e)
    rw [h1 i rfl] at q1
    cases q1
    exact q2
  · have nv : ∀ i, a ≠ .var i := fun i z => hva ⟨i, z⟩
    have e1 : again a d ρ = some d := by
      cases a <;> first | rfl | exact absurd rfl (nv _)
    rw [e1] at e
    cases e
    exact .inl (h2 nv)
def tP (Γ : Tab) (c : Fc) (W : WX) (lo : E) : TO :=
  match lo with
  | .nil => tNoPart
  | _ => tPart (tD Γ c W lo)
theorem part_then {lo : E} {f : D → Rho → Out CV} {K1 : Option Int → Hp → Prop} (S : Stt c ρ G τ H σ) (q : Post c W σ G τ Q ((MP.val (den Γ lo) ρ).bind f)) (hb : ∀ d ρ', optI lo d = none → f d ρ' = .bad)
    (k : ∀ o d ρ' H' G', Stt c ρ' G' τ H' σ → Same G G' → optI lo d = some o → Post c W σ G' τ Q (f d ρ') → K1 o H') : tP Γ c W lo σ H K1 := by
  by_cases hn : lo = .nil
  · subst hn
    exact k none (.lst []) ρ H G S (Same.refl G) rfl q
  · have e : tP Γ c W lo = tPart (tD Γ c W lo) := by
      cases lo <;> first | rfl | exact absurd rfl hn
    rw [e]
    refine post_val (f := f) S q fun v d ρ' H' G' S' s hv q => ?_
    cases eo : optI lo d with
    | none =>
      rw [hb d ρ' eo] at q
      exact False.elim q
    | some o =>
      have hi : ∃ i, d = .int i ∧ o = some i := by
        cases lo <;> first | exact absurd rfl hn | skip
        all_goals (cases d <;> first | (cases eo; done) | exact ⟨_, rfl, (Option.some.inj eo).symm⟩)
      obtain ⟨i, rfl, rfl⟩ := hi
      cases hv
      exact ⟨i, rfl, k (some i) (.int i) ρ' H' G' S' s eo q⟩
theorem po_of {lo : E} {l : Option Expr} (g : Gd R X Γ c k W) (hl : Snd R Γ lo) (h : ckPart lo (ck R lo) X.env.scope l = true) : PO X l (tP Γ c W lo) := by
  cases l with
  | none =>
    cases lo <;> first | (simp [ckPart] at h; done) | exact po_none
  | some e =>
    cases lo <;> first | (simp [ckPart] at h; done) | exact po_some (hl.e g h)
def slG (a hi : E) (x : D) (l' : Option Int) (h : D) (ρ3 : Rho) : Out CV := match optI hi h with
      | none => .bad
      | some h' => match again a x ρ3 with
        | none => .bad
        | some x' => newO ρ3 (sliceD x' l' h')
def slF (Γ : Tab) (a lo hi : E) (x : D) (l : D) (ρ2 : Rho) : Out CV := match optI lo l with
    | none => .bad
    | some l' => (MP.val (den Γ hi) ρ2).bind fun h ρ3 => slG a hi x l' h ρ3
theorem slice_ok {d : D} {v : V} {lo hi : Option Int} (S : Stt c ρ G τ H σ) (hv : RepT c.w G H v d) (q : Post c W σ G τ Q (newO ρ (sliceD d lo hi))) : rSlL c.w.K v lo hi H Q ∨ rSlA c.w.K v lo hi H Q := by
  cases d <;> first | exact False.elim q | skip
  case tup ds =>
    obtain ⟨a, vs, rfl, ea, ra, ga⟩ := hv.tup S.gh
    refine .inr ⟨a, vs, rfl, .inl (.inl ea), fun h => ?_, fun _ p hp => post_tup S q (cut_rep ra) hp⟩
    have e : cut ds lo hi = ds := by
      unfold cut
      rw [← sEnd_eq, ← sEnd_eq, ← ra.length, h.1, h.2, List.drop_zero, Nat.sub_zero, ra.length, List.take_length]
    have q : Post c W σ G τ Q (.ok (.val (.tup (cut ds lo hi))) ρ) := q
    rw [e] at q
    exact post_here S q (.tup ga ra)
  case lst ds =>
    obtain ⟨a, vs, rfl, ea, ra⟩ := hv.lst S.gh
    exact .inl ⟨a, vs, rfl, .inl (.inl ea), fun p hp => post_lst S q (cut_rep ra) hp⟩
theorem snd_slc {a lo hi : E} (ha : Snd R Γ a) (hl : Snd R Γ lo) (hh : Snd R Γ hi) : Snd R Γ (.slc a lo hi) := by
  refine snd_of (fun {X c W k x} g h => ?_) (fun _ _ => by simp [ck])
  cases x <;> first | (simp [ck] at h; done) | skip
  rename_i y sl pos
  cases sl <;> first | (cases h; done) | skip
  rename_i l u st p2
  cases st <;> first | (cases h; done) | skip
  have h : (ck R a X.env.scope (.e y) && ckPart lo (ck R lo) X.env.scope l && ckPart hi (ck R hi) X.env.scope u) = true := h
  rw [Bool.and_eq_true, Bool.and_eq_true] at h
  obtain ⟨⟨h1, h2⟩, h3⟩ := h
  refine ⟨PE.imp (pe_slice (SlR.or sl_list sl_tupA) (pe_o g ha h1) (po_of g hl h2) (po_of g hh h3)) fun σ H Q q => ?_, fun _ => rfl⟩
  obtain ⟨ρ, G, τ, S, q⟩ := q
  refine post_opd' (f := fun x ρ1 => (MP.val (den Γ lo) ρ1).bind fun l ρ2 => slF Γ a lo hi x l ρ2) S q fun v d ρ1 H1 G1 S1 s1 e1 e2 q => ?_
  refine part_then (f := fun l ρ2 => slF Γ a lo hi d l ρ2) S1 q (fun d' ρ' e => by unfold slF; rw [e]) fun o dl ρ2 H2 G2 S2 s2 eo q => ?_
  unfold slF at q
  rw [eo] at q
  refine part_then (f := fun h ρ3 => slG a hi d o h ρ3) S2 q (fun d' ρ' e => by unfold slG; rw [e]) fun o2 dh ρ3 H3 G3 S3 s3 eo2 q => ?_
  unfold slG at q
  rw [eo2] at q
  cases ea : again a d ρ3 with
  | none =>
    simp only [ea] at q
    exact False.elim q
  | some d' =>
    simp only [ea] at q
    rw [g.K]
    exact slice_ok S3 (again_ok S3 e1 (fun z => ((e2 z).mono s2).mono s3) ea) q
end
end MPS
end
section
set_option Elab.async false
set_option linter.all false
set_option maxRecDepth 100000
set_option maxHeartbeats 2000000
/-! MpRev: t[::-1] of a tuple. -/
namespace MPS
open PySem L2 MP PyProof.Rows
section
variable {prog : Program} {wo : World} {A : Around} {E : Value → Shared → Prop} {s : Shared}
theorem rv_adjust (n : Nat) : Builtin.Slice.sliceAdjust none none (-1) (n : Int) = ((n : Int) - 1, -1) := by
  unfold Builtin.Slice.sliceAdjust
  simp
theorem rv_places (n : Nat) : Builtin.Slice.slicePlaces ((n : Int) - 1) (-1) (-1) = n := by
  unfold Builtin.Slice.slicePlaces
  simp
  split <;> omega
theorem rv_pick (xs : Array Value) : ((List.range xs.size).filterMap fun (m : Nat) => xs[(((xs.size : Int) - 1) + (m : Int) * (-1)).toNat]?).toArray = xs.toList.reverse.toArray := by
  congr 1
  have key : ∀ (l : List Value) (k : Nat), k ≤ l.length → ((List.range k).filterMap fun (m : Nat) => l[(((l.length : Int) - 1) + (m : Int) * (-1)).toNat]?) = l.reverse.take k := by
    intro l k
    induction k with
    | zero => intro _; simp
    | succ k ih =>
      intro hk
      rw [List.range_succ, List.filterMap_append, ih (by omega)]
      have e : ((((l.length : Int) - 1) + (k : Int) * (-1)).toNat) = l.length - 1 - k := by omega
      have h2 : l.length - 1 - k < l.length := by omega
      simp only [List.filterMap_cons, List.filterMap_nil, e, List.getElem?_eq_getElem h2]
      rw [List.take_add_one]
      congr 1
      rw [List.getElem?_reverse (by omega), List.getElem?_eq_getElem h2]
      rfl
  have := key xs.toList xs.size (by simp)
  simp only [Array.length_toList, Array.getElem?_toList] at this
  rw [this, List.take_of_length_le (by simp)]
theorem rv_applied {sl : Addr} {vl vu vs : Value} {n : Nat} {Q : Int × Int × Nat → Shared → Prop} (hs : s.heap.IsSliceOf sl vl vu vs) (pl : IsPart vl none) (pu : IsPart vu none) (ps : IsPart vs (some (-1)))
    (h : Q ((n : Int) - 1, -1, n) s) : wpAny (model prog wo) A (Builtin.Slice.sliceApplied (.ref sl) (pure (n : Int))) Q E s := by
  obtain ⟨ob, g1, g2, g3⟩ := id hs
  unfold Builtin.Slice.sliceApplied Builtin.Slice.sliceFields
  refine wpAny_bind (wpAny_bind (wpAny_field g1 g3 (x := vl) rfl (wpAny_bind (wpAny_field g1 g3 (x := vu) rfl (wpAny_bind (wpAny_field g1 g3 (x := vs) rfl (wpAny_pure ?_)))))))
  refine wpAny_bind (HT.slicePart_ ps ?_)
  show wpAny _ _ (if ((-1 : Int) == 0) = true then _ else _) _ _ s
  rw [if_neg (by decide)]
  refine wpAny_bind (HT.slicePart_ pl (wpAny_bind (HT.slicePart_ pu (wpAny_bind (wpAny_pure ?_)))))
  show wpAny _ _ (match Builtin.Slice.sliceAdjust none none (-1) (n : Int) with | (a, b) => pure (a, (-1 : Int), Builtin.Slice.slicePlaces a b (-1))) _ _ s
  rw [rv_adjust n]
  show wpAny _ _ (pure ((n : Int) - 1, (-1 : Int), Builtin.Slice.slicePlaces ((n : Int) - 1) (-1) (-1))) _ _ s
  rw [rv_places]
  exact wpAny_pure h
theorem rv_item {t sl : Addr} {its : Array Value} {vl vu vs : Value} {Q : Value → Shared → Prop} (ht : IsTup s.heap t its) (hs : s.heap.IsSliceOf sl vl vu vs) (pl : IsPart vl none) (pu : IsPart vu none) (ps : IsPart vs (some (-1)))
    (h : Q (.ref s.heap.objs.size) { s with heap := s.heap.push { cls := .type "tuple", data := .seq its.toList.reverse.toArray } }) (hz : its.size ≤ sizeLine) : wpAny (model prog wo) A (getItem (.ref t) (.ref sl)) Q E s := by
  have fit : sizeOk (.seq its.toList.reverse.toArray) := by
    show its.toList.reverse.toArray.size ≤ sizeLine
    rw [List.size_toArray, List.length_reverse, Array.length_toList]
    exact hz
  obtain ⟨ob, g1, g2, g3⟩ := id hs
  have isl : s.TypeIs (.ref sl) "slice" := ⟨ob, g1, g2⟩
  unfold getItem
  try with_reducible refine wpAny_holding ?_
  first | refine wpAny_bind (wpAny_pure ?_) | skip
  refine wpAny_bind (wpAny_sequenceKey ht.typeIs (by decide) ?_)
  refine wpAny_bind (wpAny_callSpecial?_slot (name := Str.ofString "__getitem__") ht.typeIs slot_tuple_getitem (wpAny_call_entry slot_tuple_getitem ht.typeIs entry_tuple_getitem ?_ (args_tuple_getitem _ _)))
  show wpAny _ _ (Builtin.Tuple.tupleItemsOf (.ref t) >>= _) _ _ s
  refine wpAny_bind (tupleItemsOf_ ht ?_)
  refine wpAny_bind (wpAny_typeOf isl ?_)
  rw [if_pos (by decide)]
  refine wpAny_bind (rv_applied hs pl pu ps ?_)
  show wpAny _ _ (if (((its.size : Int) - 1) == 0 && (-1 : Int) == 1 && its.size == its.size) = true then _ else _) _ _ s
  rw [if_neg (by simp), rv_pick]
  first
    | exact wpAny_bind (m := Builtin.Tuple.tupleExact _) (wpAny_newObj_type (wpAny_pure ⟨_, rfl, wpAny_pure h⟩) fit)
    | exact wpAny_bind (m := Builtin.Tuple.tupleExact _) (wpAny_newObj_type (wpAny_bind (wpAny_pure (wpAny_pure ⟨_, rfl, wpAny_pure h⟩))) fit)
    | exact wpAny_bind (wpAny_bind (m := Builtin.Tuple.tupleExact _) (wpAny_newObj_type (wpAny_pure (wpAny_pure ⟨_, rfl, wpAny_pure h⟩)) fit))
    | exact wpAny_bind (wpAny_bind (m := Builtin.Tuple.tupleExact _) (wpAny_newObj_type (wpAny_pure ⟨_, rfl, wpAny_pure h⟩) fit))
end
section
variable {X : Cx}
/-- xs[::-1], of a list or a tuple -/
def tRev (K : PySem.W.Frag) (te : TE) : TE := fun σ H Q => te σ H fun x H1 => ∃ a xs, x = .ref a ∧ ((SqT K H1 a xs ∧ ∀ p, H1 p = none → Q (.ref p) (upd H1 p (.tup xs.reverse))) ∨ (SqL K H1 a xs ∧ ∀ p, H1 p = none → Q (.ref p) (upd H1 p (.lst xs.reverse))))
theorem pe_rev {e : Expr} {te : TE} {k : Nat} {p1 p2 p3 pos : Pos} (he : PE X e te) : PE X (.Subscript e (.Slice none none (some (.UnaryOp .USub (.Constant (.int 1) k p1) p2)) p3) pos) (tRev X.K te) := by
  refine ⟨fun pins s σ H Q I h => ?_⟩
  refine Subscript_ (thn (he.run pins s σ H _ I h) fun v s1 hv1 => ?_)
  obtain ⟨x, H1, I1, r1, a, xs, ex, hx⟩ := hv1
  subst ex
  cases r1
  have step : PO X (some (.UnaryOp .USub (.Constant (.int 1) k p1) p2)) (tPart (tUn (rU fun i => .int (-i)) (tC (.int 1)))) := po_some (pe_un un_neg pe_int)
  refine wpAny_Slice (thn (po_none.run pins s1 σ H1 (fun o H2 => o = none ∧ H2 = H1) I1 ⟨rfl, rfl⟩) fun vl s2 hl => ?_)
  obtain ⟨l, H2, I2, pl, el, e2⟩ := hl
  subst el e2
  refine thn (po_none.run pins s2 σ H2 (fun o H3 => o = none ∧ H3 = H2) I2 ⟨rfl, rfl⟩) fun vu s3 hu => ?_
  obtain ⟨u, H3, I3, pu, eu, e3⟩ := hu
  subst eu e3
  refine thn (step.run pins s3 σ H3 (fun o H4 => o = some (-1) ∧ H4 = H3) I3 ⟨1, rfl, -1, rfl, rfl, rfl⟩) fun vs s4 hv => ?_
  obtain ⟨o, H4, I4, ps, eo, e4⟩ := hv
  subst eo e4
  have I5 : Inv X pins σ H4 { s4 with heap := s4.heap.push { cls := .type "slice", data := .fields #[vl, vu, vs] } } := I4.kept (t' := s4.toks) fun b ob z => Heap.get?_push_of_some _ z
  show wpAny (model X.prog X.w) X.A (subscriptTail e (.Slice none none (some (.UnaryOp .USub (.Constant (.int 1) k p1) p2)) p3) (.ref a) (.ref s4.heap.objs.size)) (EP X pins σ Q) X.xe _
  rcases hx with ⟨hx, q⟩ | ⟨hx, q⟩
  · obtain ⟨its, r, ht, hz⟩ := I5.tuple hx
    have len := r.length
    refine tail_any (ops := [.ref a, .ref s4.heap.objs.size]) ht.typeIs slot_tuple_getitem.lookup ?_ (by with_unfolding_all rfl)
    refine rv_item ht (Heap.IsSliceOf.new _ vl vu vs) pl pu ps ?_ (by rw [List.size_toArray]; omega)
    refine ⟨.ref _, _, I5.laid (t' := s4.toks) (o := .tup xs.reverse) (fun b ob z => Heap.get?_push_of_some _ z) (Nat.le_refl _) ?_, rfl, q _ (I5.hok.fresh (Nat.le_refl _))⟩
    exact ⟨by rw [List.length_reverse]; exact hz, _, r.reverse, IsTup.new _ _⟩
  · obtain ⟨its, r, ht, hz⟩ := I5.list hx
    have len := r.length
    refine tail_any (ops := [.ref a, .ref s4.heap.objs.size]) ht.isList.typeIs PySem.slot_list_getitem.lookup ?_ (by with_unfolding_all rfl)
    refine wpAny_getItem_list_slice ht.isList (Heap.IsSliceOf.new _ vl vu vs) pl pu ps (by decide) ?_ (by rw [List.size_toArray]; omega)
    rw [PySem.W.krv_pick]
    refine ⟨.ref _, _, I5.laid (t' := s4.toks) (o := .lst xs.reverse) (fun b ob z => Heap.get?_push_of_some _ z) (Nat.le_refl _) ?_, rfl, q _ (I5.hok.fresh (Nat.le_refl _))⟩
    exact ⟨by rw [List.length_reverse]; exact hz, _, 0, r.reverse, Heap.get?_push_size _ rfl⟩
end
section
variable {R : Row} {Γ : Tab} {X : Cx} {c : Fc} {W : WX} {k : Nat} {x : Expr}
theorem snd_rev {a : E} (ha : Snd R Γ a) : Snd R Γ (.rev a) := by
  refine snd_of (fun {X c W k x} g h => ?_) (fun _ _ => by simp [ck])
  unfold ck ckRev at h
  split at h
  · rename_i z
    injection z with z
    subst z
    refine ⟨PE.imp (pe_rev (pe_o g ha h)) fun σ H Q q => ?_, fun _ => rfl⟩
    obtain ⟨ρ, G, τ, S, q⟩ := q
    simp only [den] at q
    refine post_opd S q fun v d ρ1 H1 G1 S1 s1 hv q => ?_
    rw [g.K]
    cases d <;> first | exact False.elim q | skip
    · obtain ⟨a, vs, rfl, eh, r, _⟩ := hv.tup S1.gh
      exact ⟨a, vs, rfl, .inl ⟨.inl (.inl eh), fun p hp => post_tup S1 q r.reverse hp⟩⟩
    · obtain ⟨a, vs, rfl, eh, r⟩ := hv.lst S1.gh
      exact ⟨a, vs, rfl, .inr ⟨.inl (.inl eh), fun p hp => post_lst S1 q r.reverse hp⟩⟩
  · cases h
end
end MPS
end
section
set_option Elab.async false
set_option linter.all false
set_option maxRecDepth 100000
set_option maxHeartbeats 2000000
/-! MpD6: calls of defs. -/
namespace MPS
open PySem L2 MP
section
variable {R : Row} {Γ : Tab} {X : Cx} {c : Fc} {W : WX} {k : Nat} {x : Expr} {ρ ρ' : Rho} {G G' H H' : Hp} {τ : List (Addr × D)} {σ : L2.St} {Q : VK}
theorem ioPut_ne {s i : Nat} {d : D} (h : s ≠ i) : (ioPut ρ s d)[i]? = ρ[i]? := by
  unfold ioPut
  split
  · exact List.getElem?_set_ne h
  · exact List.getElem?_set_ne h
  · rfl
theorem ioPut_length {s : Nat} {d : D} : (ioPut ρ s d).length = ρ.length := by
  unfold ioPut
  split <;> simp
theorem ioPut_own {s : Nat} {d d0 : D} (h : ρ[s]? = some (.own d0)) : (ioPut ρ s d)[s]? = some (.own d) := by
  unfold ioPut
  rw [h]
  exact set_self h
theorem ioPut_io {s : Nat} {d d0 : D} (h : ρ[s]? = some (.io d0)) : (ioPut ρ s d)[s]? = some (.io d) := by
  unfold ioPut
  rw [h]
  exact set_self h
def cellPut (d : D) : Option Cell → Option Cell
  | some (.own _) => some (.own d)
  | some (.io _) => some (.io d)
  | o => o
theorem ioPut_self {s : Nat} {d : D} : (ioPut ρ s d)[s]? = cellPut d ρ[s]? := by
  cases e : ρ[s]? with
  | none =>
    unfold ioPut
    rw [e]
    exact e
  | some y =>
    cases y with
    | own d0 => exact ioPut_own e
    | io d0 => exact ioPut_io e
    | _ =>
      unfold ioPut
      rw [e]
      exact e
theorem ioPuts_get : ∀ {rs : List Nat} {outs : List D} {ρ ρ' : Rho}, ioPuts ρ rs outs = some ρ' → rs.Nodup → ρ'.length = ρ.length ∧ (∀ i, i ∉ rs → ρ'[i]? = ρ[i]?) ∧ ∀ (j s : Nat), rs[j]? = some s → ∃ d, outs[j]? = some d ∧ ρ'[s]? = (ioPut ρ s d)[s]?
  | [], [], ρ, ρ', h, _ => by
    cases h
    exact ⟨rfl, fun _ _ => rfl, fun j s e => by simp at e⟩
  | [], _ :: _, _, _, h, _ => by cases h
  | _ :: _, [], _, _, h, _ => by cases h
  | r :: rs, d :: outs, ρ, ρ', h, nd => by
    rw [List.nodup_cons] at nd
    obtain ⟨h1, h2, h3⟩ := ioPuts_get (ρ := ioPut ρ r d) (show ioPuts (ioPut ρ r d) rs outs = some ρ' from h) nd.2
    refine ⟨h1.trans ioPut_length, fun i hi => ?_, fun j s e => ?_⟩
    · rw [List.mem_cons, not_or] at hi
      rw [h2 i hi.2, ioPut_ne (Ne.symm hi.1)]
    · cases j with
      | zero =>
        have e : r = s := by simpa using e
        subst e
        exact ⟨d, rfl, h2 r nd.1⟩
      | succ j =>
        have e : rs[j]? = some s := by simpa using e
        obtain ⟨d', q1, q2⟩ := h3 j s e
        refine ⟨d', by simpa using q1, ?_⟩
        have hne : r ≠ s := fun z => nd.1 (by rw [z]; exact List.mem_of_getElem? e)
        rw [q2, ioPut_self, ioPut_self, ioPut_ne hne]
theorem ioAt_mu {s : Nat} {d : D} (h : ioAt ρ s = some d) : ρ[s]? = some (.own d) ∨ ρ[s]? = some (.io d) := by
  unfold ioAt at h
  cases e : ρ[s]? with
  | none =>
    rw [e] at h
    cases h
  | some y =>
    rw [e] at h
    cases y <;> cases h
    · exact .inl rfl
    · exact .inr rfl
theorem Stt.called (S : Stt c ρ G τ H σ) {rs : List Nat} {outs : List D} (nd : rs.Nodup) (hr : ∀ s ∈ rs, ∃ d, ioAt ρ s = some d) (gg : Same G G') (gh : Same G' H')
    (keep : ∀ a o, H a = some o → (∀ s ∈ rs, σ[s]? ≠ some (some (.ref a))) → H' a = some o) (new : ∀ a o, G' a = some o → G a = some o ∨ H a = none)
    (ho : ∀ (j s : Nat), rs[j]? = some s → ∃ p d o, σ[s]? = some (some (.ref p)) ∧ outs[j]? = some d ∧ G' p = none ∧ H' p = some o ∧ RepO c.w G' o d)
    (hρ : ioPuts ρ rs outs = some ρ') : Stt c ρ' G' τ H' σ := by
  obtain ⟨l1, l2, l3⟩ := ioPuts_get hρ nd
  -- the cells that were handed
  have cell : ∀ s ∈ rs, ∃ p d d0 o, σ[s]? = some (some (.ref p)) ∧ G' p = none ∧ H' p = some o ∧ RepO c.w G' o d ∧ ((ρ[s]? = some (.own d0) ∧ ρ'[s]? = some (.own d)) ∨ (ρ[s]? = some (.io d0) ∧ ρ'[s]? = some (.io d))) := fun s hs => by
    obtain ⟨j, hj⟩ := List.getElem?_of_mem hs
    obtain ⟨p, d, o, e1, e2, e3, e4, e5⟩ := ho j s hj
    obtain ⟨d', q1, q2⟩ := l3 j s hj
    rw [e2] at q1
    cases q1
    obtain ⟨d0, hd0⟩ := hr s hs
    refine ⟨p, d, d0, o, e1, e3, e4, e5, ?_⟩
    rcases ioAt_mu hd0 with z | z
    · exact .inl ⟨z, by rw [q2]; exact ioPut_own z⟩
    · exact .inr ⟨z, by rw [q2]; exact ioPut_io z⟩
  have dn : ∀ q p d, At ρ' τ σ q p d → (∃ s ∈ rs, q = .inl s) ∨ ((∀ s ∈ rs, q ≠ .inl s) ∧ At ρ τ σ q p d) := fun q p d a => by
    cases q with
    | inr j => exact .inr ⟨(fun s _ z => by cases z), a⟩
    | inl i =>
      by_cases hi : i ∈ rs
      · exact .inl ⟨i, hi, rfl⟩
      · refine .inr ⟨fun s hs z => hi (by cases z; exact hs), ?_⟩
        obtain ⟨a1, a2⟩ := a
        unfold Mu at a1
        rw [l2 i hi] at a1
        exact ⟨a1, a2⟩
  have up : ∀ s ∈ rs, ∃ p d, At ρ τ σ (.inl s) p d ∧ ∀ p' d', At ρ' τ σ (.inl s) p' d' → p' = p := fun s hs => by
    obtain ⟨p, d, d0, o, e1, _, _, _, e5⟩ := cell s hs
    refine ⟨p, d0, ⟨?_, e1⟩, fun p' d' a => ?_⟩
    · rcases e5 with ⟨e, _⟩ | ⟨e, _⟩
      · exact .inl e
      · exact .inr (.inr e)
    · have := a.2
      rw [e1] at this
      cases this
      rfl
  have nin : ∀ q p d, At ρ τ σ q p d → (∀ s ∈ rs, q ≠ .inl s) → ∀ s ∈ rs, σ[s]? ≠ some (some (.ref p)) := fun q p d a hq s hs z => by
    obtain ⟨p', d', a', _⟩ := up s hs
    have := a'.2
    rw [z] at this
    cases this
    exact hq s hs (S.inj _ _ _ _ _ a a')
  exact {
    gh := gh
    g0 := S.g0.trans gg
    keep := fun a o e n => by
      refine keep a o (S.keep a o e n) fun s hs z => ?_
      obtain ⟨d0, hd0⟩ := hr s hs
      rcases ioAt_mu hd0 with y | y
      · rw [S.own s d0 a (.inl y) z] at e
        cases e
      · obtain ⟨q, hq, rfl⟩ := S.iom s d0 y
        obtain ⟨_, e2, _⟩ := S.iop q hq
        rw [z] at e2
        cases e2
        exact n q hq rfl
    gnew := fun a o e => by
      rcases new a o e with h | h
      · exact S.gnew a o h
      · exact .inr (S.nB h)
    iop := fun q hq => by
      obtain ⟨e1, e2, d, e3⟩ := S.iop q hq
      refine ⟨e1, e2, ?_⟩
      by_cases hi : q.1 ∈ rs
      · obtain ⟨p, d', d0, o, _, _, _, _, e5⟩ := cell q.1 hi
        rcases e5 with ⟨z, _⟩ | ⟨_, z⟩
        · rw [e3] at z
          cases z
        · exact ⟨d', z⟩
      · exact ⟨d, by rw [l2 _ hi]; exact e3⟩
    len := by rw [l1]; exact S.len
    vals := fun i d e => by
      by_cases hi : i ∈ rs
      · obtain ⟨p, d', d0, o, _, _, _, _, e5⟩ := cell i hi
        rcases e5 with ⟨_, z⟩ | ⟨_, z⟩ <;> (rw [e] at z; cases z)
      · rw [l2 i hi] at e
        obtain ⟨v, h1, h2⟩ := S.vals i d e
        exact ⟨v, h1, h2.mono gg⟩
    muts := fun i d e => by
      by_cases hi : i ∈ rs
      · obtain ⟨p, d', d0, o, e1, _⟩ := cell i hi
        exact ⟨p, e1⟩
      · unfold Mu at e
        rw [l2 i hi] at e
        exact S.muts i d e
    at_ := fun q p d a => by
      rcases dn q p d a with ⟨s, hs, rfl⟩ | ⟨hq, a'⟩
      · obtain ⟨p', d', d0, o, e1, e2, e3, e4, e5⟩ := cell s hs
        obtain ⟨a1, a2⟩ := a
        rw [e1] at a2
        cases a2
        have ed : d = d' := by
          unfold Mu at a1
          rcases e5 with ⟨_, z⟩ | ⟨_, z⟩ <;> (rw [z] at a1; rcases a1 with y | y | y <;> cases y; rfl)
        subst ed
        exact ⟨e2, o, e3, e4⟩
      · obtain ⟨h1, o, h2, h3⟩ := S.at_ q p d a'
        refine ⟨?_, o, keep p o h2 (nin q p d a' hq), h3.mono gg⟩
        cases z : G' p with
        | none => rfl
        | some u =>
          rcases new p u z with y | y
          · rw [h1] at y
            cases y
          · rw [h2] at y
            cases y
    own := fun i d p e e' => by
      by_cases hi : i ∈ rs
      · obtain ⟨p', d', d0, o, e1, _, _, _, e5⟩ := cell i hi
        rcases e5 with ⟨z, _⟩ | ⟨_, z⟩
        · exact S.own i d0 p (.inl z) e'
        · rw [z] at e
          rcases e with y | y <;> cases y
      · rw [l2 i hi] at e
        exact S.own i d p e e'
    tmp := S.tmp
    iom := fun i d e => by
      by_cases hi : i ∈ rs
      · obtain ⟨p', d', d0, o, e1, _, _, _, e5⟩ := cell i hi
        rcases e5 with ⟨_, z⟩ | ⟨z, _⟩
        · rw [z] at e
          cases e
        · exact S.iom i d0 z
      · rw [l2 i hi] at e
        exact S.iom i d e
    inj := fun q q' p d d' a b => by
      rcases dn q p d a with ⟨s, hs, rfl⟩ | ⟨hq, a'⟩
      · obtain ⟨p0, d0, a0, ha0⟩ := up s hs
        have ep := ha0 p d a
        subst ep
        rcases dn q' p d' b with ⟨s', hs', rfl⟩ | ⟨hq', b'⟩
        · obtain ⟨p1, d1, b1, hb1⟩ := up s' hs'
          have ep := hb1 p d' b
          subst ep
          exact S.inj _ _ _ _ _ a0 b1
        · exact S.inj _ _ _ _ _ a0 b'
      · rcases dn q' p d' b with ⟨s', hs', rfl⟩ | ⟨hq', b'⟩
        · obtain ⟨p1, d1, b1, hb1⟩ := up s' hs'
          have ep := hb1 p d' b
          subst ep
          exact S.inj _ _ _ _ _ a' b1
        · exact S.inj _ _ _ _ _ a' b' }

/-! ### the places handed by reference -/
def refPS : Nat → E → List (Nat × Nat)
  | n, .cons e es => match e with
    | .ref i => (n, i) :: refPS (n + 1) es
    | _ => refPS (n + 1) es
  | _, _ => []
theorem refPos_map : ∀ (es : E) (n : Nat), refPos n es = (refPS n es).map (·.1) := by
  intro es
  induction es with
  | cons e es _ ih =>
    intro n
    cases e <;> simp [refPos, refPS, ih]
  | _ => intro n; rfl
theorem refsOf_map : ∀ (es : E) (n : Nat), refsOf es = (refPS n es).map (·.2) := by
  intro es
  induction es with
  | cons e es _ ih =>
    intro n
    cases e <;> simp [refsOf, refPS, ih (n + 1)]
  | _ => intro n; rfl
theorem refPS_ge : ∀ (es : E) (n : Nat), ∀ q ∈ refPS n es, n ≤ q.1 := by
  intro es
  induction es with
  | cons e es _ ih =>
    intro n q hq
    cases e <;> first
      | (have hq : q ∈ refPS (n + 1) es := hq
         have := ih (n + 1) q hq
         omega)
      | skip
    rename_i i _
    rcases List.mem_cons.mp (show q ∈ (n, i) :: refPS (n + 1) es from hq) with rfl | hq
    · exact Nat.le_refl _
    · have := ih (n + 1) q hq
      omega
  | _ => intro n q hq; cases hq
theorem refPS_inj : ∀ (es : E) (n : Nat), ∀ q ∈ refPS n es, ∀ q' ∈ refPS n es, q.1 = q'.1 → q = q' := by
  intro es
  induction es with
  | cons e es _ ih =>
    intro n q hq q' hq' h
    cases e <;> first | exact ih (n + 1) q hq q' hq' h | skip
    rename_i i _
    rcases List.mem_cons.mp (show q ∈ (n, i) :: refPS (n + 1) es from hq) with rfl | hq
    · rcases List.mem_cons.mp (show q' ∈ (n, i) :: refPS (n + 1) es from hq') with rfl | hq'
      · rfl
      · have := refPS_ge es (n + 1) q' hq'
        simp at h
        omega
    · rcases List.mem_cons.mp (show q' ∈ (n, i) :: refPS (n + 1) es from hq') with rfl | hq'
      · have := refPS_ge es (n + 1) q hq
        simp at h
        omega
      · exact ih (n + 1) q hq q' hq' h
  | _ => intro n q hq; cases hq
/-- the arguments as they come to the def -/
theorem args_of {w : Wd} : ∀ {es : E} {vs : List V} {ds ds' : List D} (n : Nat), RepArgs w σ G es vs ds → fill ρ es ds = some ds' →
    vs.length = ds'.length ∧ (∀ q ∈ refPS n es, ∃ v d, vs[q.1 - n]? = some v ∧ σ[q.2]? = some (some v) ∧ ds'[q.1 - n]? = some d ∧ ioAt ρ q.2 = some d) ∧
    (∀ (i : Nat) (v : V) (d : D), vs[i]? = some v → ds'[i]? = some d → (∀ q ∈ refPS n es, q.1 ≠ n + i) → Rep w G v d) := by
  intro es
  induction es with
  | nil =>
    intro vs ds ds' n r f
    cases vs <;> cases ds <;> first | exact False.elim r | skip
    cases f
    exact ⟨rfl, (fun q hq => by cases hq), fun i v d e => (by simp at e)⟩
  | cons e es _ ih =>
    intro vs ds ds' n r f
    cases vs with
    | nil => cases e <;> cases ds <;> exact False.elim r
    | cons v vs =>
      cases ds with
      | nil => cases e <;> exact False.elim r
      | cons d ds =>
        by_cases hr : ∃ i, e = .ref i
        · obtain ⟨i, rfl⟩ := hr
          obtain ⟨r1, r2⟩ := r
          have f : ((ioAt ρ i).bind fun d => (fill ρ es ds).map (d :: ·)) = some ds' := f
          cases ei : ioAt ρ i with
          | none =>
            rw [ei] at f
            cases f
          | some d0 =>
            rw [ei] at f
            have f : (fill ρ es ds).map (d0 :: ·) = some ds' := f
            cases ef : fill ρ es ds with
            | none =>
              rw [ef] at f
              cases f
            | some ds0 =>
              rw [ef] at f
              cases f
              obtain ⟨h1, h2, h3⟩ := ih (n + 1) r2 ef
              refine ⟨by simp [h1], fun q hq => ?_, fun j v' d' e1 e2 hn => ?_⟩
              · rcases List.mem_cons.mp (show q ∈ (n, i) :: refPS (n + 1) es from hq) with rfl | hq
                · exact ⟨v, d0, by simp, r1, by simp, ei⟩
                · obtain ⟨v', d', q1, q2, q3, q4⟩ := h2 q hq
                  have hge := refPS_ge es (n + 1) q hq
                  have e : q.1 - n = (q.1 - (n + 1)) + 1 := by omega
                  exact ⟨v', d', by rw [e]; simpa using q1, q2, by rw [e]; simpa using q3, q4⟩
              · cases j with
                | zero => exact absurd rfl (hn (n, i) (List.mem_cons_self ..))
                | succ j =>
                  refine h3 j v' d' (by simpa using e1) (by simpa using e2) fun q hq => ?_
                  have := hn q (List.mem_cons_of_mem _ hq)
                  omega
        · have nr : ∀ i, e ≠ .ref i := fun i z => hr ⟨i, z⟩
          have r' : Rep w G v d ∧ RepArgs w σ G es vs ds := by
            cases e <;> first | exact absurd rfl (nr _) | exact r
          have f' : (fill ρ es ds).map (d :: ·) = some ds' := by
            cases e <;> first | exact absurd rfl (nr _) | exact f
          have e0 : refPS n (.cons e es) = refPS (n + 1) es := by
            cases e <;> first | exact absurd rfl (nr _) | rfl
          rw [e0]
          cases ef : fill ρ es ds with
          | none =>
            rw [ef] at f'
            cases f'
          | some ds0 =>
            rw [ef] at f'
            cases f'
            obtain ⟨h1, h2, h3⟩ := ih (n + 1) r'.2 ef
            refine ⟨by simp [h1], fun q hq => ?_, fun j v' d' e1 e2 hn => ?_⟩
            · obtain ⟨v', d', q1, q2, q3, q4⟩ := h2 q hq
              have hge := refPS_ge es (n + 1) q hq
              have e : q.1 - n = (q.1 - (n + 1)) + 1 := by omega
              exact ⟨v', d', by rw [e]; simpa using q1, q2, by rw [e]; simpa using q3, q4⟩
            · cases j with
              | zero =>
                simp at e1 e2
                subst e1 e2
                exact r'.1
              | succ j =>
                refine h3 j v' d' (by simpa using e1) (by simpa using e2) fun q hq => ?_
                have := hn q hq
                omega
  | _ =>
    intro vs ds ds' n r f
    cases vs <;> cases ds <;> exact False.elim r
theorem nodup_inj {α : Type} : ∀ {l : List α} {i j : Nat} {a : α}, l.Nodup → l[i]? = some a → l[j]? = some a → i = j
  | [], _, _, _, _, h, _ => by simp at h
  | x :: l, i, j, a, nd, h1, h2 => by
    rw [List.nodup_cons] at nd
    cases i with
    | zero =>
      cases j with
      | zero => rfl
      | succ j =>
        simp at h1 h2
        subst h1
        exact absurd (List.mem_of_getElem? h2) nd.1
    | succ i =>
      cases j with
      | zero =>
        simp at h1 h2
        subst h2
        exact absurd (List.mem_of_getElem? h1) nd.1
      | succ j => exact congrArg (· + 1) (nodup_inj nd.2 (by simpa using h1) (by simpa using h2))
theorem nodup_of : ∀ {l : List Nat}, nodupN l = true → l.Nodup
  | [], _ => List.nodup_nil
  | i :: is, h => by
    simp only [nodupN, Bool.and_eq_true, Bool.not_eq_true'] at h
    rw [List.nodup_cons]
    exact ⟨by simpa using h.1, nodup_of h.2⟩
/-- from the caller's state to the def's promise -/
theorem call_ok {fd : FD} {es : E} {vs : List V} {ds ds' : List D} {Ew : XK} (S : Stt c ρ G τ H σ) (r : RepArgs c.w σ G es vs ds) (f : fill ρ es ds = some ds') (hp : refPos 0 es = fd.io) (nd : nodupN (refsOf es) = true) (hn : ds.length = fd.n)
    (hE : ∀ e H', W (.ref (c.w.κ e)) none σ H' → Ew (.ref (c.w.κ e)) none H') (q : Post c W σ G τ Q (callOut ρ (refsOf es) (fd.run ds'))) : spF c.w fd vs H Q Ew := by
  obtain ⟨a1, a2, a3⟩ := args_of 0 r f
  have nd' := nodup_of nd
  have hio : fd.io = (refPS 0 es).map (·.1) := by rw [← hp, refPos_map]
  have hrs : refsOf es = (refPS 0 es).map (·.2) := refsOf_map es 0
  have hmem : ∀ i, i ∈ fd.io ↔ ∃ q ∈ refPS 0 es, q.1 = i := fun i => by rw [hio]; exact List.mem_map
  have hlen : ∀ {es : E} {vs : List V} {ds : List D}, RepArgs c.w σ G es vs ds → vs.length = ds.length := by
    intro es
    induction es with
    | cons e es _ ih =>
      intro vs ds r
      cases vs <;> cases ds <;> cases e <;> first | exact False.elim r | exact congrArg (· + 1) (ih r.2)
    | _ =>
      intro vs ds r
      cases vs <;> cases ds <;> first | rfl | exact False.elim r
  refine ⟨(hlen r).trans hn, G, ds', S.gh, ⟨a1, fun i v d e1 e2 hn => ?_, fun i v d e1 e2 hi => ?_, fun i j p hi hj e1 e2 => ?_⟩, ?_⟩
  · exact a3 i v d e1 e2 fun z hz e => hn ((hmem i).mpr ⟨z, hz, by omega⟩)
  · obtain ⟨z, hz, rfl⟩ := (hmem i).mp hi
    obtain ⟨v', d', q1, q2, q3, q4⟩ := a2 z hz
    rw [Nat.sub_zero] at q1 q3
    rw [e1] at q1
    cases q1
    rw [e2] at q3
    cases q3
    have mu : Mu ρ z.2 d := by
      rcases ioAt_mu q4 with y | y
      · exact .inl y
      · exact .inr (.inr y)
    obtain ⟨p, hp⟩ := S.muts z.2 d mu
    rw [q2] at hp
    cases hp
    obtain ⟨h1, o, h2, h3⟩ := S.at_ (.inl z.2) p d ⟨mu, q2⟩
    exact ⟨p, o, rfl, h1, h2, h3⟩
  · obtain ⟨z, hz, rfl⟩ := (hmem i).mp hi
    obtain ⟨y, hy, rfl⟩ := (hmem j).mp hj
    obtain ⟨v1, d1, q1, q2, q3, q4⟩ := a2 z hz
    obtain ⟨v2, d2, u1, u2, u3, u4⟩ := a2 y hy
    rw [Nat.sub_zero] at q1 u1
    rw [e1] at q1
    cases q1
    rw [e2] at u1
    cases u1
    have m1 : Mu ρ z.2 d1 := by
      rcases ioAt_mu q4 with w | w
      · exact .inl w
      · exact .inr (.inr w)
    have m2 : Mu ρ y.2 d2 := by
      rcases ioAt_mu u4 with w | w
      · exact .inl w
      · exact .inr (.inr w)
    have e := S.inj (.inl z.2) (.inl y.2) p d1 d2 ⟨m1, q2⟩ ⟨m2, u2⟩
    have e : z.2 = y.2 := Sum.inl.inj e
    have : z = y := by
      obtain ⟨j1, hj1⟩ := List.getElem?_of_mem hz
      obtain ⟨j2, hj2⟩ := List.getElem?_of_mem hy
      have b1 : (refsOf es)[j1]? = some z.2 := by rw [hrs, List.getElem?_map, hj1]; rfl
      have b2 : (refsOf es)[j2]? = some y.2 := by rw [hrs, List.getElem?_map, hj2]; rfl
      have ej : j1 = j2 := nodup_inj nd' b1 (by rw [b2, e])
      subst ej
      rw [hj1] at hj2
      exact Option.some.inj hj2
    rw [this]
  · have after : ∀ outs ρ' G' H', ioPuts ρ (refsOf es) outs = some ρ' → After c.w fd.io vs outs G H G' H' → Stt c ρ' G' τ H' σ := fun outs ρ' G' H' hρ A => by
      refine S.called (outs := outs) nd' (fun s hs => ?_) A.gg A.gh (fun a o e n => A.keep a o e fun i hi z => ?_) A.new (fun j s hj => ?_) hρ
      · rw [hrs] at hs
        obtain ⟨z, hz, rfl⟩ := List.mem_map.mp hs
        obtain ⟨v', d', q1, q2, q3, q4⟩ := a2 z hz
        exact ⟨d', q4⟩
      · obtain ⟨y, hy, rfl⟩ := (hmem i).mp hi
        obtain ⟨v', d', q1, q2, q3, q4⟩ := a2 y hy
        rw [Nat.sub_zero, z] at q1
        cases q1
        exact n y.2 (by rw [hrs]; exact List.mem_map_of_mem hy) q2
      · rw [hrs, List.getElem?_map] at hj
        cases ez : (refPS 0 es)[j]? with
        | none =>
          rw [ez] at hj
          cases hj
        | some z =>
          rw [ez] at hj
          cases hj
          obtain ⟨v', d', q1, q2, q3, q4⟩ := a2 z (List.mem_of_getElem? ez)
          obtain ⟨p, d, o, w1, w2, w3, w4, w5⟩ := A.outs j z.1 (by rw [hio, List.getElem?_map, ez]; rfl)
          rw [Nat.sub_zero] at q1
          rw [w1] at q1
          cases q1
          exact ⟨p, d, o, q2, w2, w3, w4, w5⟩
    cases er : fd.run ds' with
    | bad =>
      rw [er] at q
      exact q
    | ok cv outs =>
      rw [er] at q
      simp only [callOut] at q
      cases hρ : ioPuts ρ (refsOf es) outs with
      | none =>
        rw [hρ] at q
        exact False.elim q
      | some ρ' =>
        rw [hρ] at q
        intro v H' G' A rc
        have S' := after outs ρ' G' H' hρ A
        cases cv with
        | val d => exact q v H' G' S' A.gg rc
        | own d =>
          obtain ⟨p, o, rfl, p1, p2, p3, p4⟩ := rc
          refine q p H' G' ?_ A.gg
          -- the new thing becomes a thing just made
          have hk : ∀ k p' d', At ρ' τ σ k p' d' → p' ≠ p := fun k p' d' a z => by
            subst z
            have hB := S.nB p1
            -- it stood before
            cases k with
            | inr j =>
              have a : τ[j]? = some (p', d') := a
              obtain ⟨_, u, e, _⟩ := S.at_ (.inr j) p' d' a
              rw [e] at p1
              cases p1
            | inl i =>
              obtain ⟨a1, a2'⟩ := a
              obtain ⟨l1, l2, l3⟩ := ioPuts_get hρ nd'
              by_cases hi : i ∈ refsOf es
              · have hi' := hi
                rw [hrs] at hi'
                obtain ⟨z, hz, rfl⟩ := List.mem_map.mp hi'
                obtain ⟨v', d'', q1, q2, q3, q4⟩ := a2 z hz
                rw [a2'] at q2
                cases q2
                have mu : Mu ρ z.2 d'' := by
                  rcases ioAt_mu q4 with w | w
                  · exact .inl w
                  · exact .inr (.inr w)
                obtain ⟨_, u, e, _⟩ := S.at_ (.inl z.2) p' d'' ⟨mu, a2'⟩
                rw [e] at p1
                cases p1
              · unfold Mu at a1
                rw [l2 i hi] at a1
                obtain ⟨_, u, e, _⟩ := S.at_ (.inl i) p' d' ⟨a1, a2'⟩
                rw [e] at p1
                cases p1
          exact {
            gh := S'.gh
            g0 := S'.g0
            keep := S'.keep
            gnew := S'.gnew
            iop := S'.iop
            len := S'.len
            vals := S'.vals
            muts := S'.muts
            at_ := fun k p' d' a => by
              rcases at_push a with a | ⟨_, rfl, rfl⟩
              · exact S'.at_ k p' d' a
              · exact ⟨p2, o, p3, p4⟩
            own := S'.own
            tmp := fun z hz => by
              rcases List.mem_append.mp hz with h | h
              · exact S'.tmp z h
              · simp at h
                subst h
                exact S.nB p1
            iom := S'.iom
            inj := fun k k' p' d1 d2 a b => by
              rcases at_push a with a1 | ⟨ka, pa, _⟩
              · rcases at_push b with b1 | ⟨kb, pb, _⟩
                · exact S'.inj k k' p' d1 d2 a1 b1
                · exact absurd pb (hk _ _ _ a1)
              · rcases at_push b with b1 | ⟨kb, pb, _⟩
                · exact absurd pa (hk _ _ _ b1)
                · rw [ka, kb] }
    | ex e outs =>
      rw [er] at q
      simp only [callOut] at q
      cases hρ : ioPuts ρ (refsOf es) outs with
      | none =>
        rw [hρ] at q
        exact False.elim q
      | some ρ' =>
        rw [hρ] at q
        intro H' G' A
        exact hE e H' (q H' G' (after outs ρ' G' H' hρ A) A.gg)
theorem ck_a {p : E} {sc : Scope} {xs : List Expr} (h : ck R p sc (.a xs) = true) : (p = .nil ∧ xs = []) ∨ ∃ e es y ys, p = .cons e es ∧ xs = y :: ys ∧ (∀ a q, y ≠ .Starred a q) ∧ ck R es sc (.a ys) = true := by
  cases p with
  | nil =>
    cases xs with
    | nil => exact .inl ⟨rfl, rfl⟩
    | cons y ys => cases h
  | cons e es =>
    cases xs with
    | nil => cases h
    | cons y ys =>
      refine .inr ⟨e, es, y, ys, rfl, rfl, ?_⟩
      by_cases hr : ∃ i, e = .ref i
      · obtain ⟨i, rfl⟩ := hr
        have h : (nameB R.N sc i y && ck R es sc (.a ys)) = true := h
        rw [Bool.and_eq_true] at h
        obtain ⟨z, q, rfl, _⟩ := name_of h.1
        exact ⟨fun a q w => (by cases w), h.2⟩
      · have h : (ck R e sc (.e y) && ck R es sc (.a ys)) = true := by
          cases e <;> first | exact absurd ⟨_, rfl⟩ hr | exact h
        rw [Bool.and_eq_true] at h
        exact ⟨(ck_shape h.1).1, h.2⟩
  | cst d => cases d <;> cases h
  | glb n d => cases d <;> cases h
  | xop o es => cases o <;> cases h
  | _ => cases h
theorem ck_star {es : E} {env : Env} {xs : List Expr} (h : ck R es env.scope (.a xs) = true) : (∀ y ys, xs = y :: ys → ∀ e q, y ≠ .Starred e q) ∧ ∀ pos, (backTo pos (starEach xs env)).any (·.1) = false := by
  induction xs generalizing es with
  | nil => exact ⟨fun _ _ z => (by cases z), fun _ => rfl⟩
  | cons y ys ih =>
    rcases ck_a h with ⟨_, z⟩ | ⟨e, es', y', ys', rfl, e2, hy, h2⟩
    · cases z
    · cases e2
      refine ⟨fun y' ys' z => (by cases z; exact hy), fun pos => ?_⟩
      rw [star_cons hy]
      have := (ih h2).2 pos
      unfold backTo at this ⊢
      rw [List.map_cons, List.any_cons, this]
      rfl
theorem snd_call {n : String} {es : E} (hs : Snd R Γ es) : Snd R Γ (.call n es) := by
  refine snd_of (fun {X c W k x} g h => ?_) (fun _ _ => by simp [ck])
  cases x <;> first | (simp [ck] at h; done) | skip
  rename_i f args kws pos
  cases f <;> first | (cases h; done) | skip
  rename_i fn fpos
  rcases args with _ | ⟨y, args⟩ <;> first | (cases h; done) | skip
  rcases kws with _ | ⟨kw, kws⟩ <;> first | (cases h; done) | skip
  have h : (R.fns.contains n && decide (fn = Str.ofString n) && glB X.env.scope fn && okName fn && ck R es X.env.scope (.a (y :: args))) = true := h
  rw [Bool.and_eq_true, Bool.and_eq_true, Bool.and_eq_true, Bool.and_eq_true, decide_eq_true_eq] at h
  obtain ⟨⟨⟨⟨h0, rfl⟩, h1⟩, h2⟩, h3⟩ := h
  have hdb : (Str.ofString n == ("__debug__" : Str)) = false := by
    simp only [okName, Bool.and_eq_true, Bool.not_eq_true'] at h2
    exact h2.1.1
  have hst := @ck_star R es X.env (y :: args) h3
  refine ⟨?_, fun _ => rfl⟩
  obtain ⟨fd, hf, a, dat, ps, m1, m2, m3, m4⟩ := g.fns n (by simpa using h0)
  have hy := hst.1 y args rfl
  have hpl : (backTo pos (starEach args X.env)).any (·.1) = false := by
    have := hst.2 pos
    rw [star_cons hy] at this
    unfold backTo at this ⊢
    rw [List.map_cons, List.any_cons] at this
    simpa using this
  refine PE.imp (pe_callS m4 g.room (gl_of h1) m1 m2 m3 (fun σ => passAt g.tk σ) (hs.a g h3) hdb (star_cons hy) hpl) fun σ H Q q => ?_
  obtain ⟨ρ, G, τ, S, q⟩ := q
  refine ⟨ρ, G, τ, S, ?_⟩
  simp only [den] at q
  cases ed : den Γ es ρ with
  | bad =>
    rw [ed] at q
    exact q
  | ex z ρ2 =>
    rw [ed] at q
    exact q
  | ok cv ρ2 =>
    rw [ed] at q
    cases cv with
    | own d => exact False.elim q
    | val d =>
      cases d <;> first | exact False.elim q | skip
      rename_i ds
      intro vs H' G' S' s r
      have q : Post c W σ G τ Q (callF Γ n es ρ2 ds) := q
      unfold callF at q
      rw [hf] at q
      have q := Post.mono s q
      simp only at q
      split at q
      · rename_i hc
        cases ef : fill ρ2 es ds with
        | none =>
          rw [ef] at q
          exact False.elim q
        | some ds' =>
          rw [ef] at q
          exact call_ok S' r ef hc.1 hc.2.1 hc.2.2 (fun _ _ h => h) q
      · exact False.elim q
/-- a call's reading, of a def that is told -/
theorem call_imp {n : String} {es : E} {fd : FD} {σ : L2.St} {H : Hp} {Q : VK} (hf : Γ.fn n = some fd) (q : tD Γ c W (.call n es) σ H Q) : tCallS (spF c.w fd) (WE W) (tA Γ c W es) σ H Q := by
  obtain ⟨ρ, G, τ, S, q⟩ := q
  refine ⟨ρ, G, τ, S, ?_⟩
  simp only [den] at q
  cases ed : den Γ es ρ with
  | bad =>
    rw [ed] at q
    exact q
  | ex z ρ2 =>
    rw [ed] at q
    exact q
  | ok cv ρ2 =>
    rw [ed] at q
    cases cv with
    | own d => exact False.elim q
    | val d =>
      cases d <;> first | exact False.elim q | skip
      rename_i ds
      intro vs H' G' S' s r
      have q : Post c W σ G τ Q (callF Γ n es ρ2 ds) := q
      unfold callF at q
      rw [hf] at q
      have q := Post.mono s q
      simp only at q
      split at q
      · rename_i hc
        cases ef : fill ρ2 es ds with
        | none =>
          rw [ef] at q
          exact False.elim q
        | some ds' =>
          rw [ef] at q
          exact call_ok S' r ef hc.1 hc.2.1 hc.2.2 (fun _ _ h => h) q
      · exact False.elim q
end
end MPS
end
section
set_option Elab.async false
set_option linter.all false
set_option maxRecDepth 100000
set_option maxHeartbeats 2000000
/-! MpD7: what is walked. -/
namespace MPS
open PySem L2 MP
/-- J walks the items xs, wherever the state stands so -/
def Walks (c : Fc) (σ : L2.St) (J : It) (xs : List D) (G1 : Hp) (lk : Option Nat) : Prop :=
  ∀ (ρ : Rho) (G : Hp) (τ : List (Addr × D)) (H : Hp) (σ' : L2.St), Stt c ρ G τ H σ' → Same G1 G → (∀ i, lk = some i → ρ[i]? = some (.lck (.lst xs)) ∧ σ'[i]? = σ[i]?) →
    ∀ n, (n < xs.length → J.go n H) ∧ (∀ x H', J.yld n H x H' → ∀ d, xs[n]? = some d → ∃ G', Grow G H G' H' ∧ Rep c.w G' x d) ∧ (xs.length = n → J.stop n H)
def PostI (c : Fc) (W : WX) (σ : L2.St) (G : Hp) (τ : List (Addr × D)) (R' : It → Hp → Prop) : Out (List D × Option Nat) → Prop
  | .ok p ρ1 => ∀ J H1 G1, Stt c ρ1 G1 τ H1 σ → Same G G1 → Walks c σ J p.1 G1 p.2 → p.1.length ≤ SL → R' J H1
  | .ex e ρ' => ∀ H' G', Stt c ρ' G' τ H' σ → Same G G' → W (.ref (c.w.κ e)) none σ H'
  | .bad => False
def tI (Γ : Tab) (c : Fc) (W : WX) (it : E) : TI := fun σ H R' => ∃ ρ G τ, Stt c ρ G τ H σ ∧ PostI c W σ G τ R' (iterOf it (den Γ it) ρ)
/-- no list or tuple is too long -/
def LenOk (H : Hp) : Prop := ∀ a xs, (H a = some (.lst xs) ∨ H a = some (.tup xs)) → xs.length ≤ SL
theorem Inv.lenOk {X : Cx} {pins : List (Addr × Obj)} {σ : L2.St} {H : Hp} {s : Shared} (I : Inv X pins σ H s) : LenOk H := fun a xs h => by
  rw [← sl_eq]
  rcases h with h | h
  · exact (I.hok a _ h).1
  · exact (I.hok a _ h).1
theorem PI.len {X : Cx} {tg iter : Expr} {t : TI} (h : PI X tg iter t) : PI X tg iter (fun σ H R => t σ H fun J H1 => LenOk H1 → R J H1) := ⟨fun pins s σ H R I q => by
  refine thn (h.run pins s σ H _ I q) fun v s1 hh => thn hh fun itv s2 hp => ?_
  obtain ⟨it, fp, tn, J, H', e, I', T, t0, f, r⟩ := hp
  exact ⟨it, fp, tn, J, H', e, I', T, t0, f, r (Inv.lenOk I')⟩⟩
theorem PI.imp {X : Cx} {tg iter : Expr} {t t' : TI} (h : PI X tg iter t) (i : ∀ σ H Q, t' σ H Q → t σ H Q) : PI X tg iter t' := ⟨fun pins s σ H Q I q => h.run pins s σ H Q I (i _ _ _ q)⟩
section
variable {R : Row} {Γ : Tab} {X : Cx} {c : Fc} {W : WX} {k : Nat} {x : Expr} {ρ ρ' : Rho} {G G' H H' : Hp} {τ : List (Addr × D)} {σ : L2.St} {Q : VK} {J : It} {xs : List D}
theorem walks_lst {a : Addr} {vs : List V} (e : G a = some (.lst vs)) (r : RepL c.w G vs xs) : Walks c σ (Itl c.w.K a) xs G none := by
  intro ρ G' τ H σ' S s _ n
  have eh : H a = some (.lst vs) := S.gh _ _ (s _ _ e)
  have r' := r.mono s
  refine ⟨fun h => ?_, fun x H' y d hd => ?_, fun h => ⟨vs, .inl (.inl eh), by rw [r.length]; exact Nat.le_of_eq h⟩⟩
  · obtain ⟨v, hv, _⟩ := r.get (List.getElem?_eq_getElem h)
    exact ⟨vs, v, .inl (.inl eh), hv⟩
  · obtain ⟨rfl, y⟩ := y
    obtain ⟨v, hv, rv⟩ := r'.get hd
    have := y vs (.inl (.inl eh))
    rw [hv] at this
    cases this
    exact ⟨G', Grow.refl S.gh, rv⟩
theorem walks_tup {a : Addr} {vs : List V} (e : G a = some (.tup vs)) (r : RepL c.w G vs xs) : Walks c σ (Itt c.w.K a) xs G none := by
  intro ρ G' τ H σ' S s _ n
  have eh : H a = some (.tup vs) := S.gh _ _ (s _ _ e)
  have r' := r.mono s
  refine ⟨fun h => ?_, fun x H' y d hd => ?_, fun h => ⟨vs, .inl (.inl eh), by rw [r.length]; exact Nat.le_of_eq h⟩⟩
  · obtain ⟨v, hv, _⟩ := r.get (List.getElem?_eq_getElem h)
    exact ⟨vs, v, .inl (.inl eh), hv⟩
  · obtain ⟨rfl, y⟩ := y
    obtain ⟨v, hv, rv⟩ := r'.get hd
    have := y vs (.inl (.inl eh))
    rw [hv] at this
    cases this
    exact ⟨G', Grow.refl S.gh, rv⟩
theorem walks_lck {a : Addr} {i : Nat} (e : σ[i]? = some (some (.ref a))) : Walks c σ (Itl c.w.K a) xs G (some i) := by
  intro ρ G' τ H σ' S s hl n
  obtain ⟨h1, h2⟩ := hl i rfl
  obtain ⟨_, o, eh, ro⟩ := S.at_ (.inl i) a (.lst xs) ⟨.inr (.inl h1), by rw [h2]; exact e⟩
  cases ro with
  | lst r =>
    rename_i vs
    refine ⟨fun h => ?_, fun x H' y d hd => ?_, fun h => ⟨vs, .inl (.inl eh), by rw [r.length]; exact Nat.le_of_eq h⟩⟩
    · obtain ⟨v, hv, _⟩ := r.get (List.getElem?_eq_getElem h)
      exact ⟨vs, v, .inl (.inl eh), hv⟩
    · obtain ⟨rfl, y⟩ := y
      obtain ⟨v, hv, rv⟩ := r.get hd
      have := y vs (.inl (.inl eh))
      rw [hv] at this
      cases this
      exact ⟨G', Grow.refl S.gh, rv⟩
theorem rngL_get : ∀ (n : Nat) (a : Int) (i : Nat) (d : D), (rngL a n)[i]? = some d → d = .int (a + i)
  | 0, _, _, _, h => by simp [rngL] at h
  | n + 1, a, 0, d, h => by
    simp [rngL] at h
    rw [← h]
    simp
  | n + 1, a, i + 1, d, h => by
    simp only [rngL, List.getElem?_cons_succ] at h
    rw [rngL_get n (a + 1) i d h]
    congr 1
    omega
theorem rngL_length : ∀ (n : Nat) (a : Int), (rngL a n).length = n
  | 0, _ => rfl
  | n + 1, a => by
    show (rngL (a + 1) n).length + 1 = n + 1
    rw [rngL_length n]
theorem walks_rng {lo : Int} {n : Nat} : Walks c σ (Itr lo n) (rngL lo n) G none := by
  intro ρ G' τ H σ' S s _ i
  rw [rngL_length]
  refine ⟨fun h => h, fun x H' y d hd => ?_, fun h => Nat.le_of_eq h⟩
  obtain ⟨rfl, rfl⟩ := y
  rw [rngL_get n lo i d hd]
  exact ⟨G', Grow.refl S.gh, .int _⟩
theorem zipL_get : ∀ (xs ys : List D) (i : Nat) (d : D), (zipL xs ys)[i]? = some d → ∃ a b, xs[i]? = some a ∧ ys[i]? = some b ∧ d = .tup [a, b]
  | [], _, _, _, h => by simp [zipL] at h
  | _ :: _, [], _, _, h => by simp [zipL] at h
  | x :: xs, y :: ys, 0, d, h => by
    simp [zipL] at h
    exact ⟨x, y, rfl, rfl, h.symm⟩
  | x :: xs, y :: ys, i + 1, d, h => by
    simp only [zipL, List.getElem?_cons_succ] at h
    obtain ⟨a, b, h1, h2, h3⟩ := zipL_get xs ys i d h
    exact ⟨a, b, by simpa using h1, by simpa using h2, h3⟩
theorem zipL_length : ∀ (xs ys : List D), (zipL xs ys).length = min xs.length ys.length
  | [], _ => by simp [zipL]
  | _ :: _, [] => by simp [zipL]
  | x :: xs, y :: ys => by
    simp only [zipL, List.length_cons, zipL_length xs ys]
    omega
theorem grow_pair {x y : V} {a b : D} {T : Addr} (sg : Same G H) (hT : H T = none) (rx : Rep c.w G x a) (ry : Rep c.w G y b) : ∃ G', Grow G H G' (upd H T (.tup [x, y])) ∧ Rep c.w G' (.ref T) (.tup [a, b]) := by
  have g : Grow G H (upd G T (.tup [x, y])) (upd H T (.tup [x, y])) := Grow.laid sg hT
  exact ⟨_, g, .tup upd_same (.cons (rx.mono g.gg) (.cons (ry.mono g.gg) .nil))⟩
theorem walks_zipL {a b : Addr} {vs us : List V} {ys : List D} (e : G a = some (.lst vs)) (r : RepL c.w G vs xs) (e2 : G b = some (.lst us)) (r2 : RepL c.w G us ys) : Walks c σ (Itz c.w.K a b) (zipL xs ys) G none := by
  intro ρ G' τ H σ' S s _ n
  have eh : H a = some (.lst vs) := S.gh _ _ (s _ _ e)
  have eh2 : H b = some (.lst us) := S.gh _ _ (s _ _ e2)
  rw [zipL_length]
  refine ⟨fun h => ?_, fun x H' y d hd => ?_, fun h => ⟨vs, us, .inl (.inl eh), .inl (.inl eh2), ?_⟩⟩
  · obtain ⟨v, hv, _⟩ := r.get (List.getElem?_eq_getElem (show n < xs.length by omega))
    obtain ⟨u, hu, _⟩ := r2.get (List.getElem?_eq_getElem (show n < ys.length by omega))
    exact ⟨vs, us, v, u, .inl (.inl eh), .inl (.inl eh2), hv, hu⟩
  · obtain ⟨T, p, q, rfl, hT, rfl, y1, y2⟩ := y
    obtain ⟨da, db, h1, h2, rfl⟩ := zipL_get xs ys n d hd
    obtain ⟨v, hv, rv⟩ := (r.mono s).get h1
    obtain ⟨u, hu, ru⟩ := (r2.mono s).get h2
    have z1 := y1 vs (.inl (.inl eh))
    have z2 := y2 us (.inl (.inl eh2))
    rw [hv] at z1
    rw [hu] at z2
    cases z1
    cases z2
    exact grow_pair S.gh hT rv ru
  · rw [r.length, r2.length]
    omega
theorem walks_zipT {a b : Addr} {vs us : List V} {ys : List D} (e : G a = some (.tup vs)) (r : RepL c.w G vs xs) (e2 : G b = some (.tup us)) (r2 : RepL c.w G us ys) : Walks c σ (RZ.ItzT c.w.K a b) (zipL xs ys) G none := by
  intro ρ G' τ H σ' S s _ n
  have eh : H a = some (.tup vs) := S.gh _ _ (s _ _ e)
  have eh2 : H b = some (.tup us) := S.gh _ _ (s _ _ e2)
  rw [zipL_length]
  refine ⟨fun h => ?_, fun x H' y d hd => ?_, fun h => ⟨vs, us, .inl (.inl eh), .inl (.inl eh2), ?_⟩⟩
  · obtain ⟨v, hv, _⟩ := r.get (List.getElem?_eq_getElem (show n < xs.length by omega))
    obtain ⟨u, hu, _⟩ := r2.get (List.getElem?_eq_getElem (show n < ys.length by omega))
    exact ⟨vs, us, v, u, .inl (.inl eh), .inl (.inl eh2), hv, hu⟩
  · obtain ⟨T, p, q, rfl, hT, rfl, y1, y2⟩ := y
    obtain ⟨da, db, h1, h2, rfl⟩ := zipL_get xs ys n d hd
    obtain ⟨v, hv, rv⟩ := (r.mono s).get h1
    obtain ⟨u, hu, ru⟩ := (r2.mono s).get h2
    have z1 := y1 vs (.inl (.inl eh))
    have z2 := y2 us (.inl (.inl eh2))
    rw [hv] at z1
    rw [hu] at z2
    cases z1
    cases z2
    exact grow_pair S.gh hT rv ru
  · rw [r.length, r2.length]
    omega
/-- a list or a tuple -/
def iSeq (K : PySem.W.Frag) (tl : TE) : TI := fun σ H R => tl σ H fun x H1 => ∃ a, x = .ref a ∧ (((∃ xs, SqL K H1 a xs) ∧ R (Itl K a) H1) ∨ ((∃ xs, SqT K H1 a xs) ∧ R (Itt K a) H1))
theorem pi_seq {l tg : Expr} {tl : TE} (hl : PE X l tl) : PI X tg l (iSeq X.K tl) := by
  refine ⟨fun pins s σ H R I h => ?_⟩
  refine thn (hl.run pins s σ H _ I h) fun v s1 ⟨x, H1, I1, r1, q1⟩ => ?_
  obtain ⟨a, e, q⟩ := q1
  subst e
  cases r1
  rcases q with ⟨⟨xs, hq⟩, q⟩ | ⟨⟨xs, hq⟩, q⟩
  · obtain ⟨its, rv, p, hz⟩ := I1.list hq
    refine wpAny_pyIter_list p.isList ?_
    refine ⟨s1.heap.objs.size, [s1.heap.objs.size], _, _, H1, rfl, I1.kept (t' := s1.toks) fun b o e => Heap.get?_push_of_some _ e, turn_list a _, ⟨_, Heap.get?_push_size _ rfl, rfl, rfl⟩, fun b hb => ?_, q⟩
    have e : b = s1.heap.objs.size := by simpa using hb
    subst e
    exact I1.fpOk (Nat.le_refl _) (I1.hok.fresh (Nat.le_refl _))
  · obtain ⟨its, rv, p, hz⟩ := I1.tuple hq
    refine wpAny_pyIter_tuple (show s1.heap.IsTuple a its.toArray from p) ?_
    refine ⟨s1.heap.objs.size, [s1.heap.objs.size], _, _, H1, rfl, I1.kept (t' := s1.toks) fun b o e => Heap.get?_push_of_some _ e, turn_tuple a _, ⟨_, Heap.get?_push_size _ rfl, rfl, rfl⟩, fun b hb => ?_, q⟩
    have e : b = s1.heap.objs.size := by simpa using hb
    subst e
    exact I1.fpOk (Nat.le_refl _) (I1.hok.fresh (Nat.le_refl _))
/-- what follows an iterable's value -/
theorem post_seq {a : E} {R' : It → Hp → Prop} (S : Stt c ρ G τ H σ) (q : PostI c W σ G τ R' ((den Γ a ρ).bind fun cv ρ' => match seqOf cv.d with
    | some xs => .ok (xs, none) ρ'
    | none => .bad)) : tD Γ c W a σ H fun x H1 => ∃ b, x = .ref b ∧ (((∃ xs, SqL c.w.K H1 b xs) ∧ (LenOk H1 → R' (Itl c.w.K b) H1)) ∨ ((∃ xs, SqT c.w.K H1 b xs) ∧ (LenOk H1 → R' (Itt c.w.K b) H1))) := by
  refine td_val S ?_
  unfold MP.val
  cases e : den Γ a ρ with
  | ex z ρ' =>
    rw [e] at q
    exact q
  | bad =>
    rw [e] at q
    exact q
  | ok cv ρ' =>
    rw [e] at q
    intro H' G' S' s v r
    have q : PostI c W σ G τ R' (match seqOf cv.d with
      | some xs => .ok (xs, none) ρ'
      | none => .bad) := q
    have r : Rep c.w G' v cv.d := r
    cases ed : cv.d <;> rw [ed] at q r <;> first | exact False.elim q | skip
    case tup ds =>
      cases r with
      | tup e r => exact ⟨_, rfl, .inr ⟨⟨_, .inl (.inl (S'.gh _ _ e))⟩, fun lo => q _ H' G' S' s (walks_tup e r) (by rw [← r.length]; exact lo _ _ (.inr (S'.gh _ _ e)))⟩⟩
    case lst ds =>
      cases r with
      | lst e r => exact ⟨_, rfl, .inl ⟨⟨_, .inl (.inl (S'.gh _ _ e))⟩, fun lo => q _ H' G' S' s (walks_lst e r) (by rw [← r.length]; exact lo _ _ (.inl (S'.gh _ _ e)))⟩⟩
theorem Stt.lock (S : Stt c ρ G τ H σ) {i : Nat} {d : D} (h : ρ[i]? = some (.own d)) : Stt c (ρ.set i (.lck d)) G τ H σ := by
  have mu : ∀ j e, Mu (ρ.set i (.lck d)) j e → Mu ρ j e := fun j e q => by
    by_cases hj : i = j
    · subst hj
      unfold Mu at q
      rw [set_self h] at q
      rcases q with q | q | q <;> cases q
      exact .inl h
    · exact (mu_set_ne hj).mp q
  have dn : ∀ k p e, At (ρ.set i (.lck d)) τ σ k p e → At ρ τ σ k p e := fun k p e a => by
    cases k with
    | inr j => exact a
    | inl j => exact ⟨mu j e a.1, a.2⟩
  exact {
    gh := S.gh
    g0 := S.g0
    keep := S.keep
    gnew := S.gnew
    iop := fun q hq => by
      obtain ⟨e1, e2, e, e3⟩ := S.iop q hq
      have hne : i ≠ q.1 := fun z => by
        rw [← z, h] at e3
        cases e3
      exact ⟨e1, e2, e, by rw [List.getElem?_set_ne hne]; exact e3⟩
    len := by rw [List.length_set]; exact S.len
    vals := fun j e q => by
      by_cases hj : i = j
      · subst hj
        rw [set_self h] at q
        cases q
      · rw [List.getElem?_set_ne hj] at q
        exact S.vals j e q
    muts := fun j e q => S.muts j e (mu j e q)
    at_ := fun k p e a => S.at_ k p e (dn k p e a)
    own := fun j e p q q' => by
      by_cases hj : i = j
      · subst hj
        exact S.own i d p (.inl h) q'
      · rw [List.getElem?_set_ne hj] at q
        exact S.own j e p q q'
    tmp := S.tmp
    iom := fun j e q => by
      by_cases hj : i = j
      · subst hj
        rw [set_self h] at q
        cases q
      · rw [List.getElem?_set_ne hj] at q
        exact S.iom j e q
    inj := fun k k' p e e' a b => S.inj k k' p e e' (dn _ _ _ a) (dn _ _ _ b) }
theorem Stt.unlock (S : Stt c ρ G τ H σ) {i : Nat} {d : D} (h : ρ[i]? = some (.lck d)) : Stt c (ρ.set i (.own d)) G τ H σ := by
  have mu : ∀ j e, Mu (ρ.set i (.own d)) j e → Mu ρ j e := fun j e q => by
    by_cases hj : i = j
    · subst hj
      unfold Mu at q
      rw [set_self h] at q
      rcases q with q | q | q <;> cases q
      exact .inr (.inl h)
    · exact (mu_set_ne hj).mp q
  have dn : ∀ k p e, At (ρ.set i (.own d)) τ σ k p e → At ρ τ σ k p e := fun k p e a => by
    cases k with
    | inr j => exact a
    | inl j => exact ⟨mu j e a.1, a.2⟩
  exact {
    gh := S.gh
    g0 := S.g0
    keep := S.keep
    gnew := S.gnew
    iop := fun q hq => by
      obtain ⟨e1, e2, e, e3⟩ := S.iop q hq
      have hne : i ≠ q.1 := fun z => by
        rw [← z, h] at e3
        cases e3
      exact ⟨e1, e2, e, by rw [List.getElem?_set_ne hne]; exact e3⟩
    len := by rw [List.length_set]; exact S.len
    vals := fun j e q => by
      by_cases hj : i = j
      · subst hj
        rw [set_self h] at q
        cases q
      · rw [List.getElem?_set_ne hj] at q
        exact S.vals j e q
    muts := fun j e q => S.muts j e (mu j e q)
    at_ := fun k p e a => S.at_ k p e (dn k p e a)
    own := fun j e p q q' => by
      by_cases hj : i = j
      · subst hj
        exact S.own i d p (.inr h) q'
      · rw [List.getElem?_set_ne hj] at q
        exact S.own j e p q q'
    tmp := S.tmp
    iom := fun j e q => by
      by_cases hj : i = j
      · subst hj
        rw [set_self h] at q
        cases q
      · rw [List.getElem?_set_ne hj] at q
        exact S.iom j e q
    inj := fun k k' p e e' a b => S.inj k k' p e e' (dn _ _ _ a) (dn _ _ _ b) }
end
end MPS
end
section
set_option Elab.async false
set_option linter.all false
set_option maxRecDepth 100000
set_option maxHeartbeats 2000000
/-! MpD8: enumerate of tuples; what is walked, in general. -/
namespace PySem
set_option maxHeartbeats 1000000 in
theorem mp_meets_enum1 {v : Value} {o : Obj} {H : Heap → Prop} (B : Begins v o H) :
    Meets (Builtin.«enumerate.__new__» ⟨[.type "enumerate", v], []⟩) (fun _ R s => H s.heap ∧
      R (.ok (.ret (.ref (s.heap.push o).objs.size))) { s with heap := (s.heap.push o).push { cls := .type "enumerate", data := .fields #[.none, .bool false, .ref s.heap.objs.size, rawInt 0, .none, .none] } }) :=
  .of_wp fun prog w A R s h => by
    obtain ⟨hp, g, d, tk, os⟩ := s; obtain ⟨h1, h⟩ := h
    have hsub := sub_enumerate
    have q1 : ∀ {A' : Around} {E : Value → Shared → Prop} {Q : Value → Shared → Prop}, Q (.ref hp.objs.size) ⟨hp.push o, g, d, tk, os⟩ → wpAny (model prog w) A' (pyIter v) Q E ⟨hp, g, d, tk, os⟩ :=
      fun q => B.iter prog w _ _ ⟨hp, g, d, tk, os⟩ _ h1 q
    wp_walk using q1
    refine wpAny_stack_any fun st => wpAny_pure ?_
    split
    · rename_i c _ _ _ _ _
      cases (c == Value.type "enumerate")
      · wp_walk using q1
        exact ⟨_, rfl, h⟩
      · wp_walk using q1
        exact ⟨_, rfl, h⟩
    · wp_walk using q1
      exact ⟨_, rfl, h⟩
section
variable {prog : Program} {w : World} {A : Around} {E : Value → Shared → Prop} {s : Shared}
theorem mp_enum_begins {v : Value} {o : Obj} {H : Heap → Prop} {Q : Value → Shared → Prop} (B : Begins v o H) (h1 : H s.heap)
    (h : ∀ h', IsEnum h' (s.heap.objs.size + 1) s.heap.objs.size 0 .none → h'.get? s.heap.objs.size = some o → h'.objs.size = s.heap.objs.size + 2 →
      (∀ b o, s.heap.get? b = some o → h'.get? b = some o) → Q (.ref (s.heap.objs.size + 1)) { s with heap := h' }) :
    wpAny (model prog w) A (call (.type "enumerate") [v]) Q E s := by
  refine callType_new F.called_enumerate (by decide) (F.typeCall_enumerate_1 _) (F.newCall_enumerate_1 _) (fun obj => F.args_object_init_2 obj _) F.entry_enumerate_new
    (mp_meets_enum1 B) ⟨h1, ?_⟩
  have hz : (s.heap.push o).objs.size = s.heap.objs.size + 1 := Heap.size_push ..
  show _ ∧ _
  rw [hz]
  have he : IsEnum ((s.heap.push o).push { cls := .type "enumerate", data := .fields #[.none, .bool false, .ref s.heap.objs.size, rawInt 0, .none, .none] }) (s.heap.objs.size + 1) s.heap.objs.size 0 .none := by
    have := Heap.get?_push_size (s.heap.push o) (o := { cls := .type "enumerate", data := .fields #[.none, .bool false, .ref s.heap.objs.size, rawInt 0, .none, .none] }) rfl
    rw [hz] at this; exact this
  refine ⟨⟨_, he, rfl⟩, h _ he (Heap.get?_push_of_some _ (Heap.get?_push_size _ B.free)) (by rw [Heap.size_push, hz]) fun b o x => Heap.get?_push_of_some _ (Heap.get?_push_of_some _ x)⟩
end
end PySem
namespace MPS
open PySem L2 MP PyProof.Rows
/-- the tuple at a, each item in a new pair -/
def ItT (K : PySem.W.Frag) (a : Addr) : It :=
  ⟨fun i H => ∃ (xs : List V) (x : V), SqT K H a xs ∧ xs[i]? = some x, fun i H v H' => ∃ T x, v = .ref T ∧ H T = none ∧ H' = upd H T (.tup [.int (i : Nat), x]) ∧ ∀ xs, SqT K H a xs → xs[i]? = some x, fun i H => ∃ xs : List V, SqT K H a xs ∧ xs.length = i⟩
theorem turn_enumT {P : Program} {w : World} {K : PySem.W.Frag} {elts : List Expr} {kk : Nat} {tpos : Pos} (a e it : Addr) (hae : a ≠ e) (hai : a ≠ it) :
    Turn P w K (.Tuple elts kk tpos) (ItT K a) [e, it] e (fun i h => (∃ old, IsEnum h e it ((i : Nat) : Int) old) ∧ h.IsTupleIter it a i ∧ e ≠ it) where
  mem := by simp
  obj := fun i h st b hb => by
    obtain ⟨⟨old, he⟩, ⟨o, ho, hc, hd⟩, _⟩ := st
    have e' : b = e ∨ b = it := by simpa using hb
    rcases e' with z | z
    · rw [z]; exact ⟨_, he, fun v q => nomatch q⟩
    · rw [z]; exact ⟨o, ho, fun v q => by rw [hd] at q; cases q⟩
  keep := fun i h h' st k => let ⟨⟨old, he⟩, hi, hne⟩ := st; ⟨⟨old, k e (by simp) _ he⟩, hi.at fun o q => k it (by simp) o q, hne⟩
  item := by
    intro X hP hw hK hc i pins s σ H E I hf st hg
    subst hP hw hK
    obtain ⟨⟨old, he⟩, hit, hne⟩ := st
    obtain ⟨xs, x, hq, hx⟩ := hg
    obtain ⟨its, rv, p, hz⟩ := I.tuple hq
    obtain ⟨u, hu, ru⟩ := rv.get hx
    have hel : e < s.heap.objs.size := Heap.lt_size he
    have hil : it < s.heap.objs.size := by obtain ⟨_, q, _⟩ := hit; exact Heap.lt_size q
    have hlt : i < its.toArray.size := by
      have := (List.getElem?_eq_some_iff.mp hu).1
      simpa using this
    refine wpAny_pyNext_enum_itemD (Draws.tuple (A := X.A.in1) (I.ok.hd hc) it a hai its.toArray) he ⟨hit, p⟩ hlt hne (by simp [hne, Ne.symm hae]) fun x' h' tk hP ho hit' hT hsz hk => ?_
    have ex : x' = u := by
      have hP : its.toArray[i]? = some x' := hP
      have : its[i]? = some x' := by simpa using hP
      rw [hu] at this
      exact (Option.some.inj this).symm
    subst ex
    refine ⟨_, rfl, wpAny_letOwnedTupleGo_enum (s := { s with heap := h', toks := tk + 1 }) ho fun h'' he' sb => ?_⟩
    have hT2 : h''.get? s.heap.objs.size = some { cls := .type "tuple", data := .seq #[.int i tk, x'] } := (sb.2 _ (Nat.ne_of_gt hel)).trans hT
    have new : ObjOk X.prog X.w (upd H s.heap.objs.size (.tup [.int (i : Nat), x])) h'' s.heap.objs.size (.tup [.int (i : Nat), x]) :=
      ⟨by show 2 ≤ sizeLine; decide, [.int i tk, x'], .cons ⟨_, rfl⟩ (.cons ru .nil), ⟨_, hT2, rfl, _, rfl⟩⟩
    have I1 : Inv X pins σ (upd H s.heap.objs.size (.tup [.int (i : Nat), x])) { s with heap := h'', toks := tk + 1 } :=
      I.turnedNew (ch := [e, it]) (fun b ob hb q => (sb.2 b (fun z => hb (by simp [z]))).trans (hk b ob (fun z => hb (by simp [z])) (fun z => hb (by simp [z])) q)) hf (Nat.le_refl _) new
    refine ⟨.ref s.heap.objs.size, _, I1, rfl, ⟨_, x, rfl, I.hok.fresh (Nat.le_refl _), rfl, fun ys hy => by rw [I.tuple_inj hy hq]; exact hx⟩, ⟨⟨x', ?_⟩, hit'.1.at fun o q => (sb.2 it (Ne.symm hne)).trans q, hne⟩, fun b hb => ?_⟩
    · have e1 : ((i + 1 : Nat) : Int) = (i : Int) + 1 := by omega
      rw [e1]; exact he'
    · have hb' : b < s.heap.objs.size := by
        have e' : b = e ∨ b = it := by simpa using hb
        rcases e' with z | z
        · rw [z]; exact hel
        · rw [z]; exact hil
      rw [upd_ne (Nat.ne_of_lt hb')]
      exact (hf b hb).1
  done := by
    intro X hP hw hK hc i pins s σ H E I hf st hg
    subst hP hw hK
    obtain ⟨⟨old, he⟩, hit, hne⟩ := st
    obtain ⟨xs, hq, hx⟩ := hg
    obtain ⟨its, rv, p, hz⟩ := I.tuple hq
    obtain ⟨f0, f1, f2, f3, f4, f5⟩ := hf it (by simp)
    have hl : its.toArray.size = i := by rw [← hx, rv.length, List.size_toArray]
    refine wpAny_pyNext_enum_endD (Draws.tuple (A := X.A.in1) (I.ok.hd hc) it a hai its.toArray) he (by rw [hl]; exact ⟨hit, p⟩) fun h' eb => ⟨rfl, I.turned (t' := s.toks) (fun b o hb q => eb b o hb q) f0 f1 f3 f4 f5⟩
  self := fun A i s Q E st h => let ⟨⟨_, he⟩, _⟩ := st; wpAny_pyIter_enum he h

def iEnumA (K : PySem.W.Frag) (ta : TA) : TI := fun σ H R => ta σ H fun vs H1 => ∃ a xs, vs = [.ref a] ∧ ((SqL K H1 a xs ∧ R (Ite K a) H1) ∨ (SqT K H1 a xs ∧ R (ItT K a) H1))
theorem pi_enumA {X : Cx} {e : Expr} {ta : TA} {p pos tpos : Pos} {elts : List Expr} {kk : Nat} (hg : Gl X "enumerate") (hm : X.mg "enumerate" = none) (ha : PA X [e] ta) (hs : starEach [e] X.env = [(false, eval e X.env)]) :
    PI X (.Tuple elts kk tpos) (.Call (.Name "enumerate" p) [e] [] pos) (iEnumA X.K ta) := by
  refine ⟨fun pins s σ H R I h => ?_⟩
  refine Call_ (ld_blt I hg hm boot_enumerate (PyProof.Rows.callWith_type1 (thn (ha.run pos pins s σ H _ I h) fun us s1 ⟨vs, H1, I1, r1, q1⟩ => ?_) hs rfl))
  obtain ⟨a, xs, ex, q⟩ := q1
  subst ex
  cases r1 with
  | cons r rr =>
    cases rr
    cases r
    have fp : ∀ b, b = s1.heap.objs.size + 1 ∨ b = s1.heap.objs.size → FpOk X pins H1 b := fun b e' => by
      have hle : s1.heap.objs.size ≤ b := by
        rcases e' with z | z
        · rw [z]; exact Nat.le_add_right _ _
        · rw [z]; exact Nat.le_refl _
      exact I1.fpOk hle (I1.hok.fresh hle)
    rcases q with ⟨hq, q⟩ | ⟨hq, q⟩
    · obtain ⟨its, rv, p', hz⟩ := I1.list hq
      refine call_enumerate_list p'.isList fun h' he hit hsz hk => wpAny_pyIter_enum he ?_
      have I2 : Inv X pins σ H1 { s1 with heap := h' } := I1.kept (t' := s1.toks) hk
      exact ⟨s1.heap.objs.size + 1, [s1.heap.objs.size + 1, s1.heap.objs.size], _, _, H1, rfl, I2, turn_enum a (s1.heap.objs.size + 1) s1.heap.objs.size, ⟨⟨.none, he⟩, hit, Nat.succ_ne_self _⟩, fun b hb => fp b (by simpa using hb), q⟩
    · obtain ⟨its, rv, p', hz⟩ := I1.tuple hq
      have hal : a < s1.heap.objs.size := by
        obtain ⟨o, ho, _⟩ := p'
        exact Heap.lt_size ho
      refine mp_enum_begins (begins_tuple a its.toArray) (show s1.heap.IsTuple a its.toArray from p') fun h' he hit hsz hk => wpAny_pyIter_enum he ?_
      have I2 : Inv X pins σ H1 { s1 with heap := h' } := I1.kept (t' := s1.toks) hk
      exact ⟨s1.heap.objs.size + 1, [s1.heap.objs.size + 1, s1.heap.objs.size], _, _, H1, rfl, I2, turn_enumT a (s1.heap.objs.size + 1) s1.heap.objs.size (Nat.ne_of_lt (Nat.lt_succ_of_lt hal)) (Nat.ne_of_lt hal), ⟨⟨.none, he⟩, ⟨_, hit, rfl, rfl⟩, Nat.succ_ne_self _⟩, fun b hb => fp b (by simpa using hb), q⟩
section
variable {R : Row} {Γ : Tab} {X : Cx} {c : Fc} {W : WX} {k : Nat} {x : Expr} {ρ ρ' : Rho} {G G' H H' : Hp} {τ : List (Addr × D)} {σ : L2.St} {Q : VK} {J : It} {xs : List D}
theorem enumL_get : ∀ (xs : List D) (k i : Nat) (d : D), (enumL k xs)[i]? = some d → ∃ a, xs[i]? = some a ∧ d = .tup [.int ((k + i : Nat) : Int), a]
  | [], _, _, _, h => by simp [enumL] at h
  | x :: xs, k, 0, d, h => by
    simp [enumL] at h
    exact ⟨x, rfl, by rw [← h]; rfl⟩
  | x :: xs, k, i + 1, d, h => by
    simp only [enumL, List.getElem?_cons_succ] at h
    obtain ⟨a, h1, h2⟩ := enumL_get xs (k + 1) i d h
    exact ⟨a, by simpa using h1, by rw [h2, show k + 1 + i = k + (i + 1) by omega]⟩
theorem enumL_length : ∀ (xs : List D) (k : Nat), (enumL k xs).length = xs.length
  | [], _ => rfl
  | x :: xs, k => by simp only [enumL, List.length_cons, enumL_length xs]
theorem walks_enumL {a : Addr} {vs : List V} (e : G a = some (.lst vs)) (r : RepL c.w G vs xs) : Walks c σ (Ite c.w.K a) (enumL 0 xs) G none := by
  intro ρ G' τ H σ' S s _ n
  have eh : H a = some (.lst vs) := S.gh _ _ (s _ _ e)
  rw [enumL_length]
  refine ⟨fun h => ?_, fun x H' y d hd => ?_, fun h => ⟨vs, .inl (.inl eh), by rw [r.length]; exact Nat.le_of_eq h⟩⟩
  · obtain ⟨v, hv, _⟩ := r.get (List.getElem?_eq_getElem h)
    exact ⟨vs, v, .inl (.inl eh), hv⟩
  · obtain ⟨T, p, rfl, hT, rfl, y1⟩ := y
    obtain ⟨da, h1, rfl⟩ := enumL_get xs 0 n d hd
    obtain ⟨v, hv, rv⟩ := (r.mono s).get h1
    have z1 := y1 vs (.inl (.inl eh))
    rw [hv] at z1
    cases z1
    rw [Nat.zero_add]
    exact grow_pair S.gh hT (.int _) rv
theorem walks_enumT {a : Addr} {vs : List V} (e : G a = some (.tup vs)) (r : RepL c.w G vs xs) : Walks c σ (ItT c.w.K a) (enumL 0 xs) G none := by
  intro ρ G' τ H σ' S s _ n
  have eh : H a = some (.tup vs) := S.gh _ _ (s _ _ e)
  rw [enumL_length]
  refine ⟨fun h => ?_, fun x H' y d hd => ?_, fun h => ⟨vs, .inl (.inl eh), by rw [r.length]; exact h⟩⟩
  · obtain ⟨v, hv, _⟩ := r.get (List.getElem?_eq_getElem h)
    exact ⟨vs, v, .inl (.inl eh), hv⟩
  · obtain ⟨T, p, rfl, hT, rfl, y1⟩ := y
    obtain ⟨da, h1, rfl⟩ := enumL_get xs 0 n d hd
    obtain ⟨v, hv, rv⟩ := (r.mono s).get h1
    have z1 := y1 vs (.inl (.inl eh))
    rw [hv] at z1
    cases z1
    rw [Nat.zero_add]
    exact grow_pair S.gh hT (.int _) rv
/-- a value, then an iterator -/
theorem posti_val {a : E} {f : D → Rho → Out (List D × Option Nat)} {R' : It → Hp → Prop} {K1 : VK} (S : Stt c ρ G τ H σ) (q : PostI c W σ G τ R' ((MP.val (den Γ a) ρ).bind f))
    (k : ∀ v d ρ' H' G', Stt c ρ' G' τ H' σ → Same G G' → Rep c.w G' v d → PostI c W σ G' τ R' (f d ρ') → K1 v H') : tD Γ c W a σ H K1 := by
  refine td_val S ?_
  cases e : MP.val (den Γ a) ρ with
  | ok d ρ' =>
    rw [e] at q
    intro H' G' S' s v r
    refine k v d ρ' H' G' S' s r ?_
    have q : PostI c W σ G τ R' (f d ρ') := q
    cases ef : f d ρ' with
    | ok p ρ2 =>
      rw [ef] at q
      exact fun J H1 G1 S1 s1 w wl => q J H1 G1 S1 (s.trans s1) w wl
    | ex z ρ2 =>
      rw [ef] at q
      exact fun H1 G1 S1 s1 => q H1 G1 S1 (s.trans s1)
    | bad =>
      rw [ef] at q
      exact q
  | ex z ρ' =>
    rw [e] at q
    exact q
  | bad =>
    rw [e] at q
    exact q
def seqI (o : Out CV) : Out (List D × Option Nat) := o.bind fun cv ρ' => match seqOf cv.d with
    | some xs => .ok (xs, none) ρ'
    | none => .bad
theorem zip_le {xs ys : List D} (h : xs.length ≤ SL) : (zipL xs ys).length ≤ SL := by
  rw [zipL_length]
  omega
/-- what is walked -/
theorem pi_of {it : E} {t iter : Expr} {tg : Tg} {sc2 : Scope} {fnB : Str → Bool} (g : Gd R X Γ c k W) (hsub : ∀ p : E, sizeOf p < sizeOf it → Snd R Γ p) (h : ck R it X.env.scope (.i iter) = true) (ht : (!pairIt it || isTp tg) = true) (htg : tgB R.N sc2 fnB tg t = true)
    (hit : (match it with
      | .itr _ => true
      | .rng1 _ => true
      | .rng2 _ _ => true
      | .enm _ => true
      | .zip _ _ => true
      | _ => false) = true) : PI X t iter (tI Γ c W it) := by
  have tup : pairIt it = true → ∃ elts kk pos, t = .Tuple elts kk pos := fun hp => by
    rw [hp] at ht
    cases tg with
    | nm i => simp [isTp] at ht
    | tp is =>
      cases t <;> first | (simp [tgB] at htg; done) | exact ⟨_, _, _, rfl⟩
  cases it <;> first | (cases hit; done) | skip
  case itr a =>
    have ha := hsub a (by first | (simp; done) | (simp; omega))
    have h : ck R a X.env.scope (.e iter) = true := h
    by_cases hv : ∃ i, a = .var i
    · obtain ⟨i, rfl⟩ := hv
      refine PI.imp (PI.len (pi_seq (pe_name g h))) fun σ H R' q => ?_
      obtain ⟨ρ, G, τ, S, q⟩ := q
      simp only [iterOf] at q
      split at q
      · rename_i xs e
        obtain ⟨p, hp⟩ := S.muts i _ (.inl e)
        obtain ⟨_, o, eh, ro⟩ := S.at_ (.inl i) p _ ⟨.inl e, hp⟩
        cases ro with
        | lst r =>
          refine ⟨.ref p, hp, p, rfl, .inl ⟨⟨_, .inl (.inl eh)⟩, ?_⟩⟩
          rw [g.K]
          exact fun lo => q _ H G (S.lock e) (Same.refl G) (walks_lck hp) (by rw [← r.length]; exact lo _ _ (.inl eh))
      · rename_i d e
        obtain ⟨v, h1, r⟩ := S.vals i d e
        split at q
        · rename_i xs es
          cases d <;> first | (cases es; done) | skip
          case tup ds =>
            cases es
            cases r with
            | tup e r =>
              refine ⟨_, h1, _, rfl, .inr ⟨⟨_, .inl (.inl (S.gh _ _ e))⟩, ?_⟩⟩
              rw [g.K]
              exact fun lo => q _ H G S (Same.refl G) (walks_tup e r) (by rw [← r.length]; exact lo _ _ (.inr (S.gh _ _ e)))
          case lst ds =>
            cases es
            cases r with
            | lst e r =>
              refine ⟨_, h1, _, rfl, .inl ⟨⟨_, .inl (.inl (S.gh _ _ e))⟩, ?_⟩⟩
              rw [g.K]
              exact fun lo => q _ H G S (Same.refl G) (walks_lst e r) (by rw [← r.length]; exact lo _ _ (.inl (S.gh _ _ e)))
        · exact False.elim q
      · exact False.elim q
    · have nv : ∀ i, a ≠ .var i := fun i z => hv ⟨i, z⟩
      refine PI.imp (PI.len (pi_seq (ha.e g h))) fun σ H R' q => ?_
      obtain ⟨ρ, G, τ, S, q⟩ := q
      have e1 : iterOf (.itr a) (den Γ (.itr a)) ρ = seqI (den Γ a ρ) := by
        cases a <;> first | rfl | exact absurd rfl (nv _)
      rw [e1] at q
      unfold iSeq
      rw [g.K]
      exact post_seq S q
  case rng1 a =>
    have ha := hsub a (by first | (simp; done) | (simp; omega))
    cases iter <;> first | (cases h; done) | skip
    rename_i f args kws pos
    rcases args with _ | ⟨y, _ | ⟨z, args⟩⟩ <;> first | (cases h; done) | skip
    rcases kws with _ | ⟨kw, kws⟩ <;> first | (cases h; done) | skip
    have h : (biB R.bi X.env.scope "range" f && ck R a X.env.scope (.e y)) = true := h
    rw [Bool.and_eq_true] at h
    obtain ⟨fpos, rfl, fg, fm⟩ := bi_of g.bi h.1
    refine PI.imp (pi_range1 fg fm (pa_cons (ha.e g h.2) pa_nil (star_cons (ck_shape h.2).1)) (star_cons (ck_shape h.2).1)) fun σ H R' q => ?_
    obtain ⟨ρ, G, τ, S, q⟩ := q
    have e1 : iterOf (.rng1 a) (den Γ (.rng1 a)) ρ = (MP.val (den Γ a) ρ).bind fun x ρ1 => seqI (match x with
      | .int n => if -(SL : Int) ≤ n ∧ n ≤ SL then .ok (.val (.lst (rngL 0 n.toNat))) ρ1 else .bad
      | _ => .bad) := by
      simp only [iterOf, den]
      cases MP.val (den Γ a) ρ <;> rfl
    rw [e1] at q
    refine posti_val S q fun v d ρ' H' G' S' s hv q => ?_
    cases d <;> first | exact False.elim q | skip
    rename_i n
    cases hv
    simp only at q
    split at q
    · rename_i hn
      have hs : SL = 16777216 := rfl
      refine ⟨n, rfl, by omega, by omega, ?_⟩
      exact q _ H' G' S' (Same.refl G') walks_rng (by rw [rngL_length]; omega)
    · exact False.elim q
  case rng2 a b =>
    have ha := hsub a (by first | (simp; done) | (simp; omega))
    have hb := hsub b (by first | (simp; done) | (simp; omega))
    cases iter <;> first | (cases h; done) | skip
    rename_i f args kws pos
    rcases args with _ | ⟨y, _ | ⟨z, _ | ⟨z', args⟩⟩⟩ <;> first | (cases h; done) | skip
    rcases kws with _ | ⟨kw, kws⟩ <;> first | (cases h; done) | skip
    have h : (biB R.bi X.env.scope "range" f && ck R a X.env.scope (.e y) && ck R b X.env.scope (.e z)) = true := h
    rw [Bool.and_eq_true, Bool.and_eq_true] at h
    obtain ⟨⟨h1, h2⟩, h3⟩ := h
    obtain ⟨fpos, rfl, fg, fm⟩ := bi_of g.bi h1
    have st2 : starEach [z] X.env = [(false, eval z X.env)] := star_cons (ck_shape h3).1
    refine PI.imp (pi_range2 fg fm (pa_cons (ha.e g h2) (pa_cons (hb.e g h3) pa_nil st2) (star_cons (ck_shape h2).1)) (by rw [star_cons (ck_shape h2).1, st2]) st2) fun σ H R' q => ?_
    obtain ⟨ρ, G, τ, S, q⟩ := q
    have e1 : iterOf (.rng2 a b) (den Γ (.rng2 a b)) ρ = (MP.val (den Γ a) ρ).bind fun x ρ1 => (MP.val (den Γ b) ρ1).bind fun y ρ2 => seqI (match x, y with
      | .int i, .int j => if -(SL : Int) ≤ i ∧ i ≤ SL ∧ -(SL : Int) ≤ j ∧ j ≤ SL ∧ j - i ≤ SL then .ok (.val (.lst (rngL i (j - i).toNat))) ρ2 else .bad
      | _, _ => .bad) := by
      simp only [iterOf, den]
      cases MP.val (den Γ a) ρ with
      | ok x ρ1 =>
        show Out.bind (Out.bind (MP.val (den Γ b) ρ1) _) _ = Out.bind (MP.val (den Γ b) ρ1) _
        cases MP.val (den Γ b) ρ1 <;> rfl
      | _ => rfl
    rw [e1] at q
    refine posti_val S q fun v d ρ1 H1 G1 S1 s1 hv q => ?_
    refine posti_val S1 q fun u e ρ2 H2 G2 S2 s2 hu q => ?_
    cases d <;> first | exact False.elim q | skip
    cases e <;> first | exact False.elim q | skip
    rename_i i _ j
    cases hv
    cases hu
    simp only at q
    split at q
    · rename_i hn
      have hs : SL = 16777216 := rfl
      refine ⟨i, j, rfl, ⟨by omega, by omega, by omega, by omega⟩, ?_⟩
      exact q _ H2 G2 S2 (Same.refl G2) walks_rng (by rw [rngL_length]; omega)
    · exact False.elim q
  case enm a =>
    have ha := hsub a (by first | (simp; done) | (simp; omega))
    obtain ⟨elts, kk, tpos, rfl⟩ := tup rfl
    cases iter <;> first | (cases h; done) | skip
    rename_i f args kws pos
    rcases args with _ | ⟨y, _ | ⟨z, args⟩⟩ <;> first | (cases h; done) | skip
    rcases kws with _ | ⟨kw, kws⟩ <;> first | (cases h; done) | skip
    have h : (biB R.bi X.env.scope "enumerate" f && ck R a X.env.scope (.e y)) = true := h
    rw [Bool.and_eq_true] at h
    obtain ⟨fpos, rfl, fg, fm⟩ := bi_of g.bi h.1
    refine PI.imp (PI.len (pi_enumA fg fm (pa_cons (ha.e g h.2) pa_nil (star_cons (ck_shape h.2).1)) (star_cons (ck_shape h.2).1))) fun σ H R' q => ?_
    obtain ⟨ρ, G, τ, S, q⟩ := q
    have e1 : iterOf (.enm a) (den Γ (.enm a)) ρ = (MP.val (den Γ a) ρ).bind fun x ρ1 => seqI (match seqOf x with
      | some xs => .ok (.val (.lst (enumL 0 xs))) ρ1
      | none => .bad) := by
      simp only [iterOf, den]
      cases MP.val (den Γ a) ρ <;> rfl
    rw [e1] at q
    refine posti_val S q fun v d ρ' H' G' S' s hv q => ?_
    unfold iEnumA at *
    rw [g.K]
    cases d <;> first | exact False.elim q | skip
    case tup ds =>
      cases hv with
      | tup e r => exact ⟨_, _, rfl, .inr ⟨.inl (.inl (S'.gh _ _ e)), fun lo => q _ H' G' S' (Same.refl G') (walks_enumT e r) (by show (enumL 0 ds).length ≤ SL; rw [enumL_length, ← r.length]; exact lo _ _ (.inr (S'.gh _ _ e)))⟩⟩
    case lst ds =>
      cases hv with
      | lst e r => exact ⟨_, _, rfl, .inl ⟨.inl (.inl (S'.gh _ _ e)), fun lo => q _ H' G' S' (Same.refl G') (walks_enumL e r) (by show (enumL 0 ds).length ≤ SL; rw [enumL_length, ← r.length]; exact lo _ _ (.inl (S'.gh _ _ e)))⟩⟩
  case zip a b =>
    have ha := hsub a (by first | (simp; done) | (simp; omega))
    have hb := hsub b (by first | (simp; done) | (simp; omega))
    obtain ⟨elts, kk, tpos, rfl⟩ := tup rfl
    cases iter <;> first | (cases h; done) | skip
    rename_i f args kws pos
    rcases args with _ | ⟨y, _ | ⟨z, _ | ⟨z', args⟩⟩⟩ <;> first | (cases h; done) | skip
    rcases kws with _ | ⟨kw, kws⟩ <;> first | (cases h; done) | skip
    have h : (biB R.bi X.env.scope "zip" f && ck R a X.env.scope (.e y) && ck R b X.env.scope (.e z)) = true := h
    rw [Bool.and_eq_true, Bool.and_eq_true] at h
    obtain ⟨⟨h1, h2⟩, h3⟩ := h
    obtain ⟨fpos, rfl, fg, fm⟩ := bi_of g.bi h1
    have st2 : starEach [z] X.env = [(false, eval z X.env)] := star_cons (ck_shape h3).1
    refine PI.imp (PI.len (RZ.pi_zipA fg fm (pa_cons (ha.e g h2) (pa_cons (hb.e g h3) pa_nil st2) (star_cons (ck_shape h2).1)) (star_cons (ck_shape h2).1) (pl_one (ck_shape h3).1))) fun σ H R' q => ?_
    obtain ⟨ρ, G, τ, S, q⟩ := q
    have e1 : iterOf (.zip a b) (den Γ (.zip a b)) ρ = (MP.val (den Γ a) ρ).bind fun x ρ1 => (MP.val (den Γ b) ρ1).bind fun y ρ2 => seqI (match x, y with
      | .lst xs, .lst ys => .ok (.val (.lst (zipL xs ys))) ρ2
      | .tup xs, .tup ys => .ok (.val (.lst (zipL xs ys))) ρ2
      | _, _ => .bad) := by
      simp only [iterOf, den]
      cases MP.val (den Γ a) ρ with
      | ok x ρ1 =>
        show Out.bind (Out.bind (MP.val (den Γ b) ρ1) _) _ = Out.bind (MP.val (den Γ b) ρ1) _
        cases MP.val (den Γ b) ρ1 <;> rfl
      | _ => rfl
    rw [e1] at q
    refine posti_val S q fun v d ρ1 H1 G1 S1 s1 hv q => ?_
    refine posti_val S1 q fun u e ρ2 H2 G2 S2 s2 hu q => ?_
    have hv := hv.mono s2
    unfold RZ.iZipA at *
    rw [g.K]
    cases d <;> first | exact False.elim q | skip
    case tup ds =>
      cases e <;> first | exact False.elim q | skip
      cases hv with
      | tup e1 r1 =>
        cases hu with
        | tup e2 r2 => exact ⟨_, _, _, _, rfl, .inr ⟨.inl (.inl (S2.gh _ _ e1)), .inl (.inl (S2.gh _ _ e2)), fun lo => q _ H2 G2 S2 (Same.refl G2) (walks_zipT e1 r1 e2 r2) (zip_le (by rw [← r1.length]; exact lo _ _ (.inr (S2.gh _ _ e1))))⟩⟩
    case lst ds =>
      cases e <;> first | exact False.elim q | skip
      cases hv with
      | lst e1 r1 =>
        cases hu with
        | lst e2 r2 => exact ⟨_, _, _, _, rfl, .inl ⟨.inl (.inl (S2.gh _ _ e1)), .inl (.inl (S2.gh _ _ e2)), fun lo => q _ H2 G2 S2 (Same.refl G2) (walks_zipL e1 r1 e2 r2) (zip_le (by rw [← r1.length]; exact lo _ _ (.inl (S2.gh _ _ e1))))⟩⟩
end
end MPS
end
section
set_option Elab.async false
set_option linter.all false
set_option maxRecDepth 100000
set_option maxHeartbeats 2000000
/-! MpD9: list comprehensions. -/
namespace MPS
open PySem L2 MP
/-! ### slots -/
theorem getElem?_set_eq' {α : Type} {l : List α} {i : Nat} {x y : α} (h : (l.set i x)[i]? = some y) : y = x := by
  by_cases hi : i < l.length
  · rw [List.getElem?_set_self hi] at h
    cases h
    rfl
  · rw [List.getElem?_eq_none (by rw [List.length_set]; omega)] at h
    cases h
theorem wipeR_length (ρ : Rho) : ∀ vs : List Nat, (wipeR ρ vs).length = ρ.length
  | [] => rfl
  | v :: vs => by
    show ((wipeR ρ vs).set v .un).length = _
    rw [List.length_set, wipeR_length ρ vs]
theorem wipeR_in {ρ : Rho} {i : Nat} : ∀ {vs : List Nat}, i ∈ vs → i < ρ.length → (wipeR ρ vs)[i]? = some .un
  | v :: vs, h, hl => by
    show ((wipeR ρ vs).set v .un)[i]? = _
    by_cases e : v = i
    · subst e
      exact List.getElem?_set_self (by rw [wipeR_length]; exact hl)
    · rw [List.getElem?_set_ne e]
      exact wipeR_in (by rcases List.mem_cons.mp h with z | z; exact absurd z.symm e; exact z) hl
theorem wipe_in {σ : L2.St} {i : Nat} : ∀ {vs : List Nat}, i ∈ vs → i < σ.length → (L2.wipe σ vs)[i]? = some none
  | v :: vs, h, hl => by
    show ((L2.wipe σ vs).set v none)[i]? = _
    by_cases e : v = i
    · subst e
      exact List.getElem?_set_self (by rw [L2.wipe_length]; exact hl)
    · rw [List.getElem?_set_ne e]
      exact wipe_in (by rcases List.mem_cons.mp h with z | z; exact absurd z.symm e; exact z) hl
/-- what is wiped hangs on the other slots alone -/
theorem wipe_eq {σ σ' : L2.St} {vs : List Nat} (hl : σ.length = σ'.length) (h : ∀ i, i ∉ vs → σ[i]? = σ'[i]?) : L2.wipe σ vs = L2.wipe σ' vs := by
  apply List.ext_getElem?
  intro i
  by_cases hi : i ∈ vs
  · by_cases hb : i < σ.length
    · rw [wipe_in hi hb, wipe_in hi (hl ▸ hb)]
    · rw [List.getElem?_eq_none (by rw [L2.wipe_length]; omega), List.getElem?_eq_none (by rw [L2.wipe_length]; omega)]
  · rw [wipe_out hi, wipe_out hi]
    exact h i hi
theorem wipe_twice {σ : L2.St} {vs : List Nat} : L2.wipe (L2.wipe σ vs) vs = L2.wipe σ vs := wipe_eq (L2.wipe_length σ vs) fun i hi => wipe_out hi
theorem backR_length (ρ0 ρ : Rho) : ∀ vs : List Nat, (backR ρ0 ρ vs).length = ρ.length
  | [] => rfl
  | v :: vs => by
    show ((backR ρ0 ρ vs).set v _).length = _
    rw [List.length_set, backR_length ρ0 ρ vs]
theorem backR_in {ρ0 ρ : Rho} {i : Nat} : ∀ {vs : List Nat}, i ∈ vs → i < ρ.length → (backR ρ0 ρ vs)[i]? = some (ρ0.getD i .un)
  | v :: vs, h, hl => by
    show ((backR ρ0 ρ vs).set v _)[i]? = _
    by_cases e : v = i
    · subst e
      exact List.getElem?_set_self (by rw [backR_length]; exact hl)
    · rw [List.getElem?_set_ne e]
      exact backR_in (by rcases List.mem_cons.mp h with z | z; exact absurd z.symm e; exact z) hl
theorem quiet_get : ∀ {vs : List Nat} {ρ : Rho}, quiet ρ vs = true → ∀ v ∈ vs, ρ[v]? = some .un ∨ ∃ d, ρ[v]? = some (.val d)
  | v :: vs, ρ, h, u, hu => by
    simp only [quiet, Bool.and_eq_true] at h
    rcases List.mem_cons.mp hu with e | e
    · subst e
      obtain ⟨h1, _⟩ := h
      split at h1
      · exact .inl (by assumption)
      · exact .inr ⟨_, by assumption⟩
      · cases h1
    · exact quiet_get h.2 u e
theorem free_of {ρ : Rho} {i : Nat} (h : ρ[i]? = some .un ∨ ∃ d, ρ[i]? = some (.val d)) : free ρ i = true := by
  unfold free
  rcases h with h | ⟨d, h⟩ <;> rw [h]
section
variable {R : Row} {Γ : Tab} {X : Cx} {c : Fc} {W : WX} {k : Nat} {x : Expr} {ρ ρ' : Rho} {G G' H H' : Hp} {τ : List (Addr × D)} {σ : L2.St} {Q : VK} {J : It} {xs : List D}
theorem lt_of_get {α : Type} {l : List α} {i : Nat} {x : α} (h : l[i]? = some x) : i < l.length := by
  by_cases hi : i < l.length
  · exact hi
  · rw [List.getElem?_eq_none (by omega)] at h
    cases h
theorem Stt.wipe (S : Stt c ρ G τ H σ) : ∀ {vs : List Nat}, quiet ρ vs = true → Stt c (wipeR ρ vs) G τ H (L2.wipe σ vs)
  | [], _ => S
  | v :: vs, h => by
    have hq := quiet_get h v List.mem_cons_self
    simp only [quiet, Bool.and_eq_true] at h
    have S1 := Stt.wipe S h.2
    refine S1.store (free_of ?_) (.inl rfl)
    by_cases hv : v ∈ vs
    · have hl : v < ρ.length := by rcases hq with e | ⟨d, e⟩ <;> exact lt_of_get e
      exact .inl (wipeR_in hv hl)
    · rw [wipe_get vs ρ v hv]
      exact hq
/-- the slots vs as they were -/
theorem Stt.back {ρ0 : Rho} {G0 : Hp} {τ0 : List (Addr × D)} {H0 : Hp} {vs : List Nat} (S0 : Stt c ρ0 G0 τ0 H0 σ) (h0 : quiet ρ0 vs = true) (sg : Same G0 G) (hl : ρ.length = ρ0.length) (S : Stt c (wipeR ρ vs) G τ H (L2.wipe σ vs)) : Stt c (backR ρ0 ρ vs) G τ H σ := by
  have key : ∀ us : List Nat, (∀ u ∈ us, u ∈ vs) → ∃ ρ2 σ2, Stt c ρ2 G τ H σ2 ∧ (∀ i, (i ∈ us → ρ2[i]? = ρ0[i]? ∧ σ2[i]? = σ[i]?) ∧ (i ∉ us → ρ2[i]? = (wipeR ρ vs)[i]? ∧ σ2[i]? = (L2.wipe σ vs)[i]?)) := by
    intro us
    induction us with
    | nil => exact fun _ => ⟨_, _, S, fun i => ⟨fun z => absurd z List.not_mem_nil, fun _ => ⟨rfl, rfl⟩⟩⟩
    | cons u us ih =>
      intro hu
      obtain ⟨ρ2, σ2, S2, hg⟩ := ih fun v hv => hu v (List.mem_cons_of_mem _ hv)
      have hq := quiet_get h0 u (hu u List.mem_cons_self)
      have hlt : u < ρ0.length := by rcases hq with e | ⟨d, e⟩ <;> exact lt_of_get e
      have hs : u < σ.length := by rw [← S0.len]; exact hlt
      have fr : free ρ2 u = true := by
        refine free_of ?_
        by_cases hm : u ∈ us
        · rw [((hg u).1 hm).1]
          exact hq
        · rw [((hg u).2 hm).1]
          exact .inl (wipeR_in (hu u List.mem_cons_self) (by omega))
      have l2 : u < ρ2.length := by
        unfold free at fr
        split at fr <;> first | (cases fr; done) | exact lt_of_get (by assumption)
      have l3 : u < σ2.length := by rw [← S2.len]; exact l2
      have fin : ∀ (x : Cell) (v : Option V), ρ0[u]? = some x → σ[u]? = some v → Stt c (ρ2.set u x) G τ H (σ2.set u v) → ∃ ρ3 σ3, Stt c ρ3 G τ H σ3 ∧ (∀ i, (i ∈ u :: us → ρ3[i]? = ρ0[i]? ∧ σ3[i]? = σ[i]?) ∧ (i ∉ u :: us → ρ3[i]? = (wipeR ρ vs)[i]? ∧ σ3[i]? = (L2.wipe σ vs)[i]?)) := by
        intro x v e1 e2 S3
        refine ⟨_, _, S3, fun i => ⟨fun hi => ?_, fun hi => ?_⟩⟩
        · by_cases e : u = i
          · subst e
            rw [List.getElem?_set_self l2, List.getElem?_set_self l3]
            exact ⟨e1.symm, e2.symm⟩
          · rw [List.getElem?_set_ne e, List.getElem?_set_ne e]
            exact (hg i).1 (by rcases List.mem_cons.mp hi with z | z; exact absurd z.symm e; exact z)
        · have e : u ≠ i := fun z => hi (by rw [z]; exact List.mem_cons_self)
          rw [List.getElem?_set_ne e, List.getElem?_set_ne e]
          exact (hg i).2 fun z => hi (List.mem_cons_of_mem _ z)
      rcases hq with e | ⟨d, e⟩
      · exact fin .un _ e (List.getElem?_eq_getElem hs) (S2.store fr (.inl rfl))
      · obtain ⟨v, e2, r⟩ := S0.vals u d e
        exact fin (.val d) _ e e2 (S2.store fr (.inr ⟨d, v, rfl, rfl, r.mono sg⟩))
  obtain ⟨ρ2, σ2, S2, hg⟩ := key vs fun _ h => h
  have e1 : ρ2 = backR ρ0 ρ vs := by
    apply List.ext_getElem?
    intro i
    by_cases hi : i ∈ vs
    · have hq := quiet_get h0 i hi
      have hlt : i < ρ0.length := by rcases hq with e | ⟨d, e⟩ <;> exact lt_of_get e
      rw [((hg i).1 hi).1, backR_in hi (by omega), List.getD_eq_getElem?_getD, List.getElem?_eq_getElem hlt]
      rfl
    · rw [((hg i).2 hi).1, wipe_get vs ρ i hi, back_get vs ρ0 ρ i hi]
  have e2 : σ2 = σ := by
    apply List.ext_getElem?
    intro i
    by_cases hi : i ∈ vs
    · exact ((hg i).1 hi).2
    · rw [((hg i).2 hi).2, wipe_out hi]
  rw [← e1]
  rw [e2] at S2
  exact S2

/-! ### targets -/
def gRow : List Nat → TGs
  | [] => gNil
  | i :: is => gCons (gName i) (gRow is)
def tgG (K : PySem.W.Frag) : Tg → TG
  | .nm i => gName i
  | .tp is => gTup K is.length (gRow is)
def nmB (N : List Str) (sc : Scope) (fn : Str → Bool) (i : Nat) (e : Expr) : Bool := nameB N sc i e && (match e with
    | .Name x _ => (match sc.names.lookup x with
      | some .local => true
      | some .cell => fn x
      | _ => false)
    | _ => false)
theorem pg_nm {i : Nat} {fnB : Str → Bool} {t : Expr} (hN : X.N.Nodup) (hn : X.N = R.N) (hf : ∀ x, fnB x = true → X.fn x = true) (h : nmB R.N X.env.scope fnB i t = true) : PG X t (gName i) ∧ ∃ y pos, t = .Name y pos := by
  unfold nmB at h
  rw [Bool.and_eq_true] at h
  obtain ⟨y, pos, rfl, h1, h2, h3, h4⟩ := name_of h.1
  refine ⟨?_, y, pos, rfl⟩
  have h := h.2
  simp only at h
  split at h
  · rename_i e
    exact pg_name hN (by rw [hn]; exact h1) (.inl e) (.inr e)
  · rename_i e
    exact pg_name hN (by rw [hn]; exact h1) (.inr e) (.inl (hf y h))
  · cases h
theorem pgs_row {fnB : Str → Bool} (hN : X.N.Nodup) (hn : X.N = R.N) (hf : ∀ x, fnB x = true → X.fn x = true) : ∀ (is : List Nat) (es : List Expr), is.length = es.length → ((is.zip es).all fun p => nmB R.N X.env.scope fnB p.1 p.2) = true →
    PGs X es (gRow is) ∧ (assignEach es X.env).length = is.length ∧ (assignEach es X.env).findIdx? (·.1) = none
  | [], [], _, _ => ⟨pgs_nil, rfl, rfl⟩
  | i :: is, e :: es, hl, h => by
    simp only [List.zip_cons_cons, List.all_cons, Bool.and_eq_true] at h
    obtain ⟨pg, y, pos, rfl⟩ := pg_nm hN hn hf h.1
    obtain ⟨ps, hl', hi⟩ := pgs_row hN hn hf is es (by simpa using hl) h.2
    refine ⟨pgs_cons pg ps rfl, ?_, ?_⟩
    · show (assignEach es X.env).length + 1 = is.length + 1
      rw [hl']
    · show List.findIdx? _ ((false, _) :: assignEach es X.env) = none
      rw [List.findIdx?_cons]
      simp only [Bool.false_eq_true, if_false, hi]
      rfl
theorem pg_of {tg : Tg} {fnB : Str → Bool} {t : Expr} (hc : X.calm = true) (hN : X.N.Nodup) (hn : X.N = R.N) (hf : ∀ x, fnB x = true → X.fn x = true) (h : tgB R.N X.env.scope fnB tg t = true) : PG X t (tgG X.K tg) := by
  cases tg with
  | nm i => exact (pg_nm hN hn hf (t := t) (by unfold tgB at h; unfold nmB; exact h)).1
  | tp is =>
    cases t <;> first | (cases h; done) | skip
    rename_i es kk pos
    unfold tgB at h
    rw [Bool.and_eq_true, decide_eq_true_eq] at h
    obtain ⟨ps, h1, h2⟩ := pgs_row hN hn hf is es h.1 h.2
    exact pg_tup hc ps h1 h2
theorem binds_ok {is : List Nat} : ∀ {ds : List D} {vs : List V} {ρ ρ1 : Rho} {σ : L2.St} {Q : L2.St → Hp → Prop}, Stt c ρ G τ H σ → binds is ds ρ = some ρ1 → RepL c.w G vs ds → (∀ i ∈ is, free ρ i = true) →
    (∀ σ2, Stt c ρ1 G τ H σ2 → σ2.length = σ.length → (∀ i, i ∉ is → σ2[i]? = σ[i]?) → Q σ2 H) → gRow is vs σ H Q := by
  induction is with
  | nil =>
    intro ds vs ρ ρ1 σ Q S hb r hf q
    cases r with
    | nil =>
      cases hb
      exact ⟨rfl, q σ S rfl fun _ _ => rfl⟩
    | cons _ _ => cases hb
  | cons i is ih =>
    intro ds vs ρ ρ1 σ Q S hb r hf q
    cases r with
    | nil => cases hb
    | cons r rs =>
      rename_i v vs d ds
      refine ⟨v, vs, rfl, ?_⟩
      have S1 := S.store (hf i List.mem_cons_self) (.inr ⟨d, v, rfl, rfl, r⟩)
      refine ih S1 hb rs (fun j hj => ?_) fun σ2 S2 hl hg => q σ2 S2 (by rw [hl, List.length_set]) fun j hj => ?_
      · by_cases e : i = j
        · subst e
          have : i < ρ.length := by
            have fr := hf i List.mem_cons_self
            unfold free at fr
            split at fr <;> first | (cases fr; done) | exact lt_of_get (by assumption)
          exact free_of (.inr ⟨d, List.getElem?_set_self this⟩)
        · have := hf j (List.mem_cons_of_mem _ hj)
          unfold free at this ⊢
          rw [List.getElem?_set_ne e]
          exact this
      · rw [hg j fun z => hj (List.mem_cons_of_mem _ z)]
        exact List.getElem?_set_ne fun z => hj (by rw [z]; exact List.mem_cons_self)
def tgMem (tg : Tg) (i : Nat) : Prop :=
  match tg with
  | .nm j => i = j
  | .tp is => i ∈ is
theorem bind_ok {tg : Tg} {d : D} {v : V} {ρ1 : Rho} {Q : L2.St → Hp → Prop} (S : Stt c ρ G τ H σ) (hb : bindT tg d ρ = some ρ1) (r : Rep c.w G v d) (hf : ∀ i, tgMem tg i → free ρ i = true)
    (q : ∀ σ2, Stt c ρ1 G τ H σ2 → σ2.length = σ.length → (∀ i, ¬ tgMem tg i → σ2[i]? = σ[i]?) → Q σ2 H) : tgG c.w.K tg v σ H Q := by
  cases tg with
  | nm i =>
    cases hb
    refine q _ (S.store (hf i rfl) (.inr ⟨d, v, rfl, rfl, r⟩)) (List.length_set ..) fun j hj => ?_
    exact List.getElem?_set_ne fun z => hj z.symm
  | tp is =>
    cases d <;> first | (cases hb; done) | skip
    rename_i ds
    cases r with
    | tup e rl =>
      have hl : rl.length = rl.length := rfl
      refine ⟨_, _, rfl, .inl (.inl (S.gh _ _ e)), ?_, binds_ok S hb rl hf q⟩
      have bl : ∀ (is : List Nat) (ds : List D) (ρ ρ1 : Rho), binds is ds ρ = some ρ1 → ds.length = is.length := by
        intro is
        induction is with
        | nil => intro ds ρ ρ1 h; cases ds <;> first | rfl | cases h
        | cons i is ih =>
          intro ds ρ ρ1 h
          cases ds with
          | nil => cases h
          | cons d ds =>
            show ds.length + 1 = is.length + 1
            rw [ih ds _ _ h]
      rw [rl.length]
      exact bl is ds _ _ hb
theorem tgIn_mem {tg : Tg} {vs : List Nat} (h : tgIn tg vs = true) {i : Nat} (hi : tgMem tg i) : i ∈ vs := by
  cases tg with
  | nm j =>
    cases hi
    simpa [tgIn] using h
  | tp is =>
    have := List.all_eq_true.mp (show (is.all fun i => vs.contains i) = true from h) i hi
    simpa using this
end
end MPS
end
section
set_option Elab.async false
set_option linter.all false
set_option maxRecDepth 100000
set_option maxHeartbeats 2000000
/-! MpDa: list comprehensions, their turns. -/
namespace MPS
open PySem L2 MP
/-- nothing is let out -/
abbrev W0 : WX := fun _ _ _ _ => False
theorem loopC_acc {vs : List Nat} {tg : Tg} {f : Rho → Out (List D)} : ∀ {xs acc : List D} {ρ ρe : Rho} {zs : List D}, MP.loopC vs tg f xs acc ρ = .ok zs ρe → ∃ ys, zs = acc ++ ys ∧ ∀ acc', MP.loopC vs tg f xs acc' ρ = .ok (acc' ++ ys) ρe
  | [], acc, ρ, ρe, zs, h => by
    simp only [MP.loopC] at h ⊢
    split at h
    · rename_i hq
      cases h
      exact ⟨[], by simp, fun acc' => by rw [if_pos hq]; simp⟩
    · cases h
  | x :: xs, acc, ρ, ρe, zs, h => by
    simp only [MP.loopC] at h ⊢
    split at h
    · cases h
    · rename_i ρ1 e1
      cases e2 : (f ρ1).shut with
      | ok ys ρ2 =>
        rw [e2] at h
        obtain ⟨us, e3, h3⟩ := loopC_acc (show MP.loopC vs tg f xs (acc ++ ys) ρ2 = .ok zs ρe from h)
        refine ⟨ys ++ us, by rw [e3]; simp, fun acc' => ?_⟩
        show MP.loopC vs tg f xs (acc' ++ ys) ρ2 = _
        rw [h3]
        simp
      | ex z ρ2 => rw [e2] at h; cases h
      | bad => rw [e2] at h; cases h
theorem loopC_quiet {vs : List Nat} {tg : Tg} {f : Rho → Out (List D)} : ∀ {xs acc : List D} {ρ ρe : Rho} {zs : List D}, MP.loopC vs tg f xs acc ρ = .ok zs ρe → quiet ρ vs = true
  | [], acc, ρ, ρe, zs, h => by
    simp only [MP.loopC] at h
    split at h
    · assumption
    · cases h
  | x :: xs, acc, ρ, ρe, zs, h => by
    simp only [MP.loopC] at h
    split at h
    · cases h
    · rename_i e1
      split at e1
      · rename_i hq
        exact (Bool.and_eq_true_iff.mp hq).1
      · cases e1
theorem loopC_len {vs : List Nat} {tg : Tg} {f : Rho → Out (List D)} (hf : ∀ ρ ys ρ', f ρ = .ok ys ρ' → ys.length ≤ 1) : ∀ {xs acc : List D} {ρ ρe : Rho} {zs : List D}, MP.loopC vs tg f xs acc ρ = .ok zs ρe → zs.length ≤ acc.length + xs.length
  | [], acc, ρ, ρe, zs, h => by
    simp only [MP.loopC] at h
    split at h
    · cases h
      simp
    · cases h
  | x :: xs, acc, ρ, ρe, zs, h => by
    simp only [MP.loopC] at h
    split at h
    · cases h
    · rename_i ρ1 e1
      cases e2 : f ρ1 with
      | ok ys ρ2 =>
        rw [e2] at h
        have q := loopC_len hf (show MP.loopC vs tg f xs (acc ++ ys) ρ2 = .ok zs ρe from h)
        have := hf _ _ _ e2
        simp only [List.length_append, List.length_cons] at q ⊢
        omega
      | ex z ρ2 => rw [e2] at h; cases h
      | bad => rw [e2] at h; cases h
theorem eltOf_len {cond : E} {mc me : Rho → Out CV} {ρ ρ' : Rho} {ys : List D} (h : eltOf cond mc me ρ = .ok ys ρ') : ys.length ≤ 1 := by
  unfold eltOf at h
  cases e : testOf cond mc ρ with
  | ok b ρ1 =>
    rw [e] at h
    cases b with
    | false => cases h; exact Nat.zero_le _
    | true =>
      have h : (MP.val me ρ1).bind (fun d ρ2 => Out.ok [d] ρ2) = .ok ys ρ' := h
      cases e2 : MP.val me ρ1 with
      | ok d ρ2 => rw [e2] at h; cases h; exact Nat.le_refl _
      | ex z ρ2 => rw [e2] at h; cases h
      | bad => rw [e2] at h; cases h
  | ex z ρ1 => rw [e] at h; cases h
  | bad => rw [e] at h; cases h
section
variable {R : Row} {Γ : Tab} {X : Cx} {c : Fc} {W : WX} {k : Nat} {x : Expr} {ρ ρ' : Rho} {G G' H H' : Hp} {τ : List (Addr × D)} {σ : L2.St} {Q : VK} {J : It} {xs : List D}
/-- a turn's body keeps what f says -/
def BodyOk (c : Fc) (τ : List (Addr × D)) (L : Addr) (f : Rho → Out (List D)) (body : L2.St → Hp → (Hp → Prop) → Prop) : Prop :=
  ∀ (ρ : Rho) (G : Hp) (acc : List D) (H : Hp) (σ2 : L2.St) (ys : List D) (ρ2 : Rho) (Nx : Hp → Prop), Stt c ρ G (τ ++ [(L, .lst acc)]) H σ2 → f ρ = .ok ys ρ2 → acc.length + ys.length ≤ SL →
    (∀ H' G', Stt c ρ2 G' (τ ++ [(L, .lst (acc ++ ys))]) H' σ2 → Same G G' → Nx H') → body σ2 H Nx
theorem loop_ok {vs : List Nat} {tg : Tg} {f : Rho → Out (List D)} {ρ1 ρe : Rho} {G1 H0 : Hp} {acc0 zs : List D} {L : Addr} {lk : Option Nat} {body : L2.St → Hp → (Hp → Prop) → Prop} {Qe : Hp → Prop}
    (S1 : Stt c ρ1 G1 (τ ++ [(L, .lst acc0)]) H0 σ) (hw : Walks c σ J xs G1 lk) (hlk : ∀ i, lk = some i → ρ1[i]? = some (.lck (.lst xs))) (hf : ∀ ρ, OK ρ (f ρ)) (e : MP.loopC vs tg f xs acc0 ρ1 = .ok zs ρe) (hz : zs.length ≤ SL)
    (hb : BodyOk c τ L f body) (he : ∀ H G, Stt c (wipeR ρe vs) G (τ ++ [(L, .lst zs)]) H (L2.wipe σ vs) → Same G1 G → LK ρ1 ρe → Qe H) :
    ∃ Wi : Nat → Nat → Hp → Prop, (∃ m, Wi 0 m H0) ∧ ∀ i m H, Wi i m H → (J.stop i H ∧ Qe H) ∨ (J.go i H ∧ ∃ Nx : Hp → Prop, (∀ H', Nx H' → ∃ m', m' < m ∧ Wi (i + 1) m' H') ∧ ∀ x H', J.yld i H x H' →
      tgG c.w.K tg x (L2.wipe σ vs) H' fun σ2 H2 => L2.wipe σ2 vs = L2.wipe σ vs ∧ body σ2 H2 Nx) := by
  have hq1 := loopC_quiet e
  refine ⟨fun i m H => m = xs.length - i ∧ i ≤ xs.length ∧ ∃ ρ G acc, Stt c (wipeR ρ vs) G (τ ++ [(L, .lst acc)]) H (L2.wipe σ vs) ∧ Same G1 G ∧ LK ρ1 ρ ∧ MP.loopC vs tg f (xs.drop i) acc ρ = .ok zs ρe,
    ⟨_, rfl, Nat.zero_le _, ρ1, G1, acc0, S1.wipe hq1, Same.refl G1, LK.refl ρ1, e⟩, ?_⟩
  rintro i m H ⟨rfl, hi, ρ, G, acc, S, sg, l, el⟩
  have hq := loopC_quiet el
  obtain ⟨w1, w2, w3⟩ := hw _ G _ H _ S sg (fun j hj => by
    have h1 := hlk j hj
    have hn : j ∉ vs := fun z => quiet_at hq1 j z _ h1
    rw [wipe_get vs ρ j hn, wipe_out hn]
    exact ⟨l j _ h1, rfl⟩) i
  by_cases hlt : i < xs.length
  · refine .inr ⟨w1 hlt, fun H' => (xs.length - (i + 1) = xs.length - (i + 1) ∧ i + 1 ≤ xs.length ∧ ∃ ρ G acc, Stt c (wipeR ρ vs) G (τ ++ [(L, .lst acc)]) H' (L2.wipe σ vs) ∧ Same G1 G ∧ LK ρ1 ρ ∧ MP.loopC vs tg f (xs.drop (i + 1)) acc ρ = .ok zs ρe), fun H' nx => ⟨xs.length - (i + 1), by omega, nx⟩, fun x H' y => ?_⟩
    obtain ⟨G2, gr, rx⟩ := w2 x H' y _ (List.getElem?_eq_getElem hlt)
    rw [List.drop_eq_getElem_cons hlt] at el
    simp only [MP.loopC] at el
    split at el
    · cases el
    · rename_i ρa e1
      split at e1
      · rename_i hqt
        rw [Bool.and_eq_true] at hqt
        cases e2 : f ρa with
        | ok ys ρb =>
          rw [e2] at el
          have el : MP.loopC vs tg f (xs.drop (i + 1)) (acc ++ ys) ρb = .ok zs ρe := el
          have S2 := S.grow gr
          have fr : ∀ i, tgMem tg i → free (wipeR ρ vs) i = true := fun i hi => by
            have hm := tgIn_mem hqt.2 hi
            have hq := quiet_get hq i hm
            have hlt : i < ρ.length := by rcases hq with e | ⟨d, e⟩ <;> exact lt_of_get e
            exact free_of (.inl (wipeR_in hm hlt))
          refine bind_ok S2 e1 rx fr fun σ2 S3 hl hg => ?_
          have ew : L2.wipe σ2 vs = L2.wipe σ vs := by
            rw [← wipe_twice (σ := σ) (vs := vs)]
            exact wipe_eq hl fun i hi => hg i fun z => hi (tgIn_mem hqt.2 z)
          refine ⟨ew, hb _ _ _ _ _ _ _ _ S3 e2 ?_ fun H4 G4 S4 s4 => ?_⟩
          · obtain ⟨us, e3, _⟩ := loopC_acc el
            rw [e3] at hz
            simp only [List.length_append] at hz
            omega
          · refine ⟨rfl, hlt, ρb, G4, acc ++ ys, ?_, (sg.trans gr.gg).trans s4, ?_, el⟩
            · rw [← ew]
              exact S4.wipe (loopC_quiet el)
            · have l1 : LK ρ ρa := fun j d h => by
                have hj : j ∉ vs := fun z => quiet_at hqt.1 j z d h
                rw [bindT_get e1 hqt.2 j hj, wipe_get vs ρ j hj]
                exact h
              have := hf ρa
              rw [e2] at this
              exact (l.trans l1).trans this
        | ex z ρ2 => rw [e2] at el; cases el
        | bad => rw [e2] at el; cases el
      · cases e1
  · have e : xs.length = i := by omega
    rw [List.drop_eq_nil_of_le (by omega)] at el
    simp only [MP.loopC] at el
    rw [if_pos hq] at el
    cases el
    exact .inl ⟨w3 e, he H G S sg l⟩
/-- a clause's test -/
def condT (Γ : Tab) (c : Fc) (W : WX) : E → TT
  | .nil => tYes
  | e => tT Γ c W e
theorem ifs_of {cond : E} {ifs : List Expr} (g : Gd R X Γ c k W) (sc : Snd R Γ cond) (h : ckIfs cond (ck R cond) X.env.scope ifs = true) : PTs X ifs (condT Γ c W cond) := by
  rcases ifs with _ | ⟨f, _ | ⟨f', ifs⟩⟩
  · cases cond <;> first | exact pts_nil | cases h
  · cases cond <;> first | (cases h; done) | exact pts_one (sc.t g h)
  · cases h
theorem body_elt {cond elt : E} {L : Addr} : BodyOk c τ L (eltOf cond (den Γ cond) (den Γ elt)) fun σ2 H2 Nx => condT Γ c W0 cond σ2 H2 fun b H3 => if b = true then tD Γ c W0 elt σ2 H3 fun y H4 => ∃ acc, H4 L = some (.lst acc) ∧ acc.length < sizeLine ∧ Nx (upd H4 L (.lst (acc ++ [y]))) else Nx H3 := by
  intro ρ G acc H σ2 ys ρ2 Nx S e hz nx
  unfold eltOf at e
  have main : ∀ (b : Bool) (ρ1 : Rho) (G1 H1 : Hp), Stt c ρ1 G1 (τ ++ [(L, .lst acc)]) H1 σ2 → Same G G1 → ((if b then (MP.val (den Γ elt) ρ1).bind fun d ρ2 => Out.ok [d] ρ2 else Out.ok [] ρ1) = .ok ys ρ2) →
      if b = true then tD Γ c W0 elt σ2 H1 fun y H4 => ∃ acc, H4 L = some (.lst acc) ∧ acc.length < sizeLine ∧ Nx (upd H4 L (.lst (acc ++ [y]))) else Nx H1 := by
    intro b ρ1 G1 H1 S1 s1 e
    cases b with
    | false =>
      simp only [Bool.false_eq_true, if_false] at e ⊢
      cases e
      exact nx H1 G1 (by rw [List.append_nil]; exact S1) s1
    | true =>
      simp only [if_true] at e ⊢
      cases e2 : MP.val (den Γ elt) ρ1 with
      | ok d ρ3 =>
        rw [e2] at e
        cases e
        refine td_val S1 ?_
        rw [e2]
        intro H4 G4 S4 s4 v rv
        obtain ⟨_, o, eh, ro⟩ := S4.at_ (.inr τ.length) L (.lst acc) at_last
        cases ro with
        | lst r =>
          refine ⟨_, eh, by rw [r.length, sl_eq]; have : acc.length + 1 ≤ SL := hz; omega, ?_⟩
          exact nx _ G4 (S4.turnT (.lst (r.append (.cons rv .nil)))) (s1.trans s4)
      | ex z ρ3 => rw [e2] at e; cases e
      | bad => rw [e2] at e; cases e
  by_cases hc : cond = .nil
  · subst hc
    exact main true ρ G H S (Same.refl G) e
  · have e1 : condT Γ c W0 cond = tT Γ c W0 cond := by cases cond <;> first | rfl | exact absurd rfl hc
    have e2 : testOf cond (den Γ cond) ρ = (den Γ cond ρ).bind fun cv ρ' => match cv.d with
      | .bl b => .ok b ρ'
      | _ => .bad := by cases cond <;> first | rfl | exact absurd rfl hc
    rw [e1]
    rw [e2] at e
    refine ⟨ρ, G, _, S, ?_⟩
    unfold MP.val
    cases e3 : den Γ cond ρ with
    | ok cv ρ1 =>
      rw [e3] at e
      cases e4 : cv.d <;> (simp only [Out.bind_ok, e4] at e) <;> first | (cases e; done) | skip
      rename_i b
      show PostR c W0 σ2 G _ _ (.ok cv.d ρ1)
      rw [e4]
      exact fun H1 G1 S1 s1 => ⟨b, rfl, main b ρ1 G1 H1 S1 s1 e⟩
    | ex z ρ1 => rw [e3] at e; cases e
    | bad => rw [e3] at e; cases e

/-! ### the whole -/
theorem Stt.unlocked {lk : Option Nat} {ρ3 : Rho} (S : Stt c ρ G τ H σ) (h : MP.unlock lk ρ = some ρ3) : Stt c ρ3 G τ H σ := by
  unfold MP.unlock at h
  split at h
  · cases h
    exact S
  · split at h
    · rename_i e
      cases h
      exact S.unlock e
    · cases h
theorem post_own {ds : List D} {p : Addr} (S : Stt c ρ G' (τ ++ [(p, .lst ds)]) H σ) (s : Same G G') (q : Post c W σ G τ Q (.ok (.own (.lst ds)) ρ)) : Q (.ref p) H := q p H G' S s
/-- the turns of the outer loop, to the end -/
theorem comp_ok {vs : List Nat} {tg : Tg} {f : Rho → Out (List D)} {ρ1 : Rho} {G1 H1 : Hp} {p : List D × Option Nat} {body : Addr → L2.St → Hp → (Hp → Prop) → Prop} {ys : List D} {ρ3 : Rho}
    (S1 : Stt c ρ1 G1 τ H1 σ) (hw : Walks c σ J p.1 G1 p.2) (hlk : ∀ i, p.2 = some i → ρ1[i]? = some (.lck (.lst p.1))) (hf : ∀ ρ, OK ρ (f ρ)) (hb : ∀ L, BodyOk c τ L f (body L)) (hl : ys.length ≤ SL) (e : compC vs tg f p ρ1 = .ok (.own (.lst ys)) ρ3) (q : Post c W σ G1 τ Q (.ok (.own (.lst ys)) ρ3)) :
    ∀ L, H1 L = none → ∃ Wi : Nat → Nat → Hp → Prop, (∃ m, Wi 0 m (upd H1 L (.lst []))) ∧ ∀ i m H, Wi i m H → (J.stop i H ∧ Q (.ref L) H) ∨ (J.go i H ∧ ∃ Nx : Hp → Prop, (∀ H', Nx H' → ∃ m', m' < m ∧ Wi (i + 1) m' H') ∧ ∀ x H', J.yld i H x H' →
      tgG c.w.K tg x (L2.wipe σ vs) H' fun σ2 H2 => L2.wipe σ2 vs = L2.wipe σ vs ∧ body L σ2 H2 Nx) := by
  intro L hL
  unfold compC at e
  split at e
  · rename_i hq
    cases e1 : MP.loopC vs tg f p.1 [] ρ1 with
    | ok zs ρe =>
      rw [e1] at e
      simp only [Out.bind_ok] at e
      split at e
      · rename_i ρ4 e2
        cases e
        refine loop_ok (S1.push hL (.lst .nil)) hw hlk hf e1 hl (hb L) fun H G S s l => ?_
        have hlen : ρe.length = ρ1.length := by
          have := S.len
          rw [wipeR_length, L2.wipe_length] at this
          rw [this, S1.len]
        exact post_own ((Stt.back S1 hq s hlen S).unlocked e2) s q
      · cases e
    | ex z ρe => rw [e1] at e; cases e
    | bad => rw [e1] at e; cases e
  · cases e
theorem compC_own {vs : List Nat} {tg : Tg} {f : Rho → Out (List D)} {ρ1 ρ3 : Rho} {p : List D × Option Nat} {cv : CV} (e : compC vs tg f p ρ1 = .ok cv ρ3) : ∃ ys ρe, cv = .own (.lst ys) ∧ MP.loopC vs tg f p.1 [] ρ1 = .ok ys ρe := by
  unfold compC at e
  split at e
  · cases e1 : MP.loopC vs tg f p.1 [] ρ1 with
    | ok zs ρe =>
      rw [e1] at e
      simp only [Out.bind_ok] at e
      split at e
      · cases e
        exact ⟨zs, ρe, rfl, rfl⟩
      · cases e
    | ex z ρe => rw [e1] at e; cases e
    | bad => rw [e1] at e; cases e
  · cases e
theorem compC_ex {vs : List Nat} {tg : Tg} {f : Rho → Out (List D)} {ρ1 ρ3 : Rho} {p : List D × Option Nat} {z : String} : compC vs tg f p ρ1 ≠ .ex z ρ3 := by
  intro e
  have lx : ∀ (xs acc : List D) (ρ : Rho), MP.loopC vs tg f xs acc ρ ≠ .ex z ρ3 := by
    intro xs
    induction xs with
    | nil =>
      intro acc ρ h
      simp only [MP.loopC] at h
      split at h <;> cases h
    | cons x xs ih =>
      intro acc ρ h
      simp only [MP.loopC] at h
      split at h
      · cases h
      · rename_i ρa _
        cases e2 : f ρa with
        | ok ys ρ2 => rw [e2] at h; exact ih _ _ h
        | ex z ρ2 => rw [e2] at h; cases h
        | bad => rw [e2] at h; cases h
  unfold compC at e
  split at e
  · cases e1 : MP.loopC vs tg f p.1 [] ρ1 with
    | ok zs ρe =>
      rw [e1] at e
      simp only [Out.bind_ok] at e
      split at e <;> cases e
    | ex z' ρe =>
      rw [e1] at e
      cases e
      exact lx _ _ _ e1
    | bad => rw [e1] at e; cases e
  · cases e
theorem posti_iter {it : E} {f : List D × Option Nat → Rho → Out CV} {R' : It → Hp → Prop} (S : Stt c ρ G τ H σ) (q : Post c W σ G τ Q ((iterOf it (den Γ it) ρ).bind f))
    (hq : ∀ p ρ1 J H1 G1, Stt c ρ1 G1 τ H1 σ → Walks c σ J p.1 G1 p.2 → p.1.length ≤ SL → (∀ i, p.2 = some i → ρ1[i]? = some (.lck (.lst p.1))) → Post c W σ G1 τ Q (f p ρ1) → R' J H1) : tI Γ c W it σ H R' := by
  refine ⟨ρ, G, τ, S, ?_⟩
  have hl := (iterOf_lk (it := it) (den_lk Γ it) ρ).2
  cases e : iterOf it (den Γ it) ρ with
  | ok p ρ1 =>
    rw [e] at q
    intro J H1 G1 S1 s1 hw hz
    refine hq p ρ1 J H1 G1 S1 hw hz (fun i hi => ?_) (Post.mono s1 q)
    obtain ⟨xs, _, h2, h3⟩ := hl p ρ1 e i hi
    rw [h3]
    exact h2
  | ex z ρ1 => rw [e] at q; exact q
  | bad => rw [e] at q; exact q
theorem lc_imp {vs : List Nat} {tg : Tg} {it cond elt : E} (h : tD Γ c W (.cmp1 vs tg it cond elt) σ H Q) : tLc (tI Γ c W it) (tgG c.w.K tg) (condT Γ c W0 cond) (tD Γ c W0 elt) vs σ H Q := by
  obtain ⟨ρ, G, τ, S, q⟩ := h
  simp only [den] at q
  refine posti_iter S q fun p ρ1 J H1 G1 S1 hw hz hlk q => ?_
  cases e : compC vs tg (eltOf cond (den Γ cond) (den Γ elt)) p ρ1 with
  | ok cv ρ3 =>
    rw [e] at q
    obtain ⟨ys, ρe, rfl, e1⟩ := compC_own e
    have hl : ys.length ≤ SL := by
      have := loopC_len (fun ρ ys ρ' h => eltOf_len h) e1
      simp only [List.length_nil] at this
      omega
    exact comp_ok S1 hw hlk (OK.eltOf (den_lk Γ cond) (den_lk Γ elt)) (fun L => body_elt) hl e q
  | ex z ρ3 => exact absurd e compC_ex
  | bad => rw [e] at q; exact False.elim q
/-- the inner turns -/
theorem body_in2 {vs1 : List Nat} {tg1 : Tg} {it1 cond elt : E} {L : Addr} : BodyOk c τ L (MP.in2 vs1 tg1 it1 (den Γ it1) (eltOf cond (den Γ cond) (den Γ elt))) fun σ2 H2 Nx => tYes σ2 H2 fun b H3 =>
    if b = true then tI Γ c W0 it1 σ2 H3 fun J1 H4 => ∃ W1 : Nat → Nat → Hp → Prop, (∃ m, W1 0 m H4) ∧ ∀ j k H, W1 j k H →
      (J1.stop j H ∧ Nx H) ∨ (J1.go j H ∧ ∃ Nx1 : Hp → Prop, (∀ H', Nx1 H' → ∃ k', k' < k ∧ W1 (j + 1) k' H') ∧ ∀ x H', J1.yld j H x H' → tgG c.w.K tg1 x (L2.wipe σ2 vs1) H' fun σ3 H5 => L2.wipe σ3 vs1 = L2.wipe σ2 vs1 ∧ condT Γ c W0 cond σ3 H5 fun b H6 =>
        if b = true then tD Γ c W0 elt σ3 H6 fun y H7 => ∃ acc, H7 L = some (.lst acc) ∧ acc.length < sizeLine ∧ Nx1 (upd H7 L (.lst (acc ++ [y]))) else Nx1 H6)
    else Nx H3 := by
  intro ρ G acc H σ2 ys ρ2 Nx S e hz nx
  simp only [tYes, if_true]
  unfold MP.in2 at e
  refine ⟨ρ, G, _, S, ?_⟩
  cases e1 : iterOf it1 (den Γ it1) ρ with
  | ok p ρb =>
    rw [e1] at e
    simp only [Out.bind_ok] at e
    split at e
    · rename_i hq
      split at e
      · cases e
      · rename_i hn
        cases e2 : MP.loopC vs1 tg1 (eltOf cond (den Γ cond) (den Γ elt)) p.1 [] ρb with
        | ok zs ρc =>
          rw [e2] at e
          cases e
          intro J H4 G4 S4 s4 hw hx
          obtain ⟨us, e3, h3⟩ := loopC_acc e2
          simp only [List.nil_append] at e3
          subst e3
          have e4 := h3 acc
          refine loop_ok S4 hw (fun i hi => by rw [hn] at hi; cases hi) (OK.eltOf (den_lk Γ cond) (den_lk Γ elt)) e4 (by simpa using hz) body_elt fun H5 G5 S5 s5 l => ?_
          have hlen : ρc.length = ρb.length := by
            have := S5.len
            rw [wipeR_length, L2.wipe_length] at this
            rw [this, S4.len]
          exact nx H5 G5 (Stt.back S4 hq s5 hlen S5) (s4.trans s5)
        | ex z ρc => rw [e2] at e; cases e
        | bad => rw [e2] at e; cases e
    · cases e
  | ex z ρb => rw [e1] at e; cases e
  | bad => rw [e1] at e; cases e
theorem lc2_imp {vs vs1 : List Nat} {tg tg1 : Tg} {it it1 cond elt : E} (h : tD Γ c W (.cmp2 vs vs1 tg it tg1 it1 cond elt) σ H Q) : tLc2 (tI Γ c W it) (tgG c.w.K tg) tYes (tI Γ c W0 it1) (tgG c.w.K tg1) (condT Γ c W0 cond) (tD Γ c W0 elt) vs vs1 σ H Q := by
  obtain ⟨ρ, G, τ, S, q⟩ := h
  simp only [den] at q
  refine posti_iter S q fun p ρ1 J H1 G1 S1 hw hz hlk q => ?_
  cases e : compC vs tg (MP.in2 vs1 tg1 it1 (den Γ it1) (eltOf cond (den Γ cond) (den Γ elt))) p ρ1 with
  | ok cv ρ3 =>
    rw [e] at q
    obtain ⟨ys, ρe, rfl, e1⟩ := compC_own e
    simp only [lenC] at q
    split at q
    · rename_i hl
      exact comp_ok S1 hw hlk (OK.in2 (den_lk Γ it1) (OK.eltOf (den_lk Γ cond) (den_lk Γ elt))) (fun L => body_in2) hl e q
    · exact False.elim q
  | ex z ρ3 => exact absurd e compC_ex
  | bad => rw [e] at q; exact False.elim q
end
end MPS
end
section
set_option Elab.async false
set_option linter.all false
set_option maxRecDepth 100000
set_option maxHeartbeats 2000000
/-! MpX1: attributes, new instances, == of instances. -/
namespace MPS
open PySem L2 MP
section
variable {R : Row} {Γ : Tab} {X : Cx} {c : Fc} {W : WX} {k : Nat} {x : Expr} {ρ ρ' : Rho} {G G' H H' : Hp} {τ : List (Addr × D)} {σ : L2.St} {Q : VK}
theorem snd_att {a : E} {f : String} (ha : Snd R Γ a) : Snd R Γ (.att a f) := by
  refine snd_of (fun {X c W k x} g h => ?_) (fun _ _ => by simp [ck])
  cases x <;> first | (simp [ck] at h; done) | skip
  rename_i o m pos
  cases o <;> first | (simp [ck] at h; done) | skip
  rename_i y p
  have h : (decide (m = Str.ofString f) && R.fld.contains f && ck R a X.env.scope (.e (.Name y p))) = true := h
  rw [Bool.and_eq_true, Bool.and_eq_true, decide_eq_true_eq] at h
  obtain ⟨⟨rfl, h1⟩, h2⟩ := h
  refine ⟨PE.imp (pe_fld (pe_o g ha h2) rfl) fun σ H Q q => ?_, fun _ => rfl⟩
  obtain ⟨ρ, G, τ, S, q⟩ := q
  simp only [den] at q
  refine post_opd S q fun v d ρ1 H1 G1 S1 s1 r q => ?_
  cases d <;> first | exact False.elim q | skip
  rename_i n fs
  obtain ⟨hn, b, dx, vs, rfl, hb, rf⟩ := repT_obj S1.gh r
  have q : Post c W σ G1 τ Q (ofO ρ1 (fs.lookup f)) := q
  cases el : fs.lookup f with
  | none =>
    rw [el] at q
    exact False.elim q
  | some d =>
    rw [el] at q
    obtain ⟨v, e1, e2⟩ := rf.look f (fun _ _ z => ofString_inj z) el
    have cl : Cls X.K (c.w.κ n) := (g.cls n hn).cl
    exact ⟨b, _, dx, vs, v, rfl, hb, cl, g.fld n hn f (by simpa using h1), e1, post_here S1 q e2⟩
/-- a thing that stands is taken as one just made -/
theorem Stt.take {p : Addr} {o : HO} {d : D} (S : Stt c ρ G τ H σ) (p2 : G p = none) (p3 : H p = some o) (p4 : RepO c.w G o d) (hB : c.B p = none) (hk : ∀ k p' d', At ρ τ σ k p' d' → p' ≠ p) : Stt c ρ G (τ ++ [(p, d)]) H σ where
  gh := S.gh
  g0 := S.g0
  keep := S.keep
  gnew := S.gnew
  iop := S.iop
  len := S.len
  vals := S.vals
  muts := S.muts
  at_ := fun k p' d' a => by
    rcases at_push a with a | ⟨_, rfl, rfl⟩
    · exact S.at_ k p' d' a
    · exact ⟨p2, o, p3, p4⟩
  own := S.own
  tmp := fun z hz => by
    rcases List.mem_append.mp hz with h | h
    · exact S.tmp z h
    · simp at h
      subst h
      exact hB
  iom := S.iom
  inj := fun k k' p' d1 d2 a b => by
    rcases at_push a with a1 | ⟨ka, pa, _⟩
    · rcases at_push b with b1 | ⟨kb, pb, _⟩
      · exact S.inj k k' p' d1 d2 a1 b1
      · exact absurd pb (hk _ _ _ a1)
    · rcases at_push b with b1 | ⟨kb, pb, _⟩
      · exact absurd pa (hk _ _ _ b1)
      · rw [ka, kb]
/-! ### keywords -/
theorem PK.imp {kws : List Keyword} {t t' : TA} (h : PK X kws t) (i : ∀ σ H Q, t' σ H Q → t σ H Q) : PK X kws t' := ⟨fun pos pins s σ H Q I q => h.run pos pins s σ H Q I (i _ _ _ q)⟩
theorem pk_of (g : Gd R X Γ c k W) : ∀ (es : E) (kws : List Keyword), (∀ p : E, sizeOf p < sizeOf es → Snd R Γ p) → noRef es = true → ck R es X.env.scope (.a (kws.map (·.value))) = true → PK X kws (tA Γ c W es)
  | .nil, [], _, _, _ => PK.imp pk_nil fun σ H Q h => by
    obtain ⟨ρ, G, τ, S, q⟩ := h
    exact q [] H G S (Same.refl G) trivial
  | .cons e es, ⟨nm, x, kp⟩ :: kws, hs, hn, h => by
    have nr : ∀ i, e ≠ .ref i := fun i z => by
      subst z
      simp [noRef, refsOf] at hn
    have hn' : noRef es = true := by
      cases e <;> first | exact absurd rfl (nr _) | exact hn
    have h' : ck R e X.env.scope (.e x) = true ∧ ck R es X.env.scope (.a (kws.map (·.value))) = true := by
      simp only [ck, ckCons, List.map_cons, Bool.and_eq_true] at h
      refine ⟨?_, h.2⟩
      cases e <;> first | exact absurd rfl (nr _) | exact h.1
    have ih := pk_of g es kws (fun p hp => hs p (by simp; omega)) hn' h'.2
    refine PK.imp (pk_cons ((hs e (by simp; omega)).e g h'.1) ih) fun σ H Q q => ?_
    obtain ⟨ρ, G, τ, S, q⟩ := q
    simp only [den] at q
    refine td_val S ?_
    cases ev : MP.val (den Γ e) ρ with
    | ex z ρ1 =>
      rw [ev] at q
      exact q
    | bad =>
      rw [ev] at q
      exact q
    | ok d ρ1 =>
      rw [ev] at q
      intro H1 G1 S1 s1 v r
      refine ⟨ρ1, G1, τ, S1, ?_⟩
      have q : PostA c W σ G τ (.cons e es) Q ((den Γ es ρ1).bind fun cv ρ2 => match cv with
        | .val (.lst ds) => .ok (.val (.lst (d :: ds))) ρ2
        | _ => .bad) := q
      cases ed : den Γ es ρ1 with
      | ok cv ρ2 =>
        rw [ed] at q
        cases cv with
        | own d => exact False.elim q
        | val d' =>
          cases d' <;> first | exact False.elim q | skip
          rename_i ds
          intro vs H' G' S' s rr
          refine q (v :: vs) H' G' S' (s1.trans s) ?_
          cases e <;> first | exact absurd rfl (nr _) | exact ⟨r.mono s, rr⟩
      | ex z ρ2 =>
        rw [ed] at q
        exact fun H' G' S' s => q H' G' S' (s1.trans s)
      | bad =>
        rw [ed] at q
        exact q
  | .nil, _ :: _, _, _, h => by simp [ck] at h
  | .cons e es, [], _, _, h => by simp [ck] at h
  | .var i, kws, _, _, h => by simp [ck] at h
  | .ref _, kws, _, _, h => by simp [ck] at h
  | .cst d, kws, _, _, h => by cases d <;> simp [ck] at h
  | .glb _ d, kws, _, _, h => by cases d <;> simp [ck] at h
  | .tup _, kws, _, _, h => by simp [ck] at h
  | .lst _, kws, _, _, h => by simp [ck] at h
  | .bin _ _ _, kws, _, _, h => by simp [ck] at h
  | .neg _, kws, _, _, h => by simp [ck] at h
  | .cmp _ _ _, kws, _, _, h => by simp [ck] at h
  | .chn _ _ _ _ _, kws, _, _, h => by simp [ck] at h
  | .and _ _, kws, _, _, h => by simp [ck] at h
  | .or _ _, kws, _, _, h => by simp [ck] at h
  | .not _, kws, _, _, h => by simp [ck] at h
  | .ite _ _ _, kws, _, _, h => by simp [ck] at h
  | .isi _ _, kws, _, _, h => by simp [ck] at h
  | .call _ _, kws, _, _, h => by simp [ck] at h
  | .prm1 _ _, kws, _, _, h => by simp [ck] at h
  | .prm2 _ _ _, kws, _, _, h => by simp [ck] at h
  | .ix _ _, kws, _, _, h => by simp [ck] at h
  | .slc _ _ _, kws, _, _, h => by simp [ck] at h
  | .rev _, kws, _, _, h => by simp [ck] at h
  | .att _ _, kws, _, _, h => by simp [ck] at h
  | .itr _, kws, _, _, h => by simp [ck] at h
  | .rng1 _, kws, _, _, h => by simp [ck] at h
  | .rng2 _ _, kws, _, _, h => by simp [ck] at h
  | .enm _, kws, _, _, h => by simp [ck] at h
  | .zip _ _, kws, _, _, h => by simp [ck] at h
  | .cmp1 _ _ _ _ _, kws, _, _, h => by simp [ck] at h
  | .cmp2 _ _ _ _ _ _ _ _, kws, _, _, h => by simp [ck] at h
  | .pop _ _, kws, _, _, h => by simp [ck] at h
  | .xop o _, kws, _, _, h => by cases o <;> simp [ck, ckX] at h
/-! ### C(k = v, ..), what is raised wished for at the slots -/
theorem run_makeKS {CX : CXT} {j n : Nat} {f C : Addr} {fd : FuncData} {ps ks : List Str} {sp : Sp} {E : St → XK} {gg : List Value → List Value → List Value} {gV : List V → List V → List V} {pins : List (Addr × Obj)} {H : Hp} {s : Shared} {us ws : List Value} {vs zs : List V} (M : Mk X.K C f) (F : FnOk X.prog X.w X.K X.mg X.base CX j f fd ps sp) (hr : Room (j + 1) X.A) (hb : KBn X.K fd ps (n + 1) ks gg gV) (hx : PassesAt CX X σ (E σ))
    (I : Inv X pins σ H s) (r : Vals vs us) (rz : Vals zs ws) (l1 : vs.length = n) (l2 : zs.length = ks.length)
    (h : ∀ x dx, H x = none → H dx = none → dx ≠ x → sp (gV (.ref x :: vs) zs) (upd (upd H dx (.own x)) x (.ins C dx [])) (fun v H2 => v = .non ∧ Q (.ref x) H2) (E σ)) :
    wpAny (model X.prog X.w) X.A (call (.ref C) us (ks.zip ws)) (EP X pins σ Q) X.xe s := by
  have hq := h (s.heap.objs.size + 1) s.heap.objs.size (I.hok.fresh (Nat.le_succ _)) (I.hok.fresh (Nat.le_refl _)) (Nat.ne_of_lt (Nat.lt_succ_self _))
  have I2 := Inv.made (C := C) I
  have r1 : Vals (V.ref (s.heap.objs.size + 1) :: vs) (Value.ref (s.heap.objs.size + 1) :: us) := .cons rfl r
  have r2 := hb.rel r1 rz
  have n1 : (Value.ref (s.heap.objs.size + 1) :: us).length = n + 1 := by
    rw [List.length_cons, ← r.length, l1]
  refine wpAny_call (make_map (f := f) I.kIn M.makes M.init (beq_iff_eq.mp M.fn) (codeAny_mono (F.run _ X.stack _ _ ⟨Value.ref (s.heap.objs.size + 1) :: us, ks.zip ws⟩ (gg (Value.ref (s.heap.objs.size + 1) :: us) ws) _ _ (E σ) (hr.make C us (ks.zip ws))
    (I2.env0.make C us (ks.zip ws)) (hb.to _ (Value.ref (s.heap.objs.size + 1) :: us) ws I2.kIn n1 (rz.length.symm.trans l2)) r2 hq) fun r s' hq' => ?_))
  cases r with
  | error e => exact hx pins _ _ e s' I2 hq'
  | ok fl =>
    cases fl with
    | ret u =>
      obtain ⟨v, H', I3, rv, ev, q3⟩ := I2.after hq'
      subst ev
      exact ⟨rv, ⟨V.ref (s.heap.objs.size + 1), H', I3, rfl, q3⟩⟩
    | next => exact False.elim hq'
    | brk => exact False.elim hq'
    | cont => exact False.elim hq'
theorem pe_makeKS {CX : CXT} {j : Nat} {f C : Addr} {fd : FuncData} {ps ks : List Str} {sp : Sp} {E : St → XK} {gg : List Value → List Value → List Value} {gV : List V → List V → List V} {kws : List Keyword} {tk : TA} {y : Str} {p pos : Pos} (M : Mk X.K C f) (F : FnOk X.prog X.w X.K X.mg X.base CX j f fd ps sp) (hr : Room (j + 1) X.A) (hg : Gl X y) (hm : X.mg y = some (.ref C)) (hb : KBn X.K fd ps 1 ks gg gV) (hx : ∀ σ, PassesAt CX X σ (E σ)) (hkw : PK X kws tk)
    (hall : (backToKw pos (keywordEach kws X.env)).all (·.1.isSome) = true) (hks : (backToKw pos (keywordEach kws X.env)).filterMap (·.1) = ks) (hdb : (y == ("__debug__" : Str)) = false)
    (hpl : ((backTo pos (starEach [] X.env)).any (·.1) || (backToKw pos (keywordEach kws X.env)).any (·.1.isNone)) = false) :
    PE X (.Call (.Name y p) [] kws pos) (fun σ H Q => tMakeK C 0 ks.length sp gV (E σ) tNil tk σ H Q) := by
  refine ⟨fun pins s σ H Q I h => ?_⟩
  refine wpAny_Call_Name_kw (ld_glob I hg hm ?_ hdb)
  refine PySem.W.callWith_KW0 (h₀ := X.base) I.ok.mod.kin M.kp hall ?_ hpl
  refine thn (hkw.run pos pins s σ H _ I h) fun ws s2 ⟨zs, H2, I2, rz, l1, l2, q2⟩ => ⟨I2.kIn, ?_⟩
  rw [hks]
  exact run_makeKS (us := []) (vs := []) M F hr hb (hx σ) I2 .nil rz rfl l2 q2
theorem kw_shape {env : Env} {pos : Pos} : ∀ {ks : List String} {kws : List Keyword}, kwB ks kws = true → (backToKw pos (keywordEach kws env)).all (·.1.isSome) = true ∧ (backToKw pos (keywordEach kws env)).filterMap (·.1) = ks.map Str.ofString ∧ (backToKw pos (keywordEach kws env)).any (·.1.isNone) = false ∧ ks.length = kws.length
  | [], [], _ => ⟨rfl, rfl, rfl, rfl⟩
  | n :: ks, ⟨a, v, q⟩ :: kws, h => by
    simp only [kwB, Bool.and_eq_true, decide_eq_true_eq] at h
    obtain ⟨rfl, h⟩ := h
    obtain ⟨h1, h2, h3, h4⟩ := kw_shape (env := env) (pos := pos) h
    unfold backToKw at h1 h2 h3 ⊢
    simp only [keywordEach, List.map_cons, List.all_cons, List.filterMap_cons, List.any_cons, h1, h2, h3, Option.isSome_some, Option.isNone_some, Bool.and_self, Bool.or_self, List.length_cons, h4]
    exact ⟨trivial, trivial, trivial, trivial⟩
  | [], _ :: _, h => by cases h
  | _ :: _, [], h => by cases h
theorem plan_rep {w : Wd} : ∀ {plan : List (Bool × Int)} {vs : List V} {ds as : List D}, RepL w G vs ds → planD plan ds = some as → RepL w G (planV plan vs) as
  | [], vs, ds, as, _, h => by
    cases h
    exact .nil
  | (true, i) :: r, vs, ds, as, rp, h => by
    simp only [planD] at h
    split at h
    · rename_i d q e1 e2
      cases h
      obtain ⟨v, e3, e4⟩ := rp.get e1
      refine .cons ?_ (plan_rep rp e2)
      rw [List.getD_eq_getElem?_getD, e3]
      exact e4
    · cases h
  | (false, n) :: r, vs, ds, as, rp, h => by
    simp only [planD] at h
    cases e : planD r ds with
    | none => rw [e] at h; cases h
    | some q =>
      rw [e] at h
      cases h
      exact .cons (.int n) (plan_rep rp e)
theorem new_ok {fd : FD} {n : String} {plan : List (Bool × Int)} {vs : List V} {ds as : List D} {y dx : Addr} {Ew : XK} (S : Stt c ρ G τ H σ) (hn : n ∈ c.w.cls) (r : RepL c.w G vs ds) (hp : planD plan ds = some as) (hio : fd.io = [0]) (hl : as.length + 1 = fd.n) (h1 : H y = none) (h2 : H dx = none) (h3 : dx ≠ y)
    (hE : ∀ e H', W (.ref (c.w.κ e)) none σ H' → Ew (.ref (c.w.κ e)) none H') (q : Post c W σ G τ Q (newOut ρ (fd.run (.obj n [] :: as)))) : spF c.w fd (.ref y :: planV plan vs) (upd (upd H dx (.own y)) y (.ins (c.w.κ n) dx [])) (fun v H2 => v = .non ∧ Q (.ref y) H2) Ew := by
  have ra := plan_rep r hp
  have hH : ∀ a o, H a = some o → (upd (upd H dx (.own y)) y (.ins (c.w.κ n) dx [])) a = some o := fun a o e => by
    rw [upd_ne (ne_of_none e h1), upd_ne (ne_of_none e h2)]
    exact e
  have hN : ∀ a, (upd (upd H dx (.own y)) y (.ins (c.w.κ n) dx [])) a = none → H a = none := fun a e => by
    cases z : H a with
    | none => rfl
    | some o => rw [hH a o z] at e; cases e
  refine ⟨by rw [List.length_cons, ra.length, hl], G, .obj n [] :: as, fun a o e => hH a o (S.gh _ _ e), ⟨by rw [List.length_cons, List.length_cons, ra.length], fun i v d e1 e2 hi => ?_, fun i v d e1 e2 hi => ?_, fun i j p hi hj _ _ => ?_⟩, ?_⟩
  · rw [hio] at hi
    cases i with
    | zero => exact absurd (List.mem_singleton.mpr rfl) hi
    | succ i =>
      simp only [List.getElem?_cons_succ] at e1 e2
      obtain ⟨d', q1, q2⟩ := ra.getV e1
      rw [e2] at q1
      cases q1
      exact q2
  · rw [hio] at hi
    rcases List.mem_singleton.mp hi with rfl
    simp only [List.getElem?_cons_zero, Option.some.injEq] at e1 e2
    subst e1 e2
    exact ⟨y, _, rfl, S.gh.free h1, upd_same, .obj hn .nil⟩
  · rw [hio] at hi hj
    rw [List.mem_singleton.mp hi, List.mem_singleton.mp hj]
  · have grow : ∀ outs G' H', After c.w fd.io (.ref y :: planV plan vs) outs G (upd (upd H dx (.own y)) y (.ins (c.w.κ n) dx [])) G' H' → Stt c ρ G' τ H' σ := fun outs G' H' A => S.grow {
      hh := fun a o e => A.keep a o (hH a o e) fun i hi z => by
        rw [hio] at hi
        rcases List.mem_singleton.mp hi with rfl
        simp only [List.getElem?_cons_zero, Option.some.injEq] at z
        cases z
        rw [h1] at e
        cases e
      gg := A.gg
      gh := A.gh
      new := fun a o e => (A.new a o e).imp_right (hN a) }
    cases er : fd.run (.obj n [] :: as) with
    | bad =>
      rw [er] at q
      exact q
    | ok cv outs =>
      rw [er] at q
      cases cv with
      | own _ => exact False.elim q
      | val d =>
        cases d <;> first | exact False.elim q | skip
        match outs, q with
        | [], q => exact False.elim q
        | _ :: _ :: _, q => exact False.elim q
        | [d], q =>
          intro v H' G' A rc
          cases rc
          refine ⟨rfl, q y H' G' ?_ A.gg⟩
          obtain ⟨p, d', o, w1, w2, w3, w4, w5⟩ := A.outs 0 0 (by rw [hio]; rfl)
          simp only [List.getElem?_cons_zero, Option.some.injEq] at w1 w2
          cases w1
          subst w2
          refine (grow [d] G' H' A).take w3 w4 w5 (S.nB h1) fun kk p' d'' a z => ?_
          subst z
          obtain ⟨_, u, e, _⟩ := S.at_ kk p' d'' a
          rw [h1] at e
          cases e
    | ex e outs =>
      rw [er] at q
      match outs, q with
      | [], q => exact False.elim q
      | _ :: _ :: _, q => exact False.elim q
      | [d], q =>
        intro H' G' A
        exact hE e H' (q H' G' (grow [d] G' H' A) A.gg)
theorem snd_new {n : String} {ks : List String} {plan : List (Bool × Int)} {es : E} (hs : ∀ p : E, sizeOf p < sizeOf (E.xop (.new n ks plan) es) → Snd R Γ p) : Snd R Γ (.xop (.new n ks plan) es) := by
  refine snd_of (fun {X c W k x} g h => ?_) (fun _ _ => by simp [ck, ckX])
  cases x <;> first | (simp [ck, ckX] at h; done) | skip
  rename_i y args kws pos
  rcases args with _ | ⟨a, args⟩ <;> first | (cases h; done) | skip
  have h : (decide ((n, ks, plan) ∈ R.mks) && clsB X.env.scope n y && R.cls.contains n && kwB ks kws && noRef es && ck R es X.env.scope (.a (kws.map (·.value)))) = true := h
  rw [Bool.and_eq_true, Bool.and_eq_true, Bool.and_eq_true, Bool.and_eq_true, Bool.and_eq_true] at h
  obtain ⟨⟨⟨⟨⟨h0, h1⟩, h2⟩, h3⟩, h4⟩, h5⟩ := h
  cases y <;> first | (cases h1; done) | skip
  rename_i y yp
  have h1 : (decide (y = Str.ofString n) && glB X.env.scope y && okName y) = true := h1
  rw [Bool.and_eq_true, Bool.and_eq_true, decide_eq_true_eq] at h1
  obtain ⟨⟨rfl, h6⟩, h7⟩ := h1
  have hdb : (Str.ofString n == ("__debug__" : Str)) = false := by
    simp only [okName, Bool.and_eq_true, Bool.not_eq_true'] at h7
    exact h7.1.1
  obtain ⟨hc, fd, hf, j, f, dat, ps, gg, gV, hj, M, KB, hg, F⟩ := g.mks (n, ks, plan) (of_decide_eq_true h0)
  obtain ⟨k1, k2, k3, k4⟩ := kw_shape (env := X.env) (pos := pos) h3
  have cg := g.clg n (by simpa using h2)
  refine ⟨PE.imp (pe_makeKS M F (g.room.mono hj) (gl_of h6) cg KB (fun σ => passAt g.tk σ) (pk_of g es kws (fun p hp => hs p (by simp; omega)) h4 h5) k1 k2 hdb (by rw [k3]; rfl)) fun σ H Q q => ?_, fun _ => rfl⟩
  obtain ⟨ρ, G, τ, S, q⟩ := q
  simp only [den] at q
  refine ta_lst (f := fun ds ρ1 => xden Γ ρ1 (.new n ks plan) ds) S h4 q fun ds ρ1 vs H' G' S' s r q => ?_
  simp only [xden, xNew, hf] at q
  cases ep : planD plan ds with
  | none => rw [ep] at q; exact False.elim q
  | some as =>
    rw [ep] at q
    simp only at q
    split at q
    · rename_i hh
      refine ⟨rfl, by rw [r.length, hh.2.2, List.length_map], fun x dx e1 e2 e3 => ?_⟩
      rw [hg _ vs (by rw [r.length, hh.2.2])]
      exact new_ok S' hc r ep hh.1 hh.2.1 e1 e2 e3 (fun _ _ h => h) q
    · exact False.elim q
/-! ### x == y by an own == -/
def rEqI (C : Addr) (sp : Sp) (E : XK) : R2 := fun x y H Q => ∃ a b dx dy fs gs, x = .ref a ∧ y = .ref b ∧ H a = some (.ins C dx fs) ∧ H b = some (.ins C dy gs) ∧ sp [.ref a, .ref b] H (fun v H' => (∃ r, v = .bl r) ∧ Q v H') E
theorem run_eqI {j : Nat} {C f : Addr} {fd : FuncData} {ps : List Str} {sp : Sp} {E : XK} {pins : List (Addr × Obj)} {s : Shared} {x y : V} {v u : Value} (F : FnOk X.prog X.w X.K X.mg X.base (L2.CX X.prog X.w) j f fd ps sp) (hr : Room j X.A)
    (hs : PySem.W.findIn X.K (.ref C) "__eq__" = some (some (.ref f))) (hf : PySem.W.isFn X.K (.ref f) = true) (hb : Binds X.K fd ps []) (hx : PassesAt (L2.CX X.prog X.w) X σ E) (I : Inv X pins σ H s) (rx : RelV x v) (ry : RelV y u) (h : rEqI C sp E x y H Q) :
    wpAny (model X.prog X.w) X.A (compareOp .Eq v u) (EP X pins σ Q) X.xe s := by
  obtain ⟨a, b, dx, dy, fs, gs, rfl, rfl, ha, hb', hsp⟩ := h
  cases rx
  cases ry
  show wpAny (model X.prog X.w) X.A (richCompare .Eq (.ref a) (.ref b)) (EP X pins σ Q) X.xe s
  obtain ⟨mA, J, _⟩ := ins_get I.hok ha
  obtain ⟨mB, J', _⟩ := ins_get I.hok hb'
  obtain ⟨od, J, _⟩ := J.look
  obtain ⟨od', J', _⟩ := J'.look
  obtain ⟨m, hF⟩ := I.fr
  refine PySem.W.cmp_K (op := .Eq) (tb := .ref C) hr.units0 hF I.ok.mod.kin J J'.type (by simp [PySem.W.notFirst]) hs hf ?_
  have hl := F.len _ _ _ _ hsp
  have r2 : Vals [V.ref a, V.ref b] [Value.ref a, Value.ref b] := .cons rfl (.cons rfl .nil)
  refine wpAny_call (codeAny_mono (F.run X.A X.stack s H ⟨[.ref a, .ref b], []⟩ [.ref a, .ref b] [.ref a, .ref b] _ E hr I.env0 (by
    have := hb s [.ref a, .ref b] I.kIn (by simpa using hl)
    simpa using this) r2 hsp) fun r s' hq => ?_)
  cases r with
  | error e => exact hx pins H s e s' I hq
  | ok fl =>
    cases fl with
    | ret w =>
      obtain ⟨z, H', I', rz, ⟨r, ez⟩, q⟩ := I.after hq
      subst ez
      cases rz
      exact ⟨.bl r, H', I', rfl, q⟩
    | next => exact False.elim hq
    | brk => exact False.elim hq
    | cont => exact False.elim hq
theorem cx_noS {P : Program} {w : World} {H : Hp} {s : Shared} {e : Value} {s' : Shared} {st : List Env} : L2.CX P w st H s (fun _ _ _ => False) e s' → False := by
  rintro ⟨a, B, H', cls, d, _, _, _, _, _, _, _, z⟩
  exact z
theorem den_two {a b : E} {ρ : Rho} {f : List D → Rho → Out CV} : ((den Γ (.cons a (.cons b .nil)) ρ).bind fun cv ρ1 => match cv with
    | .val (.lst ds) => f ds ρ1
    | _ => .bad) = (MP.val (den Γ a) ρ).bind fun x ρ1 => (MP.val (den Γ b) ρ1).bind fun y ρ2 => f [x, y] ρ2 := by
  simp only [den]
  cases MP.val (den Γ a) ρ with
  | bad => rfl
  | ex z ρ1 => rfl
  | ok x ρ1 =>
    simp only [Out.bind_ok]
    cases MP.val (den Γ b) ρ1 with
    | bad => rfl
    | ex z ρ1 => rfl
    | ok y ρ2 => rfl
theorem op_eqI {j : Nat} {C f : Addr} {fd : FuncData} {ps : List Str} {sp : Sp} (F : FnOk X.prog X.w X.K X.mg X.base (L2.CX X.prog X.w) j f fd ps sp) (hr : Room j X.A)
    (hs : PySem.W.findIn X.K (.ref C) "__eq__" = some (some (.ref f))) (hf : PySem.W.isFn X.K (.ref f) = true) (hb : Binds X.K fd ps []) : OpR X (compareOp .Eq) (rEqI C sp fun _ _ _ => False) := fun pins s σ H x y v u Q I rx ry h =>
  run_eqI F hr hs hf hb (fun _ _ _ _ _ _ c => False.elim (cx_noS c)) I rx ry h
theorem eqo_ok {fd : FD} {n : String} {fs gs : List (String × D)} {v u : V} (S : Stt c ρ G τ H σ) (hv : Rep c.w G v (.obj n fs)) (hu : Rep c.w G u (.obj n gs)) (hio : fd.io = []) (hn : fd.n = 2) (q : Post c W σ G τ Q (eqOut ρ (fd.run [.obj n fs, .obj n gs]))) : rEqI (c.w.κ n) (spF c.w fd) (fun _ _ _ => False) v u H Q := by
  cases hv with
  | obj m1 e1 r1 =>
    rename_i a dx vs
    cases hu with
    | obj m2 e2 r2 =>
      rename_i b dy us
      refine ⟨a, b, dx, dy, vs, us, rfl, rfl, S.gh _ _ e1, S.gh _ _ e2, by rw [hn]; rfl, G, [.obj n fs, .obj n gs], S.gh, ⟨rfl, fun i v d h1 h2 _ => ?_, fun i v d _ _ hi => ?_, fun i j p hi _ _ _ => ?_⟩, ?_⟩
      · match i, h1, h2 with
        | 0, h1, h2 =>
          cases h1
          cases h2
          exact .obj m1 e1 r1
        | 1, h1, h2 =>
          cases h1
          cases h2
          exact .obj m2 e2 r2
        | i + 2, h1, _ => simp at h1
      · rw [hio] at hi
        cases hi
      · rw [hio] at hi
        cases hi
      · cases er : fd.run [.obj n fs, .obj n gs] with
        | bad => rw [er] at q; exact q
        | ex e outs => rw [er] at q; exact False.elim q
        | ok cv outs =>
          rw [er] at q
          cases cv with
          | own _ => exact False.elim q
          | val d =>
            cases d <;> first | exact False.elim q | skip
            rename_i r
            cases outs with
            | cons _ _ => exact False.elim q
            | nil =>
              intro z H' G' A rc
              cases rc
              refine ⟨⟨r, rfl⟩, q (.bl r) H' G' (S.grow { hh := fun a o e => A.keep a o e (fun i hi => by (rw [hio] at hi; cases hi)), gg := A.gg, gh := A.gh, new := A.new }) A.gg (.bl r)⟩
theorem snd_eqo {n : String} {es : E} (hs : ∀ p : E, sizeOf p < sizeOf (E.xop (.eqo n) es) → Snd R Γ p) : Snd R Γ (.xop (.eqo n) es) := by
  have sh : ∀ {x : Expr} {sc : Scope}, ck R (.xop (.eqo n) es) sc (.e x) = true → ∃ l y pos a b, x = .Compare l [.Eq] [y] pos ∧ es = .cons a (.cons b .nil) ∧ n ∈ R.eqs ∧ ck R a sc (.e l) = true ∧ ck R b sc (.e y) = true := by
    intro x sc h
    cases x <;> first | (simp [ck, ckX] at h; done) | skip
    rename_i l ops ys pos
    rcases ops with _ | ⟨o, _ | ⟨o', ops⟩⟩ <;> first | (simp [ck, ckX] at h; done) | skip
    rcases ys with _ | ⟨y, _ | ⟨y', ys⟩⟩ <;> first | (cases o <;> simp [ck, ckX] at h; done) | skip
    cases o <;> first | (simp [ck, ckX] at h; done) | skip
    have h : (R.eqs.contains n && noRef es && ck R es sc (.a [l, y])) = true := h
    rw [Bool.and_eq_true, Bool.and_eq_true] at h
    obtain ⟨⟨h0, h1⟩, h2⟩ := h
    rcases ck_a h2 with ⟨_, z⟩ | ⟨a, es', y1, ys1, rfl, e1, _, h3⟩
    · cases z
    · cases e1
      rcases ck_a h3 with ⟨_, z⟩ | ⟨b, es'', y2, ys2, rfl, e2, _, h4⟩
      · cases z
      · cases e2
        rcases ck_a h4 with ⟨rfl, _⟩ | ⟨_, _, _, _, _, z, _⟩
        · have na : ∀ i, a ≠ .ref i := fun i z => by subst z; simp [noRef, refsOf] at h1
          have nb : ∀ i, b ≠ .ref i := fun i z => by subst z; cases a <;> simp [noRef, refsOf] at h1
          have h2' : (ck R a sc (.e l) && (ck R b sc (.e y) && true)) = true := by
            cases a <;> first | exact absurd rfl (na _) | (cases b <;> first | exact absurd rfl (nb _) | exact h2)
          rw [Bool.and_eq_true, Bool.and_eq_true] at h2'
          exact ⟨l, y, pos, a, b, rfl, rfl, by simpa using h0, h2'.1, h2'.2.1⟩
        · cases z
  have red : ∀ {X : Cx} {c : Fc} {W : WX} {k : Nat} {a b : E} {fd : FD}, es = .cons a (.cons b .nil) → Γ.fn (n ++ ".__eq__") = some fd → Gd R X Γ c k W → ∀ σ H Q, tD Γ c W (.xop (.eqo n) es) σ H Q → tOp (rEqI (c.w.κ n) (spF c.w fd) fun _ _ _ => False) (tD Γ c W a) (tD Γ c W b) σ H Q := by
    intro X c W k a b fd he hf g σ H Q q
    subst he
    obtain ⟨ρ, G, τ, S, q⟩ := q
    simp only [den, xden] at q
    have q : Post c W σ G τ Q ((MP.val (den Γ a) ρ).bind fun x ρ1 => (MP.val (den Γ b) ρ1).bind fun y ρ2 => xEqo Γ n ρ2 [x, y]) := by
      rw [← den_two (f := fun ds ρ1 => xEqo Γ n ρ1 ds)]
      simp only [den]
      exact q
    refine post_val S q fun v d ρ1 H1 G1 S1 s1 hv q1 => ?_
    refine post_val S1 q1 fun u e ρ2 H2 G2 S2 s2 hu q0 => ?_
    clear q q1
    have q0 : Post c W σ G2 τ Q (xEqo Γ n ρ2 [d, e]) := q0
    obtain ⟨c1, fs, c2, gs, rfl, rfl⟩ : ∃ c1 fs c2 gs, d = .obj c1 fs ∧ e = .obj c2 gs := by
      cases d <;> first | exact False.elim q0 | skip
      cases e <;> first | exact False.elim q0 | skip
      exact ⟨_, _, _, _, rfl, rfl⟩
    simp only [xEqo, hf] at q0
    by_cases hh : fd.io = [] ∧ fd.n = 2 ∧ c1 = n ∧ c2 = n
    · rw [if_pos hh] at q0
      obtain ⟨h1, h2, h3, h4⟩ := hh
      rw [h3] at hv q0
      rw [h4] at hu q0
      exact eqo_ok S2 (hv.mono s2) hu h1 h2 q0
    · rw [if_neg hh] at q0
      exact False.elim q0
  refine ⟨fun {X c W k x} g h => ?_, fun {X c W k x} g h => ?_, fun g h => by simp [ck, ckX] at h⟩
  · obtain ⟨l, y, pos, a, b, rfl, rfl, h0, h1, h2⟩ := sh h
    obtain ⟨hc, fd, hf, j, f, dat, ps, hj, e1, e2, e3, F⟩ := g.eqs n h0
    exact PE.imp (pe_cmpR (op_eqI F (g.room.mono hj) e1 e3 e2) ((hs a (by simp; omega)).e g h1) ((hs b (by simp; omega)).e g h2) (marks_no (ck_shape h2).2.2)) (red rfl hf g)
  · obtain ⟨l, y, pos, a, b, rfl, rfl, h0, h1, h2⟩ := sh h
    obtain ⟨hc, fd, hf, j, f, dat, ps, hj, e1, e2, e3, F⟩ := g.eqs n h0
    exact pt_tst (pt_cmpR (op_eqI F (g.room.mono hj) e1 e3 e2) ((hs a (by simp; omega)).e g h1) ((hs b (by simp; omega)).e g h2) (marks_no (ck_shape h2).2.2)) (red rfl hf g)
end
end MPS
end
section
set_option Elab.async false
set_option linter.all false
set_option maxRecDepth 100000
set_option maxHeartbeats 2000000
/-! MpX2: len(set(xs)), xs a list of tuples of small ints. -/
namespace MPS
open PySem L2 MP
section
variable {R : Row} {Γ : Tab} {X : Cx} {c : Fc} {W : WX} {k : Nat} {x : Expr} {ρ ρ' : Rho} {G G' H H' : Hp} {τ : List (Addr × D)} {σ : L2.St} {Q : VK}
/-- len of a set of tuples of ints -/
def rLenST (K : PySem.W.Frag) (P : Program) (w : World) : List V → Hp → VK → Prop := fun vs H Q => ∃ (a : Addr) (L : List (Addr × List Int)), vs = [V.ref a] ∧ H a = some (SetTO P w a L) ∧ (∀ p ∈ L, SqT K H p.1 (p.2.map V.int)) ∧ ((L.map (·.2)).Nodup → Q (.int L.length) H)
theorem cr_lenST : CallR X (.builtin "len") (rLenST X.K X.prog X.w) := by
  intro pins s σ H vs us Q I r h
  obtain ⟨a, L, rfl, ha, hk, q⟩ := h
  have R0 : SetT0 X.prog X.w s.heap a L := (I.hok a _ ha).1
  obtain ⟨es, ep, t, R⟩ := R0.full fun p hp => I.isT (hk p hp)
  rw [Vals.ref1 r]
  obtain ⟨o, ho, hex, hd⟩ := R.ob
  have hs := R.size
  have hf := R.few
  exact call_len_set ho hex hd R.fits (by omega) ⟨.int L.length, H, (I.tok _).tok _, ⟨_, by rw [hs]⟩, q R.nd⟩
theorem len_uniq {l m : List (List Int)} (h1 : m.Nodup) (h2 : ∀ a, a ∈ m ↔ a ∈ l) : m.length = (uniqZ l).length :=
  ((List.perm_ext_iff_of_nodup h1 (nodup_uniqZ l)).mpr fun a => (h2 a).trans (mem_uniqZ a l).symm).length_eq
theorem lenSet_ok {P : Program} {wo : World} {v : V} {ds : List D} (S : Stt c ρ G τ H σ) (hx : Rep c.w G v (.lst ds)) (q : Post c W σ G τ Q (xLenSet ρ [.lst ds])) : rSetOfT c.w.K P wo [v] H fun u H2 => rLenST c.w.K P wo [u] H2 Q := by
  simp only [xLenSet] at q
  split at q
  · rename_i ok
    unfold setOkT at ok
    rw [Bool.and_eq_true, Bool.and_eq_true, decide_eq_true_eq, decide_eq_true_eq] at ok
    obtain ⟨⟨ok1, ok2⟩, ok3⟩ := ok
    obtain ⟨a, vs, rfl, ea, ra⟩ := RepT.lst S.gh (Rep.top (H := H) hx)
    obtain ⟨ks, rfl, rfl, hk⟩ := tups_of ra ok3
    refine ⟨a, ks, rfl, .inl (.inl ea), fun p hp => .inl (.inl (S.gh _ _ (hk p hp).1)), by simpa using ok1, fun b L hb hL hL2 => ?_⟩
    have S2 : Stt c ρ G τ (upd H b (SetTO P wo b L)) σ := S.grow ⟨same_upd hb, Same.refl G, S.gh.trans (same_upd hb), fun _ _ e => .inl e⟩
    refine ⟨b, L, rfl, upd_same, fun p hp => .inl (.inl (S2.gh _ _ (hk p (hL p hp)).1)), fun nd => ?_⟩
    have e1 : L.length = (uniqD (ks.map fun p => encZ p.2)).length := by
      have h1 : (ks.map fun p => encZ p.2) = (ks.map (·.2)).map encZ := by rw [List.map_map]; rfl
      rw [h1, uniqD_enc, List.length_map, ← len_uniq nd, List.length_map]
      intro z
      constructor
      · intro hz
        obtain ⟨p, hp, rfl⟩ := List.mem_map.mp hz
        exact List.mem_map_of_mem (hL p hp)
      · intro hz
        obtain ⟨p, hp, rfl⟩ := List.mem_map.mp hz
        exact hL2 p hp
    rw [← e1] at q
    exact post_here S2 q (.int _)
  · exact False.elim q
theorem boot_len' : bootBuiltins (Str.ofString "len") = some (.builtin "len") := by decide +kernel
theorem den_one {a : E} {ρ : Rho} {f : List D → Rho → Out CV} : ((den Γ (.cons a .nil) ρ).bind fun cv ρ1 => match cv with
    | .val (.lst ds) => f ds ρ1
    | _ => .bad) = (MP.val (den Γ a) ρ).bind fun x ρ1 => f [x] ρ1 := by
  simp only [den]
  cases MP.val (den Γ a) ρ with
  | bad => rfl
  | ex z ρ1 => rfl
  | ok x ρ1 => rfl
theorem snd_lenSet {es : E} (hs : ∀ p : E, sizeOf p < sizeOf (E.xop .lenSet es) → Snd R Γ p) : Snd R Γ (.xop .lenSet es) := by
  refine snd_of (fun {X c W k x} g h => ?_) (fun _ _ => by simp [ck, ckX])
  cases x <;> first | (simp [ck, ckX] at h; done) | skip
  rename_i f args kws pos
  rcases args with _ | ⟨y, _ | ⟨y', args⟩⟩ <;> first | (simp [ck, ckX] at h; done) | skip
  cases y <;> first | (simp [ck, ckX] at h; done) | skip
  rename_i z xs kws2 pos2
  rcases kws with _ | ⟨kw, kws⟩ <;> first | (simp [ck, ckX] at h; done) | skip
  rcases kws2 with _ | ⟨kw, kws2⟩ <;> first | (simp [ck, ckX] at h; done) | skip
  rcases xs with _ | ⟨y, _ | ⟨y', xs⟩⟩ <;> first | (simp [ck, ckX] at h; done) | skip
  have h : (biB R.bi X.env.scope "len" f && biB R.bi X.env.scope "set" z && noRef es && ck R es X.env.scope (.a [y])) = true := h
  rw [Bool.and_eq_true, Bool.and_eq_true, Bool.and_eq_true] at h
  obtain ⟨⟨⟨h1, h2⟩, h3⟩, h4⟩ := h
  obtain ⟨fpos, rfl, fg, fm⟩ := bi_of g.bi h1
  obtain ⟨spos, rfl, sg, sm⟩ := bi_of g.bi h2
  rcases ck_a h4 with ⟨_, e⟩ | ⟨a, es', y1, ys1, rfl, e, hy, h5⟩
  · cases e
  · cases e
    rcases ck_a h5 with ⟨rfl, _⟩ | ⟨_, _, _, _, _, e, _⟩
    · have na : ∀ i, a ≠ .ref i := fun i e => by subst e; simp [noRef, refsOf] at h3
      have h6 : ck R a X.env.scope (.e y) = true := by
        have h' : (ck R a X.env.scope (.e y) && true) = true := by
          cases a <;> first | exact absurd rfl (na _) | exact h4
        simpa using h'
      have sa := hs a (by simp; omega)
      have hset := pe_callTy (pos := pos2) (p := spos) (cr_setOfT g.calm (by have := g.un; omega)) sg sm boot_set (pa_cons (sa.e g h6) pa_nil (star_cons (ck_shape h6).1)) (by decide) (by decide) (star_cons (ck_shape h6).1) rfl
      refine ⟨PE.imp (pe_callB cr_lenST fg fm boot_len' (pa_cons hset pa_nil rfl) (by decide) (by decide) rfl rfl) fun σ H Q q => ?_, fun _ => rfl⟩
      obtain ⟨ρ, G, τ, S, q⟩ := q
      have q : Post c W σ G τ Q ((MP.val (den Γ a) ρ).bind fun x ρ1 => xLenSet ρ1 [x]) := by
        rw [← den_one (f := fun ds ρ1 => xLenSet ρ1 ds)]
        exact q
      refine post_val S q fun v d ρ' H' G' S' s hv q1 => ?_
      cases d <;> first | exact False.elim q1 | skip
      rw [g.K]
      exact lenSet_ok S' hv q1
    · cases e
end
end MPS
end
section
set_option Elab.async false
set_option linter.all false
set_option maxRecDepth 100000
set_option maxHeartbeats 4000000
/-! MpZ: zip objects whose pairs are kept; list(zip(xs, ys)). -/
namespace PySem
open Sem (wp)
/-- a zip object whose last pair T was handed out -/
abbrev IsZipH (h : Heap) (z TI TO T : Addr) (b : Bool) : Prop :=
  h.get? z = some { cls := .type "zip", dict := none, data := .fields #[rawInt (T : Nat), .bool b, .bool false, .ref TI, .ref TO], slots := #[] }
section
variable {prog : Program} {w : World} {A : Around} {E : Value → Shared → Prop} {s : Shared}
/-- the pair that was handed out lives: it is not taken again -/
theorem zipH_free {z TI TO T : Addr} {b : Bool} {o : Obj} {Q : Bool → Shared → Prop} (hz : IsZipH s.heap z TI TO T b) (hT : s.heap.get? T = some o)
    (hQ : ∀ h', IsZipH h' z TI TO T true → Heap.SameBut z s.heap h' → Q false { s with heap := h' }) : wpAny (model prog w) A (Builtin.SmallTypes.ownedTupleIsFree (.ref z)) Q E s := by
  unfold Builtin.SmallTypes.ownedTupleIsFree
  refine wpAny_bind (wpAny_field hz rfl (x := rawInt (T : Nat)) rfl ?_)
  simp only [rawInt]
  refine wpAny_bind (W.kdx_alive (a := ((T : Nat) : Int).toNat) (o := o) (by simpa using hT) ?_)
  simp only [Option.isNone_some, Bool.false_eq_true, if_false]
  refine wpAny_bind (wpAny_field hz rfl (x := .bool b) rfl ?_)
  cases b with
  | true =>
    rw [if_neg (by decide)]
    exact wpAny_pure (hQ s.heap hz ⟨rfl, fun _ _ => rfl⟩)
  | false =>
    rw [if_pos (by decide)]
    exact wpAny_bind (wpAny_setField_rec hz (by simp) fun h₁ hz₁ hs₁ => wpAny_pure (hQ h₁ hz₁ hs₁))
theorem zipH_next_item {z TI TO T i1 i2 l1 l2 : Addr} {k1 k2 : Nat} {xs ys : Array Value} {x y a b : Value} {f : Bool} {oT : Obj} {Q : Value → Shared → Prop} (D : ZipApart z TI TO i1 i2 l1 l2)
    (hz : IsZipH s.heap z TI TO T f) (hT : s.heap.get? T = some oT) (hTI : IsPair s.heap TI (.ref i1) (.ref i2)) (h1 : s.heap.IsListIter i1 l1 k1) (h2 : s.heap.IsListIter i2 l2 k2) (hl1 : s.heap.IsList l1 xs) (hl2 : s.heap.IsList l2 ys) (hx : xs[k1]? = some x) (hy : ys[k2]? = some y)
    (hQ : ∀ h', IsZipH h' z TI TO T true → h'.IsListIter i1 l1 (k1 + 1) → h'.IsListIter i2 l2 (k2 + 1) → IsPair h' s.heap.objs.size x y → (∀ c o, c ≠ z → c ≠ i1 → c ≠ i2 → s.heap.get? c = some o → h'.get? c = some o) → Q (.ref s.heap.objs.size) { s with heap := h' }) :
    wpAny (model prog w) A (Builtin.«zip.__next__» ⟨[.ref z], []⟩) (fun fin s' => ∃ v, fin = .done (.ret v) ∧ Q v s') E s := by
  show wpAny _ _ (field (.ref z) 2 >>= _) _ _ _
  refine wpAny_bind (wpAny_field hz rfl (x := .bool false) rfl ?_)
  show wpAny _ _ (field (.ref z) 3 >>= _) _ _ _
  refine wpAny_bind (wpAny_field hz rfl (x := .ref TI) rfl ?_)
  refine wpAny_bind (wpAny_seqItems hTI rfl ?_)
  show wpAny _ _ (Builtin.SmallTypes.ownedTupleIsFree (.ref z) >>= _) _ _ _
  refine wpAny_bind (zipH_free hz hT fun h₁ hz₁ hs₁ => ?_)
  simp only [Bool.false_eq_true, if_false]
  refine wpAny_bind ?_
  rw [← Array.forIn_toList]
  simp only [List.forIn_cons, List.forIn_nil]
  refine wpAny_bind (wpAny_bind (wpAny_holding ?_))
  show wpAny _ _ (Builtin.SmallTypes.nextOf (.ref i1) >>= _) _ _ _
  refine wpAny_bind (wpAny_nextOf_list_item (h1.extBut hs₁.extBut D.i1z) (hl1.extBut hs₁.extBut D.l1z) hx fun h₂ h1₂ hs₂ => wpAny_pure (wpAny_pure ?_))
  simp only
  refine wpAny_bind (wpAny_bind (wpAny_holding ?_))
  show wpAny _ _ (Builtin.SmallTypes.nextOf (.ref i2) >>= _) _ _ _
  refine wpAny_bind (wpAny_nextOf_list_item ((h2.extBut hs₁.extBut D.i2z).extBut hs₂.extBut D.i12.symm) ((hl2.extBut hs₁.extBut D.l2z).extBut hs₂.extBut D.l2i1) hy fun h₃ h2₃ hs₃ => wpAny_pure (wpAny_pure ?_))
  refine wpAny_pure ?_
  show wpAny _ _ (newTuple [x, y] >>= _) _ _ _
  refine wpAny_bind (wpAny_newTuple (wpAny_pure ⟨_, rfl, ?_⟩))
  have hsz : h₃.objs.size = s.heap.objs.size := by rw [hs₃.1, hs₂.1, hs₁.1]
  have hz₃ : IsZipH h₃ z TI TO T true := hs₃.extBut _ _ D.i2z.symm (hs₂.extBut _ _ D.i1z.symm hz₁)
  have h1₃ : h₃.IsListIter i1 l1 (k1 + 1) := h1₂.extBut hs₃.extBut D.i12
  show Q (.ref h₃.objs.size) { s with heap := h₃.push _ }
  rw [hsz]
  refine hQ _ (Heap.get?_push_of_some _ hz₃) (h1₃.at fun o e => Heap.get?_push_of_some _ e) (h2₃.at fun o e => Heap.get?_push_of_some _ e) (by rw [← hsz]; exact Heap.get?_push_size _ rfl) fun c o c1 c3 c4 e => Heap.get?_push_of_some _ (hs₃.extBut _ _ c4 (hs₂.extBut _ _ c3 (hs₁.extBut _ _ c1 e)))
theorem zipH_next_end {z TI TO T i1 i2 l1 l2 : Addr} {k1 k2 : Nat} {xs ys : Array Value} {f : Bool} {oT : Obj} {Q : Fin → Shared → Prop} (hh : A.handled = none) (D : ZipApart z TI TO i1 i2 l1 l2)
    (hz : IsZipH s.heap z TI TO T f) (hT : s.heap.get? T = some oT) (hTI : IsPair s.heap TI (.ref i1) (.ref i2)) (h1 : s.heap.IsListIter i1 l1 k1) (h2 : s.heap.IsListIter i2 l2 k2) (hl1 : s.heap.IsList l1 xs) (hl2 : s.heap.IsList l2 ys) (hend : xs[k1]? = none ∨ ys[k2]? = none)
    (hE : ∀ h' e, (∀ c o, c ≠ z → c ≠ i1 → c ≠ i2 → s.heap.get? c = some o → h'.get? c = some o) → (∃ o, h'.get? e = some o ∧ o.cls = .type "StopIteration") → E (.ref e) { s with heap := h' }) :
    wpAny (model prog w) A (Builtin.«zip.__next__» ⟨[.ref z], []⟩) Q E s := by
  show wpAny _ _ (field (.ref z) 2 >>= _) _ _ _
  refine wpAny_bind (wpAny_field hz rfl (x := .bool false) rfl ?_)
  show wpAny _ _ (field (.ref z) 3 >>= _) _ _ _
  refine wpAny_bind (wpAny_field hz rfl (x := .ref TI) rfl ?_)
  refine wpAny_bind (wpAny_seqItems hTI rfl ?_)
  show wpAny _ _ (Builtin.SmallTypes.ownedTupleIsFree (.ref z) >>= _) _ _ _
  refine wpAny_bind (zipH_free hz hT fun h₁ hz₁ hs₁ => ?_)
  simp only [Bool.false_eq_true, if_false]
  refine wpAny_bind ?_
  rw [← Array.forIn_toList]
  simp only [List.forIn_cons, List.forIn_nil]
  refine wpAny_bind (wpAny_bind (wpAny_holding ?_))
  show wpAny _ _ (Builtin.SmallTypes.nextOf (.ref i1) >>= _) _ _ _
  cases hx : xs[k1]? with
  | none => exact wpAny_bind (wpAny_nextOf_list_end hh (h1.extBut hs₁.extBut D.i1z) (hl1.extBut hs₁.extBut D.l1z) hx fun h₂ e hs₂ he => hE h₂ e (fun c o c1 c3 _ x => hs₂ _ _ c3 (hs₁.extBut _ _ c1 x)) he)
  | some x =>
    have hy : ys[k2]? = none := by
      rcases hend with h | h
      · rw [hx] at h; cases h
      · exact h
    refine wpAny_bind (wpAny_nextOf_list_item (h1.extBut hs₁.extBut D.i1z) (hl1.extBut hs₁.extBut D.l1z) hx fun h₂ h1₂ hs₂ => wpAny_pure (wpAny_pure ?_))
    simp only
    refine wpAny_bind (wpAny_bind (wpAny_holding ?_))
    show wpAny _ _ (Builtin.SmallTypes.nextOf (.ref i2) >>= _) _ _ _
    exact wpAny_bind (wpAny_nextOf_list_end hh ((h2.extBut hs₁.extBut D.i2z).extBut hs₂.extBut D.i12.symm) ((hl2.extBut hs₁.extBut D.l2z).extBut hs₂.extBut D.l2i1) hy fun h₃ e hs₃ he => hE h₃ e (fun c o c1 c3 c4 x => hs₃ _ _ c4 (hs₂.extBut _ _ c3 (hs₁.extBut _ _ c1 x))) he)
theorem pyNext_zipH_item {z TI TO T i1 i2 l1 l2 : Addr} {k1 k2 : Nat} {xs ys : Array Value} {x y : Value} {f : Bool} {oT : Obj} {Q : Option Value → Shared → Prop} (D : ZipApart z TI TO i1 i2 l1 l2)
    (hz : IsZipH s.heap z TI TO T f) (hT : s.heap.get? T = some oT) (hTI : IsPair s.heap TI (.ref i1) (.ref i2)) (h1 : s.heap.IsListIter i1 l1 k1) (h2 : s.heap.IsListIter i2 l2 k2) (hl1 : s.heap.IsList l1 xs) (hl2 : s.heap.IsList l2 ys) (hx : xs[k1]? = some x) (hy : ys[k2]? = some y)
    (hQ : ∀ h', IsZipH h' z TI TO T true → h'.IsListIter i1 l1 (k1 + 1) → h'.IsListIter i2 l2 (k2 + 1) → IsPair h' s.heap.objs.size x y → (∀ c o, c ≠ z → c ≠ i1 → c ≠ i2 → s.heap.get? c = some o → h'.get? c = some o) → Q (some (.ref s.heap.objs.size)) { s with heap := h' }) :
    wpAny (model prog w) A (pyNext (.ref z)) Q E s := by
  have ty : s.TypeIs (.ref z) "zip" := ⟨_, hz, rfl⟩
  unfold pyNext
  exact wpAny_bind (wpAny_attempt (wpAny_callSpecial?_slot (name := Str.ofString "__next__") ty F.slot_zip_next (wpAny_call_entry F.slot_zip_next ty F.entry_zip_next
    (zipH_next_item (a := .none) (b := .none) D hz hT hTI h1 h2 hl1 hl2 hx hy fun h' a1 a2 a3 a4 a5 => wpAny_pure (hQ h' a1 a2 a3 a4 a5)) (F.args_zip_next_1 _))))
theorem pyNext_zipH_end {z TI TO T i1 i2 l1 l2 : Addr} {k1 k2 : Nat} {xs ys : Array Value} {f : Bool} {oT : Obj} {Q : Option Value → Shared → Prop} (hh : A.handled = none) (D : ZipApart z TI TO i1 i2 l1 l2)
    (hz : IsZipH s.heap z TI TO T f) (hT : s.heap.get? T = some oT) (hTI : IsPair s.heap TI (.ref i1) (.ref i2)) (h1 : s.heap.IsListIter i1 l1 k1) (h2 : s.heap.IsListIter i2 l2 k2) (hl1 : s.heap.IsList l1 xs) (hl2 : s.heap.IsList l2 ys) (hend : xs[k1]? = none ∨ ys[k2]? = none)
    (hQ : ∀ h', (∀ c o, c ≠ z → c ≠ i1 → c ≠ i2 → s.heap.get? c = some o → h'.get? c = some o) → Q none { s with heap := h' }) : wpAny (model prog w) A (pyNext (.ref z)) Q E s := by
  have ty : s.TypeIs (.ref z) "zip" := ⟨_, hz, rfl⟩
  unfold pyNext
  refine wpAny_bind (wpAny_attempt (wpAny_callSpecial?_slot (name := Str.ofString "__next__") ty F.slot_zip_next (wpAny_call_entry F.slot_zip_next ty F.entry_zip_next (zipH_next_end hh D hz hT hTI h1 h2 hl1 hl2 hend fun h' e hk he => ?_) (F.args_zip_next_1 _))))
  obtain ⟨o, ho, hc⟩ := he
  exact wpAny_bind (wpAny_isInstance (T := "StopIteration") (b := true) ⟨o, ho, hc⟩ isSubtype_stop (wpAny_pure (hQ _ hk)))
/-- a zip object of two lists, i pairs handed out -/
structure ZSt (h : Heap) (z TI TO i1 i2 l1 l2 : Addr) (xs ys : Array Value) (i : Nat) : Prop where
  zip : IsZip h z TI TO .none ∨ ∃ T f x y, IsZipH h z TI TO T f ∧ IsPair h T x y
  its : IsPair h TI (.ref i1) (.ref i2)
  own : ∃ a b, IsPair h TO a b
  at1 : h.IsListIter i1 l1 i
  at2 : h.IsListIter i2 l2 i
  ls1 : h.IsList l1 xs
  ls2 : h.IsList l2 ys
theorem ZSt.keep {h h' : Heap} {z TI TO i1 i2 l1 l2 S : Addr} {xs ys : Array Value} {i : Nat} {oS : Obj} (x : ZSt h z TI TO i1 i2 l1 l2 xs ys i) (hS : h.get? S = some oS) (hc : oS.cls = .type "list") (n1 : l1 ≠ S) (n2 : l2 ≠ S) (hk : ∀ b o, b ≠ S → h.get? b = some o → h'.get? b = some o) : ZSt h' z TI TO i1 i2 l1 l2 xs ys i := by
  have ne : ∀ b o, h.get? b = some o → o.cls ≠ .type "list" → b ≠ S := fun b o e hn z => by
    subst z
    rw [hS] at e
    cases e
    exact hn hc
  have kp : ∀ b o, h.get? b = some o → o.cls ≠ .type "list" → h'.get? b = some o := fun b o e hn => hk b o (ne b o e hn) e
  refine ⟨?_, kp _ _ x.its (by simp), ?_, ?_, ?_, x.ls1.at fun o e => hk _ o n1 e, x.ls2.at fun o e => hk _ o n2 e⟩
  · rcases x.zip with z | ⟨T, f, a, b, z, p⟩
    · exact .inl (kp _ _ z (by simp))
    · exact .inr ⟨T, f, a, b, kp _ _ z (by simp), kp _ _ p (by simp)⟩
  · obtain ⟨a, b, p⟩ := x.own
    exact ⟨a, b, kp _ _ p (by simp)⟩
  · obtain ⟨o, e, c, d⟩ := x.at1
    exact ⟨o, kp _ _ e (by rw [c]; simp), c, d⟩
  · obtain ⟨o, e, c, d⟩ := x.at2
    exact ⟨o, kp _ _ e (by rw [c]; simp), c, d⟩
theorem zst_item {z TI TO i1 i2 l1 l2 : Addr} {xs ys : Array Value} {i : Nat} {x y : Value} {Q : Option Value → Shared → Prop} (D : ZipApart z TI TO i1 i2 l1 l2) (st : ZSt s.heap z TI TO i1 i2 l1 l2 xs ys i) (hx : xs[i]? = some x) (hy : ys[i]? = some y)
    (hQ : ∀ h', ZSt h' z TI TO i1 i2 l1 l2 xs ys (i + 1) → IsPair h' s.heap.objs.size x y → (∀ c o, c ≠ z → c ≠ TO → c ≠ i1 → c ≠ i2 → s.heap.get? c = some o → h'.get? c = some o) → Q (some (.ref s.heap.objs.size)) { s with heap := h' }) :
    wpAny (model prog w) A (pyNext (.ref z)) Q E s := by
  rcases st.zip with hz | ⟨T, f, x0, y0, hz, hT⟩
  · obtain ⟨a, b, hTO⟩ := st.own
    refine wpAny_pyNext_zip_item D hz st.its hTO st.at1 st.at2 st.ls1 st.ls2 hx hy fun h' a1 a2 a3 a4 a5 _ hk => ?_
    exact hQ h' ⟨.inr ⟨_, _, _, _, a1, a5⟩, hk _ _ D.TIz D.TITO D.TIi1 D.TIi2 st.its, ⟨_, _, a2⟩, a3, a4, st.ls1.at fun o e => hk _ o D.l1z D.l1TO D.l1i1 D.l1i2 e, st.ls2.at fun o e => hk _ o D.l2z D.l2TO D.l2i1 D.l2i2 e⟩ a5 hk
  · obtain ⟨a, b, hTO⟩ := st.own
    have nz : T ≠ z := fun e => by
      subst e
      have e := congrArg (fun o : Option Obj => o.map (·.cls)) (hz.symm.trans hT)
      simp at e
    have n1 : T ≠ i1 := fun e => by
      subst e
      obtain ⟨o, e1, c, _⟩ := st.at1
      rw [hT] at e1
      cases e1
      simp at c
    have n2 : T ≠ i2 := fun e => by
      subst e
      obtain ⟨o, e1, c, _⟩ := st.at2
      rw [hT] at e1
      cases e1
      simp at c
    refine pyNext_zipH_item D hz hT st.its st.at1 st.at2 st.ls1 st.ls2 hx hy fun h' a1 a3 a4 a5 hk => ?_
    exact hQ h' ⟨.inr ⟨T, true, x0, y0, a1, hk _ _ nz n1 n2 hT⟩, hk _ _ D.TIz D.TIi1 D.TIi2 st.its, ⟨a, b, hk _ _ D.TOz D.TOi1 D.TOi2 hTO⟩, a3, a4, st.ls1.at fun o e => hk _ o D.l1z D.l1i1 D.l1i2 e, st.ls2.at fun o e => hk _ o D.l2z D.l2i1 D.l2i2 e⟩ a5 fun c o c1 _ c3 c4 e => hk c o c1 c3 c4 e
theorem zst_done {z TI TO i1 i2 l1 l2 : Addr} {xs ys : Array Value} {i : Nat} {Q : Option Value → Shared → Prop} (hh : A.handled = none) (D : ZipApart z TI TO i1 i2 l1 l2) (st : ZSt s.heap z TI TO i1 i2 l1 l2 xs ys i) (hend : xs[i]? = none ∨ ys[i]? = none)
    (hQ : ∀ h', (∀ c o, c ≠ z → c ≠ TO → c ≠ i1 → c ≠ i2 → s.heap.get? c = some o → h'.get? c = some o) → Q none { s with heap := h' }) : wpAny (model prog w) A (pyNext (.ref z)) Q E s := by
  rcases st.zip with hz | ⟨T, f, x0, y0, hz, hT⟩
  · obtain ⟨a, b, hTO⟩ := st.own
    exact wpAny_pyNext_zip_end hh D hz st.its hTO st.at1 st.at2 st.ls1 st.ls2 hend hQ
  · exact pyNext_zipH_end hh D hz hT st.its st.at1 st.at2 st.ls1 st.ls2 hend fun h' hk => hQ h' fun c o c1 _ c3 c4 e => hk c o c1 c3 c4 e
/-- the pairs that were made -/
structure ZPs (xs ys : Array Value) (lo : Nat) (h : Heap) (as : List Addr) : Prop where
  rise : as.Pairwise (fun a b => a < b)
  above : ∀ a ∈ as, lo ≤ a
  pairs : ∀ (j : Nat) (a : Addr), as[j]? = some a → ∃ x y, xs[j]? = some x ∧ ys[j]? = some y ∧ IsPair h a x y
theorem ZPs.there {xs ys : Array Value} {lo : Nat} {h : Heap} {as : List Addr} (g : ZPs xs ys lo h as) {a : Addr} (ha : a ∈ as) : a < h.objs.size := by
  obtain ⟨j, hj⟩ := List.getElem?_of_mem ha
  obtain ⟨x, y, _, _, p⟩ := g.pairs j a hj
  exact Heap.lt_size p
theorem zl_loop {S z TI TO i1 i2 l1 l2 : Addr} {xs ys : Array Value} {R : Result → Shared → Prop} (hh : A.handled = none) (D : ZipApart z TI TO i1 i2 l1 l2) (n1 : l1 ≠ S) (n2 : l2 ≠ S) (hn : min xs.size ys.size ≤ sizeLine) (res : Value) {h₁ : Heap} {lo : Nat}
    (sS : S < lo) (sz : z < lo) (sT : TO < lo) (s1 : i1 < lo) (s2 : i2 < lo)
    (nSz : S ≠ z) (nST : S ≠ TO) (nS1 : S ≠ i1) (nS2 : S ≠ i2)
    (hR : ∀ h' acc c as, (∀ b o, b ≠ S → b ≠ z → b ≠ TO → b ≠ i1 → b ≠ i2 → h₁.get? b = some o → h'.get? b = some o) → h'.get? S = some { cls := .type "list", dict := none, data := .seq acc c, slots := #[] } → as.length = min xs.size ys.size → ZPs xs ys lo h' as → acc.toList = as.map Value.ref → R (.ok (.ret res)) { s with heap := h' }) :
    ∀ (k i : Nat) (h : Heap) (c : Nat) (acc : Array Value) (as : List Addr), min xs.size ys.size - i = k → i ≤ min xs.size ys.size → ZSt h z TI TO i1 i2 l1 l2 xs ys i → (∀ b o, b ≠ S → b ≠ z → b ≠ TO → b ≠ i1 → b ≠ i2 → h₁.get? b = some o → h.get? b = some o) →
      h.get? S = some { cls := .type "list", dict := none, data := .seq acc c, slots := #[] } → acc.toList = as.map Value.ref → as.length = i → ZPs xs ys lo h as → lo ≤ h.objs.size → codeAny (model prog w) A (.builtin "list.extend.loop" ⟨[.ref S, .ref z, res], []⟩) R { s with heap := h } := by
  have hh1 : A.in1.handled = none := by simp [hh]
  intro k
  induction k with
  | zero =>
    intro i h c acc as hk hi st kp hS hacc hal hG hlo
    refine codeAny_builtin F.entry_extend_loop ?_
    rw [Around.under_plainId F.plain_extend_loop _]
    show wpAny _ A.in1 (pyNext (.ref z) >>= _) _ _ _
    have hend : xs[i]? = none ∨ ys[i]? = none := by
      have : i = min xs.size ys.size := by omega
      rcases Nat.le_total xs.size ys.size with q | q
      · exact .inl (Array.getElem?_eq_none (by omega))
      · exact .inr (Array.getElem?_eq_none (by omega))
    refine wpAny_bind (zst_done (s := { s with heap := h }) hh1 D st hend fun h' hk' => wpAny_pure ?_)
    refine hR h' acc c as (fun b o b1 b2 b3 b4 b5 e => hk' b o b2 b3 b4 b5 (kp b o b1 b2 b3 b4 b5 e)) (hk' S _ nSz nST nS1 nS2 hS) (by omega) ⟨hG.rise, hG.above, fun j a hj => ?_⟩ hacc
    obtain ⟨x, y, e1, e2, p⟩ := hG.pairs j a hj
    have ha := hG.above a (List.mem_of_getElem? hj)
    exact ⟨x, y, e1, e2, hk' a _ (Nat.ne_of_gt (Nat.lt_of_lt_of_le sz ha)) (Nat.ne_of_gt (Nat.lt_of_lt_of_le sT ha)) (Nat.ne_of_gt (Nat.lt_of_lt_of_le s1 ha)) (Nat.ne_of_gt (Nat.lt_of_lt_of_le s2 ha)) p⟩
  | succ k ih =>
    intro i h c acc as hk hi st kp hS hacc hal hG hlo
    have hix : i < xs.size := by omega
    have hiy : i < ys.size := by omega
    have hsz : acc.size = i := by rw [← Array.length_toList, hacc, List.length_map, hal]
    refine codeAny_builtin F.entry_extend_loop ?_
    rw [Around.under_plainId F.plain_extend_loop _]
    show wpAny _ A.in1 (pyNext (.ref z) >>= _) _ _ _
    refine wpAny_bind (zst_item (s := { s with heap := h }) D st (Array.getElem?_eq_getElem hix) (Array.getElem?_eq_getElem hiy) fun h' st' pr hk' => ?_)
    dsimp only at pr hk' ⊢
    have hS' := hk' S _ nSz nST nS1 nS2 hS
    have up : ∀ b o, b ≠ S → h'.get? b = some o → (h'.update S (Obj.mapSeq (·.push (Value.ref h.objs.size)))).get? b = some o := fun b o hb e => (Heap.get?_update_other _ _ (Ne.symm hb)).trans e
    have nSh : h.objs.size ≠ S := Nat.ne_of_gt (Nat.lt_of_lt_of_le sS hlo)
    show wpAny _ A.in1 (updateSeq S (·.push (Value.ref h.objs.size)) >>= _) _ _ _
    refine wpAny_bind ?_
    refine wpAny_updateSeq hS' rfl (wpAny_pure ⟨plainId_quiet F.plain_extend_loop _, ih (i + 1) _ _ (acc.push (Value.ref h.objs.size)) (as ++ [h.objs.size]) (by omega) (by omega) (st'.keep hS' rfl n1 n2 up) (fun b o b1 b2 b3 b4 b5 e => up b o b1 (hk' b o b2 b3 b4 b5 (kp b o b1 b2 b3 b4 b5 e))) (Heap.get?_update_self _ hS' rfl) (by rw [Array.toList_push, hacc, List.map_append]; rfl) (by rw [List.length_append, hal]; rfl) ⟨?_, ?_, ?_⟩ ?_⟩) (by rw [hsz]; omega) (by show (acc.push (Value.ref h.objs.size)).size ≤ sizeLine + 1; rw [Array.size_push, hsz]; omega)
    · refine List.pairwise_append.mpr ⟨hG.rise, List.pairwise_singleton _ _, fun a ha b hb => ?_⟩
      rw [List.mem_singleton.mp hb]
      exact hG.there ha
    · intro a ha
      rcases List.mem_append.mp ha with ha | ha
      · exact hG.above a ha
      · rw [List.mem_singleton.mp ha]; exact hlo
    · intro j b hj
      rcases Nat.lt_trichotomy j as.length with h1 | h1 | h1
      · rw [List.getElem?_append_left h1] at hj
        obtain ⟨x, y, e1, e2, p⟩ := hG.pairs j b hj
        have ha := hG.above b (List.mem_of_getElem? hj)
        exact ⟨x, y, e1, e2, up b _ (Nat.ne_of_gt (Nat.lt_of_lt_of_le sS ha)) (hk' b _ (Nat.ne_of_gt (Nat.lt_of_lt_of_le sz ha)) (Nat.ne_of_gt (Nat.lt_of_lt_of_le sT ha)) (Nat.ne_of_gt (Nat.lt_of_lt_of_le s1 ha)) (Nat.ne_of_gt (Nat.lt_of_lt_of_le s2 ha)) p)⟩
      · subst h1
        have hb : h.objs.size = b := by simpa using hj
        subst hb
        rw [hal]
        exact ⟨_, _, Array.getElem?_eq_getElem hix, Array.getElem?_eq_getElem hiy, up _ _ nSh pr⟩
      · have hnone : (as ++ [h.objs.size])[j]? = none := List.getElem?_eq_none (by rw [List.length_append, List.length_singleton]; omega)
        rw [hnone] at hj; cases hj
    · have e := Heap.lt_size (up _ _ nSh pr)
      exact Nat.le_trans hlo (Nat.le_of_lt e)
theorem zip_no_len : typeLookup (.type "zip") (Str.ofString "__len__") = pure none := by rw [typeLookup_type, builtinLookup_eq_fast]; kernel_rfl
theorem zip_no_hint : typeLookup (.type "zip") (Str.ofString "__length_hint__") = pure none := by rw [typeLookup_type, builtinLookup_eq_fast]; kernel_rfl
theorem ZSt.typeIs {z TI TO i1 i2 l1 l2 : Addr} {xs ys : Array Value} {i : Nat} (st : ZSt s.heap z TI TO i1 i2 l1 l2 xs ys i) : s.TypeIs (.ref z) "zip" := by
  rcases st.zip with hz | ⟨T, f, x0, y0, hz, hT⟩
  · exact ⟨_, hz, rfl⟩
  · exact ⟨_, hz, rfl⟩
theorem zl_extend {z TI TO i1 i2 l1 l2 : Addr} {xs ys : Array Value} {R : Result → Shared → Prop} (hh : A.handled = none) (D : ZipApart z TI TO i1 i2 l1 l2) (S : Addr) (hz : IsZip s.heap z TI TO .none) (st : ZSt s.heap z TI TO i1 i2 l1 l2 xs ys 0) (n1 : l1 ≠ S) (n2 : l2 ≠ S) (hn : min xs.size ys.size ≤ sizeLine) (res : Value) (c₀ : Nat)
    (hS : s.heap.get? S = some { cls := .type "list", data := .seq #[] c₀ }) (nSz : S ≠ z) (nST : S ≠ TO) (nS1 : S ≠ i1) (nS2 : S ≠ i2)
    (hR : ∀ h' acc c as, (∀ b o, b ≠ S → b ≠ z → b ≠ TO → b ≠ i1 → b ≠ i2 → s.heap.get? b = some o → h'.get? b = some o) → h'.get? S = some { cls := .type "list", dict := none, data := .seq acc c, slots := #[] } → as.length = min xs.size ys.size → ZPs xs ys s.heap.objs.size h' as → acc.toList = as.map Value.ref → R (.ok (.ret res)) { s with heap := h' }) :
    wpAny (model prog w) A.in1 (Builtin.List.listExtendWith (.ref S) (.ref z) res)
      (fun fin s' => match fin with | .done f => R (.ok f) s' | .again c' => c'.quiet = true ∧ codeAny (model prog w) A c' R s') (fun e s' => R (.error e) s') s := by
  have lt : ∀ {b : Addr} {o : Obj}, s.heap.get? b = some o → b < s.heap.objs.size := fun e => Heap.lt_size e
  obtain ⟨a, b, hTO⟩ := st.own
  have l1' : i1 < s.heap.objs.size := by obtain ⟨_, e, _⟩ := st.at1; exact lt e
  have l2' : i2 < s.heap.objs.size := by obtain ⟨_, e, _⟩ := st.at2; exact lt e
  have key : ∀ (h : Heap) (c₁ : Nat), h.objs.size = s.heap.objs.size → (∀ b o, b ≠ S → s.heap.get? b = some o → h.get? b = some o) → h.get? S = some { cls := .type "list", data := .seq #[] c₁ } → codeAny (model prog w) A (.builtin "list.extend.loop" ⟨[.ref S, .ref z, res], []⟩) R { s with heap := h } := by
    intro h c₁ hsz hk hS₁
    exact zl_loop (s := s) (h₁ := s.heap) (lo := s.heap.objs.size) hh D n1 n2 hn res (lt hS) (lt hz) (lt hTO) l1' l2' nSz nST nS1 nS2 hR _ 0 h c₁ #[] [] (Nat.sub_zero _) (Nat.zero_le _) (st.keep hS rfl n1 n2 hk) (fun b o b1 _ _ _ _ e => hk b o b1 e) hS₁ rfl rfl ⟨List.Pairwise.nil, (fun _ ha => nomatch ha), (fun j a hj => by simp at hj)⟩ (Nat.le_of_eq hsz.symm)
  unfold Builtin.List.listExtendWith
  refine wpAny_bind (wpAny_typeOf (T := "zip") st.typeIs ?_)
  have h1 : Builtin.List.listSameRef (.ref S) (.ref z) = false := by simp [Builtin.List.listSameRef, nSz]
  have h2 : (Value.type "zip" == Value.type "list") = false := by decide
  have h3 : (Value.type "zip" == Value.type "tuple") = false := by decide
  simp only [h1, h2, h3, Bool.or_false, Bool.false_eq_true, if_false]
  refine wpAny_bind (wpAny_pyIter_zip hz ?_)
  refine wpAny_bind (wpAny_holding ?_)
  unfold Builtin.List.listLengthHint
  refine wpAny_bind (wpAny_specialOf st.typeIs zip_no_len ?_)
  show wpAny _ A.in1 (specialOf (Value.ref z) (Str.ofString "__length_hint__") >>= _) _ _ _
  refine wpAny_bind (wpAny_specialOf st.typeIs zip_no_hint (wpAny_pure ?_))
  show wpAny _ A.in1 (rule "list.extend.makes-room" >>= fun _ => Builtin.List.listTouch (.ref S) >>= fun _ => again (.builtin "list.extend.loop" ⟨[.ref S, .ref z, res], []⟩)) _ _ _
  refine wpAny_bind (wpAny_rule (wpAny_bind ?_))
  show wpAny _ A.in1 (updateSeq S (·.push .none) >>= fun _ => updateSeq S (·.pop)) _ _ _
  refine wpAny_bind (wpAny_updateSeq hS rfl ?_)
  have hS₂ := Heap.get?_update_self (Obj.mapSeq (·.push Value.none)) hS rfl
  refine wpAny_updateSeq (hz := by seq_fits) hS₂ rfl ?_
  have hS₃ := Heap.get?_update_self (Obj.mapSeq (·.pop)) hS₂ rfl
  refine wpAny_pure ⟨plainId_quiet F.plain_extend_loop _, key _ _ ?_ (fun b o hb e => (Heap.get?_update_other _ _ (Ne.symm hb)).trans ((Heap.get?_update_other _ _ (Ne.symm hb)).trans e)) hS₃⟩
  rw [Heap.size_update, Heap.size_update]
/-- list(z) -/
theorem zl_call {z TI TO i1 i2 l1 l2 : Addr} {xs ys : Array Value} {Q : Value → Shared → Prop} (hh : A.handled = none) (D : ZipApart z TI TO i1 i2 l1 l2) (hz : IsZip s.heap z TI TO .none) (st : ZSt s.heap z TI TO i1 i2 l1 l2 xs ys 0) (hn : min xs.size ys.size ≤ sizeLine)
    (hQ : ∀ h' acc c as, (∀ b o, b ≠ z → b ≠ TO → b ≠ i1 → b ≠ i2 → s.heap.get? b = some o → h'.get? b = some o) → h'.get? s.heap.objs.size = some { cls := .type "list", dict := none, data := .seq acc c, slots := #[] } → as.length = min xs.size ys.size → ZPs xs ys (s.heap.objs.size + 1) h' as → acc.toList = as.map Value.ref → Q (.ref s.heap.objs.size) { s with heap := h' }) :
    wpAny (model prog w) A (call (.type "list") [.ref z]) Q E s := by
  have lt : ∀ {b : Addr} {o : Obj}, s.heap.get? b = some o → b ≠ s.heap.objs.size := fun e => Nat.ne_of_lt (Heap.lt_size e)
  have ne1 : i1 ≠ s.heap.objs.size := by obtain ⟨_, e, _⟩ := st.at1; exact lt e
  have ne2 : i2 ≠ s.heap.objs.size := by obtain ⟨_, e, _⟩ := st.at2; exact lt e
  have ne3 : l1 ≠ s.heap.objs.size := by obtain ⟨_, e, _⟩ := st.ls1; exact lt e
  have ne4 : l2 ≠ s.heap.objs.size := by obtain ⟨_, e, _⟩ := st.ls2; exact lt e
  have neT : TO ≠ s.heap.objs.size := by obtain ⟨_, _, e⟩ := st.own; exact lt e
  have nez : z ≠ s.heap.objs.size := lt hz
  refine callType_codes (Q₁ := fun v t => v = .ref s.heap.objs.size ∧ t = { s with heap := s.heap.push { cls := .type "list", data := .seq #[] } }) F.called_list (F.typeCall_list_1 _) F.entry_list_init (code_list_new _ ⟨rfl, rfl⟩) fun obj t ht => ?_
  obtain ⟨rfl, rfl⟩ := ht
  have hS : (s.heap.push { cls := .type "list", data := .seq #[] }).get? s.heap.objs.size = some { cls := .type "list", data := .seq #[] } := Heap.get?_push_size _ rfl
  refine ⟨⟨_, hS, rfl⟩, F.args_list_init_2 _ _, ?_⟩
  show wpAny _ _ (do let old ← Builtin.List.listItems (.ref s.heap.objs.size); Builtin.List.listUpdate (.ref s.heap.objs.size) (fun _ => #[]); letGo old.toList.reverse; Builtin.List.listExtendWith (.ref s.heap.objs.size) (.ref z) .none) _ _ _
  refine wpAny_bind ?_
  unfold Builtin.List.listItems
  refine wpAny_bind (wpAny_seqItems hS rfl (wpAny_pure ?_))
  show wpAny _ _ (updateSeq s.heap.objs.size (fun _ => #[]) >>= fun _ => letGo (#[] : Array Value).toList.reverse >>= fun _ => Builtin.List.listExtendWith (.ref s.heap.objs.size) (.ref z) .none) _ _ _
  refine wpAny_bind (wpAny_updateSeq hS rfl ?_)
  have hS₂ := Heap.get?_update_self (Obj.mapSeq (fun _ => (#[] : Array Value))) hS rfl
  have oth : ∀ b o, b ≠ s.heap.objs.size → s.heap.get? b = some o → ((s.heap.push { cls := .type "list", data := .seq #[] }).update s.heap.objs.size (Obj.mapSeq (fun _ => (#[] : Array Value)))).get? b = some o := fun b o hb e => (Heap.get?_update_other _ _ (Ne.symm hb)).trans (Heap.get?_push_of_some _ e)
  have sz : ((s.heap.push { cls := .type "list", data := .seq #[] }).update s.heap.objs.size (Obj.mapSeq (fun _ => (#[] : Array Value)))).objs.size = s.heap.objs.size + 1 := by rw [Heap.size_update, Heap.size_push]
  refine wpAny_bind (wpAny_letGo ?_)
  have st2 : ZSt ((s.heap.push { cls := .type "list", data := .seq #[] }).update s.heap.objs.size (Obj.mapSeq (fun _ => (#[] : Array Value)))) z TI TO i1 i2 l1 l2 xs ys 0 := by
    refine ⟨.inl (oth _ _ nez hz), oth _ _ (lt st.its) st.its, ?_, st.at1.at fun o e => oth _ o ne1 e, st.at2.at fun o e => oth _ o ne2 e, st.ls1.at fun o e => oth _ o ne3 e, st.ls2.at fun o e => oth _ o ne4 e⟩
    obtain ⟨a, b, p⟩ := st.own
    exact ⟨a, b, oth _ _ neT p⟩
  refine zl_extend (s := { s with heap := _ }) (by simp [hh]) D _ (oth _ _ nez hz) st2 ne3 ne4 hn .none _ hS₂ nez.symm neT.symm ne1.symm ne2.symm fun h' acc c as hk hS' hl hG hacc => ?_
  refine ⟨rfl, hQ h' acc c as (fun b o b2 b3 b4 b5 e => hk b o (lt e) b2 b3 b4 b5 (oth b o (lt e) e)) hS' hl ?_ hacc⟩
  rw [← sz]
  exact hG
end
end PySem
end
section
set_option Elab.async false
set_option linter.all false
set_option maxRecDepth 100000
set_option maxHeartbeats 2000000
/-! MpZ2: list(zip(a, b)), a and b lists, over the layer. -/
namespace MPS
open PySem PySem.Spec PyProof.Rows L2 MP
/-- pairs at their addresses -/
def putP : Hp → List Addr → List (V × V) → Hp
  | H, a :: as, p :: ps => putP (upd H a (.tup [p.1, p.2])) as ps
  | H, _, _ => H
theorem putP_off {b : Addr} : ∀ (as : List Addr) (ps : List (V × V)) (H : Hp), b ∉ as → putP H as ps b = H b
  | [], _, _, _ => rfl
  | _ :: _, [], _, _ => rfl
  | a :: as, p :: ps, H, h => by
    show putP (upd H a (.tup [p.1, p.2])) as ps b = H b
    rw [putP_off as ps _ fun z => h (List.mem_cons_of_mem _ z), upd_ne fun z => h (by rw [z]; exact List.mem_cons_self)]
theorem putP_at : ∀ (as : List Addr) (ps : List (V × V)) (H : Hp) (j : Nat) (a : Addr) (p : V × V), as.Nodup → as[j]? = some a → ps[j]? = some p → putP H as ps a = some (.tup [p.1, p.2])
  | [], _, _, _, _, _, _, h, _ => by simp at h
  | _ :: _, [], _, _, _, _, _, _, h => by simp at h
  | a :: as, p :: ps, H, 0, a', p', hn, h1, h2 => by
    cases h1
    cases h2
    show putP (upd H a (.tup [p.1, p.2])) as ps a = _
    rw [putP_off as ps _ (List.nodup_cons.mp hn).1, upd_same]
  | a :: as, p :: ps, H, j + 1, a', p', hn, h1, h2 => putP_at as ps _ j a' p' (List.nodup_cons.mp hn).2 (by simpa using h1) (by simpa using h2)
/-- list(zip(a, b)) -/
def rLzip (K : PySem.W.Frag) : List V → Hp → VK → Prop := fun vs H Q => ∃ (a b : Addr) (xs ys : List V), vs = [.ref a, .ref b] ∧ SqL K H a xs ∧ SqL K H b ys ∧
  ∀ (p : Addr) (ts : List Addr), H p = none → (∀ t ∈ ts, H t = none) → p ∉ ts → ts.Nodup → ts.length = (xs.zip ys).length → Q (.ref p) (putP (upd H p (.lst (ts.map V.ref))) ts (xs.zip ys))
theorem vals_refs : ∀ as : List Addr, Vals (as.map V.ref) (as.map Value.ref)
  | [] => .nil
  | _ :: as => .cons rfl (vals_refs as)
theorem vals_at : ∀ {vs : List V} {us : List Value}, Vals vs us → ∀ {i : Nat} {u : Value}, us[i]? = some u → ∃ v, vs[i]? = some v ∧ RelV v u
  | _, _, .nil, i, u, h => by simp at h
  | _, _, .cons r t, 0, u, h => by
    cases h
    exact ⟨_, rfl, r⟩
  | _, _, .cons r t, i + 1, u, h => by
    obtain ⟨v, h1, h2⟩ := vals_at t (i := i) (by simpa using h)
    exact ⟨v, by simpa using h1, h2⟩
section
variable {X : Cx}
theorem pairs_laid {pins : List (Addr × Obj)} {σ : L2.St} {H : Hp} {s : Shared} {h' : Heap} {xs ys : List V} {us ws : List Value} {acc : Array Value} {c lo : Nat} {L : Addr} {as : List Addr} (I : Inv X pins σ H s) (rx : Vals xs us) (ry : Vals ys ws) (hz : as.length ≤ sizeLine)
    (hk : ∀ b o, s.heap.get? b = some o → h'.get? b = some o) (hL : s.heap.objs.size ≤ L) (hlo : L < lo) (hS : h'.get? L = some { cls := .type "list", dict := none, data := .seq acc c, slots := #[] }) (hl : as.length = min us.length ws.length) (hG : ZPs us.toArray ws.toArray lo h' as) (hacc : acc.toList = as.map Value.ref) :
    H L = none ∧ (∀ t ∈ as, H t = none) ∧ L ∉ as ∧ as.Nodup ∧ as.length = (xs.zip ys).length ∧ Inv X pins σ (putP (upd H L (.lst (as.map V.ref))) as (xs.zip ys)) { s with heap := h' } := by
  have hSn : L ∉ as := fun z => absurd (hG.above _ z) (Nat.not_le.mpr hlo)
  have nd : as.Nodup := List.Pairwise.imp (fun {a b} (h : a < b) => Nat.ne_of_lt h) hG.rise
  have new : ∀ t ∈ as, H t = none := fun t ht => I.hok.fresh (Nat.le_trans (Nat.le_trans hL (Nat.le_of_lt hlo)) (hG.above t ht))
  have newS : H L = none := I.hok.fresh hL
  have ln : as.length = (xs.zip ys).length := by rw [hl, List.length_zip, rx.length, ry.length]
  have off : ∀ b, b ∉ as → b ≠ L → putP (upd H L (.lst (as.map V.ref))) as (xs.zip ys) b = H b := fun b h1 h2 => by rw [putP_off as _ _ h1, upd_ne h2]
  have low : ∀ b o, s.heap.get? b = some o → b ∉ as ∧ b ≠ L := fun b o e => ⟨fun z => absurd (Heap.lt_size e) (Nat.not_lt.mpr (Nat.le_trans (Nat.le_trans hL (Nat.le_of_lt hlo)) (hG.above b z))), Nat.ne_of_lt (Nat.lt_of_lt_of_le (Heap.lt_size e) hL)⟩
  have kp : ∀ b u, H b = some u → (putP (upd H L (.lst (as.map V.ref))) as (xs.zip ys)) b = some u := fun b u e => by
    rw [off b (fun z => by rw [new b z] at e; cases e) (fun z => by rw [z, newS] at e; cases e)]
    exact e
  have eS : putP (upd H L (.lst (as.map V.ref))) as (xs.zip ys) L = some (.lst (as.map V.ref)) := by rw [putP_off as _ _ hSn, upd_same]
  refine ⟨newS, new, hSn, nd, ln, ?_⟩
  refine I.call' (s' := { s with heap := h' }) (ch := []) rfl ⟨fun b o q _ _ _ => hk b o q, fun b o q _ _ _ => ⟨o.slots, hk b o q⟩, fun b o q n _ => ?_, fun b o q _ => ⟨o, hk b o q⟩, fun b xs q => kp b _ q, fun b o u q => kp b _ q, fun b ps q => ⟨#[], by rw [kp b _ q]; simp⟩⟩ (fun b u q => ?_) I.bare fun b z => by simp at z
  · obtain ⟨z1, z2⟩ := low b o q
    rw [off b z1 z2]
    exact n
  · by_cases hb : b ∈ as
    · obtain ⟨j, e1⟩ := List.getElem?_of_mem hb
      obtain ⟨x, y, f1, f2, f3⟩ := hG.pairs j b e1
      obtain ⟨v, g1, g2⟩ := vals_at rx (i := j) (by simpa using f1)
      obtain ⟨v', g3, g4⟩ := vals_at ry (i := j) (by simpa using f2)
      have ez : (xs.zip ys)[j]? = some (v, v') := by rw [List.getElem?_zip_eq_some]; exact ⟨g1, g3⟩
      rw [putP_at as _ _ j b (v, v') nd e1 ez] at q
      cases q
      exact ⟨by show 2 ≤ sizeLine; decide, [x, y], .cons g2 (.cons g4 .nil), ⟨_, f3, rfl, _, rfl⟩⟩
    · by_cases hb2 : b = L
      · rw [hb2] at q ⊢
        rw [eS] at q
        cases q
        refine ⟨by rw [List.length_map]; exact hz, acc.toList, c, by rw [hacc]; exact vals_refs as, ?_⟩
        rw [Array.toArray_toList]
        exact hS
      · rw [off b hb hb2] at q
        exact (I.hok b u q).stay (fun d v _ y => hk d v y) (fun d y => kp d _ y) fun d xs y => kp d _ y
theorem boot_list' : bootBuiltins (Str.ofString "list") = some (.type "list") := by decide +kernel
theorem boot_zip' : bootBuiltins (Str.ofString "zip") = some (.type "zip") := by decide +kernel
theorem lt_ne {a b : Nat} (h : a < b) : a ≠ b := Nat.ne_of_lt h
theorem gt_ne {a b : Nat} (h : b < a) : a ≠ b := Nat.ne_of_gt h
theorem zip_apart {n : Nat} {l1 l2 : Nat} (h1 : l1 < n) (h2 : l2 < n) : ZipApart (n + 4) (n + 2) (n + 3) n (n + 1) l1 l2 where
  TIz := lt_ne (by omega)
  TOz := lt_ne (by omega)
  i1z := lt_ne (by omega)
  i2z := lt_ne (by omega)
  TITO := lt_ne (by omega)
  TIi1 := gt_ne (by omega)
  TIi2 := gt_ne (by omega)
  TOi1 := gt_ne (by omega)
  TOi2 := gt_ne (by omega)
  i12 := lt_ne (by omega)
  l1z := lt_ne (by omega)
  l1TO := lt_ne (by omega)
  l1i1 := lt_ne (by omega)
  l1i2 := lt_ne (by omega)
  l2z := lt_ne (by omega)
  l2TO := lt_ne (by omega)
  l2i1 := lt_ne (by omega)
  l2i2 := lt_ne (by omega)
theorem pe_lzip {e : Expr} {es : List Expr} {t : TA} {p p2 pos pos2 : Pos} (hc : X.calm = true) (hg : Gl X (Str.ofString "list")) (hm : X.mg (Str.ofString "list") = none) (hg2 : Gl X (Str.ofString "zip")) (hm2 : X.mg (Str.ofString "zip") = none) (ha : PA X (e :: es) t)
    (he : starEach (e :: es) X.env = (false, eval e X.env) :: starEach es X.env) (hpl : (backTo pos2 (starEach es X.env)).any (·.1) = false) :
    PE X (.Call (.Name (Str.ofString "list") p) [.Call (.Name (Str.ofString "zip") p2) (e :: es) [] pos2] [] pos) (fun σ H Q => t σ H fun vs H1 => rLzip X.K vs H1 Q) := by
  refine ⟨fun pins s σ H Q I hq => ?_⟩
  have hs : starEach [.Call (.Name (Str.ofString "zip") p2) (e :: es) [] pos2] X.env = (false, eval (.Call (.Name (Str.ofString "zip") p2) (e :: es) [] pos2) X.env) :: starEach [] X.env := rfl
  refine wpAny_Call_Name_kw (ld_blt I hg hm boot_list' ?_)
  refine PyProof.Rows.callWith_type1 ?_ hs rfl
  rw [hs]
  show wpAny _ _ (spliced ((false, eval (.Call (.Name (Str.ofString "zip") p2) (e :: es) [] pos2) X.env) :: backTo pos (starEach [] X.env))) _ _ s
  refine Calls.spliced_cons ?_
  refine wpAny_Call_Name_kw (ld_blt I hg2 hm2 boot_zip' ?_)
  refine PyProof.Rows.callWith_type1 (thn (ha.run pos2 pins s σ H _ I hq) fun us s1 ⟨vs, H1, I1, r1, q1⟩ => ?_) he hpl
  obtain ⟨a, b, xs, ys, rfl, hx, hy, q⟩ := q1
  obtain ⟨its, rx, pl, hz1⟩ := I1.list hx
  obtain ⟨its2, ry, pl2, hz2⟩ := I1.list hy
  have e2 : us = [.ref a, .ref b] := by
    cases r1 with
    | cons q1 r => cases r with
      | cons q2 r => cases r; cases q1; cases q2; rfl
  subst e2
  have la : (a : Nat) < s1.heap.objs.size := by obtain ⟨_, e, _⟩ := pl.isList; exact Heap.lt_size e
  have lb : (b : Nat) < s1.heap.objs.size := by obtain ⟨_, e, _⟩ := pl2.isList; exact Heap.lt_size e
  refine call_zip_2 pl.isList pl2.isList fun h₁ z1 z2 z3 z4 z5 z6 hk1 => ?_
  refine Calls.spliced_nil ?_
  have st : ZSt h₁ (s1.heap.objs.size + 4) (s1.heap.objs.size + 2) (s1.heap.objs.size + 3) s1.heap.objs.size (s1.heap.objs.size + 1) a b its.toArray its2.toArray 0 := ⟨.inl z1, z2, ⟨_, _, z3⟩, z4, z5, pl.isList.at fun o e => hk1 _ o e, pl2.isList.at fun o e => hk1 _ o e⟩
  have hmin : min its.toArray.size its2.toArray.size ≤ sizeLine := by
    rw [List.size_toArray, ← rx.length]
    omega
  refine zl_call (s := { s1 with heap := h₁ }) (I1.ok.hd hc) (zip_apart la lb) z1 st hmin fun h' acc c as hk hS hl hG hacc => ?_
  dsimp only at hk hS hG ⊢
  have kk : ∀ b o, s1.heap.get? b = some o → h'.get? b = some o := fun b o e => by
    have lt : (b : Nat) < s1.heap.objs.size := Heap.lt_size e
    have up : ∀ k : Nat, (b : Nat) ≠ s1.heap.objs.size + k := fun k => lt_ne (Nat.lt_of_lt_of_le lt (Nat.le_add_right _ _))
    exact hk b o (up 4) (up 3) (lt_ne lt) (up 1) (hk1 b o e)
  obtain ⟨k1, k2, k3, k4, k5, J⟩ := pairs_laid (xs := xs) (ys := ys) (us := its) (ws := its2) (L := h₁.objs.size) (lo := h₁.objs.size + 1) I1 rx ry (by rw [hl]; exact hmin) kk (by rw [z6]; exact Nat.le_add_right _ _) (Nat.lt_succ_self _) hS (by simpa using hl) hG hacc
  exact ⟨.ref _, _, J, rfl, q _ as k1 k2 k3 k4 k5⟩
end
end MPS
end
section
set_option Elab.async false
set_option linter.all false
set_option maxRecDepth 100000
set_option maxHeartbeats 2000000
/-! MpX3: list(zip(a, b)) is sound. -/
namespace MPS
open PySem L2 MP
theorem Grow.trans {G H G1 H1 G2 H2 : Hp} (a : Grow G H G1 H1) (b : Grow G1 H1 G2 H2) : Grow G H G2 H2 where
  hh := a.hh.trans b.hh
  gg := a.gg.trans b.gg
  gh := b.gh
  new := fun x o e => by
    rcases b.new x o e with h | h
    · exact a.new x o h
    · exact .inr (a.hh.free h)
theorem grow_putP : ∀ (ts : List Addr) (zs : List (V × V)) (G H : Hp), Same G H → (∀ t ∈ ts, H t = none) → ts.Nodup → Grow G H (putP G ts zs) (putP H ts zs)
  | [], _, G, H, s, _, _ => Grow.refl s
  | _ :: _, [], G, H, s, _, _ => Grow.refl s
  | t :: ts, z :: zs, G, H, s, hf, nd => by
    have ht := hf t List.mem_cons_self
    have g1 := Grow.laid (o := .tup [z.1, z.2]) s ht
    have nd' := List.nodup_cons.mp nd
    exact g1.trans (grow_putP ts zs _ _ g1.gh (fun u hu => by rw [upd_ne (fun e => nd'.1 (by rw [← e]; exact hu))]; exact hf u (List.mem_cons_of_mem _ hu)) nd'.2)
theorem putP_comm {p : Addr} {o : HO} : ∀ (ts : List Addr) (zs : List (V × V)) (H : Hp), p ∉ ts → putP (upd H p o) ts zs = upd (putP H ts zs) p o
  | [], _, _, _ => rfl
  | _ :: _, [], _, _ => rfl
  | t :: ts, z :: zs, H, h => by
    have hn : t ≠ p := fun e => h (by rw [← e]; exact List.mem_cons_self)
    have e : upd (upd H p o) t (.tup [z.1, z.2]) = upd (upd H t (.tup [z.1, z.2])) p o := by
      funext a
      by_cases h1 : a = t
      · subst h1
        rw [upd_same, upd_ne hn, upd_same]
      · by_cases h2 : a = p
        · subst h2
          rw [upd_ne h1, upd_same, upd_same]
        · rw [upd_ne h1, upd_ne h2, upd_ne h2, upd_ne h1]
    show putP (upd (upd H p o) t (.tup [z.1, z.2])) ts zs = _
    rw [e]
    exact putP_comm ts zs _ fun z => h (List.mem_cons_of_mem _ z)
theorem rep_zip {w : Wd} {G G2 : Hp} (sg : Same G G2) : ∀ {vx vy : List V} {xs ys : List D} {ts : List Addr}, RepL w G vx xs → RepL w G vy ys → ts.length = (vx.zip vy).length → (∀ (j : Nat) (t : Addr) (p : V × V), ts[j]? = some t → (vx.zip vy)[j]? = some p → G2 t = some (.tup [p.1, p.2])) → RepL w G2 (ts.map V.ref) (zipL xs ys)
  | _, _, _, _, ts, .nil, r, hl, _ => by
    cases ts with
    | nil => exact .nil
    | cons _ _ => simp at hl
  | _, _, _, _, ts, .cons _ _, .nil, hl, _ => by
    cases ts with
    | nil => exact .nil
    | cons _ _ => simp at hl
  | v :: vx, u :: vy, x :: xs, y :: ys, ts, .cons a r, .cons b r', hl, h => by
    cases ts with
    | nil => simp at hl
    | cons t ts =>
      refine .cons (.tup (h 0 t (v, u) rfl rfl) (.cons (a.mono sg) (.cons (b.mono sg) .nil))) (rep_zip sg r r' (by simpa using hl) fun j t' p h1 h2 => h (j + 1) t' p (by simpa using h1) (by simpa using h2))
section
variable {R : Row} {Γ : Tab} {X : Cx} {c : Fc} {W : WX} {k : Nat} {x : Expr} {ρ ρ' : Rho} {G G' H H' : Hp} {τ : List (Addr × D)} {σ : L2.St} {Q : VK}
theorem lzip_ok {vs : List V} {ds : List D} (S : Stt c ρ G τ H σ) (r : RepL c.w G vs ds) (q : Post c W σ G τ Q (xLzip ρ ds)) : rLzip c.w.K vs H Q := by
  obtain ⟨xs, ys, rfl⟩ : ∃ xs ys, ds = [.lst xs, .lst ys] := by
    match ds, q with
    | [.lst xs, .lst ys], _ => exact ⟨xs, ys, rfl⟩
    | [], q => exact False.elim q
    | [d], q => cases d <;> exact False.elim q
    | d :: e :: f :: r, q => cases d <;> first | exact False.elim q | (cases e <;> exact False.elim q)
    | [d, e], q => cases d <;> first | exact False.elim q | (cases e <;> first | exact False.elim q | exact ⟨_, _, rfl⟩)
  cases r with
  | cons r1 r => cases r with
    | cons r2 r =>
      cases r
      cases r1 with
      | lst e1 rx =>
        cases r2 with
        | lst e2 ry =>
          rename_i a vx b vy
          refine ⟨a, b, vx, vy, rfl, .inl (.inl (S.gh _ _ e1)), .inl (.inl (S.gh _ _ e2)), fun p ts hp hts hn nd hl => ?_⟩
          have g := grow_putP ts (vx.zip vy) G H S.gh hts nd
          have S2 := S.grow g
          rw [putP_comm ts _ H hn]
          refine post_lst S2 (Post.mono g.gg q) (rep_zip g.gg rx ry hl fun j t z h1 h2 => putP_at ts _ G j t z nd h1 h2) ?_
          rw [putP_off ts _ H hn]
          exact hp
theorem snd_lzip {es : E} (hs : ∀ p : E, sizeOf p < sizeOf (E.xop .lzip es) → Snd R Γ p) : Snd R Γ (.xop .lzip es) := by
  refine snd_of (fun {X c W k x} g h => ?_) (fun _ _ => by simp [ck, ckX])
  cases x <;> first | (simp [ck, ckX] at h; done) | skip
  rename_i f args kws pos
  rcases args with _ | ⟨y, _ | ⟨y', args⟩⟩ <;> first | (simp [ck, ckX] at h; done) | skip
  cases y <;> first | (simp [ck, ckX] at h; done) | skip
  rename_i z xs kws2 pos2
  rcases kws with _ | ⟨kw, kws⟩ <;> first | (simp [ck, ckX] at h; done) | skip
  rcases kws2 with _ | ⟨kw, kws2⟩ <;> first | (simp [ck, ckX] at h; done) | skip
  rcases xs with _ | ⟨y, ys⟩ <;> first | (simp [ck, ckX] at h; done) | skip
  have h : (biB R.bi X.env.scope "list" f && biB R.bi X.env.scope "zip" z && noRef es && ck R es X.env.scope (.a (y :: ys))) = true := h
  rw [Bool.and_eq_true, Bool.and_eq_true, Bool.and_eq_true] at h
  obtain ⟨⟨⟨h1, h2⟩, h3⟩, h4⟩ := h
  obtain ⟨fpos, rfl, fg, fm⟩ := bi_of g.bi h1
  obtain ⟨spos, rfl, sg, sm⟩ := bi_of g.bi h2
  have hst := @ck_star R es X.env (y :: ys) h4
  have hy := hst.1 y ys rfl
  have hpl : (backTo pos2 (starEach ys X.env)).any (·.1) = false := by
    have := hst.2 pos2
    rw [star_cons hy] at this
    unfold backTo at this ⊢
    rw [List.map_cons, List.any_cons] at this
    simpa using this
  refine ⟨PE.imp (pe_lzip (pos := pos) (p := fpos) (p2 := spos) g.calm fg fm sg sm ((hs es (by simp)).a g h4) (star_cons hy) hpl) fun σ H Q q => ?_, fun _ => rfl⟩
  obtain ⟨ρ, G, τ, S, q⟩ := q
  simp only [den] at q
  refine ta_lst (f := fun ds ρ1 => xden Γ ρ1 .lzip ds) S h3 q fun ds ρ1 vs H' G' S' s r q => ?_
  rw [g.K]
  exact lzip_ok S' r q
end
end MPS
end
section
set_option Elab.async false
set_option linter.all false
set_option maxRecDepth 100000
set_option maxHeartbeats 2000000
/-! MpDb: every expression. -/
namespace MPS
open PySem L2 MP
section
variable {R : Row} {Γ : Tab} {X : Cx} {c : Fc} {W : WX} {k : Nat} {x : Expr} {ρ ρ' : Rho} {G G' H H' : Hp} {τ : List (Addr × D)} {σ : L2.St} {Q : VK} {J : It} {xs : List D}
theorem Gd.blk {s : Shared} {scope : Scope} {C : Addr} {cl : List (Str × Addr)} {fp : List Addr} (g : Gd R X Γ c k W) : Gd R (X.blk s H scope (compEnvC scope cl C X.env) fp) Γ c k W0 where
  calm := g.calm
  N := g.N
  nd := g.nd
  room := g.room
  K := g.K
  bi := g.bi
  gc := g.gc
  fns := g.fns
  tk := takes0
  cls := g.cls
  cln := g.cln
  clg := g.clg
  fng := g.fng
  fld := g.fld
  mks := g.mks
  eqs := g.eqs
theorem fold_ok {it : E} {sc : Scope} (h : ck R it sc (.i x) = true) (env : Env) (v : Value) : foldedSetIterable x env v = pure v := by
  have key : (∀ es k pos, x ≠ .Set es k pos) := fun es k pos z => by
    subst z
    by_cases hx : ∃ o q, it = .xop o q
    · obtain ⟨o, q, rfl⟩ := hx
      cases o <;> cases h
    cases it <;> first | exact absurd ⟨_, _, rfl⟩ hx | exact absurd rfl ((ck_shape (x := .Set es k pos) h).2.2 _ _ _) | (simp [ck] at h; done) | skip
    all_goals (rename_i d; cases d <;> simp [ck] at h)
  cases x <;> first | rfl | exact absurd rfl (key _ _ _)
theorem own_map (N : List Str) (vs : List Nat) : (vs.map fun i => (N.getD i (Str.ofString ""), i)).map (·.2) = vs := by
  rw [List.map_map]
  exact List.map_id _
/-- what a comprehension of one clause rests on -/
theorem lc_of {vs : List Nat} {tg : Tg} {it cond elt : E} {el t iter : Expr} {ifs : List Expr} {scope : Scope} {pos : Pos} (g : Gd R X Γ c k W) (hsub : ∀ p : E, sizeOf p < sizeOf (E.cmp1 vs tg it cond elt) → Snd R Γ p) (h : ck R (.cmp1 vs tg it cond elt) X.env.scope (.e (.ListComp el [⟨t, iter, ifs, 0⟩] scope pos)) = true) :
    PI X t iter (tI Γ c W it) ∧ BlkOk X.N X.env.scope scope (vs.map fun i => (R.N.getD i (Str.ofString ""), i)) ∧
    (∀ (s : Shared) (H : Hp) (C : Addr) (cl : List (Str × Addr)) (fp : List Addr), PG (X.blk s H scope (compEnvC scope cl C X.env) fp) t (tgG c.w.K tg)) ∧
    (∀ (s : Shared) (H : Hp) (C : Addr) (cl : List (Str × Addr)) (fp : List Addr), PTs (X.blk s H scope (compEnvC scope cl C X.env) fp) ifs (condT Γ c W0 cond)) ∧
    (∀ (s : Shared) (H : Hp) (C : Addr) (cl : List (Str × Addr)) (fp : List Addr), PE (X.blk s H scope (compEnvC scope cl C X.env) fp) el (tD Γ c W0 elt)) ∧
    (∀ x, foldedSetIterable iter X.env x = pure x) := by
  simp only [ck, ckCmp1, Bool.and_eq_true] at h
  obtain ⟨⟨⟨⟨⟨⟨h0, h1⟩, h2⟩, h3⟩, h4⟩, h5⟩, h6⟩ := h
  refine ⟨pi_of g (fun p hp => hsub p (by simp; omega)) h3 h1 h4 (by cases it <;> first | rfl | cases h0), by rw [g.N]; exact blkOk_by h2, fun s H C cl fp => ?_, fun s H C cl fp => ?_, fun s H C cl fp => ?_, fold_ok h3 X.env⟩
  · rw [← g.K]
    exact pg_of (R := R) (X := X.blk s H scope (compEnvC scope cl C X.env) fp) g.calm g.nd g.N (fun x hx => hx) h4
  · exact ifs_of (Gd.blk g) (hsub cond (by simp; omega)) h5
  · exact (hsub elt (by simp; omega)).e (Gd.blk g) h6
theorem lc2_of {vs vs1 : List Nat} {tg tg1 : Tg} {it it1 cond elt : E} {el t iter t1 iter1 : Expr} {ifs1 : List Expr} {scope : Scope} {pos : Pos} (g : Gd R X Γ c k W) (hsub : ∀ p : E, sizeOf p < sizeOf (E.cmp2 vs vs1 tg it tg1 it1 cond elt) → Snd R Γ p) (h : ck R (.cmp2 vs vs1 tg it tg1 it1 cond elt) X.env.scope (.e (.ListComp el [⟨t, iter, [], 0⟩, ⟨t1, iter1, ifs1, 0⟩] scope pos)) = true) :
    PI X t iter (tI Γ c W it) ∧ BlkOk X.N X.env.scope scope (vs.map fun i => (R.N.getD i (Str.ofString ""), i)) ∧ (∀ i ∈ vs1, i ∈ vs) ∧
    (∀ (s : Shared) (H : Hp) (C : Addr) (cl : List (Str × Addr)) (fp : List Addr), PG (X.blk s H scope (compEnvC scope cl C X.env) fp) t (tgG c.w.K tg)) ∧
    (∀ (s : Shared) (H : Hp) (C : Addr) (cl : List (Str × Addr)) (fp : List Addr), PI (X.blk s H scope (compEnvC scope cl C X.env) fp) t1 iter1 (tI Γ c W0 it1)) ∧
    (∀ (s : Shared) (H : Hp) (C : Addr) (cl : List (Str × Addr)) (fp : List Addr), PG (X.blk s H scope (compEnvC scope cl C X.env) fp) t1 (tgG c.w.K tg1)) ∧
    (∀ (s : Shared) (H : Hp) (C : Addr) (cl : List (Str × Addr)) (fp : List Addr), PTs (X.blk s H scope (compEnvC scope cl C X.env) fp) ifs1 (condT Γ c W0 cond)) ∧
    (∀ (s : Shared) (H : Hp) (C : Addr) (cl : List (Str × Addr)) (fp : List Addr), PE (X.blk s H scope (compEnvC scope cl C X.env) fp) el (tD Γ c W0 elt)) ∧
    (∀ x, foldedSetIterable iter X.env x = pure x) ∧ (∀ env x, foldedSetIterable iter1 env x = pure x) := by
  simp only [ck, ckCmp2, Bool.and_eq_true] at h
  obtain ⟨⟨⟨⟨⟨⟨⟨⟨⟨⟨⟨h0, h00⟩, h1⟩, h11⟩, h2⟩, hv⟩, h3⟩, h4⟩, h5⟩, h6⟩, h7⟩, h8⟩ := h
  refine ⟨pi_of g (fun p hp => hsub p (by simp; omega)) h3 h1 h4 (by cases it <;> first | rfl | cases h0), by rw [g.N]; exact blkOk_by h2, fun i hi => ?_, fun s H C cl fp => ?_, fun s H C cl fp => ?_, fun s H C cl fp => ?_, fun s H C cl fp => ?_, fun s H C cl fp => ?_, fold_ok h3 X.env, fun env v => fold_ok h5 env v⟩
  · have := List.all_eq_true.mp hv i hi
    simpa using this
  · rw [← g.K]
    exact pg_of (R := R) (X := X.blk s H scope (compEnvC scope cl C X.env) fp) g.calm g.nd g.N (fun x hx => hx) h4
  · exact pi_of (Gd.blk g) (fun p hp => hsub p (by simp; omega)) h5 h11 h6 (by cases it1 <;> first | rfl | cases h00)
  · rw [← g.K]
    exact pg_of (R := R) (X := X.blk s H scope (compEnvC scope cl C X.env) fp) g.calm g.nd g.N (fun x hx => hx) h6
  · exact ifs_of (Gd.blk g) (hsub cond (by simp; omega)) h7
  · exact (hsub elt (by simp; omega)).e (Gd.blk g) h8
theorem cmp1_shape {vs : List Nat} {tg : Tg} {it cond elt : E} {sc : Scope} (h : ck R (.cmp1 vs tg it cond elt) sc (.e x) = true) : ∃ el t iter ifs scope pos, x = .ListComp el [⟨t, iter, ifs, 0⟩] scope pos := by
  unfold ck ckCmp1 at h
  split at h
  · rename_i e
    injection e with e
    exact ⟨_, _, _, _, _, _, e⟩
  · cases h
theorem cmp2_shape {vs vs1 : List Nat} {tg tg1 : Tg} {it it1 cond elt : E} {sc : Scope} (h : ck R (.cmp2 vs vs1 tg it tg1 it1 cond elt) sc (.e x) = true) : ∃ el t iter t1 iter1 ifs1 scope pos, x = .ListComp el [⟨t, iter, [], 0⟩, ⟨t1, iter1, ifs1, 0⟩] scope pos := by
  unfold ck ckCmp2 at h
  split at h
  · rename_i e
    injection e with e
    exact ⟨_, _, _, _, _, _, _, _, e⟩
  · cases h
theorem snd_cmp1 {vs : List Nat} {tg : Tg} {it cond elt : E} (hsub : ∀ p : E, sizeOf p < sizeOf (E.cmp1 vs tg it cond elt) → Snd R Γ p) : Snd R Γ (.cmp1 vs tg it cond elt) := by
  refine snd_of (fun {X c W k x} g h => ?_) (fun sc xs => by simp [ck])
  · obtain ⟨el, t, iter, ifs, scope, pos, rfl⟩ := cmp1_shape h
    obtain ⟨h1, h2, h3, h4, h5, h6⟩ := lc_of g hsub h
    refine ⟨PE.imp (pe_lc g.calm g.nd h1 h2 h3 h4 h5 h6) fun σ H Q q => ?_, fun _ => rfl⟩
    rw [own_map]
    exact lc_imp q
theorem snd_cmp2 {vs vs1 : List Nat} {tg tg1 : Tg} {it it1 cond elt : E} (hsub : ∀ p : E, sizeOf p < sizeOf (E.cmp2 vs vs1 tg it tg1 it1 cond elt) → Snd R Γ p) : Snd R Γ (.cmp2 vs vs1 tg it tg1 it1 cond elt) := by
  refine snd_of (fun {X c W k x} g h => ?_) (fun sc xs => by simp [ck])
  · obtain ⟨el, t, iter, t1, iter1, ifs1, scope, pos, rfl⟩ := cmp2_shape h
    obtain ⟨h1, h2, hv, h3, h4, h5, h6, h7, h8, h9⟩ := lc2_of g hsub h
    refine ⟨PE.imp (pe_lc2 (vs1 := vs1) g.calm g.nd h1 h2 (by rw [own_map]; exact hv) h3 (fun _ _ _ _ _ => pts_nil) h4 h5 h6 h7 h8 h9) fun σ H Q q => ?_, fun _ => rfl⟩
    rw [own_map]
    exact lc2_imp q
/-- every expression keeps what it means -/
theorem snd (R : Row) (Γ : Tab) : ∀ p : E, Snd R Γ p := by
  have key : ∀ (n : Nat) (p : E), sizeOf p < n → Snd R Γ p := by
    intro n
    induction n with
    | zero => exact fun p h => absurd h (Nat.not_lt_zero _)
    | succ n ih =>
      intro p hp
      have sub : ∀ q : E, sizeOf q < sizeOf p → Snd R Γ q := fun q hq => ih q (by omega)
      have no : (∀ sc x, ck R p sc (.e x) = false) → (∀ sc xs, ck R p sc (.a xs) = false) → Snd R Γ p := fun h1 h2 => by
        refine ⟨?_, ?_, ?_⟩
        · intro X c W k x g h'
          rw [h1] at h'
          cases h'
        · intro X c W k x g h'
          rw [h1] at h'
          cases h'
        · intro X c W k x g h'
          rw [h2] at h'
          cases h'
      cases p with
      | var i => exact snd_var i
      | ref i => exact snd_ref i
      | cst d => exact snd_cst d
      | glb n d => exact snd_glb n d
      | nil => exact snd_nil
      | cons e es => exact snd_cons (sub _ (by simp; omega)) (sub _ (by simp; omega))
      | tup es => exact snd_tup (sub _ (by simp; done))
      | lst es => exact snd_lst (sub _ (by simp; done))
      | bin op a b => exact snd_bin (sub _ (by simp; omega)) (sub _ (by simp; omega))
      | neg a => exact snd_neg (sub _ (by simp; done))
      | cmp op a b => exact snd_cmp (sub _ (by simp; omega)) (sub _ (by simp; omega))
      | chn o p a b d => exact snd_chn (sub _ (by simp; omega)) (sub _ (by simp; omega)) (sub _ (by simp; omega))
      | and a b => exact snd_and (sub _ (by simp; omega)) (sub _ (by simp; omega))
      | or a b => exact snd_or (sub _ (by simp; omega)) (sub _ (by simp; omega))
      | not a => exact snd_not (sub _ (by simp; done))
      | ite z a b => exact snd_ite (sub _ (by simp; omega)) (sub _ (by simp; omega)) (sub _ (by simp; omega))
      | isi a t => exact snd_isi (sub _ (by simp; omega))
      | call f es => exact snd_call (sub _ (by simp; omega))
      | prm1 p a => exact snd_prm1 (sub _ (by simp; omega))
      | prm2 p a b => exact snd_prm2 (sub _ (by simp; omega)) (sub _ (by simp; omega))
      | ix a b => exact snd_ix (sub _ (by simp; omega)) (sub _ (by simp; omega))
      | slc a lo hi => exact snd_slc (sub _ (by simp; omega)) (sub _ (by simp; omega)) (sub _ (by simp; omega))
      | rev a => exact snd_rev (sub _ (by simp; done))
      | att a f => exact snd_att (sub _ (by simp; omega))
      | itr a => exact no (fun _ _ => rfl) fun _ _ => rfl
      | rng1 a => exact no (fun _ _ => rfl) fun _ _ => rfl
      | rng2 a b => exact no (fun _ _ => rfl) fun _ _ => rfl
      | enm a => exact no (fun _ _ => rfl) fun _ _ => rfl
      | zip a b => exact no (fun _ _ => rfl) fun _ _ => rfl
      | cmp1 vs tg it cond elt => exact snd_cmp1 sub
      | cmp2 vs vs1 tg it tg1 it1 cond1 elt => exact snd_cmp2 sub
      | pop i k => exact no (fun _ _ => rfl) fun _ _ => rfl
      | xop o es =>
        cases o with
        | new n ks plan => exact snd_new sub
        | eqo n => exact snd_eqo sub
        | lzip => exact snd_lzip sub
        | lenSet => exact snd_lenSet sub
  exact fun p => key _ p (Nat.lt_succ_self _)
end
end MPS
end
section
set_option Elab.async false
set_option linter.all false
set_option maxRecDepth 100000
set_option maxHeartbeats 2000000
/-! MpE1: statements: the state behind them. -/
namespace MPS
open PySem L2 MP
section
variable {R : Row} {Γ : Tab} {X : Cx} {c : Fc} {W : WX} {k : Nat} {x : Expr} {ρ ρ' : Rho} {G G' H H' : Hp} {τ : List (Addr × D)} {σ : L2.St} {Q : VK} {D' : Ends}
theorem free_io {i : Nat} (h : free ρ i = true) : ∃ y, ρ[i]? = some y ∧ ∀ d, y ≠ .io d := by
  unfold free at h
  cases e : ρ[i]? with
  | none =>
    rw [e] at h
    cases h
  | some y =>
    refine ⟨y, rfl, fun d z => ?_⟩
    subst z
    rw [e] at h
    cases h
/-- a thing just made is given a slot -/
theorem Stt.adopt {p : Addr} {d : D} {i : Nat} (S : Stt c ρ G (τ ++ [(p, d)]) H σ) (hi : free ρ i = true) : Stt c (ρ.set i (.own d)) G τ H (σ.set i (some (.ref p))) := by
  obtain ⟨y, hy, ny⟩ := free_io hi
  have hi1 : i < ρ.length := lt_of_get hy
  have hs : i < σ.length := by rw [← S.len]; exact hi1
  have mu : ∀ e, Mu (ρ.set i (.own d)) i e → e = d := fun e q => by
    unfold Mu at q
    rw [set_self hy] at q
    rcases q with q | q | q <;> cases q
    rfl
  have dn : ∀ k q e, At (ρ.set i (.own d)) τ (σ.set i (some (.ref p))) k q e → (k = .inl i ∧ q = p ∧ e = d) ∨ (k ≠ .inl i ∧ At ρ τ σ k q e) := fun k q e a => by
    cases k with
    | inr j => exact .inr ⟨(by intro z; cases z), a⟩
    | inl j =>
      by_cases hj : i = j
      · subst hj
        obtain ⟨a1, a2⟩ := a
        rw [List.getElem?_set_self hs] at a2
        cases a2
        exact .inl ⟨rfl, rfl, mu e a1⟩
      · obtain ⟨a1, a2⟩ := a
        rw [List.getElem?_set_ne hj] at a2
        exact .inr ⟨(by intro z; cases z; exact hj rfl), (mu_set_ne hj).mp a1, a2⟩
  have nl : ∀ k q e, At ρ τ σ k q e → k ≠ .inr τ.length := fun k q e a z => by
    subst z
    have a : τ[τ.length]? = some (q, e) := a
    simp at a
  exact {
    gh := S.gh
    g0 := S.g0
    keep := S.keep
    gnew := S.gnew
    iop := fun q hq => by
      obtain ⟨e1, e2, e, e3⟩ := S.iop q hq
      have hne : i ≠ q.1 := fun z => by
        rw [← z, hy] at e3
        exact ny e (Option.some.inj e3)
      exact ⟨e1, by rw [List.getElem?_set_ne hne]; exact e2, e, by rw [List.getElem?_set_ne hne]; exact e3⟩
    len := by rw [List.length_set, List.length_set]; exact S.len
    vals := fun j e q => by
      by_cases hj : i = j
      · subst hj
        rw [set_self hy] at q
        cases q
      · rw [List.getElem?_set_ne hj] at q ⊢
        exact S.vals j e q
    muts := fun j e q => by
      by_cases hj : i = j
      · subst hj
        exact ⟨p, by rw [List.getElem?_set_self hs]⟩
      · rw [List.getElem?_set_ne hj]
        exact S.muts j e ((mu_set_ne hj).mp q)
    at_ := fun k q e a => by
      rcases dn k q e a with ⟨_, rfl, rfl⟩ | ⟨_, a⟩
      · exact S.at_ _ _ _ at_last
      · exact S.at_ k q e (at_old a)
    own := fun j e q a b => by
      by_cases hj : i = j
      · subst hj
        rw [List.getElem?_set_self hs] at b
        cases b
        exact S.tmp (p, d) (by simp)
      · rw [List.getElem?_set_ne hj] at a b
        exact S.own j e q a b
    tmp := fun q hq => S.tmp q (List.mem_append_left _ hq)
    iom := fun j e a => by
      by_cases hj : i = j
      · subst hj
        rw [set_self hy] at a
        cases a
      · rw [List.getElem?_set_ne hj] at a
        exact S.iom j e a
    inj := fun k k' q e e' a b => by
      rcases dn k q e a with ⟨ka, pa, _⟩ | ⟨_, a⟩
      · rcases dn k' q e' b with ⟨kb, _, _⟩ | ⟨_, b⟩
        · rw [ka, kb]
        · rw [pa] at b
          exact absurd (S.inj _ _ _ _ _ (at_old b) at_last) (nl _ _ _ b)
      · rcases dn k' q e' b with ⟨kb, pb, _⟩ | ⟨_, b⟩
        · rw [pb] at a
          exact absurd (S.inj _ _ _ _ _ (at_old a) at_last) (nl _ _ _ a)
        · exact S.inj k k' q e e' (at_old a) (at_old b) }
/-- a slot is let go, its thing handed on -/
theorem Stt.release {p : Addr} {d : D} {i : Nat} (S : Stt c ρ G τ H σ) (h : ρ[i]? = some (.own d)) (hp : σ[i]? = some (some (.ref p))) : Stt c (ρ.set i .un) G (τ ++ [(p, d)]) H σ := by
  have nmu : ∀ e, ¬ Mu (ρ.set i .un) i e := fun e q => by
    unfold Mu at q
    rw [set_self h] at q
    rcases q with q | q | q <;> cases q
  have dn : ∀ k q e, At (ρ.set i .un) (τ ++ [(p, d)]) σ k q e → (k = .inr τ.length ∧ q = p ∧ e = d) ∨ (k ≠ .inl i ∧ At ρ τ σ k q e) := fun k q e a => by
    rcases at_push a with a | a
    · cases k with
      | inr j => exact .inr ⟨(by intro z; cases z), a⟩
      | inl j =>
        by_cases hj : i = j
        · subst hj
          exact absurd a.1 (nmu e)
        · exact .inr ⟨(by intro z; cases z; exact hj rfl), (mu_set_ne hj).mp a.1, a.2⟩
    · exact .inl a
  have hA : At ρ τ σ (.inl i) p d := ⟨.inl h, hp⟩
  exact {
    gh := S.gh
    g0 := S.g0
    keep := S.keep
    gnew := S.gnew
    iop := fun q hq => by
      obtain ⟨e1, e2, e, e3⟩ := S.iop q hq
      have hne : i ≠ q.1 := fun z => by
        rw [← z, h] at e3
        cases e3
      exact ⟨e1, e2, e, by rw [List.getElem?_set_ne hne]; exact e3⟩
    len := by rw [List.length_set]; exact S.len
    vals := fun j e q => by
      by_cases hj : i = j
      · subst hj
        rw [set_self h] at q
        cases q
      · rw [List.getElem?_set_ne hj] at q
        exact S.vals j e q
    muts := fun j e q => by
      by_cases hj : i = j
      · subst hj
        exact absurd q (nmu e)
      · exact S.muts j e ((mu_set_ne hj).mp q)
    at_ := fun k q e a => by
      rcases dn k q e a with ⟨_, rfl, rfl⟩ | ⟨_, a⟩
      · exact S.at_ _ _ _ hA
      · exact S.at_ k q e a
    own := fun j e q a b => by
      by_cases hj : i = j
      · subst hj
        exact absurd (by rcases a with a | a; exact .inl a; exact .inr (.inl a)) (nmu e)
      · rw [List.getElem?_set_ne hj] at a
        exact S.own j e q a b
    tmp := fun q hq => by
      rcases List.mem_append.mp hq with z | z
      · exact S.tmp q z
      · rcases List.mem_singleton.mp z with rfl
        exact S.own i d p (.inl h) hp
    iom := fun j e a => by
      by_cases hj : i = j
      · subst hj
        rw [set_self h] at a
        cases a
      · rw [List.getElem?_set_ne hj] at a
        exact S.iom j e a
    inj := fun k k' q e e' a b => by
      rcases dn k q e a with ⟨ka, pa, _⟩ | ⟨na, a⟩
      · rcases dn k' q e' b with ⟨kb, _, _⟩ | ⟨nb, b⟩
        · rw [ka, kb]
        · rw [pa] at b
          exact absurd (S.inj _ _ _ _ _ b hA) nb
      · rcases dn k' q e' b with ⟨kb, pb, _⟩ | ⟨nb, b⟩
        · rw [pb] at a
          exact absurd (S.inj _ _ _ _ _ a hA) na
        · exact S.inj k k' q e e' a b }
/-- what may be changed is changed -/
theorem Stt.put {i : Nat} {d d' : D} {p : Addr} {o' : HO} (S : Stt c ρ G τ H σ) (h : ioAt ρ i = some d) (hp : σ[i]? = some (some (.ref p))) (r : RepO c.w G o' d') : Stt c (ioPut ρ i d') G τ (upd H p o') σ := by
  unfold ioAt at h
  unfold ioPut
  split at h
  · rename_i e
    exact S.turn e (.own _ _) hp r
  · rename_i e
    exact S.turn e (.io _ _) hp r
  · cases h
/-- what may be changed, as it stands -/
theorem Stt.mutable {i : Nat} {d : D} (S : Stt c ρ G τ H σ) (h : ioAt ρ i = some d) : ∃ p o, σ[i]? = some (some (.ref p)) ∧ H p = some o ∧ RepO c.w G o d := by
  have m : Mu ρ i d := by
    unfold ioAt at h
    unfold Mu
    split at h
    · rename_i e
      cases h
      exact .inl e
    · rename_i e
      cases h
      exact .inr (.inr e)
    · cases h
  obtain ⟨p, hp⟩ := S.muts i d m
  obtain ⟨_, o, e, r⟩ := S.at_ (.inl i) p d ⟨m, hp⟩
  exact ⟨p, o, hp, e, r⟩
theorem Stt.lstAt {i : Nat} {xs : List D} (S : Stt c ρ G τ H σ) (h : mutL ρ i = some xs) : ioAt ρ i = some (.lst xs) ∧ ∃ p vs, σ[i]? = some (some (.ref p)) ∧ H p = some (.lst vs) ∧ RepL c.w G vs xs := by
  unfold mutL at h
  split at h
  · rename_i e
    cases h
    obtain ⟨p, o, h1, h2, r⟩ := S.mutable e
    cases r with
    | lst r => exact ⟨e, p, _, h1, h2, r⟩
  · cases h

/-! ### what is wanted behind a statement -/
def PostS (c : Fc) (W : WX) (D' : Ends) (G : Hp) : Fl → Prop
  | .next ρ => ∀ σ H G', Stt c ρ G' [] H σ → Same G G' → D'.nx σ H
  | .brk ρ => ∀ σ H G', Stt c ρ G' [] H σ → Same G G' → D'.bk σ H
  | .cnt ρ => ∀ σ H G', Stt c ρ G' [] H σ → Same G G' → D'.ct σ H
  | .ret (.val d) ρ => ∀ σ H G' v, Stt c ρ G' [] H σ → Same G G' → Rep c.w G' v d → D'.rt v H
  | .ret (.own d) ρ => ∀ σ H G' p, Stt c ρ G' [(p, d)] H σ → Same G G' → D'.rt (.ref p) H
  | .ex e ρ => ∀ σ H G', Stt c ρ G' [] H σ → Same G G' → W (.ref (c.w.κ e)) none σ H
  | .bad => False
theorem PostS.mono {f : Fl} (s : Same G G') (h : PostS c W D' G f) : PostS c W D' G' f := by
  cases f with
  | next ρ => exact fun σ H G2 S s2 => h σ H G2 S (s.trans s2)
  | brk ρ => exact fun σ H G2 S s2 => h σ H G2 S (s.trans s2)
  | cnt ρ => exact fun σ H G2 S s2 => h σ H G2 S (s.trans s2)
  | ret cv ρ =>
    cases cv with
    | val d => exact fun σ H G2 v S s2 r => h σ H G2 v S (s.trans s2) r
    | own d => exact fun σ H G2 p S s2 => h σ H G2 p S (s.trans s2)
  | ex e ρ => exact fun σ H G2 S s2 => h σ H G2 S (s.trans s2)
  | bad => exact h
def tS (Γ : Tab) (c : Fc) (W : WX) (s : S) : TS := fun D' σ H => ∃ ρ G, Stt c ρ G [] H σ ∧ PostS c W D' G (denS Γ s ρ)
theorem PSs.imp {sts : List Stmt} {t t' : TS} (h : PSs X sts t) (i : ∀ D' σ H, t' D' σ H → t D' σ H) : PSs X sts t' := ⟨fun pins s σ H D' I q => h.run pins s σ H D' I (i _ _ _ q)⟩
theorem PS.imp {st : Stmt} {t t' : TS} (h : PS X st t) (i : ∀ D' σ H, t' D' σ H → t D' σ H) : PS X st t' := ⟨fun pins s σ H D' I q => h.run pins s σ H D' I (i _ _ _ q)⟩
/-- a value first: what is made is kept -/
theorem fl_val {a : E} {f : D → Rho → Fl} {K1 : VK} (S : Stt c ρ G [] H σ) (q : PostS c W D' G ((MP.val (den Γ a) ρ).fl f))
    (hv : ∀ d ρ1 v H1 G1, Stt c ρ1 G1 [] H1 σ → Same G G1 → Rep c.w G1 v d → PostS c W D' G1 (f d ρ1) → K1 v H1) : tD Γ c W a σ H K1 := by
  refine td_val S ?_
  cases e : MP.val (den Γ a) ρ with
  | ok d ρ1 =>
    rw [e] at q
    exact fun H1 G1 S1 s1 v r => hv d ρ1 v H1 G1 S1 s1 r (PostS.mono s1 q)
  | ex z ρ1 =>
    rw [e] at q
    exact fun H1 G1 S1 s1 => q σ H1 G1 S1 s1
  | bad =>
    rw [e] at q
    exact q
/-- a test first -/
theorem fl_test {a : E} {f : D → Rho → Fl} {K1 : Bool → Hp → Prop} (S : Stt c ρ G [] H σ) (q : PostS c W D' G ((MP.val (den Γ a) ρ).fl f)) (hf : ∀ d ρ1, (∀ b, d ≠ .bl b) → f d ρ1 = .bad)
    (hv : ∀ b ρ1 H1 G1, Stt c ρ1 G1 [] H1 σ → Same G G1 → PostS c W D' G1 (f (.bl b) ρ1) → K1 b H1) : tT Γ c W a σ H K1 := by
  refine ⟨ρ, G, [], S, ?_⟩
  cases e : MP.val (den Γ a) ρ with
  | ok d ρ1 =>
    rw [e] at q
    intro H1 G1 S1 s1
    have q : PostS c W D' G (f d ρ1) := q
    by_cases hd : ∃ b, d = .bl b
    · obtain ⟨b, rfl⟩ := hd
      exact ⟨b, rfl, hv b ρ1 H1 G1 S1 s1 (PostS.mono s1 q)⟩
    · rw [hf d ρ1 fun b z => hd ⟨b, z⟩] at q
      exact False.elim q
  | ex z ρ1 =>
    rw [e] at q
    exact fun H1 G1 S1 s1 => q σ H1 G1 S1 s1
  | bad =>
    rw [e] at q
    exact q
/-- whatever the expression hands back -/
theorem fl_cv {a : E} {f : CV → Rho → Fl} {K1 : VK} (S : Stt c ρ G [] H σ) (q : PostS c W D' G ((den Γ a ρ).fl f))
    (hv : ∀ d ρ1 v H1 G1, Stt c ρ1 G1 [] H1 σ → Rep c.w G1 v d → PostS c W D' G1 (f (.val d) ρ1) → K1 v H1) (ho : ∀ d ρ1 p H1 G1, Stt c ρ1 G1 [(p, d)] H1 σ → PostS c W D' G1 (f (.own d) ρ1) → K1 (.ref p) H1) : tD Γ c W a σ H K1 := by
  refine ⟨ρ, G, [], S, ?_⟩
  cases e : den Γ a ρ with
  | ok cv ρ1 =>
    rw [e] at q
    cases cv with
    | val d => exact fun v H1 G1 S1 s1 r => hv d ρ1 v H1 G1 S1 r (PostS.mono s1 q)
    | own d => exact fun p H1 G1 S1 s1 => ho d ρ1 p H1 G1 S1 (PostS.mono s1 q)
  | ex z ρ1 =>
    rw [e] at q
    exact fun H1 G1 S1 s1 => q σ H1 G1 S1 s1
  | bad =>
    rw [e] at q
    exact q

/-! ### a list's item by place -/
def rGetL : V → V → Hp → VK → Prop := fun o i H Q => ∃ p xs k v, o = .ref p ∧ i = .int k ∧ H p = some (.lst xs) ∧ atI xs k = some v ∧ Q v H
theorem get_list : PGet X rGetL := by
  intro pins s σ H o i ov iv Q I ro ri h
  obtain ⟨p, xs, k, z, rfl, rfl, hp, he, q⟩ := h
  cases ro
  obtain ⟨t, rfl⟩ := ri
  obtain ⟨its, r, pl, hz⟩ := I.list (.inl (.inl hp))
  obtain ⟨j, h1, h2, h3, h4, h5⟩ := atI_get he
  obtain ⟨w, ew, rw'⟩ := r.get h2
  have hl := r.length
  have hn := line63
  have fin : EP X pins σ Q w s := ⟨z, H, I, rw', q⟩
  by_cases h0 : 0 ≤ k
  · have hj : k.toNat = j := by
      rw [seqIndex_of h0 h5] at h1
      exact Option.some.inj h1
    exact PySem.wpAny_getItem_list pl.isList h0 (by omega) (by rw [hj]; simpa using ew) fin
  · have hj : (k + (its.toArray.size : Int)).toNat = j := by
      rw [seqIndex_neg (by omega) h4] at h1
      rw [List.size_toArray, ← hl]
      exact Option.some.inj h1
    exact PySem.wpAny_getItem_list_neg pl.isList (by omega) (by rw [List.size_toArray] <;> omega) (by omega) (by rw [hj]; simpa using ew) fin
end
end MPS
end
section
set_option Elab.async false
set_option linter.all false
set_option maxRecDepth 100000
set_option maxHeartbeats 2000000
/-! MpE0: extend by a list or a tuple. -/
namespace MPS
open PySem L2 MP
section
open PySem.AutoSeq1
theorem ext_tupW (l b : Addr) (xs ys : Array Value) (n m : Nat) (dd : Option Addr) (sl : Array (Option Value)) (h0 : ¬(!xs.isEmpty && Builtin.List.listTooLong (xs.size + ys.size)) = true) (h1 : xs.size ≤ sizeLine) (h2 : xs.size + ys.size ≤ sizeLine + 1) :
    Meets (Builtin.«list.extend» ⟨[.ref l, .ref b], []⟩) (fun _ R s => s.heap.get? l = some { cls := .type "list", dict := none, data := .seq xs n, slots := #[] } ∧ s.heap.get? b = some { cls := .type "tuple", dict := dd, data := .seq ys m, slots := sl } ∧
      R (.ok (.ret Value.none)) { s with heap := s.heap.update l (Obj.mapSeq fun x => x ++ ys), toks := s.toks }) :=
  .of_wp fun prog w A R s h => by
    obtain ⟨hp, g, d, tk, os⟩ := s
    obtain ⟨k1, k2, h⟩ := h
    have f1 := idx_int
    have f2 := sub_tuple_tuple
    have f3 := sub_list_list
    have f4 := sub_tuple_list
    have f5 := sub_list_tuple
    have hz : (xs ++ ys).size ≤ sizeLine + 1 := by rw [Array.size_append]; exact h2
    wp_walk using (wpAny_updateSeq k1 rfl (hz := h1) (_hz' := hz)), AutoSeq1.wpAny_loadPart' k1, AutoSeq1.wpAny_loadPart' k2
    exact ⟨_, rfl, h⟩
end
section
variable {X : Cx}
def rExtT : V → List V → Hp → VK → Prop := fun x vs H Q => ∃ l b xs zs, x = .ref l ∧ vs = [.ref b] ∧ H l = some (.lst xs) ∧ H b = some (.tup zs) ∧ xs.length + zs.length ≤ sizeLine ∧ Q .non (upd H l (.lst (xs ++ zs)))
theorem mt_extT : MtM X "list.extend" rExtT := by
  intro pins s σ H x vs v us Q I rx rv h
  obtain ⟨l, b, xs, zs, rfl, rfl, hH, hB, hz, q⟩ := h
  cases rx
  obtain ⟨u, rfl, ru⟩ := rv.one
  cases ru
  obtain ⟨z, its, n, r, hl, e⟩ := I.lstM hH
  obtain ⟨its2, r2, ⟨o2, e2, ec, m, ed⟩, hl2⟩ := I.tuple (.inl (.inl hB))
  obtain ⟨oc, od, oda, osl⟩ := o2
  simp only at ec ed
  subst ec ed
  have hn1 := r.length
  have hn2 := r2.length
  have hs : its.toArray.size + its2.toArray.size ≤ sizeLine := by
    simp only [List.size_toArray]
    omega
  have hlo : ¬ (!its.toArray.isEmpty && Builtin.List.listTooLong (its.toArray.size + its2.toArray.size)) = true := by
    rw [notLongL hs, Bool.and_false]
    simp
  refine call_meets F.slot_list_extend ⟨_, e, rfl⟩ F.entry_list_extend (F.args_list_extend_2 _ _) (ext_tupW l b its.toArray its2.toArray n m od osl hlo (by simp only [List.size_toArray]; omega) (by omega)) ⟨e, e2, ?_⟩
  exact ⟨.non, _, I.lset (its' := its ++ its2) hH e (by simp) (r.append r2) (by simp only [List.length_append]; omega), rfl, q⟩
def rExt2 : V → List V → Hp → VK → Prop := fun x vs H Q => rExtend x vs H Q ∨ rExtT x vs H Q
theorem mt_ext2 : MtM X "list.extend" rExt2 := fun pins s σ H x vs v us Q I rx rv h => by
  rcases h with h | h
  · exact mt_extend pins s σ H x vs v us Q I rx rv h
  · exact mt_extT pins s σ H x vs v us Q I rx rv h
end
def nmT (N : List Str) (sc : Scope) (i : Nat) (e : Expr) : Bool := nmB N sc (fun _ => true) i e
section
variable {R : Row}
theorem nm_of {i : Nat} {t : Expr} {sc : Scope} (h : nmT R.N sc i t = true) : ∃ y pos, t = .Name y pos ∧ R.N[i]? = some y ∧ Loc sc y := by
  unfold nmT nmB at h
  rw [Bool.and_eq_true] at h
  obtain ⟨y, pos, rfl, h1, h2, h3, h4⟩ := name_of h.1
  refine ⟨y, pos, rfl, h1, ?_⟩
  have h := h.2
  simp only at h
  split at h
  · rename_i e
    exact .inl e
  · rename_i e
    exact .inr e
  · cases h
end
end MPS
end
section
set_option Elab.async false
set_option linter.all false
set_option maxRecDepth 100000
set_option maxHeartbeats 2000000
/-! MpR: l.remove(x), items data of any depth. -/
namespace MPS
open PySem PySem.Spec PyProof.Rows L2 MP
section
variable {X : Cx}
/-- l.remove(x): the first equal one goes -/
def rRemD (K : PySem.W.Frag) : V → List V → Hp → VK → Prop := fun x xs H Q => ∃ (a : Addr) (y : V) (d : PyData) (vs : List V) (ds : List PyData) (j : Nat) (z : PyData), x = V.ref a ∧ xs = [y] ∧ H a = some (.lst vs) ∧ DpAll K H vs ds ∧ Dp K H y d ∧
  SeqAt.shaped (.list ds) = true ∧ SeqAt.shaped d = true ∧ ds[j]? = some z ∧ PyData.eqv z d = true ∧ (∀ (m : Nat) (z' : PyData), m < j → ds[m]? = some z' → PyData.eqv z' d = false) ∧ Q .non (upd H a (.lst (vs.eraseIdx j)))
theorem mt_remD (hu : X.A.units + 65 < cLine) : MtR X "list.remove" (rRemD X.K) := by
  intro pins s σ H x xs v us Q I rx rxs h
  obtain ⟨a, y, d, vs, ds, j, z, rfl, rfl, hH, ha, hy, sl, sd, hz, hzj, hno, q⟩ := h
  cases rx
  obtain ⟨uy, rfl, ry⟩ := rxs.one
  obtain ⟨bs, r1⟩ := Dp.reads I d y uy hy ry
  have hxs : PyData.canLayAll0 ds = true := SeqAt.canLay_of_shaped sl
  have hroom : X.A.units + 1 + min (PyData.depthAll ds) d.depth < cLine := room_in_shaped sd hu
  obtain ⟨hzz, its, n, rv, hl, e0⟩ := I.lstM hH
  obtain ⟨as, h4⟩ := Dp.readsAll I ds _ its ha rv
  have hn : its.length = ds.length := SeqAt.ReadsAll.length ds its as h4
  have hmap : its.map (SeqAt.readOf s.heap) = ds := SeqAt.readsAll_map ds its as hxs h4
  have hjd := (List.getElem?_eq_some_iff.mp hz).1
  have hjl : j < its.length := by omega
  have hj : j < its.toArray.size := by simpa using hjl
  have at_ : ∀ (m : Nat) (hm : m < its.toArray.size) (z' : PyData), ds[m]? = some z' → SeqAt.readOf s.heap its.toArray[m] = z' := by
    intro m hm z' hz'
    have hml : m < its.length := by simpa using hm
    rw [← hmap, List.getElem?_map, List.getElem?_eq_getElem hml] at hz'
    simpa using hz'
  refine call_meets PySem.F.slot_list_remove ⟨_, e0, rfl⟩ PySem.F.entry_list_remove (PySem.F.args_list_remove_2 _ _)
    (SeqAt.list_removeAt a its.toArray n none #[] uy (fun u => PyData.eqv (SeqAt.readOf s.heap u) d) j hj ?_ ?_ (by rw [List.size_toArray, ← hl]; exact hzz)) ⟨e0, SeqAt.items_eqAt (vs := its.toArray) (show ReadsAll s.heap its.toArray.toList ds as from h4) r1 hxs (SeqAt.canLay_of_shaped sd) hroom, ?_⟩
  · show PyData.eqv (SeqAt.readOf s.heap its.toArray[j]) d = true
    rw [at_ j hj z hz]
    exact hzj
  · intro m hm hmj
    have hmd : m < ds.length := by omega
    show PyData.eqv (SeqAt.readOf s.heap its.toArray[m]) d = false
    rw [at_ m hm _ (List.getElem?_eq_getElem hmd)]
    exact hno m _ hmj (List.getElem?_eq_getElem hmd)
  · refine ⟨.non, _, I.lset (its' := its.eraseIdx j) hH e0 ?_ (rv.eraseIdx j) ?_, rfl, q⟩
    · show its.toArray.eraseIdxIfInBounds j = (its.eraseIdx j).toArray
      rw [List.eraseIdxIfInBounds_toArray]
    · have := List.length_eraseIdx_le vs j
      omega
end
end MPS
end
section
set_option Elab.async false
set_option linter.all false
set_option maxRecDepth 100000
set_option maxHeartbeats 2000000
/-! MpW: which refusal an error is (_law_which), within an except suite. -/
namespace MPS
open PySem L2 MP
section
variable {X : Cx} {p : Addr × Obj} {D0 : Addr}
/-- isinstance of the pinned error -/
theorem call_isP (e : ExcC X.K D0) (h1 : p.2.cls = .ref D0) (h2 : p.2.dict = none) (h3 : ∃ vs, p.2.data = .fields vs) (hp : p ∈ X.pn) : CallR X (.builtin "isinstance") (rIsE X.K D0 p.1) := by
  intro pins s σ H xs us Q J rs q
  obtain ⟨c, cv, b, rfl, k1, k2, q⟩ := q
  cases rs with
  | cons ra rs =>
    cases rs with
    | cons rb rs =>
      cases rs
      cases ra
      have ez := k1 _ rb
      subst ez
      obtain ⟨a, oe⟩ := p
      have hg := (J.pin (a, oe) (List.mem_append.mpr (.inl hp))).1
      obtain ⟨zs, hz⟩ := h3
      have at_ : PySem.W.InstAt s.heap a oe D0 none := by
        obtain ⟨o1, o2, o3, o4⟩ := oe
        simp only at h1 h2 hz
        subst h1 h2 hz
        exact ⟨hg, rfl, rfl, trivial⟩
      exact PySem.W.kia_one (PySem.W.handS_kitx_exc e.hg e.hk e.hs e.hd e.ha e.hn e.ht e.hm) J.kIn at_ k2 (fun z => nomatch z) fun tk => ⟨.bl b, H, J.kept (t' := tk) fun _ _ z => z, rfl, q⟩
/-- list.count of flat items -/
def rCnt (K : PySem.W.Frag) : V → List V → Hp → VK → Prop := fun x xs H Q => ∃ (a : Addr) (ys : List V) (y : V), x = V.ref a ∧ xs = [y] ∧ SqL K H a ys ∧ flatV y = true ∧ ys.all flatV = true ∧ Q (.int ((ys.countP fun z => eqV z y : Nat) : Int)) H
theorem cnt_vals {y : V} : ∀ {ys : List V} {us : List Value}, Vals ys us → ys.all flatV = true → us.countP (eqU y) = ys.countP fun z => eqV z y
  | _, _, .nil, _ => rfl
  | z :: zs, u :: us, .cons r t, f => by
    rw [List.all_cons, Bool.and_eq_true] at f
    rw [List.countP_cons, List.countP_cons, cnt_vals t f.2, eqU_of r f.1]
theorem mt_cnt : MtR X "list.count" (rCnt X.K) := by
  intro pins s σ H x xs v us Q J rx rxs q
  obtain ⟨a, ys, y, rfl, rfl, hs, fy, fys, q⟩ := q
  cases rx
  obtain ⟨u, rfl, ru⟩ := rxs.one
  obtain ⟨its, rv, ⟨⟨o1, o2, o3, o4⟩, n, ho, k1, k2, k3⟩, hl⟩ := J.list hs
  simp only at k1 k3
  subst k1 k3
  refine call_meets PySem.F.slot_list_count ⟨_, ho, rfl⟩ PySem.F.entry_list_count (PySem.F.args_list_count_2 _ _) (SeqAt.list_countAt a its.toArray n o2 o4 u (eqU y)) ⟨ho, fun z hz => mem_eqAt ru fy rv fys z (by simpa using hz), ?_⟩
  have e : its.toArray.toList.countP (eqU y) = ys.countP fun z => eqV z y := cnt_vals rv fys
  refine ⟨.int ((ys.countP fun z => eqV z y : Nat) : Int), H, J.tok _, ⟨s.toks, ?_⟩, q⟩
  rw [← e]
end
/-! ### the text of _law_which -/
def refRow1 : List String := ["NoFilm", "NoFrame", "NoDot", "NoSpot"]
def refRow2 : List String := ["NoRules", "NoTracks", "NoPrices"]
def refRow3 : List String := ["NoWay"]
def refRow4 : List String := ["NoMoment", "TooMany", "Full"]
def refRow5 : List String := ["Taken"]
def isiB (bi : List String) (N : List Str) (sc : Scope) (n : String) : Expr → Bool
  | .Call f [x, y] [] _ => biB bi sc "isinstance" f && nameB N sc 0 x && clsB sc n y
  | _ => false
def isiRow (bi : List String) (N : List Str) (sc : Scope) : List String → List Expr → Bool
  | [], [] => true
  | n :: ns, x :: xs => isiB bi N sc n x && isiRow bi N sc ns xs
  | _, _ => false
def extB (bi : List String) (N : List Str) (sc : Scope) (ns : List String) : Stmt → Bool
  | .Expr (.Call (.Attribute o f q) [.List xs _] [] r) _ => decide (f = Str.ofString "extend") && nameB N sc 1 o && isiRow bi N sc ns xs && (q.endLine == r.line)
  | _ => false
def bmB (N : List Str) (sc : Scope) (m : String) : Expr → Bool
  | .Call (.Attribute o f q) [.Constant (.bool true) _ _] [] r => decide (f = Str.ofString m) && nameB N sc 1 o && (q.endLine == r.line)
  | _ => false
def valB (bi : List String) (N : List Str) (sc : Scope) : Expr → Bool
  | .Call f [x, y] [] _ => biB bi sc "isinstance" f && nameB N sc 0 x && biB bi sc "ValueError" y
  | _ => false
def testB (bi : List String) (N : List Str) (sc : Scope) : Stmt → Bool
  | .If (.BoolOp .Or [.Compare a [.NotEq] [.Constant (.int 1) _ _] _, .UnaryOp .Not b _] _) _ [] _ => bmB N sc "count" a && valB bi N sc b
  | _ => false
def endB (N : List Str) (sc : Scope) : Stmt → Bool
  | .Return (some (.Tuple [.Constant (.str z) _ _, a] _ _)) _ => decide (z = Str.ofString "refused") && bmB N sc "index" a
  | _ => false
def whichB (bi : List String) (N : List Str) (sc : Scope) : List Stmt → Bool
  | [.Assign [y] (.List xs _) _, s2, s3, s4, s5, s6, s7] => nmT N sc 1 y && isiRow bi N sc refRow1 xs && extB bi N sc refRow2 s2 && extB bi N sc refRow3 s3 && extB bi N sc refRow4 s4 && extB bi N sc refRow5 s5 && testB bi N sc s6 && endB N sc s7
  | _ => false
/-- what the context of _law_which says: the pinned error is of the class of z -/
structure Wc (X : Cx) (bi : List String) (κ : String → Addr) (p : Addr × Obj) (z : String) : Prop where
  len : X.N.length = 2
  nd : X.N.Nodup
  fn : ∀ x, X.fn x = true
  bi : ∀ x ∈ bi, X.mg (Str.ofString x) = none
  mem : p ∈ X.pn
  ex : ExcC X.K (κ z)
  c1 : p.2.cls = .ref (κ z)
  c2 : p.2.dict = none
  c3 : ∃ vs, p.2.data = .fields vs
  cls : ∀ n ∈ refusals, X.mg (Str.ofString n) = some (.ref (κ n)) ∧ PySem.W.kitOne X.K (.ref (κ z)) (.ref (κ n)) = some (n == z)
  vl : PySem.W.kitOne X.K (.ref (κ z)) (.type "ValueError") = some true
section
variable {X : Cx} {bi : List String} {κ : String → Addr} {p : Addr × Obj} {z : String}
theorem pe_isi (w : Wc X bi κ p z) {n : String} (hn : n ∈ refusals) {x : Expr} (h : isiB bi X.N X.env.scope n x = true) : (∀ e q, x ≠ .Starred e q) ∧ PE X x (fun σ H Q => σ[0]? = some (some (.ref p.1)) ∧ Q (.bl (n == z)) H) := by
  unfold isiB at h
  split at h
  · rename_i f a b pos
    simp only [Bool.and_eq_true] at h
    obtain ⟨⟨h1, h2⟩, h3⟩ := h
    obtain ⟨fp, rfl, hg, hm⟩ := bi_of w.bi h1
    obtain ⟨y, py, rfl, g1, g2, g3, g4⟩ := name_of h2
    cases b <;> first | (cases h3; done) | skip
    rename_i b0 pb
    simp only [clsB, Bool.and_eq_true, decide_eq_true_eq] at h3
    obtain ⟨⟨rfl, h4⟩, h5⟩ := h3
    simp only [okName, Bool.and_eq_true, Bool.not_eq_true'] at h5
    refine ⟨(fun _ _ e => by cases e), PE.imp (pe_callB (call_isP w.ex w.c1 w.c2 w.c3 w.mem) hg hm boot_isi (pa_cons (pe_var g1 g2 g3 g4) (pa_cons (pe_glob (v := .ref (κ n)) (gl_of h4) (w.cls n hn).1 rfl h5.1.1) pa_nil rfl) rfl) (by decide) (by decide) rfl rfl) fun σ H Q q => ?_⟩
    exact ⟨.ref p.1, q.1, _, .ref (κ n), n == z, rfl, fun u r => by cases r; rfl, (w.cls n hn).2, q.2⟩
  · cases h
theorem pa_row (w : Wc X bi κ p z) : ∀ {ns : List String} {xs : List Expr}, (∀ n ∈ ns, n ∈ refusals) → isiRow bi X.N X.env.scope ns xs = true → PA X xs (fun σ H Q => σ[0]? = some (some (.ref p.1)) ∧ Q (ns.map fun n => V.bl (n == z)) H)
  | [], [], _, _ => PA.imp pa_nil fun σ H Q q => q.2
  | n :: ns, x :: xs, hn, h => by
    simp only [isiRow, Bool.and_eq_true] at h
    obtain ⟨ns1, pe⟩ := pe_isi w (hn n (List.mem_cons_self ..)) h.1
    exact PA.imp (pa_cons pe (pa_row w (fun m hm => hn m (List.mem_cons_of_mem _ hm)) h.2) (star_cons ns1)) fun σ H Q q => ⟨q.1, q.1, q.2⟩
  | [], _ :: _, _, h => by cases h
  | _ :: _, [], _, h => by cases h
/-- the truths of isinstance, in the order of the refusals -/
def tru (z : String) (ns : List String) : List V := ns.map fun n => V.bl (n == z)
theorem ps_extW (w : Wc X bi κ p z) {ns : List String} {st : Stmt} (hn : ∀ n ∈ ns, n ∈ refusals) (hl : ns.length ≤ 100) (h : extB bi X.N X.env.scope ns st = true) :
    PS X st (fun D' σ H => ∃ o vs, σ[0]? = some (some (.ref p.1)) ∧ σ[1]? = some (some (.ref o)) ∧ H o = some (.lst vs) ∧ vs.length ≤ 100 ∧ ∀ q, H q = none → D'.nx σ (upd (upd H q (.lst (tru z ns))) o (.lst (vs ++ tru z ns)))) := by
  unfold extB at h
  split at h
  · rename_i o f q xs pl r sp
    simp only [Bool.and_eq_true, decide_eq_true_eq] at h
    obtain ⟨⟨⟨rfl, h1⟩, h2⟩, h3⟩ := h
    obtain ⟨y, py, rfl, g1, g2, g3, g4⟩ := name_of h1
    refine PS.imp (ps_expr (pe_bm PySem.F.plainAttrs_list PySem.F.slot_list_extend PySem.F.type_list_extend mt_extend (pe_var g1 g2 g3 g4) (pa_cons (pe_lst (pa_row w hn h2)) pa_nil rfl) rfl rfl h3 rfl rfl) rfl) fun D' σ H q => ?_
    obtain ⟨o, vs, k0, k1, k2, k3, k4⟩ := q
    have sm : ∀ n : Nat, n ≤ 1000 → n ≤ sizeLine := fun n hn => Nat.le_of_lt (small1000 hn)
    have tl : (tru z ns).length = ns.length := List.length_map ..
    refine ⟨.ref o, k1, .inl ⟨rfl, _, .inl (.inl k2)⟩, k0, sm _ (by show (tru z ns).length ≤ 1000; omega), fun a na => ?_⟩
    have no : o ≠ a := ne_of_none k2 na
    exact ⟨o, a, vs, tru z ns, rfl, rfl, by rw [upd_ne no]; exact k2, upd_same, sm _ (by omega), k4 a na⟩
  · cases h
theorem count_tru {z : String} (h : z ∈ refusals) : ((tru z refusals).countP fun v => eqV v (.bl true)) = 1 := by
  simp only [refusals, List.mem_cons, List.not_mem_nil, or_false] at h
  rcases h with rfl | rfl | rfl | rfl | rfl | rfl | rfl | rfl | rfl | rfl | rfl | rfl <;> decide +kernel
theorem flat_tru (z : String) (ns : List String) : (tru z ns).all flatV = true := by
  unfold tru
  rw [List.all_map, List.all_eq_true]
  intro n _
  rfl
theorem index_tru {z : String} {k : Nat} (h : refusals.findIdx? (· == z) = some k) : (tru z refusals)[k]? = some (.bl true) ∧ ∀ (m : Nat) (v : V), m < k → (tru z refusals)[m]? = some v → eqV v (.bl true) = false := by
  rw [List.findIdx?_eq_some_iff_getElem] at h
  obtain ⟨hk, h1, h2⟩ := h
  unfold tru
  refine ⟨?_, fun m v hm hv => ?_⟩
  · rw [List.getElem?_map, List.getElem?_eq_getElem hk]
    simp only [Option.map_some, h1]
  · rw [List.getElem?_map, List.getElem?_eq_getElem (by omega)] at hv
    simp only [Option.map_some, Option.some.injEq] at hv
    subst hv
    have := h2 m hm
    simp only [eqV]
    cases e : (refusals[m] == z) with
    | true => rw [e] at this; exact absurd rfl this
    | false => rfl
theorem pe_val (w : Wc X bi κ p z) {x : Expr} (h : valB bi X.N X.env.scope x = true) : PE X x (fun σ H Q => σ[0]? = some (some (.ref p.1)) ∧ Q (.bl true) H) ∧ ∀ whole, isTrue x X.env whole = (do let v ← whole; standAt x.pos; holding [v] (truthy v)) := by
  unfold valB at h
  split at h
  · rename_i f a b pos
    simp only [Bool.and_eq_true] at h
    obtain ⟨⟨h1, h2⟩, h3⟩ := h
    obtain ⟨fp, rfl, hg, hm⟩ := bi_of w.bi h1
    obtain ⟨y, py, rfl, g1, g2, g3, g4⟩ := name_of h2
    obtain ⟨vp, rfl, vg, vm⟩ := bi_of w.bi h3
    refine ⟨PE.imp (pe_callB (call_isP w.ex w.c1 w.c2 w.c3 w.mem) hg hm boot_isi (pa_cons (pe_var g1 g2 g3 g4) (pa_cons (pe_bltn (v := .ty "ValueError") vg vm (by decide +kernel) rfl) pa_nil rfl) rfl) (by decide) (by decide) rfl rfl) fun σ H Q q => ?_, fun _ => rfl⟩
    exact ⟨.ref p.1, q.1, _, .type "ValueError", true, rfl, fun u r => r, w.vl, q.2⟩
  · cases h
theorem pe_bmW {m id : String} {r : V → List V → Hp → VK → Prop} {x : Expr} (slot : Slot "list" (Str.ofString m) id) (hty : typeOf (.builtin id) = pure (.type "method_descriptor")) (hm : MtR X id r) (h : bmB X.N X.env.scope m x = true) :
    (∀ e q, x ≠ .Starred e q) ∧ PE X x (fun σ H Q => ∃ o vs, σ[1]? = some (some (.ref o)) ∧ H o = some (.lst vs) ∧ r (.ref o) [.bl true] H Q) := by
  unfold bmB at h
  split at h
  · rename_i o f q j cp r' 
    simp only [Bool.and_eq_true, decide_eq_true_eq] at h
    obtain ⟨⟨rfl, h1⟩, h3⟩ := h
    obtain ⟨y, py, rfl, g1, g2, g3, g4⟩ := name_of h1
    refine ⟨(fun _ _ e => by cases e), PE.imp (pe_bm PySem.F.plainAttrs_list slot hty hm (pe_var g1 g2 g3 g4) (pa_cons pe_bl pa_nil rfl) rfl rfl h3 rfl rfl) fun σ H Q q => ?_⟩
    obtain ⟨o, vs, k1, k2, k3⟩ := q
    exact ⟨.ref o, k1, .inl ⟨rfl, _, .inl (.inl k2)⟩, k3⟩
  · cases h
theorem pss_none (sts : List Stmt) : PSs X sts (fun _ _ _ => False) := ⟨fun _ _ _ _ _ _ q => False.elim q⟩
theorem which_body (w : Wc X bi κ p z) {body : List Stmt} {k : Nat} (hk : refusals.findIdx? (· == z) = some k) (h : whichB bi X.N X.env.scope body = true) :
    ∃ t, PSs X body t ∧ ∀ (Q : VK) (nx : L2.St → Hp → Prop) (H : Hp), (∀ a H', Same H H' → H a = none → H' a = some (.tup [.str (Str.ofString "refused"), .int (k : Nat)]) → Q (.ref a) H') → t { nx := nx, rt := Q } [some (.ref p.1), none] H := by
  unfold whichB at h
  split at h
  · rename_i y xs lp ap s2 s3 s4 s5 s6 s7
    simp only [Bool.and_eq_true] at h
    obtain ⟨⟨⟨⟨⟨⟨⟨h1, h2⟩, h3⟩, h4⟩, h5⟩, h6⟩, h7⟩, h8⟩ := h
    have hz : z ∈ refusals := by
      rw [List.findIdx?_eq_some_iff_getElem] at hk
      obtain ⟨hk, e, _⟩ := hk
      rw [← (by simpa using e : refusals[k] = z)]
      exact List.getElem_mem hk
    obtain ⟨yn, py, rfl, g1, g2⟩ := nm_of (R := { N := X.N, bi := [], gc := [], cls := [], fns := [] }) h1
    -- the test
    have T : ∃ t, PS X s6 t ∧ ∀ (D' : Ends) (σ : L2.St) (H : Hp) (o : Addr), σ[0]? = some (some (.ref p.1)) → σ[1]? = some (some (.ref o)) → H o = some (.lst (tru z refusals)) → D'.nx σ H → t D' σ H := by
      unfold testB at h7
      split at h7
      · rename_i a j1 cp1 cp2 b bp1 bp2 body2 ip
        simp only [Bool.and_eq_true] at h7
        obtain ⟨ns1, pe1⟩ := pe_bmW PySem.F.slot_list_count PySem.F.type_list_count mt_cnt h7.1
        obtain ⟨pe2, tr2⟩ := pe_val w h7.2
        refine ⟨_, ps_if (pw_or (pt_cmpR op_ne pe1 pe_int rfl) (pw_or1 (pt_not (pt_val pe2 tr2)))).pt (pss_none body2) pss_nil, ?_⟩
        intro D' σ H o e0 e1 eH q
        refine ⟨o, _, e1, eH, o, _, .bl true, rfl, rfl, .inl (.inl eH), rfl, flat_tru z refusals, ?_⟩
        rw [count_tru hz]
        refine ⟨rfl, _, rfl, ?_⟩
        rw [show (!decide (V.int ((1 : Nat) : Int) = V.int 1)) = false by simp]
        exact L2.iteF ⟨e0, true, rfl, L2.iteF q⟩
      · cases h7
    obtain ⟨t6, T6, R6⟩ := T
    -- the end
    have T : ∃ t, PS X s7 t ∧ ∀ (D' : Ends) (σ : L2.St) (H : Hp) (o : Addr), σ[1]? = some (some (.ref o)) → H o = some (.lst (tru z refusals)) → (∀ a, H a = none → D'.rt (.ref a) (upd H a (.tup [.str (Str.ofString "refused"), .int (k : Nat)]))) → t D' σ H := by
      unfold endB at h8
      split at h8
      · rename_i zz j1 cp1 a kk tp rp
        simp only [Bool.and_eq_true, decide_eq_true_eq] at h8
        obtain ⟨rfl, h9⟩ := h8
        obtain ⟨ns1, pe1⟩ := pe_bmW PySem.F.slot_list_index PySem.F.type_list_index mt_index h9
        refine ⟨_, ps_ret (pe_tup (pa_cons pe_str (pa_cons pe1 pa_nil (star_cons ns1)) rfl)), ?_⟩
        intro D' σ H o e1 eH q
        obtain ⟨i1, i2⟩ := index_tru hk
        exact ⟨o, _, e1, eH, o, _, .bl true, k, .bl true, rfl, rfl, .inl (.inl eH), rfl, flat_tru z refusals, i1, rfl, i2, Nat.le_of_lt (small1000 (by show 2 ≤ 1000; omega)), q⟩
      · cases h8
    obtain ⟨t7, T7, R7⟩ := T
    have m1 : ∀ n ∈ refRow1, n ∈ refusals := by decide
    have m2 : ∀ n ∈ refRow2, n ∈ refusals := by decide
    have m3 : ∀ n ∈ refRow3, n ∈ refusals := by decide
    have m4 : ∀ n ∈ refRow4, n ∈ refusals := by decide
    have m5 : ∀ n ∈ refRow5, n ∈ refusals := by decide
    refine ⟨_, pss_cons (ps_set (i := 1) w.nd g1 g2 (pe_lst (pa_row w m1 h2)) rfl (.inl (w.fn _))) (pss_cons (ps_extW w m2 (by decide) h3) (pss_cons (ps_extW w m3 (by decide) h4) (pss_cons (ps_extW w m4 (by decide) h5) (pss_cons (ps_extW w m5 (by decide) h6) (pss_cons T6 (pss_one T7)))))), fun Q nx H q => ?_⟩
    have put : ∀ {H1 : Hp} {a : Addr} {o : HO}, Same H H1 → H a = none → Same H (upd H1 a o) := fun {H1 a o} sm na b x e => by
      rw [upd_ne (ne_of_none e na)]
      exact sm b x e
    have gone : ∀ {H1 : Hp} {a : Addr}, Same H H1 → H1 a = none → H a = none := fun {H1 a} sm na => by
      cases e : H a with
      | none => rfl
      | some x => rw [sm a x e] at na; cases na
    refine ⟨rfl, Nat.le_of_lt (small1000 (by show 4 ≤ 1000; omega)), fun o no => ?_⟩
    have s1 := put (o := .lst (tru z refRow1)) (Same.refl H) no
    refine ⟨o, tru z refRow1, rfl, rfl, upd_same, by show 4 ≤ 100; omega, fun a2 n2 => ?_⟩
    have s2 := put (o := .lst (tru z refRow1 ++ tru z refRow2)) (put (o := .lst (tru z refRow2)) s1 (gone s1 n2)) no
    refine ⟨o, _, rfl, rfl, upd_same, by show 7 ≤ 100; omega, fun a3 n3 => ?_⟩
    have s3 := put (o := .lst (tru z refRow1 ++ tru z refRow2 ++ tru z refRow3)) (put (o := .lst (tru z refRow3)) s2 (gone s2 n3)) no
    refine ⟨o, _, rfl, rfl, upd_same, by show 8 ≤ 100; omega, fun a4 n4 => ?_⟩
    have s4 := put (o := .lst (tru z refRow1 ++ tru z refRow2 ++ tru z refRow3 ++ tru z refRow4)) (put (o := .lst (tru z refRow4)) s3 (gone s3 n4)) no
    refine ⟨o, _, rfl, rfl, upd_same, by show 11 ≤ 100; omega, fun a5 n5 => ?_⟩
    have s5 := put (o := .lst (tru z refRow1 ++ tru z refRow2 ++ tru z refRow3 ++ tru z refRow4 ++ tru z refRow5)) (put (o := .lst (tru z refRow5)) s4 (gone s4 n5)) no
    refine R6 _ _ _ o rfl rfl upd_same ?_
    refine R7 _ _ _ o rfl upd_same fun a na => ?_
    exact q a _ (put s5 (gone s5 na)) (gone s5 na) upd_same
  · cases h
end
/-! ### the call of _law_which -/
/-- what is known of the def _law_which -/
structure WhF (K : PySem.W.Frag) (mg : Str → Option Value) (bi : List String) (κ : String → Addr) (nm : Str) (f : Addr) : Prop where
  ex : ∃ (st : Stmt) (dat : FuncData) (N : List Str) (ps : List Str), L2.Fun K nm nm st f dat ∧ FnScope N ps (defScope st) ∧ N.length = 2 ∧ ps.length = 1 ∧ Binds K dat ps [] ∧ whichB bi N (defScope st) (defBody st) = true
  gl : mg nm = some (.ref f)
  bl : ∀ x ∈ bi, mg (Str.ofString x) = none
  cls : ∀ n ∈ refusals, mg (Str.ofString n) = some (.ref (κ n))
  xc : ∀ n ∈ refusals, ExcC K (κ n) ∧ PySem.W.kitOne K (.ref (κ n)) (.type "ValueError") = some true ∧ ∀ m ∈ refusals, PySem.W.kitOne K (.ref (κ n)) (.ref (κ m)) = some (m == n)
section
variable {P : Program} {w : World} {K : PySem.W.Frag} {mg : Str → Option Value} {base : Heap} {bi : List String} {κ : String → Addr} {nm : Str} {f : Addr}
theorem which_run (F : WhF K mg bi κ nm f) {A : Around} {outer : List Env} {s : Shared} {H : Hp} {p : Addr × Obj} {Q : VK} {z : String} {k : Nat} (hr : L2H.RoomH 1 A) (hp : L2H.PinOk outer H s p) (e0 : Env0 P w K mg base A outer s H)
    (hk : refusals.findIdx? (· == z) = some k) (hz : z ∈ refusals) (c1 : p.2.cls = .ref (κ z)) (c2 : p.2.dict = none) (c3 : ∃ vs, p.2.data = .fields vs) (q : ∀ a H', Same H H' → H a = none → H' a = some (.tup [.str (Str.ofString "refused"), .int (k : Nat)]) → Q (.ref a) H') :
    codeAny (model P w) A (.call (.ref f) ⟨[.ref p.1], []⟩) (CR (L2.CX P w) outer P w H s Q (fun _ _ _ => False)) s := by
  obtain ⟨st, dat, N, ps, Fu, S, hN, hps, hb, hw⟩ := F.ex
  obtain ⟨oc, od, kV, doc, pm, an, cdv, ct, osl, rfl, lk, hcd⟩ := Fu.ex
  have KX : K.In s.heap := e0.mod.kin.keeps fun b o e => (e0.bs b o e).1
  have nl : s.heap.NoLimit := e0.mod.nolimit.keeps fun b o e => (e0.bs b o e).1
  have kinds : ∀ y ∈ ps.zip [Value.ref p.1], (defScope st).names.lookup y.1 = some .local ∨ ((defScope st).names.lookup y.1 = some .cell ∧ ((cellsFrom (s.heap.objs.size + 1) (defScope st).names []).lookup y.1).isSome = true) := fun ⟨n, v⟩ hy => by
    rcases S.par n (List.of_mem_zip hy).1 with e | e
    · exact .inl e
    · exact .inr ⟨e, PySem.W.cellsFrom_some _ _ _ (.inl e)⟩
  have bt : BindsTo s (PySem.W.fnOf nm nm (defArgs st) (defBody st) (defScope st) .none kV doc pm an cdv ct) ⟨[.ref p.1], []⟩ (ps.zip [Value.ref p.1]) := by
    have := hb s [.ref p.1] KX (by simp [hps])
    rwa [List.append_nil] at this
  refine codeAny_call_function hr.depth (KX _ _ lk) rfl S.co S.gen rfl (PySem.W.codeRec_of KX hcd) (bt _ _ _ _ (wpAny_newFunctionEnv_cells S.kind kinds fun env he s1 x => ?_))
  subst he
  refine ⟨nl.keeps x.toInCall.keep, codeAny_func ?_⟩
  have J := L2H.inv_startH (CX := L2.CX P w) (P := P) (w := w) (mg := mg) (base := base) (E := fun _ _ _ => False) (vs := [.ref p.1]) S hp e0 (by simp [hps]) (.cons rfl .nil) x
  have xc := F.xc z hz
  have W0 : Wc (L2H.cxH (L2.CX P w) P w K mg base N nm (defScope st) f cdv A outer s H (fun _ _ _ => False) p) bi κ p z :=
    { len := hN, nd := S.nd, fn := fun _ => rfl, bi := F.bl, mem := List.mem_singleton.mpr rfl, ex := xc.1, c1 := c1, c2 := c2, c3 := c3, cls := fun n hn => ⟨F.cls n hn, xc.2.2 n hn⟩, vl := xc.2.1 }
  obtain ⟨t, T, R⟩ := which_body W0 hk (body := defBody st) hw
  have hs : L2.start N [V.ref p.1] = [some (.ref p.1), none] := by
    unfold L2.start
    rw [hN]
    rfl
  have rd := R Q (fun _ H' => Q .non H') H q
  rw [← hs] at rd
  refine wpAny_mono (T.run [] s1 (L2.start N [.ref p.1]) H _ J rd) (fun fl s' hfl => ?_) fun e s' he => he
  have done_ : ∀ {σ' : L2.St} {H' : Hp} {v : V} {u : Value}, Inv (L2H.cxH (L2.CX P w) P w K mg base N nm (defScope st) f cdv A outer s H (fun _ _ _ => False) p) [] σ' H' s' → RelV v u → Q v H' → CE outer P w H s Q u s' := fun {σ' H' v u} I rv qv => ⟨v, H', I.os, I.bare, I.base, I.hok, rv, qv⟩
  cases fl with
  | ret u =>
    obtain ⟨v, σ', H', I, rv, qv⟩ := hfl
    exact done_ I rv qv
  | next =>
    obtain ⟨σ', H', I, qv⟩ := hfl
    exact done_ (v := V.non) (u := Value.none) I rfl qv
  | brk =>
    obtain ⟨_, _, _, qv⟩ := hfl
    exact False.elim qv
  | cont =>
    obtain ⟨_, _, _, qv⟩ := hfl
    exact False.elim qv
end
/-- _law_which(e) in the suite -/
theorem pe_which {X : Cx} {a : Addr} {oe : Obj} {pn : List (Addr × Obj)} {bi : List String} {κ : String → Addr} {nm en : Str} {f : Addr} {z : String} {k i : Nat} {pf pe pos : Pos} (F : WhF X.K X.mg bi κ nm f) (hr : L2H.RoomH 1 X.A) (hg : Gl X nm) (hnd : (nm == ("__debug__" : Str)) = false) (hkp : PySem.W.keepIn X.K (.ref f) = true)
    (he : PE (X.suite a ((a, oe) :: pn)) (.Name en pe) (tVar i)) (hk : refusals.findIdx? (· == z) = some k) (hz : z ∈ refusals) (c1 : oe.cls = .ref (κ z)) (c2 : oe.dict = none) (c3 : ∃ vs, oe.data = .fields vs) :
    PE (X.suite a ((a, oe) :: pn)) (.Call (.Name nm pf) [.Name en pe] [] pos) (fun σ H Q => σ[i]? = some (some (.ref a)) ∧ ∀ b H', Same H H' → H b = none → H' b = some (.tup [.str (Str.ofString "refused"), .int (k : Nat)]) → Q (.ref b) H') := by
  refine ⟨fun pins s σ H Q J h => ?_⟩
  refine wpAny_Call_Name_kw (ld_glob J hg F.gl (PySem.W.callWith_K (h₀ := X.base) J.ok.mod.kin hkp (thn ((pa_cons he pa_nil).run pos pins s σ H (fun vs H1 => vs = [.ref a] ∧ H1 = H) J ⟨.ref a, h.1, rfl, rfl⟩) fun us s1 hh => ?_)) hnd)
  obtain ⟨vs, H1, J1, rv, ev, eH⟩ := hh
  subst ev eH
  refine ⟨J1.kIn, ?_⟩
  cases rv with
  | cons ra rn =>
    cases rn
    cases ra
    have P1 := J1.pin (a, oe) (List.mem_append_left _ (List.mem_cons_self ..))
    have hpin : L2H.PinOk X.stack H1 s1 (a, oe) := ⟨P1.1, P1.2.1, fun hm => (List.mem_cons.mp (J1.stkSub a hm)).elim P1.2.2.1 P1.2.2.2.1, P1.2.2.2.2⟩
    refine wpAny_call (codeAny_mono (which_run (P := X.prog) (w := X.w) (base := X.base) (outer := X.stack) F (p := (a, oe)) (Q := Q) ⟨hr.dp, hr.un⟩ hpin J1.env0 hk hz c1 c2 c3 h.2) fun r s' hq => ?_)
    cases r with
    | error e =>
      obtain ⟨_, _, _, _, _, _, _, _, _, _, _, _, zz⟩ := hq
      exact zz.elim
    | ok fl =>
      cases fl with
      | ret u => exact J1.after hq
      | next => exact False.elim hq
      | brk => exact False.elim hq
      | cont => exact False.elim hq
/-- what a row with tries says -/
structure Tw (K : PySem.W.Frag) (mg : Str → Option Value) (κ : String → Addr) : Prop where
  wh : ∃ f bi, WhF K mg bi κ (Str.ofString "_law_which") f ∧ PySem.W.keepIn K (.ref f) = true
  dot : mg (Str.ofString "DotError") = some (.ref (κ "DotError"))
  exm : ∀ n ∈ refusals, PySem.W.exmOne K (.ref (κ n)) (.ref (κ "DotError")) = some true
end MPS
end
section
set_option Elab.async false
set_option linter.all false
set_option maxRecDepth 100000
set_option maxHeartbeats 2000000
/-! MpE2: when a Python statement is an MP text; its reading. -/
namespace MPS
open PySem L2 MP
inductive SynS where
  | s (st : Stmt)
  | b (sts : List Stmt)
abbrev CkS := Scope → SynS → Bool
def compB : Expr → Bool
  | .ListComp .. => true
  | .SetComp .. => true
  | .DictComp .. => true
  | _ => false
def tupB : Expr → Bool
  | .Tuple .. => true
  | _ => false
def locB (sc : Scope) : Expr → Bool
  | .Name x _ => decide (sc.names.lookup x = some .local)
  | _ => false
/-- a, b = x, y: stored from the right -/
def swA (sc : Scope) (x y a b : Expr) : Bool := locB sc x && locB sc y && decide (x.pos.line = y.pos.line) && !(foldedForSure 8 a && foldedForSure 8 b) && !(constantsAlone 8 a && constantsAlone 8 b)
/-- .. or by a tuple -/
def swB (sc : Scope) (x y a b : Expr) : Bool := !(locB sc x && locB sc y && decide (x.pos.line = y.pos.line)) || (foldedForSure 8 a && foldedForSure 8 b)
def opB : Bop → Operator → Bool
  | .add, .Add => true
  | .sub, .Sub => true
  | _, _ => false
@[simp] def ckMeth (R : Row) (m : String) (i : Nat) (ca : Ck) : CkS := fun sc s => match s with
  | .s (.Expr (.Call (.Attribute o f apos) [v] [] cpos) _) => decide (f = Str.ofString m) && nameB R.N sc i o && ca sc (.e v) && (apos.endLine == cpos.line)
  | _ => false
def ckS (R : Row) : S → CkS
  | .nil => fun _ s => match s with
    | .b [] => true
    | _ => false
  | .seq s t => fun sc z => match z with
    | .b (st :: rest) => ckS R s sc (.s st) && ckS R t sc (.b rest)
    | _ => false
  | .asg i e => fun sc z => match z with
    | .s (.Assign [y] v _) => nmT R.N sc i y && ck R e sc (.e v)
    | _ => false
  | .asgT is e => fun sc z => match z with
    | .s (.Assign [t] v _) => tgB R.N sc (fun _ => true) (.tp is) t && ck R e sc (.e v) && !tupB v
    | _ => false
  | .par i j a b => fun sc z => match z with
    | .s (.Assign [.Tuple [x, y] _ _] (.Tuple [u, v] _ _) _) => nmT R.N sc i x && nmT R.N sc j y && decide (i ≠ j) && ck R a sc (.e u) && ck R b sc (.e v) && (swA sc x y u v || swB sc x y u v)
    | _ => false
  | .asgIx i k e => fun sc z => match z with
    | .s (.Assign [.Subscript o kx _] v _) => nameB R.N sc i o && ck R k sc (.e kx) && ck R e sc (.e v)
    | _ => false
  | .augIx i op k e => fun sc z => match z with
    | .s (.AugAssign (.Subscript o kx _) p v _) => opB op p && nameB R.N sc i o && ck R k sc (.e kx) && ck R e sc (.e v)
    | _ => false
  | .aug i op e => fun sc z => match z with
    | .s (.AugAssign y p v _) => opB op p && nmT R.N sc i y && ck R e sc (.e v)
    | _ => false
  | .expr e => fun sc z => match z with
    | .s (.Expr v _) => ck R e sc (.e v) && !compB v
    | _ => false
  | .app i e => ckMeth R "append" i (ck R e)
  | .ext i e => ckMeth R "extend" i (ck R e)
  | .rmv i e => ckMeth R "remove" i (ck R e)
  | .ite c s t => fun sc z => match z with
    | .s (.If x a b _) => ck R c sc (.e x) && ckS R s sc (.b a) && ckS R t sc (.b b)
    | _ => false
  | .for tg it s => fun sc z => match z with
    | .s (.For t iter body [] _) => itB it && (!pairIt it || isTp tg) && tgB R.N sc (fun _ => true) tg t && ck R it sc (.i iter) && ckS R s sc (.b body)
    | _ => false
  | .whl c s => fun sc z => match z with
    | .s (.While x body [] _) => ck R c sc (.e x) && ckS R s sc (.b body)
    | _ => false
  | .ret e => fun sc z => match z with
    | .s (.Return (some v) _) => ck R e sc (.e v)
    | .s (.Return none _) => (match e with
      | .cst .non => true
      | _ => false)
    | _ => false
  | .rse n => fun sc z => match z with
    | .s (.Raise (some (.Call y [] [] _)) none _) => R.exs.contains n && clsB sc n y
    | _ => false
  | .brk => fun _ z => match z with
    | .s (.Break _) => true
    | _ => false
  | .cnt => fun _ z => match z with
    | .s (.Continue _) => true
    | _ => false
  | .tryW i p => fun sc z => match z with
    | .s (.Try body [.ExceptHandler (some y) (some n) [.Return (some (.Call (.Name f _) [e] [] _)) _] _] [] [] _) => R.tw && clsB sc "DotError" y && decide (R.N[i]? = some n) && decide (sc.names.lookup n = some .local) && decide (f = Str.ofString "_law_which") && glB sc f && nameB R.N sc i e && ckS R p sc (.b body)
    | _ => false
  | .hole => fun _ _ => true
  | .popA j i k => fun sc z => match z with
    | .s (.Assign [y] (.Call (.Attribute o f apos) [v] [] cpos) _) => nmT R.N sc j y && decide (f = Str.ofString "pop") && nameB R.N sc i o && ck R k sc (.e v) && (apos.endLine == cpos.line)
    | _ => false
  | .asgAt i f e => fun sc z => match z with
    | .s (.Assign [.Attribute o g _] v _) => decide (g = Str.ofString f) && R.fld.contains f && nameB R.N sc i o && ck R e sc (.e v) && !compB v
    | _ => false
  | .retC fs a es => fun sc z => match z with
    | .s (.Return (some (.Call (.Subscript o i p) (x :: xs) [] _)) _) => fs.all (fun f => R.fns.contains f) && (ck R a sc (.e (.Subscript o i p)) && ck R es sc (.a (x :: xs)))
    | _ => false
/-- what is known of an own error's class -/
structure ExF (K : PySem.W.Frag) (C : Addr) : Prop where
  ex : PySem.W.excIn K C [.type "ValueError", .type "Exception", .type "BaseException", .type "object"] "ValueError.__new__" = true
  kp : PySem.W.keepIn K (.ref C) = true
  sb : PySem.W.subIn K (.ref C) (.type "BaseException") = some true
  ty : PySem.W.typeIn K (.ref C) = some (.type "type")
/-- the context of a def's body -/
structure Gs (R : Row) (X : Cx) (Γ : Tab) (c : Fc) (k : Nat) (W : WX) : Prop where
  gd : Gd R X Γ c k W
  po : PassesOwn (model X.prog X.w) X.A X.env X.xe
  fn : ∀ x, X.fn x = true
  bk : X.env.blockKind = .function
  ex : ∀ n ∈ R.exs, X.mg (Str.ofString n) = some (.ref (c.w.κ n)) ∧ ExF X.K (c.w.κ n)
  hs : X.stack = X.env :: X.outer
  hf : X.env.frame = some X.env.locals
  tw : R.tw = true → Tw X.K X.mg c.w.κ
  k0 : R.tw = true → 1 ≤ k
structure SndS (R : Row) (Γ : Tab) (p : S) : Prop where
  s : ∀ {X : Cx} {c : Fc} {W : WX} {k : Nat} {st : Stmt}, Gs R X Γ c k W → ckS R p X.env.scope (.s st) = true → PS X st (tS Γ c W p)
  b : ∀ {X : Cx} {c : Fc} {W : WX} {k : Nat} {sts : List Stmt}, Gs R X Γ c k W → ckS R p X.env.scope (.b sts) = true → PSs X sts (tS Γ c W p)
section
variable {R : Row} {Γ : Tab} {X : Cx} {c : Fc} {W : WX} {k : Nat} {x : Expr} {ρ ρ' : Rho} {G G' H H' : Hp} {τ : List (Addr × D)} {σ : L2.St} {Q : VK} {D' : Ends}
theorem sndS_of {p : S} (hs : ∀ {X : Cx} {c : Fc} {W : WX} {k : Nat} {st : Stmt}, Gs R X Γ c k W → ckS R p X.env.scope (.s st) = true → PS X st (tS Γ c W p)) (hb : ∀ sc sts, ckS R p sc (.b sts) = false) : SndS R Γ p :=
  ⟨hs, fun g h => by rw [hb] at h; cases h⟩
theorem snds_nil : SndS R Γ .nil where
  s := fun g h => by cases h
  b := fun {X c W k sts} g h => by
    cases sts with
    | nil =>
      refine PSs.imp pss_nil fun D' σ H q => ?_
      obtain ⟨ρ, G, S, q⟩ := q
      exact q σ H G S (Same.refl G)
    | cons _ _ => cases h
theorem snds_seq {s t : S} (hs : SndS R Γ s) (ht : SndS R Γ t) : SndS R Γ (.seq s t) where
  s := fun g h => by cases h
  b := fun {X c W k sts} g h => by
    cases sts with
    | nil => cases h
    | cons st rest =>
      simp only [ckS, Bool.and_eq_true] at h
      refine PSs.imp (pss_cons (hs.s g h.1) (ht.b g h.2)) fun D' σ H q => ?_
      obtain ⟨ρ, G, S, q⟩ := q
      refine ⟨ρ, G, S, ?_⟩
      simp only [denS] at q
      cases e : denS Γ s ρ with
      | next ρ1 =>
        rw [e] at q
        exact fun σ1 H1 G1 S1 s1 => ⟨ρ1, G1, S1, PostS.mono s1 q⟩
      | ret cv ρ1 =>
        rw [e] at q
        cases cv <;> exact q
      | brk ρ1 => rw [e] at q; exact q
      | cnt ρ1 => rw [e] at q; exact q
      | ex z ρ1 => rw [e] at q; exact q
      | bad => rw [e] at q; exact q
theorem swaps_no {v : Expr} {t : Option Expr} {l : Nat} {env : Env} (h : compB v = false) : swapsWith v t l env = pure false := by
  cases v <;> first | rfl | cases h
/-- the value is stored -/
theorem asg_imp {i : Nat} {e : E} (h : tS Γ c W (.asg i e) D' σ H) : tD Γ c W e σ H fun x H1 => gName i x σ H1 D'.nx := by
  obtain ⟨ρ, G, S, q⟩ := h
  simp only [denS] at q
  refine fl_cv S q (fun d ρ1 v H1 G1 S1 r q => ?_) (fun d ρ1 p H1 G1 S1 q => ?_)
  · unfold put at q
    split at q
    · rename_i hf
      exact q _ H1 G1 (S1.store hf (.inr ⟨d, v, rfl, rfl, r⟩)) (Same.refl G1)
    · exact False.elim q
  · unfold put at q
    split at q
    · rename_i hf
      exact q _ H1 G1 (Stt.adopt (τ := []) S1 hf) (Same.refl G1)
    · exact False.elim q
theorem swaps_at {el : Expr} {gens : List Comprehension} {scope : Scope} {pos py : Pos} {y : Str} {l : Nat} {env : Env} : swapsWith (.ListComp el gens scope pos) (some (.Name y py)) l env = pure (env.blockKind == .function && env.kindOf y == some .local && py.line == pos.line && !(scope.names.any fun (n, k) => n == y && (k == .local || k == .cell))) := rfl
theorem snds_asg {i : Nat} {e : E} : SndS R Γ (.asg i e) := by
  refine sndS_of (fun {X c W k st} g h => ?_) (fun sc sts => by cases sts <;> rfl)
  cases st <;> first | (cases h; done) | skip
  rename_i ts v spos
  rcases ts with _ | ⟨y, _ | ⟨y', ts⟩⟩ <;> first | (cases h; done) | skip
  simp only [ckS, Bool.and_eq_true] at h
  obtain ⟨z, py, rfl, hz, hl⟩ := nm_of h.1
  have hz' : X.N[i]? = some z := by rw [g.gd.N]; exact hz
  have plain : swapsWith v (some (.Name z py)) spos.line X.env = pure false → PS X (.Assign [.Name z py] v spos) (tS Γ c W (.asg i e)) := fun hs =>
    PS.imp (ps_set g.gd.nd hz' hl ((snd R Γ e).e g.gd h.2) hs (.inl (g.fn z))) fun D' σ H q => asg_imp q
  cases hc : compB v with
  | false => exact plain (swaps_no hc)
  | true =>
    have he := h.2
    by_cases h1 : ∃ vs tg it cond elt, e = .cmp1 vs tg it cond elt
    · obtain ⟨vs, tg, it, cond, elt, rfl⟩ := h1
      obtain ⟨el, t, iter, ifs, scope, pos, rfl⟩ := cmp1_shape he
      cases hb : (X.env.blockKind == .function && X.env.kindOf z == some .local && py.line == pos.line && !(scope.names.any fun (n, k) => n == z && (k == .local || k == .cell))) with
      | false => exact plain (by rw [swaps_at, hb])
      | true =>
        have hl : X.env.scope.names.lookup z = some .local := by
          simp only [Bool.and_eq_true, beq_iff_eq] at hb
          exact hb.1.1.2
        obtain ⟨a1, a2, a3, a4, a5, a6⟩ := lc_of g.gd (fun p _ => snd R Γ p) he
        refine PS.imp (ps_setLc g.gd.calm g.gd.nd hz' hl (by rw [swaps_at, hb]) a1 a2 a3 a4 a5 a6) fun D' σ H q => ?_
        unfold tAsg
        rw [own_map]
        exact lc_imp (asg_imp q)
    · by_cases h2 : ∃ vs vs1 tg it tg1 it1 cond elt, e = .cmp2 vs vs1 tg it tg1 it1 cond elt
      · obtain ⟨vs, vs1, tg, it, tg1, it1, cond, elt, rfl⟩ := h2
        obtain ⟨el, t, iter, t1, iter1, ifs1, scope, pos, rfl⟩ := cmp2_shape he
        cases hb : (X.env.blockKind == .function && X.env.kindOf z == some .local && py.line == pos.line && !(scope.names.any fun (n, k) => n == z && (k == .local || k == .cell))) with
        | false => exact plain (by rw [swaps_at, hb])
        | true =>
          have hl : X.env.scope.names.lookup z = some .local := by
            simp only [Bool.and_eq_true, beq_iff_eq] at hb
            exact hb.1.1.2
          obtain ⟨a1, a2, av, a3, a4, a5, a6, a7, a8, a9⟩ := lc2_of g.gd (fun p _ => snd R Γ p) he
          refine PS.imp (ps_setLc2 (vs1 := vs1) g.gd.calm g.gd.nd hz' hl (by rw [swaps_at, hb]) a1 a2 (by rw [own_map]; exact av) a3 (fun _ _ _ _ _ => pts_nil) a4 a5 a6 a7 a8 a9) fun D' σ H q => ?_
          unfold tAsg
          rw [own_map]
          exact lc2_imp (asg_imp q)
      · exfalso
        by_cases hx : ∃ o q, e = .xop o q
        · obtain ⟨o, q, rfl⟩ := hx
          cases v <;> first | (cases hc; done) | skip
          all_goals (cases o <;> cases he)
        cases v <;> first | (cases hc; done) | skip
        all_goals (cases e <;> first | exact absurd ⟨_, _, rfl⟩ hx | (simp [ck, nameB] at he; done) | exact h1 ⟨_, _, _, _, _, rfl⟩ | exact h2 ⟨_, _, _, _, _, _, _, _, rfl⟩ | (rename_i d; cases d <;> simp [ck] at he))
theorem snds_asgT {is : List Nat} {e : E} : SndS R Γ (.asgT is e) := by
  refine sndS_of (fun {X c W k st} g h => ?_) (fun sc sts => by cases sts <;> rfl)
  cases st <;> first | (cases h; done) | skip
  rename_i ts v spos
  rcases ts with _ | ⟨y, _ | ⟨y', ts⟩⟩ <;> first | (cases h; done) | skip
  simp only [ckS, Bool.and_eq_true, Bool.not_eq_true'] at h
  obtain ⟨⟨h1, h2⟩, h3⟩ := h
  cases y <;> first | (cases h1; done) | skip
  rename_i es kk tpos
  refine PS.imp (ps_asg ((snd R Γ e).e g.gd h2) (pg_of (R := R) g.gd.calm g.gd.nd g.gd.N (fun x _ => g.fn x) h1) ?_ ?_ rfl) fun D' σ H q => ?_
  · show swapsWith v (some (.Tuple es kk tpos)) spos.line X.env = pure false
    cases v <;> rfl
  · cases v <;> first | rfl | cases h3
  · obtain ⟨ρ, G, S, q⟩ := q
    simp only [denS] at q
    refine fl_val S q fun d ρ1 v H1 G1 S1 s1 r q => ?_
    split at q
    · rename_i hf
      split at q
      · rename_i ρ2 hb
        rw [g.gd.K]
        refine bind_ok S1 hb r (fun i hi => ?_) fun σ2 S2 _ _ => q σ2 H1 G1 S2 (Same.refl G1)
        have fr : ∀ (is : List Nat), frees ρ1 is = true → ∀ i ∈ is, free ρ1 i = true := by
          intro is
          induction is with
          | nil => exact fun _ i hi => absurd hi List.not_mem_nil
          | cons j is ih =>
            intro h i hi
            simp only [frees, Bool.and_eq_true] at h
            rcases List.mem_cons.mp hi with rfl | hi
            · exact h.1
            · exact ih h.2 i hi
        exact fr is hf i hi
      · exact False.elim q
    · exact False.elim q
theorem snds_expr {e : E} : SndS R Γ (.expr e) := by
  refine sndS_of (fun {X c W k st} g h => ?_) (fun sc sts => by cases sts <;> rfl)
  cases st <;> first | (cases h; done) | skip
  simp only [ckS, Bool.and_eq_true, Bool.not_eq_true'] at h
  refine PS.imp (ps_expr ((snd R Γ e).e g.gd h.1) (swaps_no h.2)) fun D' σ H q => ?_
  obtain ⟨ρ, G, S, q⟩ := q
  simp only [denS] at q
  exact fl_val S q fun d ρ1 v H1 G1 S1 s1 r q => q σ H1 G1 S1 (Same.refl G1)
theorem snds_brk : SndS R Γ .brk := by
  refine sndS_of (fun {X c W k st} g h => ?_) (fun sc sts => by cases sts <;> rfl)
  cases st <;> first | (cases h; done) | skip
  refine PS.imp ps_break fun D' σ H q => ?_
  obtain ⟨ρ, G, S, q⟩ := q
  exact q σ H G S (Same.refl G)
theorem snds_cnt : SndS R Γ .cnt := by
  refine sndS_of (fun {X c W k st} g h => ?_) (fun sc sts => by cases sts <;> rfl)
  cases st <;> first | (cases h; done) | skip
  refine PS.imp ps_continue fun D' σ H q => ?_
  obtain ⟨ρ, G, S, q⟩ := q
  exact q σ H G S (Same.refl G)
theorem snds_ite {a : E} {s t : S} (hs : SndS R Γ s) (ht : SndS R Γ t) : SndS R Γ (.ite a s t) := by
  refine sndS_of (fun {X c W k st} g h => ?_) (fun sc sts => by cases sts <;> rfl)
  cases st <;> first | (cases h; done) | skip
  simp only [ckS, Bool.and_eq_true] at h
  refine PS.imp (ps_if ((snd R Γ a).t g.gd h.1.1) (hs.b g h.1.2) (ht.b g h.2)) fun D' σ H q => ?_
  obtain ⟨ρ, G, S, q⟩ := q
  simp only [denS] at q
  refine fl_test S q (fun d ρ1 hd => ?_) fun b ρ1 H1 G1 S1 s1 q => ?_
  · cases d <;> first | rfl | exact absurd rfl (hd _)
  · cases b with
    | true => exact ⟨ρ1, G1, S1, q⟩
    | false => exact ⟨ρ1, G1, S1, q⟩
theorem snds_ret {e : E} : SndS R Γ (.ret e) := by
  refine sndS_of (fun {X c W k st} g h => ?_) (fun sc sts => by cases sts <;> rfl)
  cases st <;> first | (cases h; done) | skip
  rename_i o spos
  cases o with
  | none =>
    cases e <;> first | (cases h; done) | skip
    rename_i d
    cases d <;> first | (cases h; done) | skip
    refine PS.imp ps_retN fun D' σ H q => ?_
    obtain ⟨ρ, G, S, q⟩ := q
    exact q σ H G .non S (Same.refl G) .non
  | some v =>
    have h : ck R e X.env.scope (.e v) = true := h
    by_cases hv : ∃ i, e = .var i
    · obtain ⟨i, rfl⟩ := hv
      refine PS.imp (ps_ret (pe_name g.gd h)) fun D' σ H q => ?_
      obtain ⟨ρ, G, S, q⟩ := q
      simp only [denS] at q
      split at q
      · rename_i d e
        obtain ⟨v, h1, r⟩ := S.vals i d e
        exact ⟨v, h1, q σ H G v S (Same.refl G) r⟩
      · rename_i d e
        obtain ⟨p, hp⟩ := S.muts i d (.inl e)
        exact ⟨.ref p, hp, q σ H G p (Stt.release (τ := []) S e hp) (Same.refl G)⟩
      · exact False.elim q
    · refine PS.imp (ps_ret ((snd R Γ e).e g.gd h)) fun D' σ H q => ?_
      obtain ⟨ρ, G, S, q⟩ := q
      have e1 : denS Γ (.ret e) ρ = (den Γ e ρ).fl fun cv ρ1 => .ret cv ρ1 := by
        cases e <;> first | rfl | exact absurd ⟨_, rfl⟩ hv
      rw [e1] at q
      refine fl_cv S q (fun d ρ1 v H1 G1 S1 r q => ?_) (fun d ρ1 p H1 G1 S1 q => ?_)
      · exact q σ H1 G1 v S1 (Same.refl G1) r
      · exact q σ H1 G1 p S1 (Same.refl G1)
end
end MPS
end
section
set_option Elab.async false
set_option linter.all false
set_option maxRecDepth 100000
set_option maxHeartbeats 2000000
/-! MpE3: statements that change things; loops. -/
namespace MPS
open PySem L2 MP
section
variable {R : Row} {Γ : Tab} {X : Cx} {c : Fc} {W : WX} {k : Nat} {x : Expr} {ρ ρ' : Rho} {G G' H H' : Hp} {τ : List (Addr × D)} {σ : L2.St} {Q : VK} {D' : Ends}
theorem setIx_ok {i : Nat} {n d : D} {o u v : V} (S : Stt c ρ G [] H σ) (hn : Rep c.w G u n) (hd : Rep c.w G v d) (ho : σ[i]? = some (some o)) (q : PostS c W D' G (setIx ρ i n d)) : rSetL o u v H fun H3 => D'.nx σ H3 := by
  unfold setIx at q
  split at q
  · rename_i xs j e
    split at q
    · rename_i m hm
      obtain ⟨e1, p, vs, h1, h2, r⟩ := S.lstAt e
      have ho' := ho
      rw [h1] at ho'
      cases ho'
      cases hn
      exact ⟨p, vs, j, m, rfl, rfl, h2, by rw [ixN_eq, r.length]; exact hm, q σ _ G (S.put e1 h1 (.lst (r.set hd m))) (Same.refl G)⟩
    · exact False.elim q
  · exact False.elim q
theorem mut_slot {i : Nat} (S : Stt c ρ G [] H σ) (h : (mutL ρ i).isSome = true) : ∃ p vs, σ[i]? = some (some (.ref p)) ∧ H p = some (.lst vs) := by
  obtain ⟨xs, hx⟩ := Option.isSome_iff_exists.mp h
  obtain ⟨_, p, vs, h1, h2, _⟩ := S.lstAt hx
  exact ⟨p, vs, h1, h2⟩
theorem asgIx_shape {i : Nat} {kx e : E} {sc : Scope} {st : Stmt} (h : ckS R (.asgIx i kx e) sc (.s st) = true) : ∃ o kk tpos v spos, st = .Assign [.Subscript o kk tpos] v spos ∧ nameB R.N sc i o = true ∧ ck R kx sc (.e kk) = true ∧ ck R e sc (.e v) = true := by
  unfold ckS at h
  split at h
  · rename_i z
    injection z with z
    subst z
    simp only [Bool.and_eq_true] at h
    exact ⟨_, _, _, _, _, rfl, h.1.1, h.1.2, h.2⟩
  · cases h
theorem snds_asgIx {i : Nat} {kx e : E} : SndS R Γ (.asgIx i kx e) := by
  refine sndS_of (fun {X c W k st} g h => ?_) (fun sc sts => by cases sts <;> rfl)
  obtain ⟨o, kk, tpos, v, spos, rfl, h1, h2, h3⟩ := asgIx_shape h
  have hk := ck_shape h2
  refine PS.imp (ps_asg ((snd R Γ e).e g.gd h3) (pg_sub (pe_name g.gd h1) ((snd R Γ kx).e g.gd h2) set_list (fun v => by cases kk <;> first | rfl | exact absurd rfl (hk.2.1 _ _ _ _))) ?_ ?_ rfl) fun D' σ H q => ?_
  · show swapsWith v (some (.Subscript o kk tpos)) spos.line X.env = pure false
    cases v <;> rfl
  · cases v <;> rfl
  · obtain ⟨ρ, G, S, q⟩ := q
    simp only [denS] at q
    refine fl_val S q fun d ρ1 v H1 G1 S1 s1 r q => ?_
    split at q
    · rename_i hm
      obtain ⟨p, _, hp, _⟩ := mut_slot S1 hm
      refine ⟨.ref p, hp, ?_⟩
      exact fl_val S1 q fun n ρ2 u H2 G2 S2 s2 rn q => setIx_ok S2 rn (r.mono s2) hp q
    · exact False.elim q
theorem ip_of {op : Bop} {p : Operator} (h : opB op p = true) : ∃ f : Int → Int → Int, PIp X p (ipI f) ∧ ∀ i j, binOp op (.int i) (.int j) = some (.int (f i j)) := by
  cases op <;> cases p <;> first | (cases h; done) | skip
  · exact ⟨_, ip_add, fun _ _ => rfl⟩
  · exact ⟨_, ip_sub, fun _ _ => rfl⟩
theorem bin_ints {op : Bop} {p : Operator} (h : opB op p = true) {x y : D} {z : Int} (e : binOp op x y = some (.int z)) : ∃ i j, x = .int i ∧ y = .int j := by
  cases op <;> cases p <;> first | (cases h; done) | skip
  all_goals (cases x <;> cases y <;> first | exact ⟨_, _, rfl, rfl⟩ | (simp only [binOp] at e; first | (cases e; done) | (split at e <;> cases e)))
theorem augIx_shape {i : Nat} {op : Bop} {kx e : E} {sc : Scope} {st : Stmt} (h : ckS R (.augIx i op kx e) sc (.s st) = true) : ∃ o kk tpos p v spos, st = .AugAssign (.Subscript o kk tpos) p v spos ∧ opB op p = true ∧ nameB R.N sc i o = true ∧ ck R kx sc (.e kk) = true ∧ ck R e sc (.e v) = true := by
  unfold ckS at h
  split at h
  · rename_i z
    injection z with z
    subst z
    simp only [Bool.and_eq_true] at h
    exact ⟨_, _, _, _, _, _, rfl, h.1.1.1, h.1.1.2, h.1.2, h.2⟩
  · cases h
theorem snds_augIx {i : Nat} {op : Bop} {kx e : E} : SndS R Γ (.augIx i op kx e) := by
  refine sndS_of (fun {X c W k st} g h => ?_) (fun sc sts => by cases sts <;> rfl)
  obtain ⟨o, kk, tpos, p, v, spos, rfl, h0, h1, h2, h3⟩ := augIx_shape h
  have hk := ck_shape h2
  obtain ⟨f, hf, ef⟩ := ip_of (X := X) h0
  refine PS.imp (ps_augS (pe_name g.gd h1) ((snd R Γ kx).e g.gd h2) get_list ((snd R Γ e).e g.gd h3) hf set_list (fun ov iv new => by cases kk <;> first | rfl | exact absurd rfl (hk.2.1 _ _ _ _))) fun D' σ H q => ?_
  obtain ⟨ρ, G, S, q⟩ := q
  simp only [denS] at q
  split at q
  · rename_i hm
    obtain ⟨p, _, hp, _⟩ := mut_slot S hm
    refine ⟨.ref p, hp, ?_⟩
    refine fl_val S q fun n ρ1 u H1 G1 S1 s1 rn q => ?_
    split at q
    · rename_i xs hx
      split at q
      · rename_i x ex
        obtain ⟨_, p', vs, g1, g2, r⟩ := S1.lstAt hx
        rw [hp] at g1
        cases g1
        cases n <;> first | (simp [ixD] at ex; done) | skip
        rename_i j
        cases rn
        obtain ⟨w, hw, rw'⟩ := at_rep r (show at? xs j = some x from ex)
        refine ⟨p, vs, j, w, rfl, rfl, g2, hw, ?_⟩
        refine fl_val S1 q fun y ρ2 t H2 G2 S2 s2 ry q => ?_
        split at q
        · rename_i z ez
          obtain ⟨a, b, rfl, rfl⟩ := bin_ints h0 ez
          rw [ef] at ez
          cases ez
          cases rw'
          cases ry
          exact ⟨a, b, rfl, rfl, setIx_ok S2 (.int j) (.int _) hp q⟩
        · exact False.elim q
      · exact False.elim q
    · exact False.elim q
  · exact False.elim q
theorem aug_shape {i : Nat} {op : Bop} {e : E} {sc : Scope} {st : Stmt} (h : ckS R (.aug i op e) sc (.s st) = true) : ∃ y p v spos, st = .AugAssign y p v spos ∧ opB op p = true ∧ nmT R.N sc i y = true ∧ ck R e sc (.e v) = true := by
  unfold ckS at h
  split at h
  · rename_i z
    injection z with z
    subst z
    simp only [Bool.and_eq_true] at h
    exact ⟨_, _, _, _, rfl, h.1.1, h.1.2, h.2⟩
  · cases h
theorem snds_aug {i : Nat} {op : Bop} {e : E} : SndS R Γ (.aug i op e) := by
  refine sndS_of (fun {X c W k st} g h => ?_) (fun sc sts => by cases sts <;> rfl)
  obtain ⟨y, p, v, spos, rfl, h0, h1, h2⟩ := aug_shape h
  obtain ⟨z, py, rfl, hz, hl⟩ := nm_of h1
  have hz' : X.N[i]? = some z := by rw [g.gd.N]; exact hz
  obtain ⟨f, hf, ef⟩ := ip_of (X := X) h0
  refine PS.imp (ps_aug g.gd.nd hz' hl ((snd R Γ e).e g.gd h2) hf (.inl (g.fn z))) fun D' σ H q => ?_
  obtain ⟨ρ, G, S, q⟩ := q
  simp only [denS] at q
  split at q
  · rename_i a ea
    obtain ⟨v, hv, rv⟩ := S.vals i _ ea
    cases rv
    refine ⟨_, hv, ?_⟩
    refine fl_val S q fun y ρ1 u H1 G1 S1 s1 ry q => ?_
    split at q
    · rename_i b eb
      split at q
      · rename_i hfr
        obtain ⟨a', b', e1, rfl⟩ := bin_ints h0 eb
        cases e1
        rw [ef] at eb
        cases eb
        cases ry
        exact ⟨a, b', rfl, rfl, q _ H1 G1 (S1.store hfr (.inr ⟨_, _, rfl, rfl, .int _⟩)) (Same.refl G1)⟩
      · exact False.elim q
    · exact False.elim q
  · exact False.elim q
theorem meth_shape {m : String} {i : Nat} {ca : Ck} {sc : Scope} {st : Stmt} (h : ckMeth R m i ca sc (.s st) = true) : ∃ o apos v cpos spos, st = .Expr (.Call (.Attribute o (Str.ofString m) apos) [v] [] cpos) spos ∧ nameB R.N sc i o = true ∧ ca sc (.e v) = true ∧ (apos.endLine == cpos.line) = true := by
  unfold ckMeth at h
  split at h
  · rename_i z
    injection z with z
    subst z
    simp only [Bool.and_eq_true, decide_eq_true_eq] at h
    obtain ⟨⟨⟨rfl, h1⟩, h2⟩, h3⟩ := h
    exact ⟨_, _, _, _, _, rfl, h1, h2, h3⟩
  · cases h
theorem few_one {v : Expr} {env : Env} {cpos : Pos} (h : ∀ e pos, v ≠ .Starred e pos) : ((backTo cpos (starEach [v] env)).all (fun x => !x.1) && (backToKw cpos (keywordEach [] env)).all (fun x => x.1.isSome)
      && decide (([v] : List Expr).length + ([] : List Keyword).length + (if ([] : List Keyword).isEmpty then 0 else 1) < 30)) = true := by
  rw [star_cons h]
  rfl
theorem snds_app {i : Nat} {e : E} : SndS R Γ (.app i e) := by
  refine sndS_of (fun {X c W k st} g h => ?_) (fun sc sts => by cases sts <;> rfl)
  obtain ⟨o, apos, v, cpos, spos, rfl, h1, h2, h3⟩ := meth_shape h
  have hs := (ck_shape h2).1
  have hb : attributeBase o (Str.ofString "append") X.env (eval o X.env) = eval o X.env := by
    obtain ⟨y, pos, rfl, _⟩ := name_of h1
    rfl
  refine PS.imp (ps_expr (pe_bm PySem.F.plainAttrs_list PySem.F.slot_list_append PySem.F.type_list_append mt_append (pe_name g.gd h1) (pa_cons ((snd R Γ e).e g.gd h2) pa_nil (star_cons hs)) hb (few_one hs) h3 (star_cons hs) rfl) rfl) fun D' σ H q => ?_
  obtain ⟨ρ, G, S, q⟩ := q
  simp only [denS] at q
  split at q
  · rename_i hm
    obtain ⟨p, vs, hp, hH⟩ := mut_slot S hm
    refine ⟨.ref p, hp, .inl ⟨rfl, _, .inl (.inl hH)⟩, ?_⟩
    refine fl_val S q fun d ρ1 u H1 G1 S1 s1 r q => ?_
    split at q
    · rename_i xs hx
      split at q
      · rename_i hl
        obtain ⟨e1, p', us, g1, g2, rl⟩ := S1.lstAt hx
        rw [hp] at g1
        cases g1
        refine ⟨p, us, u, rfl, rfl, g2, by rw [rl.length, sl_eq]; exact hl, ?_⟩
        exact q σ _ G1 (S1.put e1 hp (.lst (rl.append (.cons r .nil)))) (Same.refl G1)
      · exact False.elim q
    · exact False.elim q
  · exact False.elim q
theorem snds_ext {i : Nat} {e : E} : SndS R Γ (.ext i e) := by
  refine sndS_of (fun {X c W k st} g h => ?_) (fun sc sts => by cases sts <;> rfl)
  obtain ⟨o, apos, v, cpos, spos, rfl, h1, h2, h3⟩ := meth_shape h
  have hs := (ck_shape h2).1
  have hb : attributeBase o (Str.ofString "extend") X.env (eval o X.env) = eval o X.env := by
    obtain ⟨y, pos, rfl, _⟩ := name_of h1
    rfl
  refine PS.imp (ps_expr (pe_bm PySem.F.plainAttrs_list PySem.F.slot_list_extend PySem.F.type_list_extend mt_ext2 (pe_name g.gd h1) (pa_cons ((snd R Γ e).e g.gd h2) pa_nil (star_cons hs)) hb (few_one hs) h3 (star_cons hs) rfl) rfl) fun D' σ H q => ?_
  obtain ⟨ρ, G, S, q⟩ := q
  simp only [denS] at q
  split at q
  · rename_i hm
    obtain ⟨p, vs, hp, hH⟩ := mut_slot S hm
    refine ⟨.ref p, hp, .inl ⟨rfl, _, .inl (.inl hH)⟩, ?_⟩
    refine fl_val S q fun d ρ1 u H1 G1 S1 s1 r q => ?_
    split at q
    · rename_i xs ys hx hy
      split at q
      · rename_i hl
        obtain ⟨e1, p', us, g1, g2, rl⟩ := S1.lstAt hx
        rw [hp] at g1
        cases g1
        cases r <;> first | (cases hy; done) | skip
        · rename_i er rr
          cases hy
          refine .inr ⟨p, _, us, _, rfl, rfl, g2, S1.gh _ _ er, by rw [rl.length, rr.length, sl_eq]; exact hl, ?_⟩
          exact q σ _ G1 (S1.put e1 hp (.lst (rl.append rr))) (Same.refl G1)
        · rename_i er rr
          cases hy
          refine .inl ⟨p, _, us, _, rfl, rfl, g2, S1.gh _ _ er, by rw [rl.length, rr.length, sl_eq]; exact hl, ?_⟩
          exact q σ _ G1 (S1.put e1 hp (.lst (rl.append rr))) (Same.refl G1)
      · exact False.elim q
    · exact False.elim q
  · exact False.elim q
end
end MPS
end
section
set_option Elab.async false
set_option linter.all false
set_option maxRecDepth 100000
set_option maxHeartbeats 2000000
/-! MpE4: pairs of stores; loops; every statement. -/
namespace MPS
open PySem L2 MP
section
variable {R : Row} {Γ : Tab} {X : Cx} {c : Fc} {W : WX} {k : Nat} {x : Expr} {ρ ρ' : Rho} {G G' H H' : Hp} {τ : List (Addr × D)} {σ : L2.St} {Q : VK} {D' : Ends}
/-- a value at hand: kept, or just made -/
def Hand (c : Fc) (G : Hp) (v : V) : CV → List (Addr × D) → Prop
  | .val d, τ => τ = [] ∧ Rep c.w G v d
  | .own d, τ => ∃ p, v = .ref p ∧ τ = [(p, d)]
theorem Hand.mono {v : V} {cv : CV} (s : Same G G') (h : Hand c G v cv τ) : Hand c G' v cv τ := by
  cases cv with
  | val d => exact ⟨h.1, h.2.mono s⟩
  | own d => exact h
/-- any expression, above things just made -/
theorem fl_hand {a : E} {f : CV → Rho → Fl} {K1 : VK} (S : Stt c ρ G τ H σ) (hw : ∀ (ρ' : Rho) (G' H' : Hp), Stt c ρ' G' τ H' σ → Stt c ρ' G' [] H' σ) (q : PostS c W D' G ((den Γ a ρ).fl f))
    (hv : ∀ cv ρ1 v H1 G1 τ1, Stt c ρ1 G1 (τ ++ τ1) H1 σ → Hand c G1 v cv τ1 → Same G G1 → PostS c W D' G1 (f cv ρ1) → K1 v H1) : tD Γ c W a σ H K1 := by
  refine ⟨ρ, G, τ, S, ?_⟩
  cases e : den Γ a ρ with
  | ok cv ρ1 =>
    rw [e] at q
    cases cv with
    | val d => exact fun v H1 G1 S1 s1 r => hv (.val d) ρ1 v H1 G1 [] (by rw [List.append_nil]; exact S1) ⟨rfl, r⟩ s1 (PostS.mono s1 q)
    | own d => exact fun p H1 G1 S1 s1 => hv (.own d) ρ1 (.ref p) H1 G1 [(p, d)] S1 ⟨p, rfl, rfl⟩ s1 (PostS.mono s1 q)
  | ex z ρ1 =>
    rw [e] at q
    exact fun H1 G1 S1 s1 => q σ H1 G1 (hw _ _ _ S1) s1
  | bad =>
    rw [e] at q
    exact q
/-- it is given a slot -/
theorem Stt.give {v : V} {cv : CV} {τ1 : List (Addr × D)} {i : Nat} (S : Stt c ρ G (τ ++ τ1) H σ) (h : Hand c G v cv τ1) (hf : free ρ i = true) : Stt c (ρ.set i cv.cell) G τ H (σ.set i (some v)) := by
  cases cv with
  | val d =>
    obtain ⟨rfl, r⟩ := h
    rw [List.append_nil] at S
    exact S.store hf (.inr ⟨d, v, rfl, rfl, r⟩)
  | own d =>
    obtain ⟨p, rfl, rfl⟩ := h
    exact S.adopt hf
theorem Stt.drop1 {v : V} {cv : CV} {τ1 : List (Addr × D)} (S : Stt c ρ G τ1 H σ) (h : Hand c G' v cv τ1) : Stt c ρ G [] H σ := by
  cases cv with
  | val d =>
    obtain ⟨rfl, _⟩ := h
    exact S
  | own d =>
    obtain ⟨p, _, rfl⟩ := h
    exact Stt.dropT (τ := []) S
theorem free_set {i j : Nat} {y : Cell} (h : i ≠ j) (hf : free ρ i = true) : free (ρ.set j y) i = true := by
  unfold free at hf ⊢
  rw [List.getElem?_set_ne (Ne.symm h)]
  exact hf
theorem par_imp {i j : Nat} {a b : E} {K2 : V → V → Hp → Prop} (h : tS Γ c W (.par i j a b) D' σ H) (hk : ∀ u v H2, (∀ H3, (∀ t o, H2 t = none → H3 = upd H2 t o → D'.nx ((σ.set i (some u)).set j (some v)) H3)) → D'.nx ((σ.set i (some u)).set j (some v)) H2 → K2 u v H2) :
    tD Γ c W a σ H fun u H1 => tD Γ c W b σ H1 fun v H2 => K2 u v H2 := by
  obtain ⟨ρ, G, S, q⟩ := h
  simp only [denS] at q
  refine fl_hand S (fun _ _ _ z => z) q fun cv ρ1 u H1 G1 τ1 S1 h1 s1 q => ?_
  rw [List.nil_append] at S1
  refine fl_hand S1 (fun _ _ _ z => z.drop1 h1) q fun cw ρ2 v H2 G2 τ2 S2 h2 s2 q => ?_
  split at q
  · rename_i hc
    simp only [Bool.and_eq_true, bne_iff_ne, ne_eq] at hc
    obtain ⟨⟨f1, f2⟩, hne⟩ := hc
    have fin : ∀ H3, Stt c ρ2 G2 (τ1 ++ τ2) H3 σ → D'.nx ((σ.set i (some u)).set j (some v)) H3 := fun H3 S3 => by
      have S4 := S3.give h2 f2
      have S5 := Stt.give (τ := []) (i := i) S4 (h1.mono s2) (free_set hne f1)
      rw [List.set_comm _ _ hne]
      exact q _ H3 G2 S5 (Same.refl G2)
    refine hk u v H2 (fun H3 t o ht e => ?_) (fin H2 S2)
    rw [e]
    refine fin _ (S2.grow ?_)
    exact ⟨same_upd ht, Same.refl G2, fun a o' z => by
      rw [upd_ne (fun w => by rw [w] at z; rw [S2.gh _ _ z] at ht; cases ht)]
      exact S2.gh _ _ z, fun a o' z => .inl z⟩
  · exact False.elim q
theorem par_shape {i j : Nat} {a b : E} {sc : Scope} {st : Stmt} (h : ckS R (.par i j a b) sc (.s st) = true) : ∃ x y kt pt u v k2 p2 spos, st = .Assign [.Tuple [x, y] kt pt] (.Tuple [u, v] k2 p2) spos ∧ nmT R.N sc i x = true ∧ nmT R.N sc j y = true ∧ i ≠ j ∧ ck R a sc (.e u) = true ∧ ck R b sc (.e v) = true ∧ (swA sc x y u v = true ∨ swB sc x y u v = true) := by
  unfold ckS at h
  split at h
  · rename_i z
    injection z with z
    subst z
    simp only [Bool.and_eq_true, decide_eq_true_eq, Bool.or_eq_true] at h
    obtain ⟨⟨⟨⟨⟨h1, h2⟩, h3⟩, h4⟩, h5⟩, h6⟩ := h
    exact ⟨_, _, _, _, _, _, _, _, _, rfl, h1, h2, h3, h4, h5, h6⟩
  · cases h
theorem star_no {u : Expr} (hu : ∀ e pos, u ≠ .Starred e pos) : (match u with
    | .Starred .. => true
    | _ => false) = false := by
  cases u <;> first | rfl | exact absurd rfl (hu _ _)
theorem snds_par {i j : Nat} {a b : E} : SndS R Γ (.par i j a b) := by
  refine sndS_of (fun {X c W k st} g h => ?_) (fun sc sts => by cases sts <;> rfl)
  obtain ⟨x, y, kt, pt, u, v, k2, p2, spos, rfl, h1, h2, hne, h3, h4, h5⟩ := par_shape h
  obtain ⟨z, pz, rfl, hz, hlz⟩ := nm_of h1
  obtain ⟨w, pw, rfl, hw, hlw⟩ := nm_of h2
  have hz' : X.N[i]? = some z := by rw [g.gd.N]; exact hz
  have hw' : X.N[j]? = some w := by rw [g.gd.N]; exact hw
  have nezw : z ≠ w := fun e => hne (L2.nodup_ix g.gd.nd hz' (by rw [e]; exact hw'))
  have su := (ck_shape h3).1
  have sv := (ck_shape h4).1
  have pa : PA X [u, v] _ := pa_cons ((snd R Γ a).e g.gd h3) (pa_cons ((snd R Γ b).e g.gd h4) pa_nil (star_cons sv)) (star_cons su)
  have hu' := star_no su
  have hv' := star_no sv
  have hbk := g.bk
  rcases h5 with h5 | h5
  · simp only [swA, locB, Bool.and_eq_true, decide_eq_true_eq, Bool.not_eq_true'] at h5
    obtain ⟨⟨⟨⟨l1, l2⟩, l3⟩, l4⟩, l5⟩ := h5
    have l3 : pz.line = pw.line := l3
    have k1 : X.env.kindOf z = some .local := l1
    have k2' : X.env.kindOf w = some .local := l2
    refine PS.imp (ps_par g.gd.calm g.gd.nd hz' hw' hne l1 l2 pa ?_ rfl) fun D' σ H q => ?_
    · have e1 : X.env.scope.names.lookup z = some .local := l1
      have ed : ([z, w] : List Str).eraseDups = [z, w] := by simp [List.eraseDups_cons, nezw, Ne.symm nezw]
      simp [swappedStores, hbk, k1, k2', l3, nezw, l4, l5, ed, Expr.pos]
    · exact par_imp q fun u v H2 _ q => ⟨u, v, rfl, q⟩
  · refine PS.imp (ps_asg (pe_tup pa) (pg_of (R := R) (tg := .tp [i, j]) (fnB := fun _ => true) g.gd.calm g.gd.nd g.gd.N (fun x _ => g.fn x) ?_) rfl ?_ rfl) fun D' σ H q => ?_
    · simp only [tgB, List.length_cons, List.length_nil, decide_true, List.zip_cons_cons, List.zip_nil_right, List.all_cons, List.all_nil, Bool.and_true, Bool.true_and, Bool.and_eq_true]
      simp only [nmT, nmB, Bool.and_eq_true] at h1 h2
      exact ⟨h1, h2⟩
    · have ed : ([z, w] : List Str).eraseDups = [z, w] := by simp [List.eraseDups_cons, nezw, Ne.symm nezw]
      simp only [swB, locB, Bool.or_eq_true, Bool.not_eq_true', Bool.and_eq_true] at h5
      have kz : X.env.kindOf z = X.env.scope.names.lookup z := rfl
      have kw : X.env.kindOf w = X.env.scope.names.lookup w := rfl
      by_cases c1 : X.env.scope.names.lookup z = some .local
      · by_cases c2 : X.env.scope.names.lookup w = some .local
        · by_cases c3 : pz.line = pw.line
          · rcases h5 with h5 | h5
            · exfalso
              have : (Expr.Name z pz).pos.line = (Expr.Name w pw).pos.line := c3
              simp [c1, c2, this] at h5
            · simp [swappedStores, hbk, kz, kw, c1, c2, c3, ed, Expr.pos, h5.1, h5.2]
          · have c3' : ¬ pw.line = pz.line := fun e => c3 e.symm
            simp [swappedStores, hbk, kz, kw, c1, c2, c3, c3', Expr.pos]
        · simp [swappedStores, hbk, kz, kw, c1, c2, Expr.pos]
      · simp [swappedStores, hbk, kz, kw, c1, Expr.pos]
        intro hh
        exact absurd (Nat.le_trans (Nat.le_of_eq hh.symm) (List.length_filterMap_le _ _)) (by simp)
    · rw [g.gd.K]
      refine par_imp (K2 := fun u v H2 => [u, v].length ≤ sizeLine ∧ ∀ p, H2 p = none → tgG c.w.K (.tp [i, j]) (.ref p) σ (upd H2 p (.tup [u, v])) D'.nx) q fun u v H2 h3 _ => ⟨by show 2 ≤ sizeLine; decide, fun p hp => ?_⟩
      exact ⟨p, [u, v], rfl, .inl (.inl upd_same), rfl, u, [v], rfl, v, [], rfl, rfl, h3 _ p _ hp rfl⟩
/-! ### loops -/
theorem iter_of {it : E} {d : D} {ρ1 : Rho} {xs : List D} (hit : itB it = true) (S : Stt c ρ G [] H σ) (e : MP.val (den Γ it) ρ = .ok d ρ1) (hd : seqOf d = some xs) : ∃ ρ0 G0, Stt c ρ0 G0 [] H σ ∧ Same G G0 ∧ iterOf it (den Γ it) ρ0 = .ok (xs, none) ρ1 := by
  have gen : (iterOf it (den Γ it) ρ = (den Γ it ρ).bind fun cv ρ' => match seqOf cv.d with
    | some xs => .ok (xs, none) ρ'
    | none => .bad) → ∃ ρ0 G0, Stt c ρ0 G0 [] H σ ∧ Same G G0 ∧ iterOf it (den Γ it) ρ0 = .ok (xs, none) ρ1 := fun h => by
    refine ⟨ρ, G, S, Same.refl G, ?_⟩
    rw [h]
    unfold MP.val at e
    cases e2 : den Γ it ρ with
    | ok cv ρ2 =>
      rw [e2] at e
      cases e
      simp only [Out.bind_ok, hd]
    | ex z ρ2 => rw [e2] at e; cases e
    | bad => rw [e2] at e; cases e
  cases it <;> first | (cases hit; done) | exact gen rfl | skip
  rename_i a
  by_cases hv : ∃ i, a = .var i
  · obtain ⟨i, rfl⟩ := hv
    have e : MP.val (den Γ (.var i)) ρ = .ok d ρ1 := e
    simp only [MP.val, den] at e
    split at e
    · rename_i d' e2
      cases e
      refine ⟨ρ, G, S, Same.refl G, ?_⟩
      simp only [iterOf, e2, CV.d] at hd ⊢
      rw [hd]
    · rename_i d' e2
      cases e
      obtain ⟨G', p, s, S', _, _⟩ := S.freezeS e2
      refine ⟨_, G', S', s, ?_⟩
      have e3 : (ρ.set i (.val d'))[i]? = some (.val d') := set_self e2
      simp only [iterOf, CV.d] at hd ⊢
      rw [e3]
      simp only [hd]
    · cases e
  · refine gen ?_
    cases a <;> first | rfl | exact absurd ⟨_, rfl⟩ hv
theorem iter_ex {it : E} {z : String} {ρ1 : Rho} (hit : itB it = true) (e : MP.val (den Γ it) ρ = .ex z ρ1) : iterOf it (den Γ it) ρ = .ex z ρ1 := by
  have e' : den Γ it ρ = .ex z ρ1 := by
    unfold MP.val at e
    cases e2 : den Γ it ρ with
    | ok cv ρ2 => rw [e2] at e; cases e
    | ex z' ρ2 => rw [e2] at e; cases e; rfl
    | bad => rw [e2] at e; cases e
  have gen : (iterOf it (den Γ it) ρ = (den Γ it ρ).bind fun cv ρ' => match seqOf cv.d with
    | some xs => .ok (xs, none) ρ'
    | none => .bad) → iterOf it (den Γ it) ρ = .ex z ρ1 := fun h => by
    rw [h, e']
    rfl
  cases it <;> first | (cases hit; done) | exact gen rfl | skip
  rename_i a
  by_cases hv : ∃ i, a = .var i
  · obtain ⟨i, rfl⟩ := hv
    have e' : den Γ (.var i) ρ = .ex z ρ1 := e'
    simp only [den] at e'
    split at e' <;> cases e'
  · refine gen ?_
    cases a <;> first | rfl | exact absurd ⟨_, rfl⟩ hv
theorem for_shape {tg : Tg} {it : E} {s : S} {sc : Scope} {st : Stmt} (h : ckS R (.for tg it s) sc (.s st) = true) : ∃ t iter body pos, st = .For t iter body [] pos ∧ itB it = true ∧ (!pairIt it || isTp tg) = true ∧ tgB R.N sc (fun _ => true) tg t = true ∧ ck R it sc (.i iter) = true ∧ ckS R s sc (.b body) = true := by
  unfold ckS at h
  split at h
  · rename_i z
    injection z with z
    subst z
    simp only [Bool.and_eq_true] at h
    exact ⟨_, _, _, _, rfl, h.1.1.1.1, h.1.1.1.2, h.1.1.2, h.1.2, h.2⟩
  · cases h
theorem frees_of : ∀ {is : List Nat}, frees ρ is = true → ∀ i ∈ is, free ρ i = true
  | j :: is, h, i, hi => by
    simp only [frees, Bool.and_eq_true] at h
    rcases List.mem_cons.mp hi with rfl | hi
    · exact h.1
    · exact frees_of h.2 i hi
theorem tgFree_of {tg : Tg} (h : tgFree tg ρ = true) (i : Nat) (hi : tgMem tg i) : free ρ i = true := by
  cases tg with
  | nm j =>
    cases hi
    exact h
  | tp is => exact frees_of h i hi
theorem snds_for {tg : Tg} {it : E} {s : S} (hs : SndS R Γ s) : SndS R Γ (.for tg it s) := by
  refine sndS_of (fun {X c W k st} g h => ?_) (fun sc sts => by cases sts <;> rfl)
  obtain ⟨t, iter, body, pos, rfl, h1, h2, h3, h4, h5⟩ := for_shape h
  refine PS.imp (ps_for g.po g.gd.calm (pi_of g.gd (fun p _ => snd R Γ p) h4 h2 h3 (by cases it <;> first | rfl | cases h1)) (pg_of (R := R) g.gd.calm g.gd.nd g.gd.N (fun x _ => g.fn x) h3) (hs.b g h5) (fold_ok h4 X.env)) fun D' σ H q => ?_
  obtain ⟨ρ, G, S, q⟩ := q
  simp only [denS] at q
  cases e : MP.val (den Γ it) ρ with
  | ok d ρ1 =>
    rw [e] at q
    simp only [Out.fl_ok] at q
    split at q
    · rename_i xs hd
      obtain ⟨ρ0, G0, S0, s0, e0⟩ := iter_of h1 S e hd
      refine ⟨ρ0, G0, [], S0, ?_⟩
      rw [e0]
      intro J H1 G1 S1 s1 hw hz
      have q := PostS.mono (s0.trans s1) q
      refine ⟨fun i m σ' H' => m = xs.length - i ∧ i ≤ xs.length ∧ ∃ ρ G, Stt c ρ G [] H' σ' ∧ Same G1 G ∧ PostS c W D' G (forL tg (denS Γ s) (xs.drop i) ρ), ⟨_, rfl, Nat.zero_le _, ρ1, G1, S1, Same.refl G1, q⟩, ?_⟩
      rintro i m σ' H' ⟨rfl, hi, ρ2, G2, S2, s2, q2⟩
      obtain ⟨w1, w2, w3⟩ := hw _ G2 _ H' σ' S2 s2 (fun j hj => by cases hj) i
      by_cases hlt : i < xs.length
      · refine .inr ⟨w1 hlt, fun σ3 H3 => ∃ ρ G, Stt c ρ G [] H3 σ3 ∧ Same G1 G ∧ PostS c W D' G (forL tg (denS Γ s) (xs.drop (i + 1)) ρ), fun σ3 H3 n3 => ⟨xs.length - (i + 1), by omega, rfl, hlt, n3⟩, fun x H3 y => ?_⟩
        obtain ⟨G3, gr, rx⟩ := w2 x H3 y _ (List.getElem?_eq_getElem hlt)
        rw [List.drop_eq_getElem_cons hlt] at q2
        simp only [forL] at q2
        split at q2
        · exact False.elim q2
        · rename_i ρa e1
          split at e1
          · rename_i hf
            have S3 := S2.grow gr
            rw [g.gd.K]
            refine bind_ok S3 e1 rx (tgFree_of hf) fun σ4 S4 _ _ => ?_
            have s3 : Same G1 G3 := s2.trans gr.gg
            refine ⟨ρa, G3, S4, ?_⟩
            have q2 := PostS.mono gr.gg q2
            cases e2 : denS Γ s ρa with
            | next ρb =>
              rw [e2] at q2
              exact fun σ5 H5 G5 S5 s5 => ⟨ρb, G5, S5, s3.trans s5, PostS.mono s5 q2⟩
            | cnt ρb =>
              rw [e2] at q2
              exact fun σ5 H5 G5 S5 s5 => ⟨ρb, G5, S5, s3.trans s5, PostS.mono s5 q2⟩
            | brk ρb =>
              rw [e2] at q2
              exact q2
            | ret cv ρb =>
              rw [e2] at q2
              cases cv <;> exact q2
            | ex z ρb =>
              rw [e2] at q2
              exact q2
            | bad =>
              rw [e2] at q2
              exact q2
          · cases e1
      · rw [List.drop_eq_nil_of_le (by omega)] at q2
        exact .inl ⟨w3 (by show xs.length = i; omega), q2 σ' H' G2 S2 (Same.refl G2)⟩
    · exact False.elim q
  | ex z ρ1 =>
    rw [e] at q
    refine ⟨ρ, G, [], S, ?_⟩
    rw [iter_ex h1 e]
    exact fun H1 G1 S1 s1 => q σ H1 G1 S1 s1
  | bad =>
    rw [e] at q
    exact False.elim q
theorem while_shape {a : E} {s : S} {sc : Scope} {st : Stmt} (h : ckS R (.whl a s) sc (.s st) = true) : ∃ t body pos, st = .While t body [] pos ∧ ck R a sc (.e t) = true ∧ ckS R s sc (.b body) = true := by
  unfold ckS at h
  split at h
  · rename_i z
    injection z with z
    subst z
    simp only [Bool.and_eq_true] at h
    exact ⟨_, _, _, rfl, h.1, h.2⟩
  · cases h
theorem snds_whl {a : E} {s : S} (hs : SndS R Γ s) : SndS R Γ (.whl a s) := by
  refine sndS_of (fun {X c W k st} g h => ?_) (fun sc sts => by cases sts <;> rfl)
  obtain ⟨t, body, pos, rfl, h1, h2⟩ := while_shape h
  refine PS.imp (ps_while g.po ((snd R Γ a).t g.gd h1) (hs.b g h2)) fun D' σ H q => ?_
  obtain ⟨ρ, G, S, q⟩ := q
  simp only [denS] at q
  refine ⟨fun m σ' H' => ∃ ρ G, Stt c ρ G [] H' σ' ∧ PostS c W D' G (whileL (den Γ a) (denS Γ s) m ρ), ⟨Γ.fuel, ρ, G, S, q⟩, ?_⟩
  rintro m σ' H' ⟨ρ1, G1, S1, q1⟩
  cases m with
  | zero => exact False.elim q1
  | succ m =>
    simp only [whileL] at q1
    refine fl_test S1 q1 (fun d ρ1 hd => ?_) fun b ρ2 H2 G2 S2 s2 q2 => ?_
    · cases d <;> first | rfl | exact absurd rfl (hd _)
    · cases b with
      | false =>
        rw [if_neg (by decide)]
        exact q2 σ' H2 G2 S2 (Same.refl G2)
      | true =>
        rw [if_pos rfl]
        refine ⟨fun σ3 H3 => ∃ ρ G, Stt c ρ G [] H3 σ3 ∧ PostS c W D' G (whileL (den Γ a) (denS Γ s) m ρ), fun σ3 H3 n3 => ⟨m, Nat.lt_succ_self m, n3⟩, ρ2, G2, S2, ?_⟩
        simp only at q2
        cases e2 : denS Γ s ρ2 with
        | next ρb =>
          rw [e2] at q2
          exact fun σ5 H5 G5 S5 s5 => ⟨ρb, G5, S5, PostS.mono s5 q2⟩
        | cnt ρb =>
          rw [e2] at q2
          exact fun σ5 H5 G5 S5 s5 => ⟨ρb, G5, S5, PostS.mono s5 q2⟩
        | brk ρb =>
          rw [e2] at q2
          exact q2
        | ret cv ρb =>
          rw [e2] at q2
          cases cv <;> exact q2
        | ex z ρb =>
          rw [e2] at q2
          exact q2
        | bad =>
          rw [e2] at q2
          exact q2
theorem snds_no {p : S} (h : ∀ sc z, ckS R p sc z = false) : SndS R Γ p := by
  refine ⟨?_, ?_⟩
  · intro X c W k st g h'
    rw [h] at h'
    cases h'
  · intro X c W k sts g h'
    rw [h] at h'
    cases h'
theorem snds_hole : SndS R Γ .hole where
  s := fun g h => ⟨fun pins s σ H D' I q => by
    obtain ⟨ρ, G, S, q⟩ := q
    exact False.elim q⟩
  b := fun g h => ⟨fun pins s σ H D' I q => by
    obtain ⟨ρ, G, S, q⟩ := q
    exact False.elim q⟩
/-- an own error, made without arguments -/
theorem pmk_none {n : Str} {C : Addr} {p pos : Pos} (e : ExF X.K C) (hmg : X.mg n = some (.ref C)) (hgl : Gl X n) (hnd : (n == ("__debug__" : Str)) = false) : PMk X (.Call (.Name n p) [] [] pos) (fun _ H Q => Q (.ref C) none H) := by
  intro pins s σ H Q J z
  refine wpAny_Call_Name_kw (ld_glob J hgl hmg (PySem.W.callWith_K0 J.kIn e.kp ?_) hnd)
  obtain ⟨b1, b2, b3, b4, b5, b6, b7, b8, b9, c1, c2, c3, c4, c5, c6, c7, c8, k1, k2, k3, k4⟩ := exc_obj J.kIn e.ex
  exact wpAny_call_exc_subT PySem.F.excBase_ValueError k4 k1 k2 k3 (fun h' a mk => mk_of J mk (raises_own e.sb e.ty) z (J.hok.gone mk.new)) (Nat.zero_le _)
theorem snds_rse {n : String} : SndS R Γ (.rse n) := by
  refine sndS_of (fun {X c W k st} g h => ?_) (fun sc sts => by cases sts <;> rfl)
  have sh : ∃ y p p2, st = .Raise (some (.Call y [] [] p)) none p2 ∧ R.exs.contains n = true ∧ clsB X.env.scope n y = true := by
    simp only [ckS] at h
    split at h
    · rename_i hz
      cases hz
      rw [Bool.and_eq_true] at h
      exact ⟨_, _, _, rfl, h.1, h.2⟩
    · cases h
  obtain ⟨y, p, p2, rfl, h1, h2⟩ := sh
  have hm : n ∈ R.exs := by simpa using h1
  obtain ⟨e1, e2⟩ := g.ex n hm
  cases y <;> first | (cases h2; done) | skip
  rename_i z pz
  simp only [clsB, Bool.and_eq_true, decide_eq_true_eq] at h2
  obtain ⟨⟨rfl, h3⟩, h4⟩ := h2
  refine PS.imp (ps_raise g.gd.calm g.gd.tk (pmk_none e2 e1 (gl_of h3) ?_)) fun D' σ H q => ?_
  · simp only [okName, Bool.and_eq_true, Bool.not_eq_true'] at h4
    exact h4.1.1
  · obtain ⟨ρ, G, S, q⟩ := q
    exact q σ H G S (Same.refl G)
theorem call_sub {M : Model} {A : Around} {E : Value → Shared → Prop} {s : Shared} {env : Env} {o i : Expr} {p pos : Pos} {args : List Expr} {Q : Value → Shared → Prop}
    (h : wpAny M A (eval (.Subscript o i p) env) (fun f s1 => wpAny M A (callWith pos f [] (backTo pos (starEach args env)) (backToKw pos (keywordEach [] env))) Q E s1) E s) : wpAny M A (eval (.Call (.Subscript o i p) args [] pos) env) Q E s := by
  have e : eval (.Call (.Subscript o i p) args [] pos) env = (do
      let f ← eval (.Subscript o i p) env
      callWith pos f [] (backTo pos (starEach args env)) (backToKw pos (keywordEach [] env))) := by first | rfl | (simp only [eval]; done)
  rw [e]
  exact wpAny_bind h
theorem snds_retC {fs : List String} {a es : E} : SndS R Γ (.retC fs a es) := by
  refine sndS_of (fun {X c W k st} g h => ?_) (fun sc sts => by cases sts <;> rfl)
  have sh : ∃ o i p x xs pos rp, st = .Return (some (.Call (.Subscript o i p) (x :: xs) [] pos)) rp ∧ ck R a X.env.scope (.e (.Subscript o i p)) = true ∧ ck R es X.env.scope (.a (x :: xs)) = true ∧ ∀ f ∈ fs, f ∈ R.fns := by
    simp only [ckS] at h
    split at h
    · rename_i hz
      cases hz
      rw [Bool.and_eq_true, Bool.and_eq_true] at h
      exact ⟨_, _, _, _, _, _, _, rfl, h.2.1, h.2.2, fun f hf => by simpa using List.all_eq_true.mp h.1 f hf⟩
    · cases h
  obtain ⟨o, i, p, x, xs, pos, rp, rfl, h1, h2, h3⟩ := sh
  have hst := @ck_star R es X.env (x :: xs) h2
  have hy := hst.1 x xs rfl
  have hpl : (backTo pos (starEach xs X.env)).any (·.1) = false := by
    have := hst.2 pos
    rw [star_cons hy] at this
    unfold backTo at this ⊢
    rw [List.map_cons, List.any_cons] at this
    simpa using this
  have pe : PE X (.Call (.Subscript o i p) (x :: xs) [] pos) (fun σ H Q => tD Γ c W a σ H fun v H1 => ∃ (ad : Addr) (fd : FD) (dat : FuncData) (ps : List Str), v = .ref ad ∧ FnOk X.prog X.w X.K X.mg X.base (L2.CX X.prog X.w) k ad dat ps (spF c.w fd) ∧ PySem.W.keepIn X.K (.ref ad) = true ∧ Binds X.K dat ps [] ∧ tCallS (spF c.w fd) (WE W) (tA Γ c W es) σ H1 Q) := by
    refine ⟨fun pins s σ H Q J q => ?_⟩
    refine call_sub (thn (((snd R Γ a).e g.gd h1).run pins s σ H _ J q) fun u s1 hh => ?_)
    obtain ⟨v, H1, J1, r1, ad, fd, dat, ps, rfl, F, kp, bd, q1⟩ := hh
    cases r1
    refine PySem.W.callWith_K (h₀ := X.base) J1.ok.mod.kin kp (thn (((snd R Γ es).a g.gd h2).run pos pins s1 σ H1 _ J1 q1) fun us s2 hh => ?_) (star_cons hy) hpl
    obtain ⟨vs, H2, J2, r2, q2⟩ := hh
    exact ⟨J2.kIn, run_fnS F g.gd.room bd (passAt g.gd.tk σ) J2 r2 q2⟩
  refine PS.imp (ps_ret pe) fun D' σ H q => ?_
  obtain ⟨ρ, G, S, q⟩ := q
  simp only [denS] at q
  refine fl_val S q fun d ρ1 v H1 G1 S1 s1 r q => ?_
  cases r <;> first | exact False.elim q | skip
  rename_i f
  simp only at q
  split at q
  · rename_i hc
    have hm := h3 f (by simpa using hc)
    obtain ⟨fd, hf, ad, dat, ps, m1, m2, m3, m4⟩ := g.gd.fns f hm
    have e1 := m1.symm.trans (g.gd.fng f hm)
    cases e1
    refine ⟨_, fd, dat, ps, rfl, m4, m2, m3, call_imp hf (fl_cv S1 q (fun d ρ2 v H2 G2 S2 r2 q2 => ?_) (fun d ρ2 pp H2 G2 S2 q2 => ?_))⟩
    · exact q2 σ H2 G2 v S2 (Same.refl G2) r2
    · exact q2 σ H2 G2 pp S2 (Same.refl G2)
  · exact False.elim q
theorem find_mem {z : String} {k : Nat} (h : refusals.findIdx? (· == z) = some k) : z ∈ refusals := by
  rw [List.findIdx?_eq_some_iff_getElem] at h
  obtain ⟨hk, e, _⟩ := h
  rw [← (by simpa using e : refusals[k] = z)]
  exact List.getElem_mem hk
/-- the suite's reading -/
def tSu (κ : String → Addr) (i : Nat) (a : Addr) (cls : Value) (d : Option Addr) : TS := fun D' σ H => ∃ z k, cls = .ref (κ z) ∧ d = none ∧ refusals.findIdx? (· == z) = some k ∧ σ[i]? = some (some (.ref a)) ∧
  ∀ b H', Same H H' → H b = none → H' b = some (.tup [.str (Str.ofString "refused"), .int (k : Nat)]) → D'.rt (.ref b) H'
theorem snds_try {i : Nat} {p : S} (hp : SndS R Γ p) : SndS R Γ (.tryW i p) := by
  refine sndS_of (fun {X c W k st} g h => ?_) (fun sc sts => by cases sts <;> rfl)
  have sh : ∃ body y n f e p1 p2 p3 p4 p5, st = .Try body [.ExceptHandler (some y) (some n) [.Return (some (.Call (.Name f p1) [e] [] p2)) p3] p4] [] [] p5 ∧ R.tw = true ∧ clsB X.env.scope "DotError" y = true ∧ R.N[i]? = some n ∧ X.env.scope.names.lookup n = some .local ∧ f = Str.ofString "_law_which" ∧ glB X.env.scope f = true ∧ nameB R.N X.env.scope i e = true ∧ ckS R p X.env.scope (.b body) = true := by
    simp only [ckS] at h
    split at h
    · rename_i hz
      cases hz
      simp only [Bool.and_eq_true, decide_eq_true_eq] at h
      obtain ⟨⟨⟨⟨⟨⟨⟨a1, a2⟩, a3⟩, a4⟩, a5⟩, a6⟩, a7⟩, a8⟩ := h
      exact ⟨_, _, _, _, _, _, _, _, _, _, rfl, a1, a2, a3, a4, a5, a6, a7, a8⟩
    · cases h
  obtain ⟨body, y, n, f, e, p1, p2, p3, p4, p5, rfl, a1, a2, a3, a4, rfl, a6, a7, a8⟩ := sh
  obtain ⟨⟨fa, bi, F, hk⟩, dot, exm⟩ := g.tw a1
  cases y <;> first | (cases a2; done) | skip
  rename_i y0 yp
  simp only [clsB, Bool.and_eq_true, decide_eq_true_eq] at a2
  obtain ⟨⟨rfl, b1⟩, b2⟩ := a2
  simp only [okName, Bool.and_eq_true, Bool.not_eq_true'] at b2
  obtain ⟨en, ep, rfl, c1, c2, c3, c4⟩ := name_of a7
  have rm := g.gd.room.mono (g.k0 a1)
  refine PS.imp (L2H.ps_try_asH (x := Str.ofString "DotError") (c := .ref (c.w.κ "DotError")) (tb := fun W => tS Γ c W p) (ts := tSu c.w.κ i) (Wout := W) g.hs g.hf g.gd.nd (by rw [g.gd.N]; exact a3) a4 ⟨gl_of b1, b2.1.1, .inl dot⟩ g.gd.tk
    (fun W' pn xe _ tk po => hp.b (k := k) { gd := { calm := g.gd.calm, N := g.gd.N, nd := g.gd.nd, room := g.gd.room, K := g.gd.K, bi := g.gd.bi, gc := g.gd.gc, fns := g.gd.fns, tk := tk, cls := g.gd.cls, cln := g.gd.cln, clg := g.gd.clg, fng := g.gd.fng, fld := g.gd.fld, mks := g.gd.mks, eqs := g.gd.eqs }, po := po, fn := g.fn, bk := g.bk, ex := g.ex, hs := g.hs, hf := g.hf, tw := g.tw, k0 := g.k0 } a8)
    (fun a oe cls d pn hz hf => ⟨fun pins s σ H D' J q => ?_⟩)) fun D' σ H q => ?_
  · obtain ⟨z, kk, rfl, rfl, hkk, e1, e2⟩ := q
    exact (pss_one (ps_ret (pe_which (z := z) (k := kk) (i := i) F (L2H.roomH_of rm) (gl_of a6) (by decide) hk (pe_var (by show X.N[i]? = some en; rw [g.gd.N]; exact c1) c2 c3 c4) hkk (find_mem hkk) hz.1 hz.2 hf))).run pins s σ H D' J ⟨e1, e2⟩
  · obtain ⟨ρ, G, S, q⟩ := q
    refine ⟨ρ, G, S, ?_⟩
    simp only [denS] at q
    cases e : denS Γ p ρ with
    | ex z ρ1 =>
      rw [e] at q
      simp only at q
      split at q
      · rename_i hfr
        split at q
        · rename_i kk hkk
          intro σ1 H1 G1 S1 s1
          refine ⟨true, exm z (find_mem hkk), fun _ a na => ⟨z, kk, rfl, rfl, hkk, ?_, fun b H2 sm nb eb => ?_⟩, fun e => by cases e⟩
          · refine List.getElem?_set_self ?_
            rw [← S1.len]
            unfold free at hfr
            cases e3 : ρ1[i]? with
            | none => rw [e3] at hfr; cases hfr
            | some _ => exact (List.getElem?_eq_some_iff.mp e3).1
          · have gr : Grow G1 H1 (upd G1 b (.tup [.str (Str.ofString "refused"), .int (kk : Nat)])) H2 := by
              refine ⟨sm, same_upd (S1.gh.free nb), fun x o eo => ?_, fun x o eo => ?_⟩
              · by_cases hx : x = b
                · subst hx
                  rw [upd_same] at eo
                  rw [← eo]
                  exact eb
                · rw [upd_ne hx] at eo
                  exact sm _ _ (S1.gh _ _ eo)
              · by_cases hx : x = b
                · subst hx
                  exact .inr nb
                · rw [upd_ne hx] at eo
                  exact .inl eo
            exact q σ1 H2 _ (.ref b) (S1.grow gr) (s1.trans gr.gg) (.tup upd_same (.cons (.str "refused") (.cons (.int _) .nil)))
        · exact False.elim q
      · exact False.elim q
    | next ρ1 => rw [e] at q; exact q
    | ret cv ρ1 =>
      rw [e] at q
      cases cv <;> exact q
    | brk ρ1 => rw [e] at q; exact q
    | cnt ρ1 => rw [e] at q; exact q
    | bad => rw [e] at q; exact q
/-- every statement keeps what it means -/
theorem eraseD_at : ∀ {xs ys : List D} {x : D}, eraseD x xs = some ys → ∃ (j : Nat) (z : D), xs[j]? = some z ∧ eqD z x = true ∧ (∀ (m : Nat) (z' : D), m < j → xs[m]? = some z' → eqD z' x = false) ∧ ys = xs.eraseIdx j
  | [], _, _, h => by cases h
  | y :: xs, ys, x, h => by
    simp only [eraseD] at h
    split at h
    · rename_i e
      cases h
      exact ⟨0, y, rfl, e, fun m _ hm => absurd hm (Nat.not_lt_zero _), rfl⟩
    · rename_i e
      cases e2 : eraseD x xs with
      | none => rw [e2] at h; cases h
      | some zs =>
        rw [e2] at h
        cases h
        obtain ⟨j, z, h1, h2, h3, rfl⟩ := eraseD_at e2
        refine ⟨j + 1, z, by simpa using h1, h2, fun m z' hm hz => ?_, rfl⟩
        cases m with
        | zero =>
          simp only [List.getElem?_cons_zero, Option.some.injEq] at hz
          subst hz
          simpa using e
        | succ m => exact h3 m z' (by omega) (by simpa using hz)
theorem snds_rmv {i : Nat} {e : E} : SndS R Γ (.rmv i e) := by
  refine sndS_of (fun {X c W k st} g h => ?_) (fun sc sts => by cases sts <;> rfl)
  obtain ⟨o, apos, v, cpos, spos, rfl, h1, h2, h3⟩ := meth_shape h
  have hs := (ck_shape h2).1
  have hb : attributeBase o (Str.ofString "remove") X.env (eval o X.env) = eval o X.env := by
    obtain ⟨y, pos, rfl, _⟩ := name_of h1
    rfl
  refine PS.imp (ps_expr (pe_bm PySem.F.plainAttrs_list PySem.F.slot_list_remove PySem.F.type_list_remove (mt_remD (by have := g.gd.un; omega)) (pe_name g.gd h1) (pa_cons ((snd R Γ e).e g.gd h2) pa_nil (star_cons hs)) hb (few_one hs) h3 (star_cons hs) rfl) rfl) fun D' σ H q => ?_
  obtain ⟨ρ, G, S, q⟩ := q
  simp only [denS] at q
  split at q
  · rename_i hm
    obtain ⟨p, vs, hp, hH⟩ := mut_slot S hm
    refine ⟨.ref p, hp, .inl ⟨rfl, _, .inl (.inl hH)⟩, ?_⟩
    refine fl_val S q fun d ρ1 u H1 G1 S1 s1 r q => ?_
    split at q
    · rename_i xs hx
      split at q
      · rename_i hpl
        rw [Bool.and_eq_true] at hpl
        cases er : eraseD d xs with
        | none => rw [er] at q; exact False.elim q
        | some ys =>
          rw [er] at q
          obtain ⟨j, z, j1, j2, j3, rfl⟩ := eraseD_at er
          obtain ⟨e1, p', us, g1, g2, rl⟩ := S1.lstAt hx
          rw [hp] at g1
          cases g1
          have pd := pl_plain hpl.1
          have pxs : plnL xs = true := pl_plain hpl.2
          have pz : ∀ {m : Nat} {z' : D}, xs[m]? = some z' → plnD z' = true := fun {m z'} hz' => by
            have : ∀ {l : List D}, plnL l = true → ∀ x ∈ l, plnD x = true := by
              intro l
              induction l with
              | nil => exact fun _ x hx => by cases hx
              | cons a l ih =>
                intro h x hx
                simp only [plnL, Bool.and_eq_true] at h
                rcases List.mem_cons.mp hx with rfl | hx
                · exact h.1
                · exact ih h.2 x hx
            exact this pxs _ (List.mem_of_getElem? hz')
          have tm : ∀ {m : Nat}, (toPs xs)[m]? = (xs[m]?).map toP := fun {m} => by rw [toPs_map, List.getElem?_map]
          refine ⟨p, u, toP d, us, toPs xs, j, toP z, rfl, rfl, g2, by rw [g.gd.K]; exact rl.dp S1.gh pxs, by rw [g.gd.K]; exact r.dp S1.gh pd, shaped_of hpl.2, shaped_of hpl.1, by rw [tm, j1]; rfl, by rw [← eqD_eqv z d (pz j1) pd]; exact j2, fun m z' hm hz' => ?_, ?_⟩
          · rw [tm] at hz'
            obtain ⟨w', hw1, rfl⟩ := Option.map_eq_some_iff.mp hz'
            rw [← eqD_eqv w' d (pz hw1) pd]
            exact j3 m w' hm hw1
          · exact q σ _ G1 (S1.put e1 hp (.lst (rl.eraseIdx j))) (Same.refl G1)
      · exact False.elim q
    · exact False.elim q
  · exact False.elim q
theorem snds_popA {j i : Nat} {e : E} : SndS R Γ (.popA j i e) := by
  refine sndS_of (fun {X c W k st} g h => ?_) (fun sc sts => by cases sts <;> rfl)
  cases st <;> first | (cases h; done) | skip
  rename_i ts val spos
  rcases ts with _ | ⟨y, _ | ⟨y', ts⟩⟩ <;> first | (cases h; done) | skip
  cases val <;> first | (cases h; done) | skip
  rename_i fx args kws cpos
  cases fx <;> first | (cases h; done) | skip
  rename_i o f apos
  rcases args with _ | ⟨v, _ | ⟨v', args⟩⟩ <;> first | (cases h; done) | skip
  rcases kws with _ | ⟨kw, kws⟩ <;> first | (cases h; done) | skip
  have h : (nmT R.N X.env.scope j y && decide (f = Str.ofString "pop") && nameB R.N X.env.scope i o && ck R e X.env.scope (.e v) && (apos.endLine == cpos.line)) = true := h
  rw [Bool.and_eq_true, Bool.and_eq_true, Bool.and_eq_true, Bool.and_eq_true, decide_eq_true_eq] at h
  obtain ⟨⟨⟨⟨h0, rfl⟩, h1⟩, h2⟩, h3⟩ := h
  obtain ⟨z, py, rfl, hz, hl⟩ := nm_of h0
  have hz' : X.N[j]? = some z := by rw [g.gd.N]; exact hz
  have hs := (ck_shape h2).1
  have hb : attributeBase o (Str.ofString "pop") X.env (eval o X.env) = eval o X.env := by
    obtain ⟨y, pos, rfl, _⟩ := name_of h1
    rfl
  refine PS.imp (ps_set g.gd.nd hz' hl (pe_bm PySem.F.plainAttrs_list PySem.F.slot_list_pop PySem.F.type_list_pop mt_popAt (pe_name g.gd h1) (pa_cons ((snd R Γ e).e g.gd h2) pa_nil (star_cons hs)) hb (few_one hs) h3 (star_cons hs) rfl) (swaps_no rfl) (.inl (g.fn z))) fun D' σ H q => ?_
  obtain ⟨ρ, G, S, q⟩ := q
  simp only [denS] at q
  split at q
  · rename_i hm
    obtain ⟨p, vs, hp, hH⟩ := mut_slot S hm
    refine ⟨.ref p, hp, .inl ⟨rfl, _, .inl (.inl hH)⟩, ?_⟩
    refine fl_val S q fun d ρ1 u H1 G1 S1 s1 r q => ?_
    cases ex : mutL ρ1 i with
    | none => rw [ex] at q; exact False.elim q
    | some xs =>
      rw [ex] at q
      cases d <;> first | exact False.elim q | skip
      rename_i m
      simp only at q
      split at q
      · rename_i hm2
        obtain ⟨e1, p', us, g1, g2, rl⟩ := S1.lstAt ex
        rw [hp] at g1
        cases g1
        cases r
        cases ed : xs[m.toNat]? with
        | none => rw [ed] at q; exact False.elim q
        | some d =>
          rw [ed] at q
          simp only at q
          split at q
          · rename_i hf
            rw [Bool.and_eq_true] at hf
            obtain ⟨y, hy, ry⟩ := rl.get ed
            have hn := rl.length
            refine ⟨p, us, m, m.toNat, y, rfl, rfl, g2, by omega, by omega, seqIndex_of hm2.1 (by omega), hy, ?_⟩
            have S2 := S1.put (o' := .lst (us.eraseIdx m.toNat)) e1 hp (.lst (rl.eraseIdx m.toNat))
            exact q _ _ G1 (S2.store hf.1 (.inr ⟨d, y, rfl, rfl, ry⟩)) (Same.refl G1)
          · exact False.elim q
      · exact False.elim q
  · exact False.elim q
theorem putF_rep {w : Wd} {f : String} {v : V} {d : D} (r : Rep w G v d) : ∀ {fs : List (Str × V)} {ds : List (String × D)}, RepF w G fs ds → RepF w G (putF (Str.ofString f) v fs) (putFd f d ds)
  | _, _, .nil => .cons r .nil
  | (_, _) :: _, (g, _) :: _, .cons h rest => by
    simp only [putF, putFd]
    by_cases e : g = f
    · subst e
      rw [if_pos rfl, if_pos rfl]
      exact .cons r rest
    · rw [if_neg e, if_neg fun z => e (ofString_inj z)]
      exact .cons h (putF_rep r rest)
theorem repF_len {w : Wd} : ∀ {fs : List (Str × V)} {ds : List (String × D)}, RepF w G fs ds → fs.length = ds.length
  | _, _, .nil => rfl
  | _, _, .cons _ r => congrArg (· + 1) (repF_len r)
theorem snds_asgAt {i : Nat} {f : String} {e : E} : SndS R Γ (.asgAt i f e) := by
  refine sndS_of (fun {X c W k st} g h => ?_) (fun sc sts => by cases sts <;> rfl)
  cases st <;> first | (cases h; done) | skip
  rename_i ts v spos
  rcases ts with _ | ⟨y, _ | ⟨y', ts⟩⟩ <;> first | (cases h; done) | skip
  · cases y <;> first | (cases h; done) | skip
    rename_i o m apos
    have h : (decide (m = Str.ofString f) && R.fld.contains f && nameB R.N X.env.scope i o && ck R e X.env.scope (.e v) && !compB v) = true := h
    rw [Bool.and_eq_true, Bool.and_eq_true, Bool.and_eq_true, Bool.and_eq_true, decide_eq_true_eq, Bool.not_eq_true'] at h
    obtain ⟨⟨⟨⟨rfl, h1⟩, h2⟩, h3⟩, h4⟩ := h
    refine PS.imp (ps_fld (pe_name g.gd h2) ((snd R Γ e).e g.gd h3) (swaps_no h4)) fun D' σ H q => ?_
    obtain ⟨ρ, G, S, q⟩ := q
    simp only [denS] at q
    refine fl_val S q fun d ρ1 u H1 G1 S1 s1 r q => ?_
    cases ei : ioAt ρ1 i with
    | none => rw [ei] at q; exact False.elim q
    | some z =>
      rw [ei] at q
      cases z <;> first | exact False.elim q | skip
      rename_i n fs
      simp only at q
      split at q
      · rename_i hl
        obtain ⟨p, o', e1, e2, ro⟩ := S1.mutable ei
        cases ro with
        | obj hn rf =>
          rename_i dx vs
          refine ⟨.ref p, e1, p, _, dx, vs, rfl, e2, (g.gd.cls n hn).cl, g.gd.fld n hn f (by simpa using h1), by rw [repF_len rf]; exact hl, ?_⟩
          exact q σ _ G1 (S1.put ei e1 (.obj hn (putF_rep r rf))) (Same.refl G1)
      · exact False.elim q
  · cases y <;> cases h
theorem snds (R : Row) (Γ : Tab) : ∀ p : S, SndS R Γ p := by
  intro p
  induction p with
  | nil => exact snds_nil
  | seq s t hs ht => exact snds_seq hs ht
  | asg i e => exact snds_asg
  | asgT is e => exact snds_asgT
  | par i j a b => exact snds_par
  | asgIx i k e => exact snds_asgIx
  | augIx i op k e => exact snds_augIx
  | aug i op e => exact snds_aug
  | expr e => exact snds_expr
  | app i e => exact snds_app
  | ext i e => exact snds_ext
  | rmv i e => exact snds_rmv
  | ite a s t hs ht => exact snds_ite hs ht
  | «for» tg it s hs => exact snds_for hs
  | whl a s hs => exact snds_whl hs
  | ret e => exact snds_ret
  | rse n => exact snds_rse
  | brk => exact snds_brk
  | cnt => exact snds_cnt
  | tryW i s hs => exact snds_try hs
  | hole => exact snds_hole
  | retC fs a es => exact snds_retC
  | asgAt i f e => exact snds_asgAt
  | popA j i k => exact snds_popA
end
end MPS
end
section
set_option Elab.async false
set_option linter.all false
set_option maxRecDepth 100000
set_option maxHeartbeats 2000000
/-! MpF: a def's promise from its text. -/
namespace MPS
open PySem L2 MP
theorem initRho_length (n : Nat) (io : List Nat) : ∀ (ds : List D) (k : Nat), k + ds.length ≤ n → (initRho n io k ds).length = n - k
  | [], k, _ => by simp [initRho]
  | d :: ds, k, h => by
    simp only [initRho, List.length_cons] at h ⊢
    rw [initRho_length n io ds (k + 1) (by omega)]
    omega
theorem initRho_get (n : Nat) (io : List Nat) : ∀ (ds : List D) (k i : Nat) (x : Cell), (initRho n io k ds)[i]? = some x → x = .un ∨ ∃ d, ds[i]? = some d ∧ ((x = .io d ∧ k + i ∈ io) ∨ (x = .val d ∧ k + i ∉ io))
  | [], k, i, x, h => by
    simp only [initRho] at h
    rw [List.getElem?_replicate] at h
    split at h
    · cases h
      exact .inl rfl
    · cases h
  | d :: ds, k, 0, x, h => by
    simp only [initRho, List.getElem?_cons_zero, Option.some.injEq] at h
    refine .inr ⟨d, rfl, ?_⟩
    by_cases hk : k ∈ io
    · exact .inl ⟨by rw [← h, if_pos (by simpa using hk)], hk⟩
    · exact .inr ⟨by rw [← h, if_neg (by simpa using hk)], hk⟩
  | d :: ds, k, i + 1, x, h => by
    simp only [initRho, List.getElem?_cons_succ] at h ⊢
    have := initRho_get n io ds (k + 1) i x h
    rw [show k + (i + 1) = k + 1 + i by omega]
    exact this
theorem initRho_io (n : Nat) (io : List Nat) : ∀ (ds : List D) (k i : Nat) (d : D), ds[i]? = some d → k + i ∈ io → (initRho n io k ds)[i]? = some (.io d)
  | [], k, i, d, h, _ => by simp at h
  | d :: ds, k, 0, d', h, hk => by
    simp only [List.getElem?_cons_zero, Option.some.injEq] at h
    subst h
    simp only [initRho, List.getElem?_cons_zero]
    rw [if_pos (by simpa using hk)]
  | d :: ds, k, i + 1, d', h, hk => by
    simp only [initRho, List.getElem?_cons_succ] at h ⊢
    exact initRho_io n io ds (k + 1) i d' h (by rw [show k + 1 + i = k + (i + 1) by omega]; exact hk)
theorem start_get {N : List Str} {vs : List V} {i : Nat} {v : V} (h : vs[i]? = some v) : (L2.start N vs)[i]? = some (some v) := by
  unfold L2.start
  rw [List.getElem?_append_left (by rw [List.length_map]; exact lt_of_get h), List.getElem?_map, h]
  rfl
theorem start_len {N : List Str} {vs : List V} (h : vs.length ≤ N.length) : (L2.start N vs).length = N.length := by
  unfold L2.start
  rw [List.length_append, List.length_map, List.length_replicate]
  omega
/-- the slots that may be changed, with their addresses -/
def ioOf (vs : List V) (io : List Nat) : List (Nat × Addr) := io.filterMap fun i => match (vs[i]? : Option V) with
  | some (V.ref p) => some (i, p)
  | _ => none
theorem mem_ioOf {vs : List V} {io : List Nat} {q : Nat × Addr} : q ∈ ioOf vs io ↔ q.1 ∈ io ∧ vs[q.1]? = some (.ref q.2) := by
  unfold ioOf
  rw [List.mem_filterMap]
  constructor
  · rintro ⟨i, hi, e⟩
    split at e
    · rename_i p ep
      cases e
      exact ⟨hi, ep⟩
    · cases e
  · rintro ⟨h1, h2⟩
    exact ⟨q.1, h1, by rw [h2]⟩
section
variable {w : Wd} {io : List Nat} {G H G' H' : Hp} {vs : List V} {ds : List D} {N : List Str}
/-- at the entry -/
theorem Stt.enter (sg : Same G H) (a : ArgsOk w io G H vs ds) (hl : ds.length ≤ N.length) (hio : ∀ i ∈ io, i < ds.length) : Stt ⟨w, H, G, ioOf vs io⟩ (initRho N.length io 0 ds) G [] H (L2.start N vs) := by
  obtain ⟨a1, a2, a3, a4⟩ := a
  have get : ∀ (i : Nat) (d : D), Mu (initRho N.length io 0 ds) i d → ds[i]? = some d ∧ i ∈ io ∧ (initRho N.length io 0 ds)[i]? = some (.io d) := fun i d m => by
    unfold Mu at m
    rcases m with m | m | m
    · rcases initRho_get _ _ _ _ _ _ m with z | ⟨d', _, ⟨z, _⟩ | ⟨z, _⟩⟩ <;> cases z
    · rcases initRho_get _ _ _ _ _ _ m with z | ⟨d', _, ⟨z, _⟩ | ⟨z, _⟩⟩ <;> cases z
    · rcases initRho_get _ _ _ _ _ _ m with z | ⟨d', e, ⟨z, hi⟩ | ⟨z, _⟩⟩
      · cases z
      · cases z
        rw [Nat.zero_add] at hi
        exact ⟨e, hi, m⟩
      · cases z
  have atV : ∀ (i : Nat) (d : D), ds[i]? = some d → ∃ v, vs[i]? = some v := fun i d e => ⟨_, List.getElem?_eq_getElem (by rw [a1]; exact lt_of_get e)⟩
  have slot : ∀ (i : Nat) (d : D) (p : Addr), ds[i]? = some d → i ∈ io → (L2.start N vs)[i]? = some (some (.ref p)) → vs[i]? = some (.ref p) := fun i d p e hi es => by
    obtain ⟨v, hv⟩ := atV i d e
    rw [start_get hv] at es
    cases es
    exact hv
  exact {
    gh := sg
    g0 := Same.refl G
    keep := fun a o e _ => e
    gnew := fun a o e => .inl e
    iop := fun q hq => by
      obtain ⟨h1, h2⟩ := mem_ioOf.mp hq
      have hd := List.getElem?_eq_getElem (hio _ h1)
      obtain ⟨p, o, e1, _, e2, _⟩ := a3 q.1 _ _ h2 hd h1
      cases e1
      exact ⟨⟨o, e2⟩, start_get h2, _, initRho_io _ _ _ _ _ _ hd (by rw [Nat.zero_add]; exact h1)⟩
    len := by rw [initRho_length _ _ _ _ (by omega), start_len (by omega)]; rfl
    vals := fun i d e => by
      rcases initRho_get _ _ _ _ _ _ e with z | ⟨d', ed, ⟨z, _⟩ | ⟨z, hn⟩⟩
      · cases z
      · cases z
      · cases z
        obtain ⟨v, hv⟩ := atV i d ed
        exact ⟨v, start_get hv, a2 i v d hv ed (by rw [Nat.zero_add] at hn; exact hn)⟩
    muts := fun i d m => by
      obtain ⟨ed, hi, _⟩ := get i d m
      obtain ⟨v, hv⟩ := atV i d ed
      obtain ⟨p, o, rfl, _⟩ := a3 i v d hv ed hi
      exact ⟨p, start_get hv⟩
    at_ := fun k p d a => by
      cases k with
      | inr j => cases (show ([] : List (Addr × D))[j]? = some (p, d) from a)
      | inl i =>
        obtain ⟨ed, hi, _⟩ := get i d a.1
        obtain ⟨p', o, e1, e2, e3, r⟩ := a3 i _ d (slot i d p ed hi a.2) ed hi
        cases e1
        exact ⟨e2, o, e3, r⟩
    own := fun i d p h _ => by
      rcases h with h | h
      · rcases initRho_get _ _ _ _ _ _ h with z | ⟨d', _, ⟨z, _⟩ | ⟨z, _⟩⟩ <;> cases z
      · rcases initRho_get _ _ _ _ _ _ h with z | ⟨d', _, ⟨z, _⟩ | ⟨z, _⟩⟩ <;> cases z
    tmp := fun q hq => absurd hq List.not_mem_nil
    iom := fun i d e => by
      obtain ⟨ed, hi, _⟩ := get i d (.inr (.inr e))
      obtain ⟨v, hv⟩ := atV i d ed
      obtain ⟨p, o, rfl, _⟩ := a3 i v d hv ed hi
      exact ⟨(i, p), mem_ioOf.mpr ⟨hi, hv⟩, rfl⟩
    inj := fun k k' p d d' a b => by
      cases k with
      | inr j => cases (show ([] : List (Addr × D))[j]? = some (p, d) from a)
      | inl i =>
        cases k' with
        | inr j => cases (show ([] : List (Addr × D))[j]? = some (p, d') from b)
        | inl i' =>
          obtain ⟨ed, hi, _⟩ := get i d a.1
          obtain ⟨ed', hi', _⟩ := get i' d' b.1
          rw [a4 i i' p hi hi' (slot i d p ed hi a.2) (slot i' d' p ed' hi' b.2)] }
theorem outsOf_get {ρ : Rho} : ∀ {io : List Nat} {outs : List D}, outsOf ρ io = some outs → ∀ (j i : Nat), io[j]? = some i → ∃ d, outs[j]? = some d ∧ ρ[i]? = some (.io d)
  | i :: io, outs, h, j, i', hj => by
    simp only [outsOf] at h
    split at h
    · rename_i d e
      cases e2 : outsOf ρ io with
      | none => rw [e2] at h; cases h
      | some os =>
        rw [e2] at h
        cases h
        cases j with
        | zero =>
          cases hj
          exact ⟨d, rfl, e⟩
        | succ j => exact outsOf_get e2 j i' hj
    · cases h
  | [], outs, h, j, i', hj => by simp at hj
/-- at the exit -/
theorem Stt.leave {ρ : Rho} {τ : List (Addr × D)} {σ : L2.St} {outs : List D} (S : Stt ⟨w, H, G, ioOf vs io⟩ ρ G' τ H' σ) (h : outsOf ρ io = some outs) : After w io vs outs G H G' H' where
  gg := S.g0
  gh := S.gh
  keep := fun a o e hn => S.keep a o e fun q hq z => by
    obtain ⟨h1, h2⟩ := mem_ioOf.mp hq
    exact hn q.1 h1 (by rw [z]; exact h2)
  new := S.gnew
  outs := fun j i hj => by
    obtain ⟨d, h1, h2⟩ := outsOf_get h j i hj
    obtain ⟨q, hq, e⟩ := S.iom i d h2
    obtain ⟨_, e2, _⟩ := S.iop q hq
    obtain ⟨m1, m2⟩ := mem_ioOf.mp hq
    obtain ⟨g1, o, g2, r⟩ := S.at_ (.inl i) q.2 d ⟨.inr (.inr h2), by rw [← e]; exact e2⟩
    exact ⟨q.2, d, o, by rw [← e]; exact m2, h1, g1, g2, r⟩
end
/-- the def called f is fd: row-wide -/
def FnG (P : Program) (w : World) (K : PySem.W.Frag) (mg : Str → Option Value) (base : Heap) (wd : Wd) (k : Nat) (f : String) (fd : FD) : Prop := ∃ (a : Addr) (dat : FuncData) (ps : List Str), mg (Str.ofString f) = some (.ref a) ∧ PySem.W.keepIn K (.ref a) = true ∧ Binds K dat ps [] ∧
  FnOk P w K mg base (L2.CX P w) k a dat ps (spF wd fd)
theorem FnG.mono {P : Program} {w : World} {K : PySem.W.Frag} {mg : Str → Option Value} {base : Heap} {wd : Wd} {j k : Nat} {f : String} {fd : FD} (h : FnG P w K mg base wd j f fd) (hk : j ≤ k) : FnG P w K mg base wd k f fd := by
  obtain ⟨a, dat, ps, h1, h2, h3, h4⟩ := h
  exact ⟨a, dat, ps, h1, h2, h3, h4.mono hk⟩
/-- what a row says of its names -/
structure Names (K : PySem.W.Frag) (mg : Str → Option Value) (wd : Wd) (R : Row) : Prop where
  kk : wd.K = K
  bi : ∀ x ∈ R.bi, mg (Str.ofString x) = none
  gc : ∀ p ∈ R.gc, ∃ t, mg (Str.ofString p.1) = some (.int p.2 t)
  cls : ∀ n ∈ wd.cls, ClsF K (wd.κ n)
  cln : R.cls = wd.cls
  clg : ∀ n ∈ R.cls, mg (Str.ofString n) = some (.ref (wd.κ n))
  exs : ∀ n ∈ R.exs, mg (Str.ofString n) = some (.ref (wd.κ n)) ∧ ExF K (wd.κ n)
  tw : R.tw = true → Tw K mg wd.κ
  fng : ∀ n ∈ R.fns, mg (Str.ofString n) = some (.ref (wd.φ n))
  fld : ∀ n ∈ wd.cls, ∀ f ∈ R.fld, NoAttr K (wd.κ n) (Str.ofString f)
/-- what is told of the classes that a text makes instances of or compares -/
structure Mths (P : Program) (w : World) (K : PySem.W.Frag) (mg : Str → Option Value) (base : Heap) (wd : Wd) (k : Nat) (R : Row) (Γ : Tab) : Prop where
  mks : ∀ m ∈ R.mks, m.1 ∈ wd.cls ∧ ∃ fd, Γ.fn (m.1 ++ ".__init__") = some fd ∧ MkG P w K mg base wd k m fd
  eqs : ∀ n ∈ R.eqs, n ∈ wd.cls ∧ ∃ fd, Γ.fn (n ++ ".__eq__") = some fd ∧ EqI P w K mg base wd k n fd
/-- a text's run is what is promised, where anything is -/
def Keeps (Γ : Tab) (d : Def) (fd : FD) : Prop := fd.n = d.ps ∧ fd.io = d.io ∧ ∀ ds, ds.length = d.ps → fd.run ds = .bad ∨ d.run Γ ds = fd.run ds
theorem def_okG {P : Program} {w : World} {K : PySem.W.Frag} {mg : Str → Option Value} {base : Heap} {wd : Wd} {qual : Str} {scope : Scope} {body : List Stmt} {f : Addr} {dat : FuncData} {R : Row} {ps : List Str} {k : Nat} {Γ : Tab} {d : Def} {fd : FD}
    (rule : (∀ vs H Q E, spF wd fd vs H Q E → vs.length = ps.length) → (∀ (cdv : Value) (A : Around) (outer : List Env) (s : Shared) (H : Hp) (vs : List V) (Q : VK) (E : XK), Room k (A.deeper (PyProof.Rows.envOfC qual scope s.heap.objs.size f cdv)) → spF wd fd vs H Q E →
      ∃ t, PSs (cxOf (L2.CX P w) P w K mg base R.N qual scope f cdv A outer s H E) body t ∧ t { nx := fun _ H' => Q .non H', rt := Q } (L2.start R.N vs) H) → FnOk P w K mg base (L2.CX P w) (k + 1) f dat ps (spF wd fd))
    (S : FnScope R.N ps scope) (nm : Names K mg wd R) (hf : ∀ g ∈ R.fns, ∃ fd, Γ.fn g = some fd ∧ FnG P w K mg base wd k g fd) (hm : Mths P w K mg base wd k R Γ)
    (hk0 : R.tw = true → 1 ≤ k) (hn : d.n = R.N.length) (hp : d.ps = ps.length) (hio : ∀ i ∈ d.io, i < d.ps) (hb : ckS R d.body scope (.b body) = true) (hk : Keeps Γ d fd) : FnOk P w K mg base (L2.CX P w) (k + 1) f dat ps (spF wd fd) := by
  obtain ⟨k1, k2, k3⟩ := hk
  have hpl : ps.length ≤ R.N.length := by
    have := congrArg List.length S.pre
    rw [List.length_take] at this
    omega
  refine rule (fun vs H Q E h => by rw [h.1, k1, hp]) (fun cdv A outer s H vs Q E hr h => ?_)
  obtain ⟨hl, G, ds, sg, ar, post⟩ := h
  have hds : ds.length = d.ps := by rw [← ar.1, hl, k1]
  rw [k2] at ar post
  have S0 := Stt.enter (N := R.N) sg ar (by omega) (fun i hi => by rw [hds]; exact hio i hi)
  have gs : Gs R (cxOf (L2.CX P w) P w K mg base R.N qual scope f cdv A outer s H E) Γ ⟨wd, H, G, ioOf vs d.io⟩ k (fun cls d _ H' => E cls d H') := {
    gd := {
      calm := rfl
      N := rfl
      nd := S.nd
      room := hr
      K := nm.kk.symm
      bi := nm.bi
      gc := nm.gc
      fns := hf
      tk := takes_of rfl rfl rfl rfl
      cls := nm.cls
      cln := nm.cln
      clg := nm.clg
      fng := nm.fng
      fld := nm.fld
      mks := hm.mks
      eqs := hm.eqs }
    po := passes_of rfl
    ex := nm.exs
    hs := rfl
    hf := rfl
    tw := nm.tw
    k0 := hk0
    fn := fun _ => rfl
    bk := by
      show (if scope.kind.isAnnotationScope then ScopeKind.function else scope.kind) = .function
      rw [S.kind]
      rfl }
  refine ⟨_, (snds R Γ d.body).b gs hb, initRho R.N.length d.io 0 ds, G, S0, ?_⟩
  have e : fd.run ds = .bad ∨ d.run Γ ds = fd.run ds := k3 ds hds
  rcases e with e | e
  · rw [e] at post
    exact False.elim post
  · rw [← e] at post
    unfold Def.run at post
    rw [if_pos hds, hn] at post
    cases e2 : denS Γ d.body (initRho R.N.length d.io 0 ds) with
    | next ρ =>
      rw [e2] at post
      simp only at post
      cases e3 : outsOf ρ d.io with
      | none => rw [e3] at post; exact False.elim post
      | some os =>
        rw [e3] at post
        exact fun σ' H' G' S' s' => post .non H' G' (S'.leave e3) .non
    | ret cv ρ =>
      rw [e2] at post
      simp only at post
      cases e3 : outsOf ρ d.io with
      | none => rw [e3] at post; exact False.elim post
      | some os =>
        rw [e3] at post
        cases cv with
        | val z => exact fun σ' H' G' v S' s' r => post v H' G' (S'.leave e3) r
        | own z =>
          intro σ' H' G' p S' s'
          refine post (.ref p) H' G' (S'.leave e3) ?_
          obtain ⟨g1, o, g2, r⟩ := S'.at_ (.inr 0) p z rfl
          exact ⟨p, o, rfl, S'.tmp (p, z) (List.mem_singleton.mpr rfl), g1, g2, r⟩
    | ex z ρ =>
      rw [e2] at post
      simp only at post
      cases e3 : outsOf ρ d.io with
      | none => rw [e3] at post; exact False.elim post
      | some os =>
        rw [e3] at post
        exact fun σ' H' G' S' s' => post H' G' (S'.leave e3)
    | brk ρ => rw [e2] at post; exact False.elim post
    | cnt ρ => rw [e2] at post; exact False.elim post
    | bad => rw [e2] at post; exact False.elim post
theorem def_ok {P : Program} {w : World} {K : PySem.W.Frag} {mg : Str → Option Value} {base : Heap} {wd : Wd} {x qual : Str} {st : Stmt} {f : Addr} {dat : FuncData} {R : Row} {ps : List Str} {k : Nat} {Γ : Tab} {d : Def} {fd : FD}
    (F : L2.Fun K x qual st f dat) (S : FnScope R.N ps (defScope st)) (nm : Names K mg wd R) (hf : ∀ g ∈ R.fns, ∃ fd, Γ.fn g = some fd ∧ FnG P w K mg base wd k g fd) (hm : Mths P w K mg base wd k R Γ)
    (hk0 : R.tw = true → 1 ≤ k) (hn : d.n = R.N.length) (hp : d.ps = ps.length) (hio : ∀ i ∈ d.io, i < d.ps) (hb : ckS R d.body (defScope st) (.b (defBody st)) = true) (hk : Keeps Γ d fd) : FnOk P w K mg base (L2.CX P w) (k + 1) f dat ps (spF wd fd) :=
  def_okG (qual := qual) (fun len hbody => F.okX S len hbody) S nm hf hm hk0 hn hp hio hb hk
theorem def_okD {P : Program} {w : World} {K : PySem.W.Frag} {mg : Str → Option Value} {base : Heap} {wd : Wd} {x qual : Str} {params : Arguments} {body : List Stmt} {scope : Scope} {dvs : List V} {kws : List (Str × V)} {f : Addr} {dat : FuncData} {R : Row} {ps : List Str} {k : Nat} {Γ : Tab} {d : Def} {fd : FD}
    (F : L2.FunD K x qual params body scope dvs kws f dat) (S : FnScope R.N ps scope) (nm : Names K mg wd R) (hf : ∀ g ∈ R.fns, ∃ fd, Γ.fn g = some fd ∧ FnG P w K mg base wd k g fd) (hm : Mths P w K mg base wd k R Γ)
    (hk0 : R.tw = true → 1 ≤ k) (hn : d.n = R.N.length) (hp : d.ps = ps.length) (hio : ∀ i ∈ d.io, i < d.ps) (hb : ckS R d.body scope (.b body) = true) (hk : Keeps Γ d fd) : FnOk P w K mg base (L2.CX P w) (k + 1) f dat ps (spF wd fd) :=
  def_okG (qual := qual) (fun len hbody => F.ok S len hbody) S nm hf hm hk0 hn hp hio hb hk
end MPS
end
section
set_option Elab.async false
set_option linter.all false
set_option maxRecDepth 100000
set_option maxHeartbeats 2000000
/-! MpG: a row's table of promises, and the row's end. -/
namespace MPS
open PySem PySem.Spec PyProof.Rows L2 MP
/-- the def called x stands in the written part -/
def HasDef (K : PySem.W.Frag) (x : String) (st : Stmt) (f : Addr) : Prop := ∃ dat : FuncData, PySem.W.nsIn K mainGlobals (Str.ofString x) = some (some (.ref f)) ∧ L2.Fun K (Str.ofString x) (Str.ofString x) st f dat
theorem has_def {K : PySem.W.Frag} {x : String} {st : Stmt} {f : Addr} {oc : Value} {od an : Option Addr} {osl : Array (Option Value)} {kV doc pm cdv ct : Value} (a : PySem.W.nsIn K mainGlobals (Str.ofString x) = some (some (.ref f)))
    (l : K.lookup f = some ⟨oc, od, .func (PySem.W.fnOf (Str.ofString x) (Str.ofString x) (defArgs st) (defBody st) (defScope st) .none kV doc pm an cdv ct), osl⟩) (c : PySem.W.codeIn K cdv (Str.ofString x) = true) (k : PySem.W.keepIn K (.ref f) = true) : HasDef K x st f := ⟨_, a, fun_mk l c k⟩
/-- how a def's arguments bind -/
def BindsAll (x : String) (st : Stmt) (ps : List Str) : Prop := ∀ (kV doc pm : Value) (an : Option Addr) (cdv ct : Value) (us : List Value), us.length = ps.length → bindArgs (PySem.W.fnOf (Str.ofString x) (Str.ofString x) (defArgs st) (defBody st) (defScope st) .none kV doc pm an cdv ct) ⟨us, []⟩ = pure (ps.zip us)
/-- all that the table tells is promised -/
def Prom (P : Program) (w : World) (K : PySem.W.Frag) (mg : Str → Option Value) (base : Heap) (wd : Wd) (ms : List String) (k : Nat) (Γ : Tab) : Prop := ∀ g fd, Γ.fn g = some fd → g ∉ ms → FnG P w K mg base wd k g fd
def Tab.empty (fuel : Nat) : Tab := ⟨fun _ => none, fuel⟩
theorem Prom.empty {P : Program} {w : World} {K : PySem.W.Frag} {mg : Str → Option Value} {base : Heap} {wd : Wd} {ms : List String} {k fuel : Nat} : Prom P w K mg base wd ms k (Tab.empty fuel) := fun g fd h => by cases h
theorem Prom.fns {P : Program} {w : World} {K : PySem.W.Frag} {mg : Str → Option Value} {base : Heap} {wd : Wd} {ms : List String} {k : Nat} {Γ : Tab} (h : Prom P w K mg base wd ms k Γ) {fs : List String} (hf : (fs.all fun g => (Γ.fn g).isSome && !ms.contains g) = true) : ∀ g ∈ fs, ∃ fd, Γ.fn g = some fd ∧ FnG P w K mg base wd k g fd := fun g' hg' => by
  have := List.all_eq_true.mp hf g' hg'
  rw [Bool.and_eq_true, Bool.not_eq_true'] at this
  cases e2 : Γ.fn g' with
  | none => rw [e2] at this; cases this.1
  | some fd' => exact ⟨fd', rfl, h g' fd' e2 (by simpa using this.2)⟩
theorem Prom.add {P : Program} {w : World} {K : PySem.W.Frag} {mg : Str → Option Value} {base : Heap} {wd : Wd} {ms : List String} {k : Nat} {Γ : Tab} (h : Prom P w K mg base wd ms k Γ) {x : String} {st : Stmt} {f : Addr} {R : Row} {ps : List Str} {d : Def}
    {h0 : Heap} (X : K.In h0) (G : h0.Ns mainGlobals mg) (hd : HasDef K x st f) (hb : BindsAll x st ps) (S : FnScope R.N ps (defScope st)) (nm : Names K mg wd R) (hf : (R.fns.all fun g => (Γ.fn g).isSome && !ms.contains g) = true) (hm : Mths P w K mg base wd k R Γ)
    (hk0 : R.tw = true → 1 ≤ k) (hn : d.n = R.N.length) (hp : d.ps = ps.length) (hio : (d.io.all fun i => decide (i < d.ps)) = true) (hc : ckS R d.body (defScope st) (.b (defBody st)) = true) : Prom P w K mg base wd ms (k + 1) (Γ.add x d) := by
  intro g fd hg hgm
  by_cases e : g = x
  · subst e
    rw [Tab.add_self] at hg
    cases hg
    obtain ⟨dat, h1, F⟩ := hd
    exact ⟨f, dat, ps, PySem.W.mg_of X G h1, F.kp, F.binds hb, def_ok F S nm (h.fns hf) hm hk0 hn hp (fun i hi => by simpa using List.all_eq_true.mp hio i hi) hc ⟨rfl, rfl, fun ds _ => .inr rfl⟩⟩
  · rw [Tab.add_ne Γ d e] at hg
    exact (h g fd hg hgm).mono (Nat.le_succ k)
/-- a method is told: the table's other entries stay -/
theorem Prom.addM {P : Program} {w : World} {K : PySem.W.Frag} {mg : Str → Option Value} {base : Heap} {wd : Wd} {ms : List String} {k : Nat} {Γ : Tab} (h : Prom P w K mg base wd ms k Γ) {x : String} {d : Def} (hx : ms.contains x = true) : Prom P w K mg base wd ms k (Γ.add x d) := by
  intro g fd hg hgm
  by_cases e : g = x
  · subst e
    exact absurd (by simpa using hx) hgm
  · rw [Tab.add_ne Γ d e] at hg
    exact h g fd hg hgm
theorem Prom.le {P : Program} {w : World} {K : PySem.W.Frag} {mg : Str → Option Value} {base : Heap} {wd : Wd} {ms : List String} {j k : Nat} {Γ : Tab} (h : Prom P w K mg base wd ms j Γ) (hk : j ≤ k) : Prom P w K mg base wd ms k Γ := fun g fd hg hgm => (h g fd hg hgm).mono hk
theorem mths0 {P : Program} {w : World} {K : PySem.W.Frag} {mg : Str → Option Value} {base : Heap} {wd : Wd} {k : Nat} {R : Row} {Γ : Tab} (h1 : R.mks = []) (h2 : R.eqs = []) : Mths P w K mg base wd k R Γ := ⟨fun m hm => by (rw [h1] at hm; cases hm), fun m hm => by (rw [h2] at hm; cases hm)⟩
/-- the law's promise -/
theorem law_sp {wd : Wd} {fd : FD} {H : Hp} {a : Addr} {ns : List Int} (h1 : fd.n = 1) (h2 : fd.io = []) (h3 : fd.run [.scr ns] = .ok (.val (.bl true)) []) (hS : SqL wd.K H a (ns.map V.int)) : spF wd fd [.ref a] H (fun v _ => v = .bl true) fun _ _ _ => False := by
  refine ⟨h1.symm, H, [.scr ns], Same.refl H, ⟨rfl, fun i v d hv hd _ => ?_, fun i v d hv hd hi => ?_, fun i j p hi => ?_⟩, ?_⟩
  · cases i with
    | zero =>
      cases hv
      cases hd
      exact .scr hS
    | succ i => simp at hv
  · rw [h2] at hi
    cases hi
  · rw [h2] at hi
    cases hi
  · rw [h3]
    intro v H' G' _ hr
    cases hr
    rfl
theorem cx_no {P : Program} {w : World} {H : Hp} {s : Shared} {e : Value} {s' : Shared} : L2.CX P w [] H s (fun _ _ _ => False) e s' → False := by
  rintro ⟨a, B, H', cls, d, _, _, _, _, _, _, _, z⟩
  exact z
/-- the names of the row -/
def BiOk (K : PySem.W.Frag) : List String → Prop
  | [] => True
  | x :: r => PySem.W.nsIn K mainGlobals (Str.ofString x) = some none ∧ BiOk K r
def GcOk (K : PySem.W.Frag) : List (String × Int) → Prop
  | [] => True
  | p :: r => (∃ t, PySem.W.nsIn K mainGlobals (Str.ofString p.1) = some (some (.int p.2 t))) ∧ GcOk K r
/-- the classes' addresses, by their names -/
def adrOf (K : PySem.W.Frag) (x : String) : Addr := match PySem.W.nsIn K mainGlobals (Str.ofString x) with
  | some (some (.ref a)) => a
  | _ => 0
def wdOf (cls : List String) (K : PySem.W.Frag) : Wd := ⟨K, adrOf K, adrOf K, cls⟩
/-- the own errors of the row -/
def ExOk (K : PySem.W.Frag) (κ : String → Addr) : List String → Prop
  | [] => True
  | x :: r => (PySem.W.nsIn K mainGlobals (Str.ofString x) = some (some (.ref (κ x))) ∧ ExF K (κ x)) ∧ ExOk K κ r
theorem ExOk.mem {K : PySem.W.Frag} {κ : String → Addr} : ∀ {l : List String}, ExOk K κ l → ∀ x ∈ l, PySem.W.nsIn K mainGlobals (Str.ofString x) = some (some (.ref (κ x))) ∧ ExF K (κ x)
  | y :: r, h, x, hx => by
    rcases List.mem_cons.mp hx with rfl | hx
    · exact h.1
    · exact ExOk.mem h.2 x hx
theorem ex_cons {K : PySem.W.Frag} {x : String} {C : Addr} {r : List String} (a : PySem.W.nsIn K mainGlobals (Str.ofString x) = some (some (.ref C))) (e : PySem.W.excIn K C [.type "ValueError", .type "Exception", .type "BaseException", .type "object"] "ValueError.__new__" = true) (kp : PySem.W.keepIn K (.ref C) = true)
    (sb : PySem.W.subIn K (.ref C) (.type "BaseException") = some true) (ty : PySem.W.typeIn K (.ref C) = some (.type "type")) (h : ExOk K (adrOf K) r) : ExOk K (adrOf K) (x :: r) := by
  have hk : adrOf K x = C := by unfold adrOf; rw [a]
  exact ⟨⟨by rw [hk]; exact a, by rw [hk]; exact ⟨e, kp, sb, ty⟩⟩, h⟩
theorem gc_cons {K : PySem.W.Frag} {x : String} {v : Int} {t : Tok} {r : List (String × Int)} (h : PySem.W.nsIn K mainGlobals (Str.ofString x) = some (some (.int v t))) (h2 : GcOk K r) : GcOk K ((x, v) :: r) := ⟨⟨t, h⟩, h2⟩
theorem BiOk.mem {K : PySem.W.Frag} : ∀ {l : List String}, BiOk K l → ∀ x ∈ l, PySem.W.nsIn K mainGlobals (Str.ofString x) = some none
  | y :: r, h, x, hx => by
    rcases List.mem_cons.mp hx with rfl | hx
    · exact h.1
    · exact BiOk.mem h.2 x hx
theorem GcOk.mem {K : PySem.W.Frag} : ∀ {l : List (String × Int)}, GcOk K l → ∀ p ∈ l, ∃ t, PySem.W.nsIn K mainGlobals (Str.ofString p.1) = some (some (.int p.2 t))
  | y :: r, h, x, hx => by
    rcases List.mem_cons.mp hx with rfl | hx
    · exact h.1
    · exact GcOk.mem h.2 x hx
/-! ### rows with tries -/
/-- the rest of an own error's chain -/
def restX : List Value := [.type "ValueError", .type "Exception", .type "BaseException", .type "object"]
structure XcA (K : PySem.W.Frag) (Dt : Addr) (x : String) (C : Addr) : Prop where
  a : PySem.W.nsIn K mainGlobals (Str.ofString x) = some (some (.ref C))
  l : ∃ od cd sl, K.lookup C = some ⟨.type "type", od, .cls cd, sl⟩ ∧ cd.mro = .ref C :: .ref Dt :: restX ∧ cd.hasDict = true
  hg : PySem.W.findIn K (.ref C) "__getattribute__" = some (some (.builtin "BaseException.__getattribute__"))
  hk : PySem.W.findIn K (.ref C) "__getattr__" = some none
  ha : PySem.W.findIn K (.ref C) "__class__" = some (some (.builtin "object.__class__"))
def XcL (K : PySem.W.Frag) (Dt : Addr) : List String → List Addr → Prop
  | [], [] => True
  | x :: xs, C :: Cs => XcA K Dt x C ∧ XcL K Dt xs Cs
  | _, _ => False
theorem xc_cons {K : PySem.W.Frag} {Dt : Addr} {x : String} {C : Addr} {xs : List String} {Cs : List Addr} {od : Option Addr} {cd : ClassData} {sl : Array (Option Value)} (a : PySem.W.nsIn K mainGlobals (Str.ofString x) = some (some (.ref C)))
    (l : K.lookup C = some ⟨.type "type", od, .cls cd, sl⟩) (m : cd.mro = .ref C :: .ref Dt :: restX) (hd : cd.hasDict = true) (hg : PySem.W.findIn K (.ref C) "__getattribute__" = some (some (.builtin "BaseException.__getattribute__"))) (hk : PySem.W.findIn K (.ref C) "__getattr__" = some none)
    (ha : PySem.W.findIn K (.ref C) "__class__" = some (some (.builtin "object.__class__"))) (h : XcL K Dt xs Cs) : XcL K Dt (x :: xs) (C :: Cs) := ⟨⟨a, ⟨od, cd, sl, l, m, hd⟩, hg, hk, ha⟩, h⟩
theorem xc_nil {K : PySem.W.Frag} {Dt : Addr} : XcL K Dt [] [] := trivial
theorem XcL.mem {K : PySem.W.Frag} {Dt : Addr} : ∀ {xs : List String} {Cs : List Addr}, XcL K Dt xs Cs → ∀ x ∈ xs, ∃ i : Nat, xs[i]? = some x ∧ ∃ C, Cs[i]? = some C ∧ XcA K Dt x C
  | x :: xs, C :: Cs, h, y, hy => by
    rcases List.mem_cons.mp hy with rfl | hy
    · exact ⟨0, rfl, C, rfl, h.1⟩
    · obtain ⟨i, h1, D, h2, h3⟩ := XcL.mem h.2 y hy
      exact ⟨i + 1, by simpa using h1, D, by simpa using h2, h3⟩
  | _ :: _, [], h, _, _ => h.elim
theorem XcA.adr {K : PySem.W.Frag} {Dt C : Addr} {x : String} (h : XcA K Dt x C) : adrOf K x = C := by unfold adrOf; rw [h.a]
theorem XcA.cls {K : PySem.W.Frag} {Dt C : Addr} {x : String} (h : XcA K Dt x C) : (PySem.W.clsIn K C).isSome = true ∧ PySem.W.typeIn K (.ref C) = some (.type "type") ∧ PySem.W.hasDictIn K C = true ∧ ∀ b, PySem.W.mroIn K C b = some ((Value.ref C :: .ref Dt :: restX).contains b) := by
  obtain ⟨od, cd, sl, l, m, hd⟩ := h.l
  have e : PySem.W.clsIn K C = some cd := by unfold PySem.W.clsIn; rw [l]
  refine ⟨by rw [e]; rfl, by show (K.lookup C).map (·.cls) = _; rw [l]; rfl, by unfold PySem.W.hasDictIn; rw [e]; exact hd, fun b => ?_⟩
  unfold PySem.W.mroIn
  rw [e]
  simp only [Option.bind_some, m, List.isEmpty_cons, Bool.false_eq_true, if_false]
theorem has_ty (C Dt : Addr) {T : String} (h : T ∈ ["ValueError", "Exception", "BaseException", "object"]) : (Value.ref C :: .ref Dt :: restX).contains (.type T) = true := by
  rw [List.contains_iff_mem]
  simp only [List.mem_cons, List.not_mem_nil, or_false] at h
  rcases h with rfl | rfl | rfl | rfl <;> simp [restX]
theorem no_ref {C Dt C' : Addr} (h1 : C' ≠ C) (h2 : C' ≠ Dt) : (Value.ref C :: .ref Dt :: restX).contains (.ref C') = false := by
  rw [← Bool.not_eq_true, List.contains_iff_mem]
  simp [restX, h1, h2]
theorem has_dt (C Dt : Addr) : (Value.ref C :: .ref Dt :: restX).contains (.ref Dt) = true := by
  rw [List.contains_iff_mem]
  simp
theorem tw_mk {K : PySem.W.Frag} {mg : Str → Option Value} {h0 : Heap} (X : K.In h0) (G : h0.Ns mainGlobals mg) {Dt f : Addr} {Cs : List Addr} {st : Stmt} {N ps : List Str} {odD : Option Addr} {cdD : ClassData} {slD : Array (Option Value)}
    (xs : XcL K Dt refusals Cs) (nd : (Dt :: Cs).Nodup) (aD : PySem.W.nsIn K mainGlobals (Str.ofString "DotError") = some (some (.ref Dt))) (lD : K.lookup Dt = some ⟨.type "type", odD, .cls cdD, slD⟩) (mD : cdD.mro = .ref Dt :: restX)
    (hn : PySem.W.specialIn K (.builtin "object.__class__") "__get__" = some (some (.builtin "getset_descriptor.__get__"))) (ht : PySem.W.takesIn K (.builtin "object.__class__") = some true)
    (z1 : PySem.W.nsIn K mainGlobals (Str.ofString "isinstance") = some none) (z2 : PySem.W.nsIn K mainGlobals (Str.ofString "ValueError") = some none)
    (wh : HasDef K "_law_which" st f) (S : FnScope N ps (defScope st)) (hN : N.length = 2) (hps : ps.length = 1) (hb : BindsAll "_law_which" st ps) (hw : whichB ["isinstance", "ValueError"] N (defScope st) (defBody st) = true) : Tw K mg (adrOf K) := by
  obtain ⟨dat, w1, F⟩ := wh
  have aDe : adrOf K "DotError" = Dt := by unfold adrOf; rw [aD]
  have nd' := (List.nodup_cons.mp nd).2
  have nDt := (List.nodup_cons.mp nd).1
  have cD : PySem.W.clsIn K Dt = some cdD := by unfold PySem.W.clsIn; rw [lD]
  have at_ : ∀ n ∈ refusals, ∃ C, C ∈ Cs ∧ XcA K Dt n C := fun n hn => by
    obtain ⟨i, _, C, h2, h3⟩ := xs.mem n hn
    exact ⟨C, List.mem_of_getElem? h2, h3⟩
  refine { wh := ⟨f, ["isinstance", "ValueError"], { ex := ⟨st, dat, N, ps, F, S, hN, hps, F.binds hb, hw⟩, gl := PySem.W.mg_of X G w1, bl := fun x hx => ?_, cls := fun n hn => ?_, xc := fun n hn => ?_ }, F.kp⟩, dot := by rw [aDe]; exact PySem.W.mg_of X G aD, exm := fun n hn => ?_ }
  · simp only [List.mem_cons, List.not_mem_nil, or_false] at hx
    rcases hx with rfl | rfl
    · exact PySem.W.mg_none_of X G z1
    · exact PySem.W.mg_none_of X G z2
  · obtain ⟨C, _, h⟩ := at_ n hn
    rw [h.adr]
    exact PySem.W.mg_of X G h.a
  · obtain ⟨C, hC, h⟩ := at_ n hn
    rw [h.adr]
    obtain ⟨c1, c2, c3, c4⟩ := h.cls
    refine ⟨⟨h.hg, h.hk, ?_, c3, h.ha, ‹_›, ht, ?_⟩, ?_, fun m hm => ?_⟩
    · show PySem.W.mroIn K C _ = _
      rw [c4, has_ty C Dt (by decide)]
    · rw [c4, has_ty C Dt (by decide)]
    · show (if (Value.ref C == Value.type "ValueError") = true then some true else PySem.W.kitCls K (.ref C) (.type "ValueError")) = _
      rw [if_neg (by simp)]
      show (if PySem.W.kitMeta "ValueError" = true then PySem.W.mroIn K C (.type "ValueError") else none) = some true
      rw [if_pos (by decide +kernel), c4, has_ty C Dt (by decide)]
    · obtain ⟨j, j1, C', j2, h'⟩ := xs.mem m hm
      obtain ⟨i, i1, C2, i2, h2⟩ := xs.mem n hn
      have e2 : C2 = C := h2.adr.symm.trans h.adr
      subst e2
      rw [h'.adr]
      show (if (Value.ref C2 == Value.ref C') = true then some true else PySem.W.kitCls K (.ref C2) (.ref C')) = _
      by_cases hmn : m = n
      · subst hmn
        have : C' = C2 := h'.adr.symm.trans h2.adr
        rw [this, if_pos (by simp)]
        simp
      · have hne : C' ≠ C2 := fun z => by
          subst z
          have hi := (List.getElem?_eq_some_iff.mp i2)
          have hj := (List.getElem?_eq_some_iff.mp j2)
          have pw := List.pairwise_iff_getElem.mp nd'
          have : i = j := by
            rcases Nat.lt_trichotomy i j with z | z | z
            · exact absurd (hi.2.trans hj.2.symm) (pw i j hi.1 hj.1 z)
            · exact z
            · exact absurd (hj.2.trans hi.2.symm) (pw j i hj.1 hi.1 z)
          subst this
          rw [i1] at j1
          exact hmn (Option.some.inj j1).symm
        have hC' : C' ≠ Dt := fun z => nDt (by rw [← z]; exact List.mem_of_getElem? j2)
        obtain ⟨d1, d2, d3, d4⟩ := h'.cls
        rw [if_neg (by simpa using fun z => hne z.symm)]
        show (if ((PySem.W.clsIn K C').isSome && PySem.W.typeIn K (.ref C') == some (.type "type")) = true then PySem.W.mroIn K C2 (.ref C') else none) = _
        rw [if_pos (by rw [d1, d2]; rfl), c4, no_ref hne hC']
        have : (m == n) = false := by simpa using hmn
        rw [this]
  · obtain ⟨C, hC, h⟩ := at_ n hn
    rw [h.adr, aDe]
    obtain ⟨c1, c2, c3, c4⟩ := h.cls
    have sb : PySem.W.subIn K (.ref Dt) (.type "BaseException") = some true := by
      show PySem.W.mroIn K Dt _ = _
      unfold PySem.W.mroIn
      rw [cD]
      simp only [Option.bind_some, mD, List.isEmpty_cons, Bool.false_eq_true, if_false]
      rw [show (Value.ref Dt :: restX).contains (.type "BaseException") = true by rw [List.contains_iff_mem]; simp [restX]]
    show (if (PySem.W.subIn K (.ref Dt) (.type "BaseException") == some true) = true then PySem.W.kitCls K (.ref C) (.ref Dt) else none) = _
    rw [if_pos (by rw [sb]; rfl)]
    show (if ((PySem.W.clsIn K Dt).isSome && PySem.W.typeIn K (.ref Dt) == some (.type "type")) = true then PySem.W.mroIn K C (.ref Dt) else none) = _
    rw [if_pos (by rw [cD, show PySem.W.typeIn K (.ref Dt) = some (.type "type") by show (K.lookup Dt).map (·.cls) = _; rw [lD]; rfl]; rfl), c4, has_dt]
/-- where a def stands -/
theorem HasDef.adr {K : PySem.W.Frag} {x : String} {st : Stmt} {f : Addr} (h : HasDef K x st f) : PySem.W.nsIn K mainGlobals (Str.ofString x) = some (some (.ref (adrOf K x))) := by
  obtain ⟨dat, e, _⟩ := h
  have : adrOf K x = f := by unfold adrOf; rw [e]
  rw [this]
  exact e
/-- all defs of the row stand -/
def DfOk (K : PySem.W.Frag) : List String → Prop
  | [] => True
  | x :: r => PySem.W.nsIn K mainGlobals (Str.ofString x) = some (some (.ref (adrOf K x))) ∧ DfOk K r
theorem DfOk.mem {K : PySem.W.Frag} : ∀ {l : List String}, DfOk K l → ∀ x ∈ l, PySem.W.nsIn K mainGlobals (Str.ofString x) = some (some (.ref (adrOf K x)))
  | y :: r, h, x, hx => by
    rcases List.mem_cons.mp hx with rfl | hx
    · exact h.1
    · exact DfOk.mem h.2 x hx
theorem DfOk.sub {K : PySem.W.Frag} {l fs : List String} (h : DfOk K l) (hs : (fs.all fun f => l.contains f) = true) : ∀ n ∈ fs, PySem.W.nsIn K mainGlobals (Str.ofString n) = some (some (.ref (adrOf K n))) := fun n hn => h.mem n (by simpa using List.all_eq_true.mp hs n hn)
/-- the classes of the row, and the names that they have not -/
def ClOk (K : PySem.W.Frag) (κ : String → Addr) (fs : List String) : List String → Prop
  | [] => True
  | x :: r => (PySem.W.nsIn K mainGlobals (Str.ofString x) = some (some (.ref (κ x))) ∧ ClsF K (κ x) ∧ ∀ f ∈ fs, NoAttr K (κ x) (Str.ofString f)) ∧ ClOk K κ fs r
theorem ClOk.mem {K : PySem.W.Frag} {κ : String → Addr} {fs : List String} : ∀ {l : List String}, ClOk K κ fs l → ∀ x ∈ l, PySem.W.nsIn K mainGlobals (Str.ofString x) = some (some (.ref (κ x))) ∧ ClsF K (κ x) ∧ ∀ f ∈ fs, NoAttr K (κ x) (Str.ofString f)
  | y :: r, h, x, hx => by
    rcases List.mem_cons.mp hx with rfl | hx
    · exact h.1
    · exact ClOk.mem h.2 x hx
def NoL (K : PySem.W.Frag) (C : Addr) : List String → Prop
  | [] => True
  | f :: r => PySem.W.findIn K (.ref C) (Str.ofString f) = some none ∧ NoL K C r
theorem NoL.mem {K : PySem.W.Frag} {C : Addr} : ∀ {l : List String}, NoL K C l → ∀ f ∈ l, NoAttr K C (Str.ofString f)
  | y :: r, h, x, hx => by
    rcases List.mem_cons.mp hx with rfl | hx
    · exact h.1
    · exact NoL.mem h.2 x hx
theorem meta_ty : ∀ t ∈ tyNames, PySem.W.kitMeta t = true := by decide +kernel
theorem kit_is {K : PySem.W.Frag} {C : Addr} {od : Option Addr} {cd : ClassData} {sl : Array (Option Value)} (l : K.lookup C = some ⟨.type "type", od, .cls cd, sl⟩) (m : cd.mro = [.ref C, .type "object"]) : (∀ t ∈ tyNames, PySem.W.kitOne K (.type t) (.ref C) = some false ∧ PySem.W.kitOne K (.ref C) (.type t) = some false) ∧ PySem.W.kitOne K (.ref C) (.ref C) = some true ∧ PySem.W.mroIn K C (.type "object") = some true := by
  have e : PySem.W.clsIn K C = some cd := by unfold PySem.W.clsIn; rw [l]
  have ty : PySem.W.typeIn K (.ref C) = some (.type "type") := by show (K.lookup C).map (·.cls) = _; rw [l]; rfl
  have mr : ∀ b, PySem.W.mroIn K C b = some ([Value.ref C, .type "object"].contains b) := fun b => by
    unfold PySem.W.mroIn
    rw [e]
    simp only [Option.bind_some, m, List.isEmpty_cons, Bool.false_eq_true, if_false]
  refine ⟨fun t ht => ⟨?_, ?_⟩, ?_, ?_⟩
  · show (if (Value.type t == Value.ref C) = true then some true else PySem.W.kitCls K (.type t) (.ref C)) = _
    rw [if_neg (by simp)]
    show (if ((PySem.W.clsIn K C).isSome && PySem.W.typeIn K (.ref C) == some (.type "type")) = true then PySem.W.subIn K (.type t) (.ref C) else none) = _
    rw [if_pos (by rw [e, ty]; rfl)]
    simp only [tyNames, List.mem_cons, List.not_mem_nil, or_false] at ht
    rcases ht with rfl | rfl | rfl | rfl | rfl | rfl | rfl <;> rfl
  · show (if (Value.ref C == Value.type t) = true then some true else PySem.W.kitCls K (.ref C) (.type t)) = _
    rw [if_neg (by simp)]
    show (if PySem.W.kitMeta t = true then PySem.W.mroIn K C (.type t) else none) = _
    rw [if_pos (meta_ty t ht), mr]
    simp only [tyNames, List.mem_cons, List.not_mem_nil, or_false] at ht
    rcases ht with rfl | rfl | rfl | rfl | rfl | rfl | rfl <;> simp
  · show (if (Value.ref C == Value.ref C) = true then some true else PySem.W.kitCls K (.ref C) (.ref C)) = _
    rw [if_pos (by simp)]
  · rw [mr]
    simp
theorem cl_cons {K : PySem.W.Frag} {x : String} {C : Addr} {fs r : List String} {od : Option Addr} {cd : ClassData} {sl : Array (Option Value)} (a : PySem.W.nsIn K mainGlobals (Str.ofString x) = some (some (.ref C))) (pg : PySem.W.plainGet K C Str.empty = true) (hd : PySem.W.hasDictIn K C = true) (po : PySem.W.plainOver K C = true)
    (sa : PySem.W.findIn K (.ref C) "__setattr__" = some (some (.builtin "object.__setattr__"))) (ha : PySem.W.findIn K (.ref C) "__class__" = some (some (.builtin "object.__class__"))) (hn : PySem.W.specialIn K (.builtin "object.__class__") "__get__" = some (some (.builtin "getset_descriptor.__get__")))
    (htk : PySem.W.takesIn K (.builtin "object.__class__") = some true) (l : K.lookup C = some ⟨.type "type", od, .cls cd, sl⟩) (m : cd.mro = [.ref C, .type "object"]) (nf : NoL K C fs) (h : ClOk K (adrOf K) fs r) : ClOk K (adrOf K) fs (x :: r) := by
  have hk : adrOf K x = C := by unfold adrOf; rw [a]
  obtain ⟨kt, kk, hm⟩ := kit_is l m
  exact ⟨⟨by rw [hk]; exact a, by rw [hk]; exact ⟨⟨pg, hd, po, sa⟩, ha, hn, htk, hm, fun t ht => (kt t ht).1, fun t ht => (kt t ht).2, kk⟩, by rw [hk]; exact nf.mem⟩, h⟩
theorem names0 {K : PySem.W.Frag} {mg : Str → Option Value} {h0 : Heap} (X : K.In h0) (G : h0.Ns mainGlobals mg) {R : Row} {wd : Wd} (hK : wd.K = K) (hc : R.cls = wd.cls) (hcl : ClOk K wd.κ R.fld wd.cls) (ht : R.tw = true → Tw K mg wd.κ) (hfn : ∀ n ∈ R.fns, PySem.W.nsIn K mainGlobals (Str.ofString n) = some (some (.ref (wd.φ n)))) (hx : ExOk K wd.κ R.exs) (hb : BiOk K R.bi) (hg : GcOk K R.gc) : Names K mg wd R where
  kk := hK
  bi := fun x hx => PySem.W.mg_none_of X G (hb.mem x hx)
  gc := fun p hp => by
    obtain ⟨t, e⟩ := hg.mem p hp
    exact ⟨t, PySem.W.mg_of X G e⟩
  cls := fun n hn => (hcl.mem n hn).2.1
  cln := hc
  clg := fun n hn => PySem.W.mg_of X G (hcl.mem n (by rw [← hc]; exact hn)).1
  tw := ht
  fng := fun n hn => PySem.W.mg_of X G (hfn n hn)
  exs := fun n hn => ⟨PySem.W.mg_of X G (hx.mem n hn).1, (hx.mem n hn).2⟩
  fld := fun n hn f hf => (hcl.mem n hn).2.2 f hf
/-! ### methods -/
/-- a def of a class's body, without defaults -/
theorem fun_meth {K : PySem.W.Frag} {x qual : String} {st : Stmt} {f : Addr} {oc : Value} {od an : Option Addr} {osl : Array (Option Value)} {kV doc pm cdv ct : Value}
    (l : K.lookup f = some ⟨oc, od, .func (PySem.W.fnOf (Str.ofString x) (Str.ofString qual) (defArgs st) (defBody st) (defScope st) .none kV doc pm an cdv ct), osl⟩) (c : PySem.W.codeIn K cdv (Str.ofString qual) = true) (k : PySem.W.keepIn K (.ref f) = true) : ∃ dat, L2.Fun K (Str.ofString x) (Str.ofString qual) st f dat := ⟨_, fun_mk l c k⟩
def KwL (K : PySem.W.Frag) (D : Addr) : List (String × Int) → Prop
  | [] => True
  | q :: r => (∃ t, PySem.W.nsIn K D (Str.ofString q.1) = some (some (.int q.2 t))) ∧ KwL K D r
theorem KwL.mem {K : PySem.W.Frag} {D : Addr} : ∀ {l : List (String × Int)}, KwL K D l → ∀ q ∈ l, ∃ t, PySem.W.nsIn K D (Str.ofString q.1) = some (some (.int q.2 t))
  | y :: r, h, x, hx => by
    rcases List.mem_cons.mp hx with rfl | hx
    · exact h.1
    · exact KwL.mem h.2 x hx
theorem kw_cons {K : PySem.W.Frag} {D : Addr} {x : String} {n : Int} {t : Tok} {r : List (String × Int)} (a : PySem.W.nsIn K D (Str.ofString x) = some (some (.int n t))) (h : KwL K D r) : KwL K D ((x, n) :: r) := ⟨⟨t, a⟩, h⟩
def kwsV (l : List (String × Int)) : List (Str × V) := l.map fun q => (Str.ofString q.1, V.int q.2)
/-- a def of a class's body with keyword-only defaults -/
theorem funD_meth {K : PySem.W.Frag} {x qual : String} {st : Stmt} {f D : Addr} {oc : Value} {od an : Option Addr} {osl : Array (Option Value)} {doc pm cdv ct : Value} {kws : List (String × Int)}
    (l : K.lookup f = some ⟨oc, od, .func (PySem.W.fnOf (Str.ofString x) (Str.ofString qual) (defArgs st) (defBody st) (defScope st) .none (.ref D) doc pm an cdv ct), osl⟩) (c : PySem.W.codeIn K cdv (Str.ofString qual) = true) (k : PySem.W.keepIn K (.ref f) = true) (hk : KwL K D kws) :
    ∃ dat, L2.FunD K (Str.ofString x) (Str.ofString qual) (defArgs st) (defBody st) (defScope st) [] (kwsV kws) f dat :=
  ⟨_, ⟨oc, od, .none, .ref D, doc, pm, an, cdv, ct, osl, rfl, l, c, .inl ⟨rfl, rfl⟩, .inr ⟨D, rfl, fun q hq => by
    obtain ⟨p, hp, rfl⟩ := List.mem_map.mp hq
    obtain ⟨t, e⟩ := hk.mem p hp
    exact ⟨_, e, ⟨t, rfl⟩⟩⟩⟩, k⟩
/-- how the values are put in the parameters' order: (true, i) the i-th keyword's, (false, i) the i-th default -/
def gPlan (plan : List (Bool × Nat)) {α : Type} (us mv ws : List α) : List α := us ++ plan.filterMap fun p => if p.1 then ws[p.2]? else mv[p.2]?
theorem vals_get : ∀ {vs : List V} {us : List Value}, Vals vs us → ∀ i : Nat, (vs[i]? = none ∧ us[i]? = none) ∨ ∃ v u, vs[i]? = some v ∧ us[i]? = some u ∧ RelV v u
  | _, _, .nil, i => .inl ⟨by simp, by simp⟩
  | _, _, .cons h r, 0 => .inr ⟨_, _, rfl, rfl, h⟩
  | _, _, .cons h r, i + 1 => by simpa using vals_get r i
theorem gPlan_rel (plan : List (Bool × Nat)) {vs mz zs : List V} {us mv ws : List Value} (h1 : Vals vs us) (h2 : Vals mz mv) (h3 : Vals zs ws) : Vals (gPlan plan vs mz zs) (gPlan plan us mv ws) := by
  unfold gPlan
  refine Vals.append h1 ?_
  induction plan with
  | nil => exact .nil
  | cons p plan ih =>
    obtain ⟨b, i⟩ := p
    cases b
    · simp only [List.filterMap_cons, Bool.false_eq_true, if_false]
      rcases vals_get h2 i with ⟨e1, e2⟩ | ⟨v, u, e1, e2, r⟩
      · rw [e1, e2]; exact ih
      · rw [e1, e2]; exact .cons r ih
    · simp only [List.filterMap_cons, if_true]
      rcases vals_get h3 i with ⟨e1, e2⟩ | ⟨v, u, e1, e2, r⟩
      · rw [e1, e2]; exact ih
      · rw [e1, e2]; exact .cons r ih
/-- C(k = v, ..) is told, from the promise of __init__ -/
theorem mk_of {P : Program} {w : World} {K : PySem.W.Frag} {mg : Str → Option Value} {base : Heap} {wd : Wd} {j k : Nat} {c : String} {ks : List String} {plan : List (Bool × Int)} {plan2 : List (Bool × Nat)} {x qual : Str} {params : Arguments} {body : List Stmt} {scope : Scope} {kws ms : List (String × Int)} {f : Addr} {dat : FuncData} {ps : List Str} {fd : FD}
    (hj : j + 1 ≤ k) (M : Mk K (wd.κ c) f) (F : L2.FunD K x qual params body scope [] (kwsV kws) f dat) (hk : kws ≠ []) (hms : ∀ q ∈ ms, q ∈ kws)
    (h : ∀ (D : Addr) (doc pm : Value) (an : Option Addr) (cdv ct : Value) (us mv ws : List Value), us.length = 1 → mv.length = ms.length → ws.length = ks.length →
      KwChain D (((kwsV ms).map (·.1)).zip mv) (bindArgs (PySem.W.fnOf x qual params body scope .none (.ref D) doc pm an cdv ct) ⟨us, (ks.map Str.ofString).zip ws⟩) (ps.zip (gPlan plan2 us mv ws)))
    (hp : ∀ (x : V) (zs : List V), zs.length = ks.length → gPlan plan2 [x] ((kwsV ms).map (·.2)) zs = x :: planV plan zs)
    (ok : FnOk P w K mg base (L2.CX P w) j f dat ps (spF wd fd)) : MkG P w K mg base wd k (c, ks, plan) fd := by
  obtain ⟨mv, kb⟩ := F.kbinds0 (ps := ps) 1 (ks.map Str.ofString) (kwsV ms) (fun us mv ws => gPlan plan2 us mv ws) (by unfold kwsV; simpa using hk) (fun q hq => by
    obtain ⟨p, hp, rfl⟩ := List.mem_map.mp hq
    exact List.mem_map_of_mem (hms p hp)) (fun h1 h2 h3 => gPlan_rel plan2 h1 h2 h3) (fun D doc pm an cdv ct us mv ws l1 l2 l3 => h D doc pm an cdv ct us mv ws l1 (by rw [l2, kwsV, List.length_map]) (by rw [l3, List.length_map]))
  exact ⟨j, f, dat, ps, _, _, hj, M, kb, hp, ok⟩
theorem mk_adr {K : PySem.W.Frag} {x : String} {C f : Addr} (a : PySem.W.nsIn K mainGlobals (Str.ofString x) = some (some (.ref C))) (m : PySem.W.makesIn K C = true) (i : PySem.W.findIn K (.ref C) "__init__" = some (some (.ref f))) (fn : PySem.W.isFn K (.ref f) = true) (kp : PySem.W.keepIn K (.ref C) = true) : Mk K (adrOf K x) f := by
  have hk : adrOf K x = C := by unfold adrOf; rw [a]
  rw [hk]
  exact ⟨m, i, fn, kp⟩
/-- == stands in the class -/
def EqAt (K : PySem.W.Frag) (C f : Addr) : Prop := PySem.W.findIn K (.ref C) "__eq__" = some (some (.ref f)) ∧ PySem.W.isFn K (.ref f) = true
theorem eq_adr {K : PySem.W.Frag} {x : String} {C f : Addr} (a : PySem.W.nsIn K mainGlobals (Str.ofString x) = some (some (.ref C))) (i : PySem.W.findIn K (.ref C) "__eq__" = some (some (.ref f))) (fn : PySem.W.isFn K (.ref f) = true) : EqAt K (adrOf K x) f := by
  have hk : adrOf K x = C := by unfold adrOf; rw [a]
  rw [hk]
  exact ⟨i, fn⟩
def MksOk (P : Program) (w : World) (K : PySem.W.Frag) (mg : Str → Option Value) (base : Heap) (wd : Wd) (k : Nat) (Γ : Tab) : List (String × List String × List (Bool × Int)) → Prop
  | [] => True
  | m :: r => (m.1 ∈ wd.cls ∧ ∃ fd, Γ.fn (m.1 ++ ".__init__") = some fd ∧ MkG P w K mg base wd k m fd) ∧ MksOk P w K mg base wd k Γ r
def EqsOk (P : Program) (w : World) (K : PySem.W.Frag) (mg : Str → Option Value) (base : Heap) (wd : Wd) (k : Nat) (Γ : Tab) : List String → Prop
  | [] => True
  | m :: r => (m ∈ wd.cls ∧ ∃ fd, Γ.fn (m ++ ".__eq__") = some fd ∧ EqI P w K mg base wd k m fd) ∧ EqsOk P w K mg base wd k Γ r
theorem mths_of {P : Program} {w : World} {K : PySem.W.Frag} {mg : Str → Option Value} {base : Heap} {wd : Wd} {k : Nat} {R : Row} {Γ : Tab} (h1 : MksOk P w K mg base wd k Γ R.mks) (h2 : EqsOk P w K mg base wd k Γ R.eqs) : Mths P w K mg base wd k R Γ where
  mks := by
    generalize R.mks = l at h1
    induction l with
    | nil => exact fun m hm => by cases hm
    | cons a l ih =>
      intro m hm
      rcases List.mem_cons.mp hm with rfl | hm
      · exact h1.1
      · exact ih h1.2 m hm
  eqs := by
    generalize R.eqs = l at h2
    induction l with
    | nil => exact fun m hm => by cases hm
    | cons a l ih =>
      intro m hm
      rcases List.mem_cons.mp hm with rfl | hm
      · exact h2.1
      · exact ih h2.2 m hm
def clsBody : Stmt → List Stmt
  | .ClassDef _ _ _ body _ _ _ _ _ _ _ => body
  | _ => []
/-- how a method's arguments bind -/
def BindsM (x qual : String) (st : Stmt) (ps : List Str) : Prop := ∀ (kV doc pm : Value) (an : Option Addr) (cdv ct : Value) (us : List Value), us.length = ps.length → bindArgs (PySem.W.fnOf (Str.ofString x) (Str.ofString qual) (defArgs st) (defBody st) (defScope st) .none kV doc pm an cdv ct) ⟨us, []⟩ = pure (ps.zip us)
/-- the row's end -/
theorem fin {P : Program} {w : World} {K : PySem.W.Frag} {mg : Str → Option Value} {h : Heap} {wd : Wd} {k : Nat} {Γ : Tab} {st : Stmt} {f fa : Addr} {R : Row} {d : Def} (X : K.In h) (G : h.Ns mainGlobals mg) (hfa : mg "law" = some (.ref fa)) (hd : HasDef K "law" st f)
    {ms : List String} (pr : ∀ base : Heap, K.In base → base.Ns mainGlobals mg → Prom P w K mg base wd ms k Γ) (hb : BindsAll "law" st ["script"]) (S : FnScope R.N ["script"] (defScope st)) (nm : Names K mg wd R) (hf : (R.fns.all fun g => (Γ.fn g).isSome && !ms.contains g) = true) (hm : ∀ base : Heap, K.In base → base.Ns mainGlobals mg → Mths P w K mg base wd k R Γ)
    (hk0 : R.tw = true → 1 ≤ k) (hn : d.n = R.N.length) (hp : d.ps = 1) (hio : d.io = []) (hc : ckS R d.body (defScope st) (.b (defBody st)) = true) :
    ∃ dat : FuncData, (∀ (s : Shared) (v : Value), BindsTo s dat ⟨[v], []⟩ [("script", v)]) ∧ ∀ base : Heap, K.In base → base.Ns mainGlobals mg → FnOk P w K mg base (L2.CX P w) (k + 1) fa dat ["script"] (spF wd ⟨d.ps, d.io, d.run Γ⟩) := by
  obtain ⟨dat, h1, F⟩ := hd
  have e := hfa.symm.trans (PySem.W.mg_of X G h1)
  cases e
  refine ⟨dat, fun s v => ?_, fun base X' G' => def_ok F S nm ((pr base X' G').fns hf) (hm base X' G') hk0 hn hp (fun i hi => by rw [hio] at hi; cases hi) hc ⟨rfl, rfl, fun ds _ => .inr rfl⟩⟩
  obtain ⟨oc, od, kV, doc, pm, an, cdv, ct, osl, rfl, lk, hcd⟩ := F.ex
  exact .of_eq (hb kV doc pm an cdv ct [v] rfl)
/-- the goal that the head leaves, from the law's promise -/
theorem walk_row {l : PySem.W.OpenLaw} {n k : Nat} {q : Program} {loose : List Str} {XP : (Str → Option Value) → Heap → Prop} {YP : World → Heap → Prop} {d : DefRec} {K : Params → PySem.W.Frag} {wd : PySem.W.Frag → Wd} {fd : FD}
    (hn : l.most = some n) (hn2 : n ≤ sizeLine) (hdf : d.params.defaults = []) (hr : Room k callerA) (hY : ∀ (w : World) (h : Heap), YP w h → (K w.params).In h)
    (F : ∀ (w : World) (mg : Str → Option Value) (fa : Addr) (h : Heap), (K w.params).In h → h.Ns mainGlobals mg → mg d.name = some (.ref fa) →
      ∃ dat : FuncData, (∀ (s : Shared) (u : Value), BindsTo s dat ⟨[u], []⟩ [("script", u)]) ∧
        ∀ base : Heap, (K w.params).In base → base.Ns mainGlobals mg → FnOk l.prog w (K w.params) mg base (L2.CX l.prog w) k fa dat ["script"] (spF (wd (K w.params)) fd))
    (hK : ∀ K, (wd K).K = K) (h1 : fd.n = 1) (h2 : fd.io = []) (h3 : ∀ ns : List Int, ns.length ≤ n → fd.run [.scr ns] = .ok (.val (.bl true)) []) : PySem.W.WalkO q loose XP YP l.row.toRowW d [] (fun f vs => PySem.call f vs) :=
  walk_ofB (CX := fun w => L2.CX l.prog w) (sp := fun w => spF (wd (K w.params)) fd) hn hn2 hdf hr hY F (fun w H a ns hl _ _ hS => law_sp h1 h2 (h3 ns hl) (by rw [hK]; exact hS)) (fun _ _ _ _ _ h => cx_no h)
/-- .. by a text's run -/
theorem walk_rowD {l : PySem.W.OpenLaw} {n k : Nat} {q : Program} {loose : List Str} {XP : (Str → Option Value) → Heap → Prop} {YP : World → Heap → Prop} {dr : DefRec} {K : Params → PySem.W.Frag} {wd : PySem.W.Frag → Wd} (d : Def) (Γ : Tab)
    (hn : l.most = some n) (hn2 : n ≤ sizeLine) (hdf : dr.params.defaults = []) (hr : Room k callerA) (hY : ∀ (w : World) (h : Heap), YP w h → (K w.params).In h)
    (F : ∀ (w : World) (mg : Str → Option Value) (fa : Addr) (h : Heap), (K w.params).In h → h.Ns mainGlobals mg → mg dr.name = some (.ref fa) →
      ∃ dat : FuncData, (∀ (s : Shared) (u : Value), BindsTo s dat ⟨[u], []⟩ [("script", u)]) ∧
        ∀ base : Heap, (K w.params).In base → base.Ns mainGlobals mg → FnOk l.prog w (K w.params) mg base (L2.CX l.prog w) k fa dat ["script"] (spF (wd (K w.params)) ⟨d.ps, d.io, d.run Γ⟩))
    (hK : ∀ K, (wd K).K = K) (h1 : d.ps = 1) (h2 : d.io = []) (h3 : ∀ ns : List Int, d.run Γ [.scr ns] = .ok (.val (.bl true)) []) : PySem.W.WalkO q loose XP YP l.row.toRowW dr [] (fun f vs => PySem.call f vs) :=
  walk_row (fd := ⟨d.ps, d.io, d.run Γ⟩) hn hn2 hdf hr hY F hK h1 h2 (fun ns _ => h3 ns)
end MPS
end
section
set_option autoImplicit false
set_option Elab.async false
set_option linter.all false
set_option maxRecDepth 100000
/-! MkSpots: spots, dots, how far. Core Lean alone. -/
namespace MP
local macro_rules
  | `(tactic| simp_arith [$ls,*]) => `(tactic| simp only [Def.run, List.length_cons, List.length_nil, if_true, if_false, Bool.false_eq_true, Bool.true_eq_false, initRho, List.contains_nil, List.contains_cons, denS, den, two, Out.bind_ok, Out.bind_ex, Out.bind_bad, Out.fl_ok, Out.fl_ex, Out.fl_bad, val, Fl.then_next, Fl.then_ret, Fl.then_brk, Fl.then_cnt, Fl.then_ex, Fl.then_bad, Prim.fresh, List.getElem?_cons_zero, List.getElem?_cons_succ, List.set_cons_zero, List.set_cons_succ, outsOf, Bool.not_false, Bool.not_true, put, free, Nat.reduceAdd, Nat.reduceSub, Nat.reduceEqDiff, Nat.reduceBEq, Nat.reduceLT, Nat.reduceLeDiff, List.replicate_zero, List.replicate_succ, Bool.or_false, Bool.or_true, Bool.false_or, Bool.true_or, Bool.and_true, Bool.true_and, Bool.and_false, Bool.false_and, Option.map_some, Option.map_none, Option.bind_some, Option.bind_none, eltOf, decide_true, decide_false, reduceIte, reduceCtorEq, Int.cast_ofNat_Int, Int.reduceEq, Int.reduceLE, Int.reduceLT, Int.reduceNeg, Int.reduceAdd, Int.reduceSub, beq_self_eq_true, BEq.rfl, outO_some, opd_var, again_var, see_val, see_own, see_lck, see_io, peek_zero, peek_succ, d_val, d_own, cell_val, cell_own, isEq_int, isEq_scr, opd_nil, again_nil, opd_cons, again_cons, testOf_cons, opd_tup, again_tup, testOf_tup, opd_lst, again_lst, testOf_lst, opd_bin, again_bin, testOf_bin, opd_neg, again_neg, testOf_neg, opd_cmp, again_cmp, testOf_cmp, opd_chn, again_chn, testOf_chn, opd_and, again_and, testOf_and, opd_or, again_or, testOf_or, opd_not, again_not, testOf_not, opd_ite, again_ite, testOf_ite, opd_isi, again_isi, testOf_isi, opd_call, again_call, testOf_call, opd_prm1, again_prm1, testOf_prm1, opd_prm2, again_prm2, testOf_prm2, opd_ix, again_ix, testOf_ix, opd_slc, again_slc, testOf_slc, opd_rev, again_rev, testOf_rev, opd_att, again_att, testOf_att, opd_cst, again_cst, testOf_cst, opd_glb, again_glb, testOf_glb, opd_cmp1, again_cmp1, testOf_cmp1, opd_cmp2, again_cmp2, testOf_cmp2, opd_pop, again_pop, testOf_pop, opd_xop, again_xop, testOf_xop, testOf_nil, cmp_eq, cmp_ne, cmp_isin, cmp_notin, cmp_is, cmp_isnot, cmp_lt, cmp_le, cmp_gt, cmp_ge, cmp_ltT, inst_non_int, inst_non_bool, inst_non_tuple, inst_non_list, inst_non_dict, inst_non_str, inst_non_cls, inst_bl_int, inst_bl_bool, inst_bl_tuple, inst_bl_list, inst_bl_dict, inst_bl_str, inst_bl_cls, is_bl_non, inst_int_int, inst_int_bool, inst_int_tuple, inst_int_list, inst_int_dict, inst_int_str, inst_int_cls, is_int_non, inst_str_int, inst_str_bool, inst_str_tuple, inst_str_list, inst_str_dict, inst_str_str, inst_str_cls, is_str_non, inst_tup_int, inst_tup_bool, inst_tup_tuple, inst_tup_list, inst_tup_dict, inst_tup_str, inst_tup_cls, is_tup_non, inst_lst_int, inst_lst_bool, inst_lst_tuple, inst_lst_list, inst_lst_dict, inst_lst_str, inst_lst_cls, is_lst_non, inst_scr_int, inst_scr_bool, inst_scr_tuple, inst_scr_list, inst_scr_dict, inst_scr_str, inst_scr_cls, is_scr_non, inst_obj_int, inst_obj_bool, inst_obj_tuple, inst_obj_list, inst_obj_dict, inst_obj_str, is_obj_non, is_non_non, is_bl_bl, prim_len_l, prim_len_t, prim_all, prim_any, prim_sum, prim_tuple_l, prim_tuple_t, prim_list_l, prim_list_t, prim_sorted, prim_sset, prim_len_s, prim_abs, prim_min2, prim_max2, prim_min1, prim_max1, bin_addI, bin_subI, bin_mulI, bin_fdivI, bin_modI, bin_powI, bin_addL, bin_addT, bin_mulT, bin_mulL, ix_l, ix_t, ix_s, newO_l, newO_i, newO_t, newO_s, ofO_some, ownO_some, ofB_some, optI_nil, sl_l, sl_t, mut_own, mut_io, ioAt_zero, ioAt_succ, lstOf_lst, mutL_eq, setIx1_some, setIx0_some, setIx_eq, ioPut_own, ioPut_io, ioPut_succ, at2_0, at2_1, ixN2_0, ixN2_1, Option.isSome_some, Option.isSome_none, seqOf_l, seqOf_t, $ls,*])
def d_need_film : Def := { ps := 1, n := 1, io := [], body := (.seq (.ite (.not (.call "is_film" (.cons (.var 0) .nil))) (.seq (.rse "NoFilm") .nil) .nil) .nil) }
def all_spots_c1 : E := (.cmp2 [1, 2, 3] [3] (.tp [1, 2]) (.enm (.var 0)) (.nm 3) (.rng1 (.prm1 .len (.var 2))) .nil (.tup (.cons (.var 1) (.cons (.var 3) .nil))))
theorem all_spots_c1_o (m : Rho → Out CV) (ρ : Rho) : opd all_spots_c1 m ρ = val m ρ := rfl
def d_all_spots : Def := { ps := 1, n := 4, io := [], body := (.seq (.ret all_spots_c1) .nil) }
def d_spots : Def := { ps := 1, n := 1, io := [], body := (.seq (.expr (.call "need_film" (.cons (.var 0) .nil))) (.seq (.ret (.call "all_spots" (.cons (.var 0) .nil))) .nil)) }
def d_is_spot : Def := { ps := 2, n := 2, io := [], body := (.seq (.ite (.or (.not (.isi (.var 1) .tuple)) (.or (.cmp .ne (.prm1 .len (.var 1)) (.cst (.int 2))) (.not (.call "is_whole" (.cons (.ix (.var 1) (.cst (.int 0))) (.cons (.cst (.int 0)) (.cons (.bin .sub (.prm1 .len (.var 0)) (.cst (.int 1))) .nil))))))) (.seq (.ret (.cst (.bl false))) .nil) .nil) (.seq (.ret (.call "is_whole" (.cons (.ix (.var 1) (.cst (.int 1))) (.cons (.cst (.int 0)) (.cons (.bin .sub (.prm1 .len (.ix (.var 0) (.ix (.var 1) (.cst (.int 0))))) (.cst (.int 1))) .nil))))) .nil)) }
def d_need_spot : Def := { ps := 2, n := 2, io := [], body := (.seq (.ite (.not (.call "is_spot" (.cons (.var 0) (.cons (.var 1) .nil)))) (.seq (.rse "NoSpot") .nil) .nil) .nil) }
def d_dot_of : Def := { ps := 2, n := 2, io := [], body := (.seq (.ret (.ix (.ix (.var 0) (.ix (.var 1) (.cst (.int 0)))) (.ix (.var 1) (.cst (.int 1))))) .nil) }
def d_dot_at : Def := { ps := 2, n := 2, io := [], body := (.seq (.expr (.call "need_film" (.cons (.var 0) .nil))) (.seq (.expr (.call "need_spot" (.cons (.var 0) (.cons (.var 1) .nil)))) (.seq (.ret (.call "dot_of" (.cons (.var 0) (.cons (.var 1) .nil)))) .nil))) }
def d_apart : Def := { ps := 2, n := 2, io := [], body := (.seq (.ret (.bin .add (.prm1 .abs (.bin .sub (.ix (.var 0) (.cst (.int 0))) (.ix (.var 1) (.cst (.int 0))))) (.prm1 .abs (.bin .sub (.ix (.var 0) (.cst (.int 1))) (.ix (.var 1) (.cst (.int 1))))))) .nil) }
def d_far : Def := { ps := 2, n := 2, io := [], body := (.seq (.ite (.or (.not (.call "is_dot" (.cons (.var 0) .nil))) (.not (.call "is_dot" (.cons (.var 1) .nil)))) (.seq (.rse "NoDot") .nil) .nil) (.seq (.ret (.call "apart" (.cons (.var 0) (.cons (.var 1) .nil)))) .nil)) }
def _law_spots_c1 : E := (.cmp1 [3] (.nm 3) (.rng1 (.prm1 .len (.ix (.var 0) (.var 2)))) .nil (.tup (.cons (.var 2) (.cons (.var 3) .nil))))
theorem _law_spots_c1_o (m : Rho → Out CV) (ρ : Rho) : opd _law_spots_c1 m ρ = val m ρ := rfl
def _law_spots_b1 : S := (.seq (.ext 1 _law_spots_c1) .nil)
def _law_spots_l1 : S := (.for (.nm 2) (.rng1 (.prm1 .len (.var 0))) _law_spots_b1)
def d__law_spots : Def := { ps := 1, n := 4, io := [], body := (.seq (.asg 1 (.lst .nil)) (.seq _law_spots_l1 (.seq (.ret (.var 1)) .nil))) }
def d__law_dot : Def := { ps := 2, n := 2, io := [], body := (.seq (.ret (.ix (.ix (.var 0) (.ix (.var 1) (.cst (.int 0)))) (.ix (.var 1) (.cst (.int 1))))) .nil) }
def d__law_far : Def := { ps := 2, n := 2, io := [], body := (.seq (.ret (.bin .add (.prm1 .abs (.bin .sub (.ix (.var 0) (.cst (.int 0))) (.ix (.var 1) (.cst (.int 0))))) (.prm1 .abs (.bin .sub (.ix (.var 0) (.cst (.int 1))) (.ix (.var 1) (.cst (.int 1))))))) .nil) }
/-! ### refusals -/
def NeedFilmOk (Γ : Tab) : Prop := ∀ d, pln d → CallsIo Γ "need_film" [] [d] (if isFilm d then .ok (.val .non) [] else .ex "NoFilm" [])
theorem need_film_ok {Γ Γ' : Tab} (hf : IsFilmOk Γ) (h : Γ'.fn "need_film" = some ⟨d_need_film.ps, d_need_film.io, d_need_film.run Γ⟩) : NeedFilmOk Γ' := fun d hp => calls_of h rfl rfl (by
  unfold d_need_film
  cases e : isFilm d
  · simp_arith [callV (hf d hp), argsN, isRef, e]
  · simp_arith [callV (hf d hp), argsN, isRef, e])
/-! ### spots -/
def rowSp (k : Nat) (n : Nat) : List D := (rngL 0 n).map fun j => .tup [.int k, j]
def spotsFrom : Nat → List D → List D
  | _, [] => []
  | k, f :: fs => rowSp k (lenD f) ++ spotsFrom (k + 1) fs
def allSpots (m : Film) : List D := spotsFrom 0 (m.map encF)
theorem spots_flat : ∀ (k : Nat) (fs : List D), (enumL k fs).flatMap (fun x => match x with | .tup [.int i, f] => rowSp i.toNat (lenD f) | _ => []) = spotsFrom k fs
  | _, [] => rfl
  | k, f :: fs => by
    simp only [enumL, List.flatMap_cons, spotsFrom, spots_flat (k + 1) fs, Int.toNat_natCast]
theorem rowSp_len (k n : Nat) : (rowSp k n).length = n := by simp [rowSp, rng_len]
theorem spots_len : ∀ (k : Nat) (fs : List D), (spotsFrom k fs).length = manyDots fs
  | _, [] => rfl
  | k, f :: fs => by
    simp only [spotsFrom, List.length_append, rowSp_len, spots_len (k + 1) fs, manyDots, List.map_cons, List.sum_cons]
theorem enum_mem : ∀ {k : Nat} {xs : List D} {x : D}, x ∈ enumL k xs → ∃ (i : Nat) (y : D), x = .tup [.int i, y] ∧ y ∈ xs
  | k, [], x, h => by simp [enumL] at h
  | k, y :: ys, x, h => by
    simp only [enumL, List.mem_cons] at h
    rcases h with rfl | h
    · exact ⟨k, y, rfl, by simp⟩
    · obtain ⟨i, z, e, hz⟩ := enum_mem h
      exact ⟨i, z, e, List.mem_cons_of_mem _ hz⟩
def AllSpotsOk (Γ : Tab) : Prop := ∀ m : Film, total m ≤ 1000 → (∀ f ∈ m, f.length ≤ 1000) → CallsIo Γ "all_spots" [] [encM m] (.ok (.own (.lst (allSpots m))) [])
theorem all_spots_ok {Γ Γ' : Tab} (h : Γ'.fn "all_spots" = some ⟨d_all_spots.ps, d_all_spots.io, d_all_spots.run Γ⟩) : AllSpotsOk Γ' := fun m hm hfl => calls_of h rfl rfl (by
  have c1 : den Γ all_spots_c1 [.val (encM m), .un, .un, .un] = .ok (.own (.lst (allSpots m))) [.val (encM m), .un, .un, .un] := by
    rw [allSpots, ← spots_flat]
    refine den_cmp2 (xs := enumL 0 (m.map encF)) (lk := none) (ρ' := [.val (encM m), .un, .un, .un]) _ rfl rfl rfl rfl rfl ?_ fun x hx => ?_
    · rw [spots_flat, spots_len, many_enc]
      exact Nat.le_trans hm (by decide)
    · obtain ⟨i, y, rfl, hy⟩ := enum_mem hx
      obtain ⟨f, hf, rfl⟩ := List.mem_map.mp hy
      refine ⟨[.val (encM m), .val (.int i), .val (encF f), .un], rngL 0 f.length, fun j => [.tup [.int i, j]], rfl, ?_, rfl, ?_, fun z hz => ⟨[.val (encM m), .val (.int i), .val (encF f), .val z], rfl, ?_⟩⟩
      · have : SL = 16777216 := rfl
        have := hfl f hf
        have hv : val (den Γ (.rng1 (.prm1 .len (.var 2)))) [.val (encM m), .val (.int i), .val (encF f), .un] = .ok (.lst (rngL 0 ((f.length : Int)).toNat)) [.val (encM m), .val (.int i), .val (encF f), .un] :=
          val_rng1 (by simp_arith [encF, List.length_map]) (by omega) (by omega)
        simp only [val] at hv
        show (den Γ (.rng1 (.prm1 .len (.var 2))) _).bind _ = _
        cases hd : den Γ (.rng1 (.prm1 .len (.var 2))) [.val (encM m), .val (.int i), .val (encF f), .un] with
        | ok cv r =>
          rw [hd] at hv
          simp only [Out.bind_ok, Out.ok.injEq] at hv
          simp only [Out.bind_ok, hv.1, hv.2, seqOf_l, Int.toNat_natCast]
        | ex c r => rw [hd] at hv; cases hv
        | bad => rw [hd] at hv; cases hv
      · simp only [encF, lenD, List.length_map, rowSp, Int.toNat_natCast, List.flatMap_singleton']
        induction rngL 0 f.length with
        | nil => rfl
        | cons a l ih => simp [List.flatMap_cons, ih]
      · simp_arith [SL]
  unfold d_all_spots
  simp_arith [c1]
  rfl)
/-- the film's dot at i, j -/
def SpotAt (m : Film) (i j : Nat) (r : List Int) : Prop := ∃ f, m[i]? = some f ∧ f[j]? = some r
theorem at_nat {xs : List D} {j : Nat} {d : D} (h : xs[j]? = some d) : at? xs (j : Int) = some d := by
  have hk := (List.getElem?_eq_some_iff.mp h).1
  unfold at? ixN
  rw [if_pos (by omega), if_pos (by omega)]
  simpa using h
theorem at_0 (x : D) (xs : List D) : at? (x :: xs) 0 = some x := at_nat (j := 0) rfl
theorem at_1 (x y : D) (xs : List D) : at? (x :: y :: xs) 1 = some y := at_nat (j := 1) rfl
def DotOfOk (Γ : Tab) : Prop := ∀ (m : Film) (i j : Nat) (r : List Int), SpotAt m i j r → CallsIo Γ "dot_of" [] [encM m, .tup [.int i, .int j]] (.ok (.val (encZ r)) [])
theorem at_film {m : Film} {i : Nat} {f : List (List Int)} (h : m[i]? = some f) : at? (m.map encF) (i : Int) = some (encF f) := at_nat (by rw [List.getElem?_map, h]; rfl)
theorem at_frame {f : List (List Int)} {j : Nat} {r : List Int} (h : f[j]? = some r) : at? (f.map encZ) (j : Int) = some (encZ r) := at_nat (by rw [List.getElem?_map, h]; rfl)
theorem dot_of_ok {Γ Γ' : Tab} (h : Γ'.fn "dot_of" = some ⟨d_dot_of.ps, d_dot_of.io, d_dot_of.run Γ⟩) : DotOfOk Γ' := fun m i j r ⟨f, h1, h2⟩ => calls_of h rfl rfl (by
  unfold d_dot_of
  simp_arith [encM, at_0, at_1, at_film h1, encF, at_frame h2])
def LawDotOk (Γ : Tab) : Prop := ∀ (m : Film) (i j : Nat) (r : List Int), SpotAt m i j r → CallsIo Γ "_law_dot" [] [encM m, .tup [.int i, .int j]] (.ok (.val (encZ r)) [])
theorem law_dot_ok {Γ Γ' : Tab} (h : Γ'.fn "_law_dot" = some ⟨d__law_dot.ps, d__law_dot.io, d__law_dot.run Γ⟩) : LawDotOk Γ' := fun m i j r ⟨f, h1, h2⟩ => calls_of h rfl rfl (by
  unfold d__law_dot
  simp_arith [encM, at_0, at_1, at_film h1, encF, at_frame h2])
/-- how far -/
def absI (i : Int) : Int := if i < 0 then -i else i
def apartI (x y z w : Int) : Int := absI (x - z) + absI (y - w)
def ApartOk (Γ : Tab) : Prop := ∀ x y z w : Int, CallsIo Γ "apart" [] [encZ [x, y], encZ [z, w]] (.ok (.val (.int (apartI x y z w))) [])
theorem apart_ok {Γ Γ' : Tab} (h : Γ'.fn "apart" = some ⟨d_apart.ps, d_apart.io, d_apart.run Γ⟩) : ApartOk Γ' := fun x y z w => calls_of h rfl rfl (by
  unfold d_apart
  simp_arith [encZ, List.map_cons, List.map_nil, at_0, at_1]
  rfl)
def LawFarOk (Γ : Tab) : Prop := ∀ x y z w : Int, CallsIo Γ "_law_far" [] [encZ [x, y], encZ [z, w]] (.ok (.val (.int (apartI x y z w))) [])
theorem law_far_ok {Γ Γ' : Tab} (h : Γ'.fn "_law_far" = some ⟨d__law_far.ps, d__law_far.io, d__law_far.run Γ⟩) : LawFarOk Γ' := fun x y z w => calls_of h rfl rfl (by
  unfold d__law_far
  simp_arith [encZ, List.map_cons, List.map_nil, at_0, at_1]
  rfl)
theorem isDot_is {d : D} (h : isDot d = true) : ∃ x y : Int, d = encZ [x, y] := by
  cases d <;> first | (simp [isDot] at h; done) | skip
  rename_i xs
  simp only [isDot, Bool.and_eq_true, decide_eq_true_eq] at h
  obtain ⟨h1, h2⟩ := h
  match xs, h1, h2 with
  | [a, b], _, h2 =>
    simp only [List.all_cons, List.all_nil, Bool.and_true, Bool.and_eq_true] at h2
    cases a <;> first | (simp [isWhole] at h2; done) | skip
    cases b <;> first | (simp [isWhole] at h2; done) | skip
    exact ⟨_, _, rfl⟩
structure FarOk (Γ : Tab) : Prop where
  ok : ∀ x y z w : Int, isDot (encZ [x, y]) = true → isDot (encZ [z, w]) = true → CallsIo Γ "far" [] [encZ [x, y], encZ [z, w]] (.ok (.val (.int (apartI x y z w))) [])
  no : ∀ d e, pln d → pln e → (isDot d && isDot e) = false → CallsIo Γ "far" [] [d, e] (.ex "NoDot" [])
theorem far_ok {Γ Γ' : Tab} (hd : DotOk Γ) (ha : ApartOk Γ) (h : Γ'.fn "far" = some ⟨d_far.ps, d_far.io, d_far.run Γ⟩) : FarOk Γ' where
  ok := fun x y z w h1 h2 => calls_of h rfl rfl (by
    unfold d_far
    simp_arith [callV (hd _ (pln_encZ [x, y])), callV (hd _ (pln_encZ [z, w])), callV (ha x y z w), argsN, isRef, h1, h2])
  no := fun d e p1 p2 hn => calls_of h rfl rfl (by
    unfold d_far
    cases e1 : isDot d
    · simp_arith [callV (hd d p1), callV (hd e p2), argsN, isRef, e1]
    · rw [e1, Bool.true_and] at hn
      simp_arith [callV (hd d p1), callV (hd e p2), argsN, isRef, e1, hn])
/-! ### spots of a film -/
def isSpot (xs : List D) (d : D) : Bool :=
  match d with
  | .tup [.int i, b] => decide (0 ≤ i) && decide (i ≤ (xs.length : Int) - 1) && isWhole b 0 ((lenD (xs.getD i.toNat .non) : Int) - 1)
  | _ => false
def IsSpotOk (Γ : Tab) : Prop := ∀ (m : Film) (d : D), pln d → CallsIo Γ "is_spot" [] [encM m, d] (.ok (.val (.bl (isSpot (m.map encF) d))) [])
theorem len2 (n : Nat) : decide (((n : Nat) : Int) = 2) = decide (n = 2) := int_eq2 n
theorem is_spot_ok {Γ Γ' : Tab} (hw : WholeOk Γ) (h : Γ'.fn "is_spot" = some ⟨d_is_spot.ps, d_is_spot.io, d_is_spot.run Γ⟩) : IsSpotOk Γ' := fun m d hp => calls_of h rfl rfl (by
  unfold d_is_spot
  cases d with
  | tup ys =>
    have hy : plnL ys = true := hp
    match ys, hy with
    | [], _ => simp_arith [encM, List.length_map, isSpot]
    | [a], _ => simp_arith [encM, List.length_map, isSpot]
    | a :: b :: c :: r, _ =>
      have : decide (((r.length + 1 + 1 + 1 : Nat) : Int) = 2) = false := by simp; omega
      simp_arith [encM, List.length_map, isEq_int, this, isSpot]
    | [a, b], hy =>
      simp only [plnL, Bool.and_true, Bool.and_eq_true] at hy
      cases e1 : isWhole a 0 ((m.length : Int) - 1)
      · have : isSpot (m.map encF) (.tup [a, b]) = false := by
          cases a <;> first | rfl | skip
          rename_i i
          simp only [isWhole] at e1
          simp only [isSpot, List.length_map, e1, Bool.false_and]
        simp_arith [encM, List.length_map, at_0, at_1, callV (hw a 0 ((m.length : Int) - 1) hy.1), argsN, isRef, e1, this]
      · cases a <;> first | (simp [isWhole] at e1; done) | skip
        rename_i i
        simp only [isWhole, Bool.and_eq_true, decide_eq_true_eq] at e1
        obtain ⟨k, rfl⟩ : ∃ k : Nat, i = k := ⟨i.toNat, by omega⟩
        have hk : k < m.length := by omega
        obtain ⟨f, hf⟩ : ∃ f, m[k]? = some f := ⟨_, List.getElem?_eq_getElem hk⟩
        have e2 : isWhole (.int (k : Int)) 0 ((m.length : Int) - 1) = true := by simp only [isWhole, Bool.and_eq_true, decide_eq_true_eq]; exact e1
        have e3 : isSpot (m.map encF) (.tup [.int k, b]) = isWhole b 0 ((f.length : Int) - 1) := by
          simp only [isSpot, List.length_map, decide_eq_true e1.1, decide_eq_true e1.2, Bool.and_self, Bool.true_and, Int.toNat_natCast, List.getD_eq_getElem?_getD, List.getElem?_map, hf, Option.map_some, Option.getD_some, encF, lenD]
        simp_arith [encM, List.length_map, at_0, at_1, callV (hw (.int k) 0 ((m.length : Int) - 1) rfl), argsN, isRef, e2, at_film hf, encF, callV (hw b 0 ((f.length : Int) - 1) hy.2), e3]
  | dic _ => cases hp
  | fn _ => cases hp
  | obj _ _ => cases hp
  | scr _ => cases hp
  | _ => simp_arith [encM, isSpot])
def NeedSpotOk (Γ : Tab) : Prop := ∀ (m : Film) (d : D), pln d → CallsIo Γ "need_spot" [] [encM m, d] (if isSpot (m.map encF) d then .ok (.val .non) [] else .ex "NoSpot" [])
theorem need_spot_ok {Γ Γ' : Tab} (hf : IsSpotOk Γ) (h : Γ'.fn "need_spot" = some ⟨d_need_spot.ps, d_need_spot.io, d_need_spot.run Γ⟩) : NeedSpotOk Γ' := fun m d hp => calls_of h rfl rfl (by
  unfold d_need_spot
  cases e : isSpot (m.map encF) d
  · simp_arith [callV (hf m d hp), argsN, isRef, e]
  · simp_arith [callV (hf m d hp), argsN, isRef, e])
theorem spot_at {m : Film} {d : D} (h : isSpot (m.map encF) d = true) : ∃ i j r, d = .tup [.int (i : Nat), .int (j : Nat)] ∧ SpotAt m i j r := by
  unfold isSpot at h
  split at h
  · rename_i i b
    simp only [Bool.and_eq_true, decide_eq_true_eq, List.length_map] at h
    obtain ⟨⟨h1, h2⟩, h3⟩ := h
    obtain ⟨k, rfl⟩ : ∃ k : Nat, i = k := ⟨i.toNat, by omega⟩
    have hk : k < m.length := by omega
    have hf := List.getElem?_eq_getElem hk
    rw [Int.toNat_natCast, List.getD_eq_getElem?_getD, List.getElem?_map, hf] at h3
    simp only [Option.map_some, Option.getD_some, encF, lenD, List.length_map] at h3
    cases b <;> first | (simp [isWhole] at h3; done) | skip
    rename_i j
    simp only [isWhole, Bool.and_eq_true, decide_eq_true_eq] at h3
    obtain ⟨l, rfl⟩ : ∃ l : Nat, j = l := ⟨j.toNat, by omega⟩
    have hl : l < m[k].length := by omega
    exact ⟨k, l, _, rfl, _, hf, List.getElem?_eq_getElem hl⟩
  · cases h
theorem spot_is {m : Film} {i j : Nat} {r : List Int} (h : SpotAt m i j r) : isSpot (m.map encF) (.tup [.int i, .int j]) = true := by
  obtain ⟨f, h1, h2⟩ := h
  have a := (List.getElem?_eq_some_iff.mp h1).1
  have b := (List.getElem?_eq_some_iff.mp h2).1
  simp only [isSpot, List.length_map, Int.toNat_natCast, List.getD_eq_getElem?_getD, List.getElem?_map, h1, Option.map_some, Option.getD_some, encF, lenD, isWhole, Bool.and_eq_true, decide_eq_true_eq]
  omega
structure DotAtOk (Γ : Tab) : Prop where
  ok : ∀ (m : Film) (i j : Nat) (r : List Int), isFilm (encM m) = true → SpotAt m i j r → CallsIo Γ "dot_at" [] [encM m, .tup [.int i, .int j]] (.ok (.val (encZ r)) [])
  noF : ∀ d s, pln d → isFilm d = false → CallsIo Γ "dot_at" [] [d, s] (.ex "NoFilm" [])
  noS : ∀ (m : Film) s, pln s → isFilm (encM m) = true → isSpot (m.map encF) s = false → CallsIo Γ "dot_at" [] [encM m, s] (.ex "NoSpot" [])
theorem dot_at_ok {Γ Γ' : Tab} (hf : NeedFilmOk Γ) (hs : NeedSpotOk Γ) (hd : DotOfOk Γ) (h : Γ'.fn "dot_at" = some ⟨d_dot_at.ps, d_dot_at.io, d_dot_at.run Γ⟩) : DotAtOk Γ' where
  ok := fun m i j r h1 h2 => calls_of h rfl rfl (by
    have c1 := hf (encM m) (pln_encM m)
    rw [if_pos h1] at c1
    have c2 := hs m (.tup [.int i, .int j]) rfl
    rw [if_pos (spot_is h2)] at c2
    unfold d_dot_at
    simp_arith [callV c1, callV c2, callV (hd m i j r h2), argsN, isRef])
  noF := fun d s hp h1 => calls_of h rfl rfl (by
    have c1 := hf d hp
    rw [h1] at c1
    have c1 : CallsIo Γ "need_film" [] [d] (.ex "NoFilm" []) := c1
    unfold d_dot_at
    simp_arith [callX c1, argsN, isRef])
  noS := fun m s hp h1 h2 => calls_of h rfl rfl (by
    have c1 := hf (encM m) (pln_encM m)
    rw [if_pos h1] at c1
    have c2 := hs m s hp
    rw [h2] at c2
    have c2 : CallsIo Γ "need_spot" [] [encM m, s] (.ex "NoSpot" []) := c2
    unfold d_dot_at
    simp_arith [callV c1, callX c2, argsN, isRef])
structure SpotsOk (Γ : Tab) : Prop where
  ok : ∀ (m : Film), total m ≤ 1000 → (∀ f ∈ m, f.length ≤ 1000) → isFilm (encM m) = true → CallsIo Γ "spots" [] [encM m] (.ok (.own (.lst (allSpots m))) [])
  no : ∀ d, pln d → isFilm d = false → CallsIo Γ "spots" [] [d] (.ex "NoFilm" [])
theorem spots_ok {Γ Γ' : Tab} (hf : NeedFilmOk Γ) (ha : AllSpotsOk Γ) (h : Γ'.fn "spots" = some ⟨d_spots.ps, d_spots.io, d_spots.run Γ⟩) : SpotsOk Γ' where
  ok := fun m h1 h2 h3 => calls_of h rfl rfl (by
    have c1 := hf (encM m) (pln_encM m)
    rw [if_pos h3] at c1
    unfold d_spots
    simp_arith [callV c1, callV (ha m h1 h2), argsN, isRef])
  no := fun d hp h1 => calls_of h rfl rfl (by
    have c1 := hf d hp
    rw [h1] at c1
    have c1 : CallsIo Γ "need_film" [] [d] (.ex "NoFilm" []) := c1
    unfold d_spots
    simp_arith [callX c1, argsN, isRef])
end MP
end
section
set_option autoImplicit false
set_option Elab.async false
set_option linter.all false
set_option maxRecDepth 100000
/-! MkSpotsZ: the spots of a film in their order. Core Lean alone. -/
namespace MP
local macro_rules
  | `(tactic| simp_arith [$ls,*]) => `(tactic| simp only [Def.run, List.length_cons, List.length_nil, if_true, if_false, Bool.false_eq_true, Bool.true_eq_false, initRho, List.contains_nil, List.contains_cons, denS, den, two, Out.bind_ok, Out.bind_ex, Out.bind_bad, Out.fl_ok, Out.fl_ex, Out.fl_bad, val, Fl.then_next, Fl.then_ret, Fl.then_brk, Fl.then_cnt, Fl.then_ex, Fl.then_bad, Prim.fresh, List.getElem?_cons_zero, List.getElem?_cons_succ, List.set_cons_zero, List.set_cons_succ, outsOf, Bool.not_false, Bool.not_true, put, free, Nat.reduceAdd, Nat.reduceSub, Nat.reduceEqDiff, Nat.reduceBEq, Nat.reduceLT, Nat.reduceLeDiff, List.replicate_zero, List.replicate_succ, Bool.or_false, Bool.or_true, Bool.false_or, Bool.true_or, Bool.and_true, Bool.true_and, Bool.and_false, Bool.false_and, Option.map_some, Option.map_none, Option.bind_some, Option.bind_none, eltOf, decide_true, decide_false, reduceIte, reduceCtorEq, Int.cast_ofNat_Int, Int.reduceEq, Int.reduceLE, Int.reduceLT, Int.reduceNeg, Int.reduceAdd, Int.reduceSub, beq_self_eq_true, BEq.rfl, outO_some, opd_var, again_var, see_val, see_own, see_lck, see_io, peek_zero, peek_succ, d_val, d_own, cell_val, cell_own, isEq_int, isEq_scr, opd_nil, again_nil, opd_cons, again_cons, testOf_cons, opd_tup, again_tup, testOf_tup, opd_lst, again_lst, testOf_lst, opd_bin, again_bin, testOf_bin, opd_neg, again_neg, testOf_neg, opd_cmp, again_cmp, testOf_cmp, opd_chn, again_chn, testOf_chn, opd_and, again_and, testOf_and, opd_or, again_or, testOf_or, opd_not, again_not, testOf_not, opd_ite, again_ite, testOf_ite, opd_isi, again_isi, testOf_isi, opd_call, again_call, testOf_call, opd_prm1, again_prm1, testOf_prm1, opd_prm2, again_prm2, testOf_prm2, opd_ix, again_ix, testOf_ix, opd_slc, again_slc, testOf_slc, opd_rev, again_rev, testOf_rev, opd_att, again_att, testOf_att, opd_cst, again_cst, testOf_cst, opd_glb, again_glb, testOf_glb, opd_cmp1, again_cmp1, testOf_cmp1, opd_cmp2, again_cmp2, testOf_cmp2, opd_pop, again_pop, testOf_pop, opd_xop, again_xop, testOf_xop, testOf_nil, cmp_eq, cmp_ne, cmp_isin, cmp_notin, cmp_is, cmp_isnot, cmp_lt, cmp_le, cmp_gt, cmp_ge, cmp_ltT, inst_non_int, inst_non_bool, inst_non_tuple, inst_non_list, inst_non_dict, inst_non_str, inst_non_cls, inst_bl_int, inst_bl_bool, inst_bl_tuple, inst_bl_list, inst_bl_dict, inst_bl_str, inst_bl_cls, is_bl_non, inst_int_int, inst_int_bool, inst_int_tuple, inst_int_list, inst_int_dict, inst_int_str, inst_int_cls, is_int_non, inst_str_int, inst_str_bool, inst_str_tuple, inst_str_list, inst_str_dict, inst_str_str, inst_str_cls, is_str_non, inst_tup_int, inst_tup_bool, inst_tup_tuple, inst_tup_list, inst_tup_dict, inst_tup_str, inst_tup_cls, is_tup_non, inst_lst_int, inst_lst_bool, inst_lst_tuple, inst_lst_list, inst_lst_dict, inst_lst_str, inst_lst_cls, is_lst_non, inst_scr_int, inst_scr_bool, inst_scr_tuple, inst_scr_list, inst_scr_dict, inst_scr_str, inst_scr_cls, is_scr_non, inst_obj_int, inst_obj_bool, inst_obj_tuple, inst_obj_list, inst_obj_dict, inst_obj_str, is_obj_non, is_non_non, is_bl_bl, prim_len_l, prim_len_t, prim_all, prim_any, prim_sum, prim_tuple_l, prim_tuple_t, prim_list_l, prim_list_t, prim_sorted, prim_sset, prim_len_s, prim_abs, prim_min2, prim_max2, prim_min1, prim_max1, bin_addI, bin_subI, bin_mulI, bin_fdivI, bin_modI, bin_powI, bin_addL, bin_addT, bin_mulT, bin_mulL, ix_l, ix_t, ix_s, newO_l, newO_i, newO_t, newO_s, ofO_some, ownO_some, ofB_some, optI_nil, sl_l, sl_t, mut_own, mut_io, ioAt_zero, ioAt_succ, lstOf_lst, mutL_eq, setIx1_some, setIx0_some, setIx_eq, ioPut_own, ioPut_io, ioPut_succ, at2_0, at2_1, ixN2_0, ixN2_1, Option.isSome_some, Option.isSome_none, seqOf_l, seqOf_t, $ls,*])
theorem rng_map : ∀ (n : Nat) (a : Int), rngL a n = (List.range n).map fun (j : Nat) => D.int (a + j)
  | 0, _ => rfl
  | n + 1, a => by
    show D.int a :: rngL (a + 1) n = _
    rw [rng_map n (a + 1), List.range_succ_eq_map, List.map_cons, List.map_map]
    simp only [Int.natCast_zero, Int.add_zero, List.cons.injEq, true_and]
    apply List.map_congr_left
    intro j _
    simp only [Function.comp, D.int.injEq]
    omega
def spotsZ : Nat → Film → List (List Int)
  | _, [] => []
  | k, f :: m => ((List.range f.length).map fun (j : Nat) => [(k : Int), (j : Int)]) ++ spotsZ (k + 1) m
theorem spots_enc : ∀ (k : Nat) (m : Film), spotsFrom k (m.map encF) = (spotsZ k m).map encZ
  | _, [] => rfl
  | k, f :: m => by
    simp only [List.map_cons, spotsFrom, spotsZ, List.map_append, spots_enc (k + 1) m, rowSp, rng_map, List.map_map]
    congr 1
    simp only [encF, lenD, List.length_map]
    apply List.map_congr_left
    intro j _
    simp [encZ]
theorem allSpots_enc (m : Film) : allSpots m = (spotsZ 0 m).map encZ := spots_enc 0 m
theorem mem_spotsZ : ∀ {k : Nat} {m : Film} {x : List Int}, x ∈ spotsZ k m → ∃ i j r, x = [((k + i : Nat) : Int), ((j : Nat) : Int)] ∧ SpotAt m i j r
  | k, [], x, h => by simp [spotsZ] at h
  | k, f :: m, x, h => by
    simp only [spotsZ, List.mem_append, List.mem_map, List.mem_range] at h
    rcases h with ⟨j, hj, rfl⟩ | h
    · exact ⟨0, j, f[j], by simp, f, rfl, List.getElem?_eq_getElem hj⟩
    · obtain ⟨i, j, r, e, g, g1, g2⟩ := mem_spotsZ h
      exact ⟨i + 1, j, r, by rw [e, show k + 1 + i = k + (i + 1) by omega], g, by simpa using g1, g2⟩
theorem spotsZ_of : ∀ {k : Nat} {m : Film} {i j : Nat} {r : List Int}, SpotAt m i j r → [((k + i : Nat) : Int), ((j : Nat) : Int)] ∈ spotsZ k m
  | k, [], i, j, r, ⟨f, h, _⟩ => by simp at h
  | k, f :: m, 0, j, r, ⟨g, h, h2⟩ => by
    simp only [List.getElem?_cons_zero, Option.some.injEq] at h
    subst h
    have := (List.getElem?_eq_some_iff.mp h2).1
    simp only [spotsZ, List.mem_append, List.mem_map, List.mem_range]
    exact .inl ⟨j, this, by simp⟩
  | k, f :: m, i + 1, j, r, ⟨g, h, h2⟩ => by
    have := spotsZ_of (k := k + 1) (m := m) (i := i) (j := j) (r := r) ⟨g, by simpa using h, h2⟩
    rw [show k + (i + 1) = k + 1 + i by omega]
    simp only [spotsZ, List.mem_append]
    exact .inr this
theorem lt2a {a b c d : Int} (h : a < c) : [a, b] < [c, d] := by
  rw [List.cons_lt_cons_iff]
  exact .inl h
theorem lt2b {a b d : Int} (h : b < d) : [a, b] < [a, d] := by
  rw [List.cons_lt_cons_iff]
  refine .inr ⟨rfl, ?_⟩
  rw [List.cons_lt_cons_iff]
  exact .inl h
theorem spotsZ_sorted : ∀ (k : Nat) (m : Film), (spotsZ k m).Pairwise (fun a b => a < b)
  | _, [] => List.Pairwise.nil
  | k, f :: m => by
    rw [spotsZ, List.pairwise_append]
    refine ⟨?_, spotsZ_sorted (k + 1) m, ?_⟩
    · rw [List.pairwise_map]
      exact List.pairwise_lt_range.imp fun h => lt2b (by omega)
    · intro a ha b hb
      obtain ⟨j, _, rfl⟩ := List.mem_map.mp ha
      obtain ⟨i, j', r, rfl, _⟩ := mem_spotsZ hb
      exact lt2a (by omega)
theorem sort_self {l : List (List Int)} (h : l.Pairwise (fun a b => a < b)) : sortD (l.map encZ) = l.map encZ := by
  rw [sortD_enc]
  congr 1
  refine List.mergeSort_of_pairwise (h.imp fun {a b} hab => ?_)
  unfold leZ
  exact decide_eq_true (List.le_of_lt hab)
theorem eqL_encs : ∀ a b : List (List Int), eqL (a.map encZ) (b.map encZ) = decide (a = b)
  | [], [] => by simp [eqL]
  | [], _ :: _ => by simp [eqL]
  | _ :: _, [] => by simp [eqL]
  | x :: a, y :: b => by
    simp only [List.map_cons, eqL, eqD_enc, eqL_encs a b, List.cons.injEq]
    by_cases h1 : x = y <;> by_cases h2 : a = b <;> simp [h1, h2]
theorem dpt_ints : ∀ ns : List Int, dptL (ns.map D.int) = 0
  | [] => rfl
  | n :: ns => by simp only [List.map_cons, dptL, dptD, dpt_ints ns]; rfl
theorem dpt_encs : ∀ l : List (List Int), dptL (l.map encZ) ≤ 1
  | [] => by simp [dptL]
  | x :: l => by
    simp only [List.map_cons, dptL, encZ, dptD, dpt_ints]
    have := dpt_encs l
    omega
theorem pl_encs (l : List (List Int)) : pl (.lst (l.map encZ)) = true := by
  unfold pl
  rw [Bool.and_eq_true]
  refine ⟨plnL_map fun r _ => pln_encZ r, ?_⟩
  have := dpt_encs l
  show decide (dptL (l.map encZ) + 1 ≤ 60) = true
  exact decide_eq_true (by omega)
theorem isEq_encs (a b : List (List Int)) : isEq (.lst (a.map encZ)) (.lst (b.map encZ)) = some (decide (a = b)) := by
  show (if pl (.lst (a.map encZ)) && pl (.lst (b.map encZ)) then some (eqD (.lst (a.map encZ)) (.lst (b.map encZ))) else none) = _
  rw [pl_encs, pl_encs]
  simp only [Bool.and_self, if_true, eqD, eqL_encs]
theorem alk_ints : ∀ a b : List Int, alkL (a.map D.int) (b.map D.int) = true
  | [], _ => by simp [alkL]
  | _ :: _, [] => by simp [alkL]
  | x :: a, y :: b => by simp only [List.map_cons, alkL, alk, alk_ints a b, Bool.and_self]
theorem sortOk_encs {l : List (List Int)} (h : ∀ r ∈ l, r ≠ []) : sortOk (l.map encZ) = true := by
  unfold sortOk
  rw [Bool.and_eq_true, Bool.or_eq_true]
  refine ⟨?_, .inl ?_⟩
  · simp only [List.all_eq_true, List.mem_map, forall_exists_index, and_imp, Bool.and_eq_true]
    rintro x r hr rfl
    refine ⟨?_, ?_⟩
    · have := pl_encs [r]
      unfold pl at this ⊢
      simp only [List.map_cons, List.map_nil, plnD, plnL, dptD, dptL, Bool.and_true, Bool.and_eq_true, decide_eq_true_eq] at this ⊢
      exact ⟨this.1, by have := this.2; omega⟩
    · rintro y r' hr' rfl
      simp only [encZ, alk, alk_ints]
  · simp only [List.all_eq_true, List.mem_map, forall_exists_index, and_imp]
    rintro x r hr rfl
    cases r with
    | nil => exact absurd rfl (h [] hr)
    | cons _ _ => rfl
/-! ### the law's own spots -/
theorem spots_snoc : ∀ (k : Nat) (xs : List D) (f : D), spotsFrom k (xs ++ [f]) = spotsFrom k xs ++ rowSp (k + xs.length) (lenD f)
  | k, [], f => by simp [spotsFrom]
  | k, x :: xs, f => by
    simp only [List.cons_append, spotsFrom, spots_snoc (k + 1) xs f, List.append_assoc, List.length_cons]
    rw [show k + 1 + xs.length = k + (xs.length + 1) by omega]
def LawSpotsOk (Γ : Tab) : Prop := ∀ m : Film, m.length ≤ 1000 → total m ≤ 1000 → (∀ f ∈ m, f.length ≤ 1000) → CallsIo Γ "_law_spots" [] [encM m] (.ok (.own (.lst (allSpots m))) [])
theorem spots_le (m : Film) (k : Nat) : (spotsFrom 0 ((m.map encF).take k)).length ≤ total m := by
  rw [spots_len, ← many_enc]
  simp only [manyDots]
  have h : ((m.map encF).map lenD).sum = (((m.map encF).take k).map lenD).sum + (((m.map encF).drop k).map lenD).sum := by
    rw [← List.sum_append, ← List.map_append, List.take_append_drop]
  omega
theorem law_spots_ok {Γ Γ' : Tab} (h : Γ'.fn "_law_spots" = some ⟨d__law_spots.ps, d__law_spots.io, d__law_spots.run Γ⟩) : LawSpotsOk Γ' := fun m hl ht hf => calls_of h rfl rfl (by
  have hSL : SL = 16777216 := rfl
  have loop : ∃ c, denS Γ _law_spots_l1 [.val (encM m), .own (.lst []), .un, .un] = .next [.val (encM m), .own (.lst (allSpots m)), c, .un] := by
    have hi : val (den Γ (.rng1 (.prm1 .len (.var 0)))) [.val (encM m), .own (.lst []), .un, .un] = .ok (.lst (rngL 0 ((m.length : Int)).toNat)) [.val (encM m), .own (.lst []), .un, .un] :=
      val_rng1 (by simp_arith [encM, List.length_map]) (by omega) (by omega)
    unfold _law_spots_l1
    rw [den_for hi rfl, Int.toNat_natCast]
    obtain ⟨ρ', e, c, hc, rfl⟩ := forL_inv (tg := .nm 2) (f := denS Γ _law_spots_b1) (fun j ρ => ∃ c, (c = Cell.un ∨ ∃ d, c = .val d) ∧ ρ = [.val (encM m), .own (.lst (spotsFrom 0 ((m.map encF).take j))), c, .un]) (rngL 0 m.length) [.val (encM m), .own (.lst []), .un, .un] (by
      rintro j x ρ hj ⟨c, hc, rfl⟩
      have hjl : j < m.length := by
        have := (List.getElem?_eq_some_iff.mp hj).1
        rwa [rng_len] at this
      have hx : x = .int (j : Nat) := by
        rw [rng_map, List.getElem?_map, List.getElem?_range hjl] at hj
        simp only [Option.map_some, Option.some.injEq] at hj
        rw [← hj]
        simp
      subst hx
      refine ⟨[.val (encM m), .own (.lst (spotsFrom 0 ((m.map encF).take j))), .val (.int j), .un], by rcases hc with rfl | ⟨d, rfl⟩ <;> rfl, [.val (encM m), .own (.lst (spotsFrom 0 ((m.map encF).take (j + 1)))), .val (.int j), .un], .inl ?_, _, .inr ⟨_, rfl⟩, rfl⟩
      have hg := List.getElem?_eq_getElem hjl
      have hfl := hf m[j] (List.getElem_mem hjl)
      have cc : den Γ _law_spots_c1 [.val (encM m), .own (.lst (spotsFrom 0 ((m.map encF).take j))), .val (.int j), .un] = .ok (.own (.lst (rowSp j m[j].length))) [.val (encM m), .own (.lst (spotsFrom 0 ((m.map encF).take j))), .val (.int j), .un] := by
        have hr : rowSp j m[j].length = (rngL 0 m[j].length).flatMap fun z => [.tup [.int j, z]] := by
          unfold rowSp
          induction rngL 0 m[j].length with
          | nil => rfl
          | cons a l ih => simp [List.flatMap_cons, ih]
        rw [hr]
        refine den_cmp1 (xs := rngL 0 m[j].length) (lk := none) (ρ' := [.val (encM m), .own (.lst (spotsFrom 0 ((m.map encF).take j))), .val (.int j), .un]) _ ?_ rfl rfl rfl fun z hz => ⟨[.val (encM m), .own (.lst (spotsFrom 0 ((m.map encF).take j))), .val (.int j), .val z], rfl, by simp_arith [SL]⟩
        have hv : val (den Γ (.rng1 (.prm1 .len (.ix (.var 0) (.var 2))))) [.val (encM m), .own (.lst (spotsFrom 0 ((m.map encF).take j))), .val (.int j), .un] = .ok (.lst (rngL 0 ((m[j].length : Int)).toNat)) [.val (encM m), .own (.lst (spotsFrom 0 ((m.map encF).take j))), .val (.int j), .un] :=
          val_rng1 (by simp_arith [encM, at_film hg, encF, List.length_map]) (by omega) (by omega)
        simp only [val] at hv
        show (den Γ (.rng1 (.prm1 .len (.ix (.var 0) (.var 2)))) _).bind _ = _
        cases hd : den Γ (.rng1 (.prm1 .len (.ix (.var 0) (.var 2)))) [.val (encM m), .own (.lst (spotsFrom 0 ((m.map encF).take j))), .val (.int j), .un] with
        | ok cv r =>
          rw [hd] at hv
          simp only [Out.bind_ok, Out.ok.injEq] at hv
          simp only [Out.bind_ok, hv.1, hv.2, seqOf_l, Int.toNat_natCast]
        | ex c r => rw [hd] at hv; cases hv
        | bad => rw [hd] at hv; cases hv
      have etk : spotsFrom 0 ((m.map encF).take (j + 1)) = spotsFrom 0 ((m.map encF).take j) ++ rowSp j m[j].length := by
        rw [List.take_add_one, List.getElem?_map, hg]
        simp only [Option.map_some, Option.toList_some, spots_snoc, encF, lenD, List.length_map, List.length_take]
        rw [show 0 + min j m.length = j by omega]
      have hb : ((spotsFrom 0 ((m.map encF).take j)).length + (rowSp j m[j].length).length ≤ SL) = True := by
        rw [← List.length_append, ← etk]
        have := spots_le m (j + 1)
        simp only [eq_iff_iff, iff_true]
        omega
      unfold _law_spots_b1
      simp_arith [cc, hb, etk]) ⟨.un, .inl rfl, rfl⟩
    rw [rng_len, List.take_of_length_le (by simp)] at e
    exact ⟨c, e⟩
  obtain ⟨c, el⟩ := loop
  have s0 : (0 ≤ SL) = True := by simp
  unfold d__law_spots
  simp_arith [s0, el])
end MP
end
section
set_option autoImplicit false
set_option Elab.async false
set_option linter.all false
set_option maxRecDepth 100000
/-! MkRules: rules, steps, what they cost. Core Lean alone. -/
namespace MP
local macro_rules
  | `(tactic| simp_arith [$ls,*]) => `(tactic| simp only [Def.run, List.length_cons, List.length_nil, if_true, if_false, Bool.false_eq_true, Bool.true_eq_false, initRho, List.contains_nil, List.contains_cons, denS, den, two, Out.bind_ok, Out.bind_ex, Out.bind_bad, Out.fl_ok, Out.fl_ex, Out.fl_bad, val, Fl.then_next, Fl.then_ret, Fl.then_brk, Fl.then_cnt, Fl.then_ex, Fl.then_bad, Prim.fresh, List.getElem?_cons_zero, List.getElem?_cons_succ, List.set_cons_zero, List.set_cons_succ, outsOf, Bool.not_false, Bool.not_true, put, free, Nat.reduceAdd, Nat.reduceSub, Nat.reduceEqDiff, Nat.reduceBEq, Nat.reduceLT, Nat.reduceLeDiff, List.replicate_zero, List.replicate_succ, Bool.or_false, Bool.or_true, Bool.false_or, Bool.true_or, Bool.and_true, Bool.true_and, Bool.and_false, Bool.false_and, Option.map_some, Option.map_none, Option.bind_some, Option.bind_none, eltOf, decide_true, decide_false, reduceIte, reduceCtorEq, Int.cast_ofNat_Int, Int.reduceEq, Int.reduceLE, Int.reduceLT, Int.reduceNeg, Int.reduceAdd, Int.reduceSub, beq_self_eq_true, BEq.rfl, outO_some, opd_var, again_var, see_val, see_own, see_lck, see_io, peek_zero, peek_succ, d_val, d_own, cell_val, cell_own, isEq_int, isEq_scr, opd_nil, again_nil, opd_cons, again_cons, testOf_cons, opd_tup, again_tup, testOf_tup, opd_lst, again_lst, testOf_lst, opd_bin, again_bin, testOf_bin, opd_neg, again_neg, testOf_neg, opd_cmp, again_cmp, testOf_cmp, opd_chn, again_chn, testOf_chn, opd_and, again_and, testOf_and, opd_or, again_or, testOf_or, opd_not, again_not, testOf_not, opd_ite, again_ite, testOf_ite, opd_isi, again_isi, testOf_isi, opd_call, again_call, testOf_call, opd_prm1, again_prm1, testOf_prm1, opd_prm2, again_prm2, testOf_prm2, opd_ix, again_ix, testOf_ix, opd_slc, again_slc, testOf_slc, opd_rev, again_rev, testOf_rev, opd_att, again_att, testOf_att, opd_cst, again_cst, testOf_cst, opd_glb, again_glb, testOf_glb, opd_cmp1, again_cmp1, testOf_cmp1, opd_cmp2, again_cmp2, testOf_cmp2, opd_pop, again_pop, testOf_pop, opd_xop, again_xop, testOf_xop, testOf_nil, cmp_eq, cmp_ne, cmp_isin, cmp_notin, cmp_is, cmp_isnot, cmp_lt, cmp_le, cmp_gt, cmp_ge, cmp_ltT, inst_non_int, inst_non_bool, inst_non_tuple, inst_non_list, inst_non_dict, inst_non_str, inst_non_cls, inst_bl_int, inst_bl_bool, inst_bl_tuple, inst_bl_list, inst_bl_dict, inst_bl_str, inst_bl_cls, is_bl_non, inst_int_int, inst_int_bool, inst_int_tuple, inst_int_list, inst_int_dict, inst_int_str, inst_int_cls, is_int_non, inst_str_int, inst_str_bool, inst_str_tuple, inst_str_list, inst_str_dict, inst_str_str, inst_str_cls, is_str_non, inst_tup_int, inst_tup_bool, inst_tup_tuple, inst_tup_list, inst_tup_dict, inst_tup_str, inst_tup_cls, is_tup_non, inst_lst_int, inst_lst_bool, inst_lst_tuple, inst_lst_list, inst_lst_dict, inst_lst_str, inst_lst_cls, is_lst_non, inst_scr_int, inst_scr_bool, inst_scr_tuple, inst_scr_list, inst_scr_dict, inst_scr_str, inst_scr_cls, is_scr_non, inst_obj_int, inst_obj_bool, inst_obj_tuple, inst_obj_list, inst_obj_dict, inst_obj_str, is_obj_non, is_non_non, is_bl_bl, prim_len_l, prim_len_t, prim_all, prim_any, prim_sum, prim_tuple_l, prim_tuple_t, prim_list_l, prim_list_t, prim_sorted, prim_sset, prim_len_s, prim_abs, prim_min2, prim_max2, prim_min1, prim_max1, bin_addI, bin_subI, bin_mulI, bin_fdivI, bin_modI, bin_powI, bin_addL, bin_addT, bin_mulT, bin_mulL, ix_l, ix_t, ix_s, newO_l, newO_i, newO_t, newO_s, ofO_some, ownO_some, ofB_some, optI_nil, sl_l, sl_t, mut_own, mut_io, ioAt_zero, ioAt_succ, lstOf_lst, mutL_eq, setIx1_some, setIx0_some, setIx_eq, ioPut_own, ioPut_io, ioPut_succ, at2_0, at2_1, ixN2_0, ixN2_1, Option.isSome_some, Option.isSome_none, seqOf_l, seqOf_t, $ls,*])
def Rules___init___c1 : E := (.cmp1 [7] (.nm 7) (.itr (.tup (.cons (.var 1) (.cons (.var 2) (.cons (.var 3) .nil))))) .nil (.call "is_whole" (.cons (.var 7) (.cons (.cst (.int 0)) (.cons (.cst (.int 999)) .nil)))))
theorem Rules___init___c1_o (m : Rho → Out CV) (ρ : Rho) : opd Rules___init___c1 m ρ = val m ρ := rfl
def d_Rules___init__ : Def := { ps := 7, n := 8, io := [0], body := (.seq (.ite (.not (.prm1 .all Rules___init___c1)) (.seq (.rse "NoRules") .nil) .nil) (.seq (.ite (.or (.not (.call "is_whole" (.cons (.var 4) (.cons (.cst (.int 0)) (.cons (.cst (.int 3)) .nil))))) (.or (.not (.call "is_whole" (.cons (.var 5) (.cons (.cst (.int 0)) (.cons (.cst (.int 198)) .nil))))) (.not (.call "is_whole" (.cons (.var 6) (.cons (.cst (.int 0)) (.cons (.cst (.int 99)) .nil))))))) (.seq (.rse "NoRules") .nil) .nil) (.seq (.asgAt 0 "birth" (.var 1)) (.seq (.asgAt 0 "end" (.var 2)) (.seq (.asgAt 0 "clutter" (.var 3)) (.seq (.asgAt 0 "gap" (.var 4)) (.seq (.asgAt 0 "reach" (.var 5)) (.seq (.asgAt 0 "miss" (.var 6)) .nil)))))))) }
def d_need_rules : Def := { ps := 1, n := 1, io := [], body := (.seq (.ite (.not (.isi (.var 0) (.cls "Rules"))) (.seq (.rse "NoRules") .nil) .nil) .nil) }
def d_may_lead : Def := { ps := 4, n := 5, io := [], body := (.seq (.asg 4 (.bin .sub (.ix (.var 3) (.cst (.int 0))) (.ix (.var 2) (.cst (.int 0))))) (.seq (.ite (.not (.chn .le .le (.cst (.int 1)) (.var 4) (.bin .add (.att (.var 1) "gap") (.cst (.int 1))))) (.seq (.ret (.cst (.bl false))) .nil) .nil) (.seq (.ret (.cmp .le (.call "apart" (.cons (.call "dot_of" (.cons (.var 0) (.cons (.var 2) .nil))) (.cons (.call "dot_of" (.cons (.var 0) (.cons (.var 3) .nil))) .nil))) (.bin .mul (.att (.var 1) "reach") (.var 4)))) .nil))) }
def d_may_step : Def := { ps := 4, n := 4, io := [], body := (.seq (.expr (.call "need_film" (.cons (.var 0) .nil))) (.seq (.expr (.call "need_rules" (.cons (.var 1) .nil))) (.seq (.expr (.call "need_spot" (.cons (.var 0) (.cons (.var 2) .nil)))) (.seq (.expr (.call "need_spot" (.cons (.var 0) (.cons (.var 3) .nil)))) (.seq (.ret (.call "may_lead" (.cons (.var 0) (.cons (.var 1) (.cons (.var 2) (.cons (.var 3) .nil)))))) .nil))))) }
def d_cost_between : Def := { ps := 4, n := 4, io := [], body := (.seq (.ret (.bin .add (.call "apart" (.cons (.call "dot_of" (.cons (.var 0) (.cons (.var 2) .nil))) (.cons (.call "dot_of" (.cons (.var 0) (.cons (.var 3) .nil))) .nil))) (.bin .mul (.att (.var 1) "miss") (.bin .sub (.bin .sub (.ix (.var 3) (.cst (.int 0))) (.ix (.var 2) (.cst (.int 0)))) (.cst (.int 1)))))) .nil) }
def d_step_cost : Def := { ps := 4, n := 4, io := [], body := (.seq (.ite (.not (.call "may_step" (.cons (.var 0) (.cons (.var 1) (.cons (.var 2) (.cons (.var 3) .nil)))))) (.seq (.rse "NoTracks") .nil) .nil) (.seq (.ret (.call "cost_between" (.cons (.var 0) (.cons (.var 1) (.cons (.var 2) (.cons (.var 3) .nil)))))) .nil)) }
def _law_six_c1 : E := (.cmp1 [3] (.nm 3) (.rng1 (.cst (.int 2))) .nil (.call "_law_pick" (.cons (.var 0) (.cons (.ref 1) (.cons (.lst (.cons (.cst (.int 0)) (.cons (.cst (.int 3)) (.cons (.cst (.int 10)) (.cons (.cst (.int 50)) (.cons (.cst (.int 999)) .nil)))))) .nil)))))
theorem _law_six_c1_o (m : Rho → Out CV) (ρ : Rho) : opd _law_six_c1 m ρ = val m ρ := rfl
def d__law_six : Def := { ps := 2, n := 4, io := [1], body := (.seq (.asg 2 _law_six_c1) (.seq (.app 2 (.call "_law_pick" (.cons (.var 0) (.cons (.ref 1) (.cons (.lst (.cons (.cst (.int 0)) (.cons (.cst (.int 2)) (.cons (.cst (.int 9)) (.cons (.cst (.int 20)) (.cons (.cst (.int 100)) (.cons (.cst (.int 999)) .nil))))))) .nil))))) (.seq (.app 2 (.call "_law_draw" (.cons (.var 0) (.cons (.ref 1) (.cons (.cst (.int 4)) .nil))))) (.seq (.app 2 (.call "_law_pick" (.cons (.var 0) (.cons (.ref 1) (.cons (.lst (.cons (.cst (.int 0)) (.cons (.cst (.int 2)) (.cons (.cst (.int 5)) (.cons (.cst (.int 20)) (.cons (.cst (.int 198)) .nil)))))) .nil))))) (.seq (.ret (.bin .add (.var 2) (.lst (.cons (.call "_law_pick" (.cons (.var 0) (.cons (.ref 1) (.cons (.lst (.cons (.cst (.int 0)) (.cons (.cst (.int 1)) (.cons (.cst (.int 5)) (.cons (.cst (.int 99)) .nil))))) .nil)))) .nil)))) .nil))))) }
def d__law_rules : Def := { ps := 1, n := 1, io := [], body := (.seq (.ret (.xop (.new "Rules" ["birth", "end", "clutter", "gap", "reach", "miss"] [(true, 0), (true, 1), (true, 2), (true, 3), (true, 4), (true, 5)]) (.cons (.ix (.var 0) (.cst (.int 0))) (.cons (.ix (.var 0) (.cst (.int 1))) (.cons (.ix (.var 0) (.cst (.int 2))) (.cons (.ix (.var 0) (.cst (.int 3))) (.cons (.ix (.var 0) (.cst (.int 4))) (.cons (.ix (.var 0) (.cst (.int 5))) .nil)))))))) .nil) }
def d__law_may : Def := { ps := 4, n := 5, io := [], body := (.seq (.asg 4 (.bin .sub (.ix (.var 3) (.cst (.int 0))) (.ix (.var 2) (.cst (.int 0))))) (.seq (.ite (.or (.cmp .lt (.var 4) (.cst (.int 1))) (.cmp .gt (.var 4) (.bin .add (.ix (.var 1) (.cst (.int 3))) (.cst (.int 1))))) (.seq (.ret (.cst (.bl false))) .nil) .nil) (.seq (.ret (.cmp .le (.call "_law_far" (.cons (.call "_law_dot" (.cons (.var 0) (.cons (.var 2) .nil))) (.cons (.call "_law_dot" (.cons (.var 0) (.cons (.var 3) .nil))) .nil))) (.bin .mul (.ix (.var 1) (.cst (.int 4))) (.var 4)))) .nil))) }
def d__law_step : Def := { ps := 4, n := 4, io := [], body := (.seq (.ret (.bin .add (.call "_law_far" (.cons (.call "_law_dot" (.cons (.var 0) (.cons (.var 2) .nil))) (.cons (.call "_law_dot" (.cons (.var 0) (.cons (.var 3) .nil))) .nil))) (.bin .mul (.ix (.var 1) (.cst (.int 5))) (.bin .sub (.bin .sub (.ix (.var 3) (.cst (.int 0))) (.ix (.var 2) (.cst (.int 0)))) (.cst (.int 1)))))) .nil) }
/-- birth, end, clutter, gap, reach, miss -/
structure Six where
  b : Int
  e : Int
  c : Int
  g : Int
  r : Int
  m : Int
def Six.lst (s : Six) : D := .lst [.int s.b, .int s.e, .int s.c, .int s.g, .int s.r, .int s.m]
structure SixZ (s : Six) : Prop where
  b : 0 ≤ s.b ∧ s.b ≤ 999
  e : 0 ≤ s.e ∧ s.e ≤ 999
  c : 0 ≤ s.c ∧ s.c ≤ 999
  g : 0 ≤ s.g ∧ s.g ≤ 3
  r : 0 ≤ s.r ∧ s.r ≤ 198
  m : 0 ≤ s.m ∧ s.m ≤ 99
def rulD (b e c g r m : D) : D := .obj "Rules" [("birth", b), ("end", e), ("clutter", c), ("gap", g), ("reach", r), ("miss", m)]
def Six.enc (s : Six) : D := rulD (.int s.b) (.int s.e) (.int s.c) (.int s.g) (.int s.r) (.int s.m)
/-- are these good for rules -/
def goodR (b e c g r m : D) : Bool := isWhole b 0 999 && (isWhole e 0 999 && isWhole c 0 999) && (isWhole g 0 3 && (isWhole r 0 198 && isWhole m 0 99))
def InitOk (Γ : Tab) : Prop := ∀ b e c g r m : D, pln b → pln e → pln c → pln g → pln r → pln m →
  CallsIo Γ "Rules.__init__" [0] [.obj "Rules" [], b, e, c, g, r, m] (if goodR b e c g r m then .ok (.val .non) [rulD b e c g r m] else .ex "NoRules" [.obj "Rules" []])
theorem putFd_nil (f : String) (d : D) : putFd f d [] = [(f, d)] := rfl
theorem put1 (d x : D) : putFd "end" d [("birth", x)] = [("birth", x), ("end", d)] := rfl
theorem init_ok {Γ Γ' : Tab} (hw : WholeOk Γ) (h : Γ'.fn "Rules.__init__" = some ⟨d_Rules___init__.ps, d_Rules___init__.io, d_Rules___init__.run Γ⟩) : InitOk Γ' := fun b e c g r m hb he hc hg hr hm => calls_of h rfl rfl (by
  have cc : den Γ Rules___init___c1 [.io (.obj "Rules" []), .val b, .val e, .val c, .val g, .val r, .val m, .un] = .ok (.own (.lst [.bl (isWhole b 0 999), .bl (isWhole e 0 999), .bl (isWhole c 0 999)])) [.io (.obj "Rules" []), .val b, .val e, .val c, .val g, .val r, .val m, .un] := by
    have e1 : [D.bl (isWhole b 0 999), .bl (isWhole e 0 999), .bl (isWhole c 0 999)] = [b, e, c].flatMap fun x => [.bl (isWhole x 0 999)] := rfl
    rw [e1]
    refine den_cmp1 (xs := [b, e, c]) (lk := none) (ρ' := [.io (.obj "Rules" []), .val b, .val e, .val c, .val g, .val r, .val m, .un]) _ (by simp_arith [iterOf, SL]) rfl rfl rfl fun x hx => ?_
    refine ⟨[.io (.obj "Rules" []), .val b, .val e, .val c, .val g, .val r, .val m, .val x], rfl, ?_⟩
    have hx : pln x := by
      simp only [List.mem_cons, List.not_mem_nil, or_false] at hx
      rcases hx with rfl | rfl | rfl <;> assumption
    simp_arith [callV (hw x 0 999 hx), argsN, isRef]
  have pa : prim .all [.lst [.bl (isWhole b 0 999), .bl (isWhole e 0 999), .bl (isWhole c 0 999)]] = some (.bl (isWhole b 0 999 && (isWhole e 0 999 && isWhole c 0 999))) := by
    simp [prim, bools]
  have w1 := callV (hw g 0 3 hg)
  have w2 := callV (hw r 0 198 hr)
  have w3 := callV (hw m 0 99 hm)
  unfold d_Rules___init__ goodR
  cases e1 : (isWhole b 0 999 && (isWhole e 0 999 && isWhole c 0 999)) with
  | false => simp_arith [Rules___init___c1_o, cc, pa, e1, Bool.false_and]
  | true =>
    cases e2 : isWhole g 0 3 with
    | false => simp_arith [Rules___init___c1_o, cc, pa, e1, w1, argsN, isRef, e2, Bool.false_and, Bool.true_and]
    | true =>
      cases e3 : isWhole r 0 198 with
      | false => simp_arith [Rules___init___c1_o, cc, pa, e1, w1, w2, argsN, isRef, e2, e3, Bool.false_and, Bool.true_and]
      | true =>
        cases e4 : isWhole m 0 99 with
        | false => simp_arith [Rules___init___c1_o, cc, pa, e1, w1, w2, w3, argsN, isRef, e2, e3, e4, Bool.false_and, Bool.true_and]
        | true =>
          simp_arith [Rules___init___c1_o, cc, pa, e1, w1, w2, w3, argsN, isRef, e2, e3, e4, Bool.false_and, Bool.true_and]
          rfl)
/-! ### rules are made -/
def sixKs : List String := ["birth", "end", "clutter", "gap", "reach", "miss"]
def sixPl : List (Bool × Int) := [(true, 0), (true, 1), (true, 2), (true, 3), (true, 4), (true, 5)]
theorem new_rules {Γ : Tab} (h : InitOk Γ) {ρ : Rho} {ks : List String} {plan : List (Bool × Int)} {ds : List D} {b e c g r m : D} (hk : ds.length = ks.length) (hp : planD plan ds = some [b, e, c, g, r, m]) (hb : pln b) (he : pln e) (hc : pln c) (hg : pln g) (hr : pln r) (hm : pln m) :
    xden Γ ρ (.new "Rules" ks plan) ds = if goodR b e c g r m then .ok (.own (rulD b e c g r m)) ρ else .ex "NoRules" ρ := by
  obtain ⟨fd, h1, h2, h3, h4⟩ := h b e c g r m hb he hc hg hr hm
  have e1 : Γ.fn ("Rules" ++ ".__init__") = some fd := h1
  simp only [xden, xNew, e1, hp]
  rw [if_pos ⟨h3, by rw [h2]; rfl, hk⟩, h4]
  cases goodR b e c g r m <;> rfl
theorem good_six {s : Six} (h : SixZ s) : goodR (.int s.b) (.int s.e) (.int s.c) (.int s.g) (.int s.r) (.int s.m) = true := by
  obtain ⟨h1, h2, h3, h4, h5, h6⟩ := h
  simp [goodR, isWhole, h1, h2, h3, h4, h5, h6]
structure LawRulesOk (Γ : Tab) : Prop where
  ok : ∀ b e c g r m : D, pln b → pln e → pln c → pln g → pln r → pln m → CallsIo Γ "_law_rules" [] [.lst [b, e, c, g, r, m]] (if goodR b e c g r m then .ok (.own (rulD b e c g r m)) [] else .ex "NoRules" [])
theorem at_k6 (a b c d e f : D) : at? [a, b, c, d, e, f] 0 = some a ∧ at? [a, b, c, d, e, f] 1 = some b ∧ at? [a, b, c, d, e, f] 2 = some c ∧ at? [a, b, c, d, e, f] 3 = some d ∧ at? [a, b, c, d, e, f] 4 = some e ∧ at? [a, b, c, d, e, f] 5 = some f := ⟨rfl, rfl, rfl, rfl, rfl, rfl⟩
theorem law_rules_ok {Γ Γ' : Tab} (hi : InitOk Γ) (h : Γ'.fn "_law_rules" = some ⟨d__law_rules.ps, d__law_rules.io, d__law_rules.run Γ⟩) : LawRulesOk Γ' where
  ok := fun b e c g r m hb he hc hg hr hm => calls_of h rfl rfl (by
    have n := fun ρ => new_rules (ρ := ρ) (ks := ["birth", "end", "clutter", "gap", "reach", "miss"]) (plan := [(true, 0), (true, 1), (true, 2), (true, 3), (true, 4), (true, 5)]) (ds := [b, e, c, g, r, m]) hi rfl rfl hb he hc hg hr hm
    obtain ⟨a0, a1, a2, a3, a4, a5⟩ := at_k6 b e c g r m
    unfold d__law_rules
    cases eg : goodR b e c g r m with
    | true =>
      simp only [eg, if_true] at n
      simp_arith [a0, a1, a2, a3, a4, a5, n]
    | false =>
      simp only [eg, Bool.false_eq_true, if_false] at n
      simp_arith [a0, a1, a2, a3, a4, a5, n])
def NeedRulesOk (Γ : Tab) : Prop := (∀ s : Six, CallsIo Γ "need_rules" [] [s.enc] (.ok (.val .non) [])) ∧ ∀ d, pln d → CallsIo Γ "need_rules" [] [d] (.ex "NoRules" [])
theorem inst_rules (b e c g r m : D) : isInst (rulD b e c g r m) (.cls "Rules") = some true := rfl
theorem need_rules_ok {Γ Γ' : Tab} (h : Γ'.fn "need_rules" = some ⟨d_need_rules.ps, d_need_rules.io, d_need_rules.run Γ⟩) : NeedRulesOk Γ' :=
  ⟨fun s => calls_of h rfl rfl (by
    unfold d_need_rules
    simp_arith [Six.enc, inst_rules]), fun d hp => calls_of h rfl rfl (by
    unfold d_need_rules
    cases d with
    | dic _ => cases hp
    | fn _ => cases hp
    | obj _ _ => cases hp
    | scr _ => cases hp
    | _ => simp_arith [])⟩
/-! ### steps -/
def apartZ : List Int → List Int → Int
  | [x, y], [z, w] => apartI x y z w
  | _, _ => 0
/-- may a step lead so: the frames' numbers, the dots -/
def mayZ (s : Six) (i : Nat) (r : List Int) (k : Nat) (r' : List Int) : Bool :=
  decide (1 ≤ (k : Int) - i) && decide ((k : Int) - i ≤ s.g + 1) && decide (apartZ r r' ≤ s.r * ((k : Int) - i))
def costZ (s : Six) (i : Nat) (r : List Int) (k : Nat) (r' : List Int) : Int := apartZ r r' + s.m * ((k : Int) - i - 1)
/-- every dot is two numbers -/
def DotsZ (m : Film) : Prop := ∀ f ∈ m, ∀ r ∈ f, ∃ x y, r = [x, y]
theorem spot_dot {m : Film} (hd : DotsZ m) {i j : Nat} {r : List Int} (h : SpotAt m i j r) : ∃ x y, r = [x, y] := by
  obtain ⟨f, h1, h2⟩ := h
  exact hd f (List.mem_of_getElem? h1) r (List.mem_of_getElem? h2)
theorem att_g (s : Six) : (List.lookup "gap" [("birth", D.int s.b), ("end", .int s.e), ("clutter", .int s.c), ("gap", .int s.g), ("reach", .int s.r), ("miss", .int s.m)]) = some (.int s.g) := rfl
theorem att_r (s : Six) : (List.lookup "reach" [("birth", D.int s.b), ("end", .int s.e), ("clutter", .int s.c), ("gap", .int s.g), ("reach", .int s.r), ("miss", .int s.m)]) = some (.int s.r) := rfl
theorem att_m (s : Six) : (List.lookup "miss" [("birth", D.int s.b), ("end", .int s.e), ("clutter", .int s.c), ("gap", .int s.g), ("reach", .int s.r), ("miss", .int s.m)]) = some (.int s.m) := rfl
theorem att_b (s : Six) : (List.lookup "birth" [("birth", D.int s.b), ("end", .int s.e), ("clutter", .int s.c), ("gap", .int s.g), ("reach", .int s.r), ("miss", .int s.m)]) = some (.int s.b) := rfl
theorem att_e (s : Six) : (List.lookup "end" [("birth", D.int s.b), ("end", .int s.e), ("clutter", .int s.c), ("gap", .int s.g), ("reach", .int s.r), ("miss", .int s.m)]) = some (.int s.e) := rfl
theorem att_c (s : Six) : (List.lookup "clutter" [("birth", D.int s.b), ("end", .int s.e), ("clutter", .int s.c), ("gap", .int s.g), ("reach", .int s.r), ("miss", .int s.m)]) = some (.int s.c) := rfl
theorem mul_lt {a b : Int} (h0 : 0 ≤ a) (h : a ≤ 1000000) : mulOk a b = true := by
  have : decide (a.natAbs < 2 ^ 64) = true := by simp only [decide_eq_true_eq]; omega
  simp [mulOk, this]
def MayLeadOk (Γ : Tab) : Prop := ∀ (m : Film) (s : Six) (i j k l : Nat) (r r' : List Int), DotsZ m → SixZ s → SpotAt m i j r → SpotAt m k l r' → CallsIo Γ "may_lead" [] [encM m, s.enc, .tup [.int i, .int j], .tup [.int k, .int l]] (.ok (.val (.bl (mayZ s i r k r'))) [])
theorem may_lead_ok {Γ Γ' : Tab} (ha : ApartOk Γ) (hd : DotOfOk Γ) (h : Γ'.fn "may_lead" = some ⟨d_may_lead.ps, d_may_lead.io, d_may_lead.run Γ⟩) : MayLeadOk Γ' := fun m s i j k l r r' hm hs h1 h2 => calls_of h rfl rfl (by
  have d1 := hd m i j r h1
  have d2 := hd m k l r' h2
  obtain ⟨x, y, rfl⟩ := spot_dot hm h1
  obtain ⟨z, w, rfl⟩ := spot_dot hm h2
  have a1 := ha x y z w
  have mo := mul_lt (b := (k : Int) - i) hs.r.1 (by have := hs.r.2; omega)
  unfold d_may_lead mayZ
  simp only [apartZ]
  cases e1 : decide (1 ≤ (k : Int) - i) with
  | false => simp_arith [Six.enc, rulD, at_0, at_1, e1, att_g, Bool.false_and]
  | true =>
    cases e2 : decide ((k : Int) - i ≤ s.g + 1) with
    | false => simp_arith [Six.enc, rulD, at_0, at_1, e1, e2, att_g, Bool.false_and, Bool.and_false]
    | true => simp_arith [Six.enc, rulD, at_0, at_1, e1, e2, att_g, att_r, Bool.false_and, Bool.and_false, callV d1, callV d2, callV a1, argsN, isRef, mo, Bool.true_and]; rfl)
def CostBetweenOk (Γ : Tab) : Prop := ∀ (m : Film) (s : Six) (i j k l : Nat) (r r' : List Int), DotsZ m → SixZ s → SpotAt m i j r → SpotAt m k l r' → CallsIo Γ "cost_between" [] [encM m, s.enc, .tup [.int i, .int j], .tup [.int k, .int l]] (.ok (.val (.int (costZ s i r k r'))) [])
theorem cost_between_ok {Γ Γ' : Tab} (ha : ApartOk Γ) (hd : DotOfOk Γ) (h : Γ'.fn "cost_between" = some ⟨d_cost_between.ps, d_cost_between.io, d_cost_between.run Γ⟩) : CostBetweenOk Γ' := fun m s i j k l r r' hm hs h1 h2 => calls_of h rfl rfl (by
  have d1 := hd m i j r h1
  have d2 := hd m k l r' h2
  obtain ⟨x, y, rfl⟩ := spot_dot hm h1
  obtain ⟨z, w, rfl⟩ := spot_dot hm h2
  have a1 := ha x y z w
  have mo := mul_lt (b := (k : Int) - i - 1) hs.m.1 (by have := hs.m.2; omega)
  unfold d_cost_between costZ
  simp only [apartZ]
  simp_arith [Six.enc, rulD, at_0, at_1, att_m, callV d1, callV d2, callV a1, argsN, isRef, mo])
structure MayStepOk (Γ : Tab) : Prop where
  ok : ∀ (m : Film) (s : Six) (i j k l : Nat) (r r' : List Int), DotsZ m → SixZ s → isFilm (encM m) = true → SpotAt m i j r → SpotAt m k l r' → CallsIo Γ "may_step" [] [encM m, s.enc, .tup [.int i, .int j], .tup [.int k, .int l]] (.ok (.val (.bl (mayZ s i r k r'))) [])
  noF : ∀ d ru a b, pln d → isFilm d = false → CallsIo Γ "may_step" [] [d, ru, a, b] (.ex "NoFilm" [])
  noR : ∀ (m : Film) ru a b, isFilm (encM m) = true → pln ru → CallsIo Γ "may_step" [] [encM m, ru, a, b] (.ex "NoRules" [])
  noS : ∀ (m : Film) (s : Six) a b, isFilm (encM m) = true → pln a → isSpot (m.map encF) a = false → CallsIo Γ "may_step" [] [encM m, s.enc, a, b] (.ex "NoSpot" [])
  noT : ∀ (m : Film) (s : Six) a b, isFilm (encM m) = true → pln a → isSpot (m.map encF) a = true → pln b → isSpot (m.map encF) b = false → CallsIo Γ "may_step" [] [encM m, s.enc, a, b] (.ex "NoSpot" [])
theorem need_film_y {Γ : Tab} (h : NeedFilmOk Γ) {m : Film} (hm : isFilm (encM m) = true) : CallsIo Γ "need_film" [] [encM m] (.ok (.val .non) []) := by
  have := h (encM m) (pln_encM m)
  rwa [if_pos hm] at this
theorem need_film_n {Γ : Tab} (h : NeedFilmOk Γ) {d : D} (hp : pln d) (hm : isFilm d = false) : CallsIo Γ "need_film" [] [d] (.ex "NoFilm" []) := by
  have := h d hp
  rwa [if_neg (by rw [hm]; simp)] at this
theorem need_spot_y {Γ : Tab} (h : NeedSpotOk Γ) {m : Film} {a : D} (hp : pln a) (hm : isSpot (m.map encF) a = true) : CallsIo Γ "need_spot" [] [encM m, a] (.ok (.val .non) []) := by
  have := h m a hp
  rwa [if_pos hm] at this
theorem need_spot_n {Γ : Tab} (h : NeedSpotOk Γ) {m : Film} {a : D} (hp : pln a) (hm : isSpot (m.map encF) a = false) : CallsIo Γ "need_spot" [] [encM m, a] (.ex "NoSpot" []) := by
  have := h m a hp
  rwa [if_neg (by rw [hm]; simp)] at this
theorem may_step_ok {Γ Γ' : Tab} (hf : NeedFilmOk Γ) (hr : NeedRulesOk Γ) (hs : NeedSpotOk Γ) (hl : MayLeadOk Γ) (h : Γ'.fn "may_step" = some ⟨d_may_step.ps, d_may_step.io, d_may_step.run Γ⟩) : MayStepOk Γ' where
  ok := fun m s i j k l r r' h1 h2 h3 h4 h5 => calls_of h rfl rfl (by
    unfold d_may_step
    simp_arith [callV (need_film_y hf h3), callV (hr.1 s), callV (need_spot_y hs (a := .tup [.int i, .int j]) rfl (spot_is h4)), callV (need_spot_y hs (a := .tup [.int k, .int l]) rfl (spot_is h5)), callV (hl m s i j k l r r' h1 h2 h4 h5), argsN, isRef])
  noF := fun d ru a b hp hn => calls_of h rfl rfl (by
    unfold d_may_step
    simp_arith [callX (need_film_n hf hp hn), argsN, isRef])
  noR := fun m ru a b hm hp => calls_of h rfl rfl (by
    unfold d_may_step
    simp_arith [callV (need_film_y hf hm), callX (hr.2 ru hp), argsN, isRef])
  noS := fun m s a b hm hp hn => calls_of h rfl rfl (by
    unfold d_may_step
    simp_arith [callV (need_film_y hf hm), callV (hr.1 s), callX (need_spot_n hs hp hn), argsN, isRef])
  noT := fun m s a b hm hp hy hp2 hn => calls_of h rfl rfl (by
    unfold d_may_step
    simp_arith [callV (need_film_y hf hm), callV (hr.1 s), callV (need_spot_y hs hp hy), callX (need_spot_n hs hp2 hn), argsN, isRef])
/-- what is refused, and how -/
inductive StepNo : D → D → D → D → String → Prop
  | film (d ru a b : D) : pln d → isFilm d = false → StepNo d ru a b "NoFilm"
  | rules (m : Film) (ru a b : D) : isFilm (encM m) = true → pln ru → StepNo (encM m) ru a b "NoRules"
  | one (m : Film) (s : Six) (a b : D) : isFilm (encM m) = true → pln a → isSpot (m.map encF) a = false → StepNo (encM m) s.enc a b "NoSpot"
  | two (m : Film) (s : Six) (a b : D) : isFilm (encM m) = true → pln a → isSpot (m.map encF) a = true → pln b → isSpot (m.map encF) b = false → StepNo (encM m) s.enc a b "NoSpot"
theorem MayStepOk.no {Γ : Tab} (h : MayStepOk Γ) {d ru a b : D} {c : String} : StepNo d ru a b c → CallsIo Γ "may_step" [] [d, ru, a, b] (.ex c [])
  | .film d ru a b h1 h2 => h.noF d ru a b h1 h2
  | .rules m ru a b h1 h2 => h.noR m ru a b h1 h2
  | .one m s a b h1 h2 h3 => h.noS m s a b h1 h2 h3
  | .two m s a b h1 h2 h3 h4 h5 => h.noT m s a b h1 h2 h3 h4 h5
structure StepCostOk (Γ : Tab) : Prop where
  ok : ∀ (m : Film) (s : Six) (i j k l : Nat) (r r' : List Int), DotsZ m → SixZ s → isFilm (encM m) = true → SpotAt m i j r → SpotAt m k l r' → CallsIo Γ "step_cost" [] [encM m, s.enc, .tup [.int i, .int j], .tup [.int k, .int l]] (if mayZ s i r k r' then .ok (.val (.int (costZ s i r k r'))) [] else .ex "NoTracks" [])
  no : ∀ d ru a b c, StepNo d ru a b c → CallsIo Γ "step_cost" [] [d, ru, a, b] (.ex c [])
theorem step_cost_ok {Γ Γ' : Tab} (hm : MayStepOk Γ) (hc : CostBetweenOk Γ) (h : Γ'.fn "step_cost" = some ⟨d_step_cost.ps, d_step_cost.io, d_step_cost.run Γ⟩) : StepCostOk Γ' where
  ok := fun m s i j k l r r' h1 h2 h3 h4 h5 => calls_of h rfl rfl (by
    have c1 := hm.ok m s i j k l r r' h1 h2 h3 h4 h5
    have c2 := hc m s i j k l r r' h1 h2 h4 h5
    unfold d_step_cost
    cases e : mayZ s i r k r' with
    | true =>
      rw [e] at c1
      simp_arith [callV c1, callV c2, argsN, isRef]
    | false =>
      rw [e] at c1
      simp_arith [callV c1, callV c2, argsN, isRef])
  no := fun d ru a b c hn => calls_of h rfl rfl (by
    have c1 := hm.no hn
    unfold d_step_cost
    simp_arith [callX c1, argsN, isRef])
/-! ### the laws' own -/
def LawMayOk (Γ : Tab) : Prop := ∀ (m : Film) (s : Six) (i j k l : Nat) (r r' : List Int), DotsZ m → SixZ s → SpotAt m i j r → SpotAt m k l r' → CallsIo Γ "_law_may" [] [encM m, s.lst, .tup [.int i, .int j], .tup [.int k, .int l]] (.ok (.val (.bl (mayZ s i r k r'))) [])
theorem law_may_ok {Γ Γ' : Tab} (hd : LawDotOk Γ) (ha : LawFarOk Γ) (h : Γ'.fn "_law_may" = some ⟨d__law_may.ps, d__law_may.io, d__law_may.run Γ⟩) : LawMayOk Γ' := fun m s i j k l r r' hm hs h1 h2 => calls_of h rfl rfl (by
  have d1 := hd m i j r h1
  have d2 := hd m k l r' h2
  obtain ⟨x, y, rfl⟩ := spot_dot hm h1
  obtain ⟨z, w, rfl⟩ := spot_dot hm h2
  have a1 := ha x y z w
  have mo := mul_lt (b := (k : Int) - i) hs.r.1 (by have := hs.r.2; omega)
  obtain ⟨q0, q1, q2, q3, q4, q5⟩ := at_k6 (.int s.b) (.int s.e) (.int s.c) (.int s.g) (.int s.r) (.int s.m)
  unfold d__law_may mayZ
  simp only [apartZ]
  cases e1 : decide ((k : Int) - i < 1) with
  | true =>
    have : decide (1 ≤ (k : Int) - i) = false := by have := of_decide_eq_true e1; simp; omega
    simp_arith [Six.lst, at_0, at_1, e1, this, Bool.false_and]
  | false =>
    have t1 : decide (1 ≤ (k : Int) - i) = true := by have := of_decide_eq_false e1; simp; omega
    cases e2 : decide (s.g + 1 < (k : Int) - i) with
    | true =>
      have : decide ((k : Int) - i ≤ s.g + 1) = false := by have := of_decide_eq_true e2; simp; omega
      simp_arith [Six.lst, at_0, at_1, e1, q3, e2, this, Bool.false_and, Bool.and_false]
    | false =>
      have t2 : decide ((k : Int) - i ≤ s.g + 1) = true := by have := of_decide_eq_false e2; simp; omega
      simp_arith [Six.lst, at_0, at_1, e1, q3, q4, e2, t1, t2, Bool.and_self, Bool.true_and, callV d1, callV d2, callV a1, argsN, isRef, mo]; rfl)
def LawStepOk (Γ : Tab) : Prop := ∀ (m : Film) (s : Six) (i j k l : Nat) (r r' : List Int), DotsZ m → SixZ s → SpotAt m i j r → SpotAt m k l r' → CallsIo Γ "_law_step" [] [encM m, s.lst, .tup [.int i, .int j], .tup [.int k, .int l]] (.ok (.val (.int (costZ s i r k r'))) [])
theorem law_step_ok {Γ Γ' : Tab} (hd : LawDotOk Γ) (ha : LawFarOk Γ) (h : Γ'.fn "_law_step" = some ⟨d__law_step.ps, d__law_step.io, d__law_step.run Γ⟩) : LawStepOk Γ' := fun m s i j k l r r' hm hs h1 h2 => calls_of h rfl rfl (by
  have d1 := hd m i j r h1
  have d2 := hd m k l r' h2
  obtain ⟨x, y, rfl⟩ := spot_dot hm h1
  obtain ⟨z, w, rfl⟩ := spot_dot hm h2
  have a1 := ha x y z w
  have mo := mul_lt (b := (k : Int) - i - 1) hs.m.1 (by have := hs.m.2; omega)
  obtain ⟨q0, q1, q2, q3, q4, q5⟩ := at_k6 (.int s.b) (.int s.e) (.int s.c) (.int s.g) (.int s.r) (.int s.m)
  unfold d__law_step costZ
  simp only [apartZ]
  simp_arith [Six.lst, at_0, at_1, q5, callV d1, callV d2, callV a1, argsN, isRef, mo])
/-! ### six numbers drawn -/
def LawSixOk (Γ : Tab) : Prop := ∀ (ns : List Int) (t : Int × Int), OkT t → ∃ (s : Six) (t' : Int × Int), SixZ s ∧ OkT t' ∧ CallsIo Γ "_law_six" [1] [.scr ns, twn t] (.ok (.own s.lst) [twn t'])
theorem mem_ints {v : D} {l : List Int} (h : v ∈ l.map D.int) : ∃ i ∈ l, v = .int i := by
  obtain ⟨i, hi, rfl⟩ := List.mem_map.mp h
  exact ⟨i, hi, rfl⟩
theorem pick_ints {Γ : Tab} (hp : PickOk Γ) (ns : List Int) (l : List Int) (hl : 0 < l.length) (hl2 : l.length < 100) {t : Int × Int} (ht : OkT t) : ∃ i ∈ l, ∃ t', OkT t' ∧ CallsIo Γ "_law_pick" [1] [.scr ns, twn t, .lst (l.map D.int)] (.ok (.val (.int i)) [twn t']) := by
  obtain ⟨v, t', hv, ht', c⟩ := hp ns (.lst (l.map D.int)) (l.map D.int) (.inl rfl) (by simpa using hl) (by simp; omega) t ht
  obtain ⟨i, hi, rfl⟩ := mem_ints hv
  exact ⟨i, hi, t', ht', c⟩
theorem law_six_ok {Γ Γ' : Tab} (hd : DrawOk Γ) (hp : PickOk Γ) (h : Γ'.fn "_law_six" = some ⟨d__law_six.ps, d__law_six.io, d__law_six.run Γ⟩) : LawSixOk Γ' := by
  intro ns t ht
  obtain ⟨t1, yss, e1, ht1, al⟩ := den_cmpI (Γ := Γ) (vs := [3]) (tg := .nm 3) (it := .rng1 (.cst (.int 2))) (cond := .nil) (elt := .call "_law_pick" (.cons (.var 0) (.cons (.ref 1) (.cons (.lst (.cons (.cst (.int 0)) (.cons (.cst (.int 3)) (.cons (.cst (.int 10)) (.cons (.cst (.int 50)) (.cons (.cst (.int 999)) .nil)))))) .nil)))) (ρ := [.val (.scr ns), .io (twn t), .un, .un]) (xs := rngL 0 2) (fun t : Int × Int => [.val (.scr ns), .io (twn t), .un, .un]) OkT (fun _ ys => ∃ i : Int, 0 ≤ i ∧ i ≤ 999 ∧ ys = [.int i]) t rfl rfl ht rfl rfl (fun s' => ⟨rfl, fun v hv => by simp at hv; subst hv; rfl⟩) (fun t x ht hx => by
    obtain ⟨i, hi, t', ht', c⟩ := pick_ints hp ns [0, 3, 10, 50, 999] (by decide) (by decide) ht
    refine ⟨t', [.int i], [.val (.scr ns), .io (twn t), .un, .val x], [.val (.scr ns), .io (twn t'), .un, .val x], rfl, ?_, rfl, rfl, ht', i, ?_, ?_, rfl⟩
    · simp only [List.map_cons, List.map_nil] at c
      simp_arith [SL, callTi c, argsN, isRef]
    · simp at hi; omega
    · simp at hi; omega)
  have e1 : den Γ _law_six_c1 [.val (.scr ns), .io (twn t), .un, .un] = .ok (.own (.lst yss.flatten)) [.val (.scr ns), .io (twn t1), .un, .un] := e1
  obtain ⟨b, e, hb0, hb1, he0, he1, ey⟩ : ∃ b e : Int, 0 ≤ b ∧ b ≤ 999 ∧ 0 ≤ e ∧ e ≤ 999 ∧ yss.flatten = [.int b, .int e] := by
    cases al with
    | cons p q =>
      cases q with
      | cons p2 q2 =>
        cases q2
        obtain ⟨b, b0, b1, rfl⟩ := p
        obtain ⟨e, z0, z1, rfl⟩ := p2
        exact ⟨b, e, b0, b1, z0, z1, rfl⟩
  rw [ey] at e1
  obtain ⟨c, hc, t2, ht2, c2⟩ := pick_ints hp ns [0, 2, 9, 20, 100, 999] (by decide) (by decide) ht1
  obtain ⟨_, t3, ⟨g, rfl, hg0, hg1⟩, ht3, c3⟩ := hd ns 4 (by decide) (by decide) t2 ht2
  obtain ⟨r, hr, t4, ht4, c4⟩ := pick_ints hp ns [0, 2, 5, 20, 198] (by decide) (by decide) ht3
  obtain ⟨m, hm, t5, ht5, c5⟩ := pick_ints hp ns [0, 1, 5, 99] (by decide) (by decide) ht4
  refine ⟨⟨b, e, c, g, r, m⟩, t5, ⟨⟨hb0, hb1⟩, ⟨he0, he1⟩, ?_, ⟨hg0, by show g ≤ 3; omega⟩, ?_, ?_⟩, ht5, calls_of h rfl rfl ?_⟩
  · simp at hc ⊢; omega
  · simp at hr ⊢; omega
  · simp at hm ⊢; omega
  have c3 : CallsIo Γ "_law_draw" [1] [.scr ns, twn t2, .int 4] (.ok (.val (.int g)) [twn t3]) := c3
  simp only [List.map_cons, List.map_nil] at c2 c4 c5
  unfold d__law_six
  simp_arith [SL, e1, callTi c2, callTi c3, callTi c4, callTi c5, argsN, isRef, List.cons_append, List.nil_append]
  rfl
end MP
end
section
set_option autoImplicit false
set_option Elab.async false
set_option linter.all false
set_option maxRecDepth 100000
/-! MkTracks: tracks, explanations, what they cost. Core Lean alone. -/
namespace MP
local macro_rules
  | `(tactic| simp_arith [$ls,*]) => `(tactic| simp only [Def.run, List.length_cons, List.length_nil, if_true, if_false, Bool.false_eq_true, Bool.true_eq_false, initRho, List.contains_nil, List.contains_cons, denS, den, two, Out.bind_ok, Out.bind_ex, Out.bind_bad, Out.fl_ok, Out.fl_ex, Out.fl_bad, val, Fl.then_next, Fl.then_ret, Fl.then_brk, Fl.then_cnt, Fl.then_ex, Fl.then_bad, Prim.fresh, List.getElem?_cons_zero, List.getElem?_cons_succ, List.set_cons_zero, List.set_cons_succ, outsOf, Bool.not_false, Bool.not_true, put, free, Nat.reduceAdd, Nat.reduceSub, Nat.reduceEqDiff, Nat.reduceBEq, Nat.reduceLT, Nat.reduceLeDiff, List.replicate_zero, List.replicate_succ, Bool.or_false, Bool.or_true, Bool.false_or, Bool.true_or, Bool.and_true, Bool.true_and, Bool.and_false, Bool.false_and, Option.map_some, Option.map_none, Option.bind_some, Option.bind_none, eltOf, decide_true, decide_false, reduceIte, reduceCtorEq, Int.cast_ofNat_Int, Int.reduceEq, Int.reduceLE, Int.reduceLT, Int.reduceNeg, Int.reduceAdd, Int.reduceSub, beq_self_eq_true, BEq.rfl, outO_some, opd_var, again_var, see_val, see_own, see_lck, see_io, peek_zero, peek_succ, d_val, d_own, cell_val, cell_own, isEq_int, isEq_scr, opd_nil, again_nil, opd_cons, again_cons, testOf_cons, opd_tup, again_tup, testOf_tup, opd_lst, again_lst, testOf_lst, opd_bin, again_bin, testOf_bin, opd_neg, again_neg, testOf_neg, opd_cmp, again_cmp, testOf_cmp, opd_chn, again_chn, testOf_chn, opd_and, again_and, testOf_and, opd_or, again_or, testOf_or, opd_not, again_not, testOf_not, opd_ite, again_ite, testOf_ite, opd_isi, again_isi, testOf_isi, opd_call, again_call, testOf_call, opd_prm1, again_prm1, testOf_prm1, opd_prm2, again_prm2, testOf_prm2, opd_ix, again_ix, testOf_ix, opd_slc, again_slc, testOf_slc, opd_rev, again_rev, testOf_rev, opd_att, again_att, testOf_att, opd_cst, again_cst, testOf_cst, opd_glb, again_glb, testOf_glb, opd_cmp1, again_cmp1, testOf_cmp1, opd_cmp2, again_cmp2, testOf_cmp2, opd_pop, again_pop, testOf_pop, opd_xop, again_xop, testOf_xop, testOf_nil, cmp_eq, cmp_ne, cmp_isin, cmp_notin, cmp_is, cmp_isnot, cmp_lt, cmp_le, cmp_gt, cmp_ge, cmp_ltT, inst_non_int, inst_non_bool, inst_non_tuple, inst_non_list, inst_non_dict, inst_non_str, inst_non_cls, inst_bl_int, inst_bl_bool, inst_bl_tuple, inst_bl_list, inst_bl_dict, inst_bl_str, inst_bl_cls, is_bl_non, inst_int_int, inst_int_bool, inst_int_tuple, inst_int_list, inst_int_dict, inst_int_str, inst_int_cls, is_int_non, inst_str_int, inst_str_bool, inst_str_tuple, inst_str_list, inst_str_dict, inst_str_str, inst_str_cls, is_str_non, inst_tup_int, inst_tup_bool, inst_tup_tuple, inst_tup_list, inst_tup_dict, inst_tup_str, inst_tup_cls, is_tup_non, inst_lst_int, inst_lst_bool, inst_lst_tuple, inst_lst_list, inst_lst_dict, inst_lst_str, inst_lst_cls, is_lst_non, inst_scr_int, inst_scr_bool, inst_scr_tuple, inst_scr_list, inst_scr_dict, inst_scr_str, inst_scr_cls, is_scr_non, inst_obj_int, inst_obj_bool, inst_obj_tuple, inst_obj_list, inst_obj_dict, inst_obj_str, is_obj_non, is_non_non, is_bl_bl, prim_len_l, prim_len_t, prim_all, prim_any, prim_sum, prim_tuple_l, prim_tuple_t, prim_list_l, prim_list_t, prim_sorted, prim_sset, prim_len_s, prim_abs, prim_min2, prim_max2, prim_min1, prim_max1, bin_addI, bin_subI, bin_mulI, bin_fdivI, bin_modI, bin_powI, bin_addL, bin_addT, bin_mulT, bin_mulL, ix_l, ix_t, ix_s, newO_l, newO_i, newO_t, newO_s, ofO_some, ownO_some, ofB_some, optI_nil, sl_l, sl_t, mut_own, mut_io, ioAt_zero, ioAt_succ, lstOf_lst, mutL_eq, setIx1_some, setIx0_some, setIx_eq, ioPut_own, ioPut_io, ioPut_succ, at2_0, at2_1, ixN2_0, ixN2_1, Option.isSome_some, Option.isSome_none, seqOf_l, seqOf_t, $ls,*])
def d_pairs_of : Def := { ps := 1, n := 1, io := [], body := (.seq (.ret (.xop .lzip (.cons (.var 0) (.cons (.slc (.var 0) (.cst (.int 1)) .nil) .nil)))) .nil) }
def is_track_c1 : E := (.cmp1 [3] (.nm 3) (.itr (.var 2)) .nil (.call "is_spot" (.cons (.var 0) (.cons (.var 3) .nil))))
theorem is_track_c1_o (m : Rho → Out CV) (ρ : Rho) : opd is_track_c1 m ρ = val m ρ := rfl
def is_track_c2 : E := (.cmp1 [3, 4] (.tp [3, 4]) (.itr (.call "pairs_of" (.cons (.var 2) .nil))) .nil (.call "may_lead" (.cons (.var 0) (.cons (.var 1) (.cons (.var 3) (.cons (.var 4) .nil))))))
theorem is_track_c2_o (m : Rho → Out CV) (ρ : Rho) : opd is_track_c2 m ρ = val m ρ := rfl
def d_is_track : Def := { ps := 3, n := 5, io := [], body := (.seq (.ite (.or (.not (.isi (.var 2) .list)) (.or (.cmp .eq (.var 2) (.lst .nil)) (.not (.prm1 .all is_track_c1)))) (.seq (.ret (.cst (.bl false))) .nil) .nil) (.seq (.ret (.prm1 .all is_track_c2)) .nil)) }
def is_telling_c1 : E := (.cmp1 [3] (.nm 3) (.itr (.var 2)) .nil (.call "is_track" (.cons (.var 0) (.cons (.var 1) (.cons (.var 3) .nil)))))
theorem is_telling_c1_o (m : Rho → Out CV) (ρ : Rho) : opd is_telling_c1 m ρ = val m ρ := rfl
def is_telling_c2 : E := (.cmp2 [5, 6] [6] (.nm 5) (.itr (.var 2)) (.nm 6) (.itr (.var 5)) .nil (.var 6))
theorem is_telling_c2_o (m : Rho → Out CV) (ρ : Rho) : opd is_telling_c2 m ρ = val m ρ := rfl
def is_telling_c3 : E := (.cmp1 [3, 7] (.tp [3, 7]) (.zip (.var 2) (.slc (.var 2) (.cst (.int 1)) .nil)) .nil (.cmp .lt (.ix (.var 3) (.cst (.int 0))) (.ix (.var 7) (.cst (.int 0)))))
theorem is_telling_c3_o (m : Rho → Out CV) (ρ : Rho) : opd is_telling_c3 m ρ = val m ρ := rfl
def d_is_telling : Def := { ps := 3, n := 8, io := [], body := (.seq (.ite (.or (.not (.isi (.var 2) .list)) (.not (.prm1 .all is_telling_c1))) (.seq (.ret (.cst (.bl false))) .nil) .nil) (.seq (.asg 4 is_telling_c2) (.seq (.ite (.cmp .lt (.xop .lenSet (.cons (.var 4) .nil)) (.prm1 .len (.var 4))) (.seq (.ret (.cst (.bl false))) .nil) .nil) (.seq (.ret (.prm1 .all is_telling_c3)) .nil)))) }
def d_is_explanation : Def := { ps := 3, n := 3, io := [], body := (.seq (.expr (.call "need_film" (.cons (.var 0) .nil))) (.seq (.expr (.call "need_rules" (.cons (.var 1) .nil))) (.seq (.ret (.call "is_telling" (.cons (.var 0) (.cons (.var 1) (.cons (.var 2) .nil))))) .nil))) }
def d_need_tracks : Def := { ps := 3, n := 3, io := [], body := (.seq (.expr (.call "need_film" (.cons (.var 0) .nil))) (.seq (.expr (.call "need_rules" (.cons (.var 1) .nil))) (.seq (.ite (.not (.call "is_telling" (.cons (.var 0) (.cons (.var 1) (.cons (.var 2) .nil))))) (.seq (.rse "NoTracks") .nil) .nil) .nil))) }
def left_out_c1 : E := (.cmp2 [3, 4] [4] (.nm 3) (.itr (.var 1)) (.nm 4) (.itr (.var 3)) .nil (.var 4))
theorem left_out_c1_o (m : Rho → Out CV) (ρ : Rho) : opd left_out_c1 m ρ = val m ρ := rfl
def left_out_c2 : E := (.cmp1 [4] (.nm 4) (.itr (.call "all_spots" (.cons (.var 0) .nil))) (.cmp .notin (.var 4) (.var 2)) (.var 4))
theorem left_out_c2_o (m : Rho → Out CV) (ρ : Rho) : opd left_out_c2 m ρ = val m ρ := rfl
def d_left_out : Def := { ps := 2, n := 5, io := [], body := (.seq (.asg 2 left_out_c1) (.seq (.ret left_out_c2) .nil)) }
def all_steps_c1 : E := (.cmp2 [1, 2] [2] (.nm 1) (.itr (.var 0)) (.nm 2) (.itr (.call "pairs_of" (.cons (.var 1) .nil))) .nil (.var 2))
theorem all_steps_c1_o (m : Rho → Out CV) (ρ : Rho) : opd all_steps_c1 m ρ = val m ρ := rfl
def d_all_steps : Def := { ps := 1, n := 3, io := [], body := (.seq (.ret (.prm1 .sorted all_steps_c1)) .nil) }
def cost_of_c1 : E := (.cmp1 [4, 5] (.tp [4, 5]) (.itr (.call "all_steps" (.cons (.var 2) .nil))) .nil (.call "cost_between" (.cons (.var 0) (.cons (.var 1) (.cons (.var 4) (.cons (.var 5) .nil))))))
theorem cost_of_c1_o (m : Rho → Out CV) (ρ : Rho) : opd cost_of_c1 m ρ = val m ρ := rfl
def d_cost_of : Def := { ps := 3, n := 6, io := [], body := (.seq (.expr (.call "need_tracks" (.cons (.var 0) (.cons (.var 1) (.cons (.var 2) .nil))))) (.seq (.asg 3 (.bin .add (.bin .mul (.att (.var 1) "clutter") (.prm1 .len (.call "left_out" (.cons (.var 0) (.cons (.var 2) .nil))))) (.bin .mul (.bin .add (.att (.var 1) "birth") (.att (.var 1) "end")) (.prm1 .len (.var 2))))) (.seq (.ret (.bin .add (.var 3) (.prm1 .sum cost_of_c1))) .nil))) }
def d_clutter_of : Def := { ps := 3, n := 3, io := [], body := (.seq (.expr (.call "need_tracks" (.cons (.var 0) (.cons (.var 1) (.cons (.var 2) .nil))))) (.seq (.ret (.call "left_out" (.cons (.var 0) (.cons (.var 2) .nil)))) .nil)) }
def d_steps_of : Def := { ps := 3, n := 3, io := [], body := (.seq (.expr (.call "need_tracks" (.cons (.var 0) (.cons (.var 1) (.cons (.var 2) .nil))))) (.seq (.ret (.call "all_steps" (.cons (.var 2) .nil))) .nil)) }
def alive_c1 : E := (.cmp1 [4] (.nm 4) (.itr (.var 2)) (.chn .le .le (.ix (.ix (.var 4) (.cst (.int 0))) (.cst (.int 0))) (.var 3) (.ix (.ix (.var 4) (.neg (.cst (.int 1)))) (.cst (.int 0)))) (.var 4))
theorem alive_c1_o (m : Rho → Out CV) (ρ : Rho) : opd alive_c1 m ρ = val m ρ := rfl
def d_alive : Def := { ps := 4, n := 5, io := [], body := (.seq (.expr (.call "need_tracks" (.cons (.var 0) (.cons (.var 1) (.cons (.var 2) .nil))))) (.seq (.ite (.not (.call "is_whole" (.cons (.var 3) (.cons (.cst (.int 0)) (.cons (.bin .sub (.prm1 .len (.var 0)) (.cst (.int 1))) .nil))))) (.seq (.rse "NoFrame") .nil) .nil) (.seq (.ret (.prm1 .len alive_c1)) .nil))) }
theorem cut_1 (xs : List D) : cut xs (some 1) none = xs.drop 1 := by
  unfold cut sEnd
  cases xs with
  | nil => rfl
  | cons x xs => simp
/-! ### spots, tracks, explanations -/
theorem all_encs_eq (xs : List D) (f : D → Bool) : xs.flatMap (fun x => [D.bl (f x)]) = xs.map fun x => .bl (f x) := by
  induction xs with
  | nil => rfl
  | cons a l ih => simp [ih]
/-- the dot of a spot -/
def dotS (m : Film) : List Int → List Int
  | [i, j] => (m.getD i.toNat []).getD j.toNat []
  | _ => []
def mayS (m : Film) (s : Six) (a b : List Int) : Bool := mayZ s (a.headD 0).toNat (dotS m a) (b.headD 0).toNat (dotS m b)
def costS (m : Film) (s : Six) (a b : List Int) : Int := costZ s (a.headD 0).toNat (dotS m a) (b.headD 0).toNat (dotS m b)
theorem spotS {m : Film} {z : List Int} (h : z ∈ spotsZ 0 m) : ∃ i j : Nat, z = [(i : Int), (j : Int)] ∧ SpotAt m i j (dotS m z) := by
  obtain ⟨i, j, r, rfl, hr⟩ := mem_spotsZ h
  rw [Nat.zero_add]
  refine ⟨i, j, rfl, ?_⟩
  obtain ⟨f, h1, h2⟩ := hr
  refine ⟨f, h1, ?_⟩
  simp only [dotS, Int.toNat_natCast, List.getD_eq_getElem?_getD, h1, h2, Option.getD_some]
theorem may_leadS {Γ : Tab} (h : MayLeadOk Γ) {m : Film} {s : Six} (hd : DotsZ m) (hs : SixZ s) {a b : List Int} (ha : a ∈ spotsZ 0 m) (hb : b ∈ spotsZ 0 m) : CallsIo Γ "may_lead" [] [encM m, s.enc, encZ a, encZ b] (.ok (.val (.bl (mayS m s a b))) []) := by
  obtain ⟨i, j, e1, h1⟩ := spotS ha
  obtain ⟨k, l, e2, h2⟩ := spotS hb
  have := h m s i j k l _ _ hd hs h1 h2
  rw [show mayS m s a b = mayZ s i (dotS m a) k (dotS m b) by rw [mayS, e1, e2]; rfl]
  rw [e1, e2] at *
  exact this
theorem law_mayS {Γ : Tab} (h : LawMayOk Γ) {m : Film} {s : Six} (hd : DotsZ m) (hs : SixZ s) {a b : List Int} (ha : a ∈ spotsZ 0 m) (hb : b ∈ spotsZ 0 m) : CallsIo Γ "_law_may" [] [encM m, s.lst, encZ a, encZ b] (.ok (.val (.bl (mayS m s a b))) []) := by
  obtain ⟨i, j, e1, h1⟩ := spotS ha
  obtain ⟨k, l, e2, h2⟩ := spotS hb
  have := h m s i j k l _ _ hd hs h1 h2
  rw [show mayS m s a b = mayZ s i (dotS m a) k (dotS m b) by rw [mayS, e1, e2]; rfl]
  rw [e1, e2] at *
  exact this
theorem cost_betweenS {Γ : Tab} (h : CostBetweenOk Γ) {m : Film} {s : Six} (hd : DotsZ m) (hs : SixZ s) {a b : List Int} (ha : a ∈ spotsZ 0 m) (hb : b ∈ spotsZ 0 m) : CallsIo Γ "cost_between" [] [encM m, s.enc, encZ a, encZ b] (.ok (.val (.int (costS m s a b))) []) := by
  obtain ⟨i, j, e1, h1⟩ := spotS ha
  obtain ⟨k, l, e2, h2⟩ := spotS hb
  have := h m s i j k l _ _ hd hs h1 h2
  rw [show costS m s a b = costZ s i (dotS m a) k (dotS m b) by rw [costS, e1, e2]; rfl]
  rw [e1, e2] at *
  exact this
theorem law_stepS {Γ : Tab} (h : LawStepOk Γ) {m : Film} {s : Six} (hd : DotsZ m) (hs : SixZ s) {a b : List Int} (ha : a ∈ spotsZ 0 m) (hb : b ∈ spotsZ 0 m) : CallsIo Γ "_law_step" [] [encM m, s.lst, encZ a, encZ b] (.ok (.val (.int (costS m s a b))) []) := by
  obtain ⟨i, j, e1, h1⟩ := spotS ha
  obtain ⟨k, l, e2, h2⟩ := spotS hb
  have := h m s i j k l _ _ hd hs h1 h2
  rw [show costS m s a b = costZ s i (dotS m a) k (dotS m b) by rw [costS, e1, e2]; rfl]
  rw [e1, e2] at *
  exact this
abbrev Trk := List (List Int)
def encK (t : Trk) : D := .lst (t.map encZ)
def encTs (T : List Trk) : D := .lst (T.map encK)
/-- neighbours -/
def prs {α : Type} (l : List α) : List (α × α) := l.zip (l.drop 1)
def encP (p : List Int × List Int) : D := .tup [encZ p.1, encZ p.2]
theorem zipL_zip {α : Type} (f : α → D) : ∀ a b : List α, zipL (a.map f) (b.map f) = (a.zip b).map fun p => D.tup [f p.1, f p.2]
  | [], _ => by simp [zipL]
  | _ :: _, [] => by simp [zipL]
  | x :: a, y :: b => by simp [zipL, zipL_zip f a b]
theorem zipL_prs {α : Type} (f : α → D) (l : List α) : zipL (l.map f) ((l.map f).drop 1) = (prs l).map fun p => D.tup [f p.1, f p.2] := by
  rw [← List.map_drop, zipL_zip]
  rfl
theorem prs_mem {α : Type} {l : List α} {p : α × α} (h : p ∈ prs l) : p.1 ∈ l ∧ p.2 ∈ l := by
  have := List.of_mem_zip h
  exact ⟨this.1, List.mem_of_mem_drop this.2⟩
def headS (t : Trk) : List Int := t.headD []
structure TrackZ (m : Film) (s : Six) (t : Trk) : Prop where
  ne : t ≠ []
  mem : ∀ z ∈ t, z ∈ spotsZ 0 m
  may : ∀ p ∈ prs t, mayS m s p.1 p.2 = true
structure ExplZ (m : Film) (s : Six) (T : List Trk) : Prop where
  trk : ∀ t ∈ T, TrackZ m s t
  nd : T.flatten.Nodup
  ord : ∀ p ∈ prs T, headS p.1 < headS p.2
def IsTrack (m : Film) (s : Six) (d : D) : Prop := ∃ t, d = encK t ∧ TrackZ m s t
def IsTelling (m : Film) (s : Six) (d : D) : Prop := ∃ T, d = encTs T ∧ ExplZ m s T
theorem encK_inj {a b : Trk} (h : encK a = encK b) : a = b := by
  simp only [encK, D.lst.injEq] at h
  exact List.map_inj_right (fun x y e => encZ_inj e) |>.mp h
theorem encTs_inj {a b : List Trk} (h : encTs a = encTs b) : a = b := by
  simp only [encTs, D.lst.injEq] at h
  exact List.map_inj_right (fun x y e => encK_inj e) |>.mp h
def PairsOk (Γ : Tab) : Prop := ∀ xs : List D, CallsIo Γ "pairs_of" [] [.lst xs] (.ok (.own (.lst (zipL xs (xs.drop 1)))) [])
theorem pairs_ok {Γ Γ' : Tab} (h : Γ'.fn "pairs_of" = some ⟨d_pairs_of.ps, d_pairs_of.io, d_pairs_of.run Γ⟩) : PairsOk Γ' := fun xs => calls_of h rfl rfl (by
  unfold d_pairs_of
  simp_arith [optI_cst, optI_nil, sl_l, cut_1, newO_l, xden, xLzip])
/-- a list that is made of spots -/
theorem spots_all {m : Film} : ∀ {xs : List D}, xs.all (isSpot (m.map encF)) = true → ∃ t : Trk, xs = t.map encZ ∧ ∀ z ∈ t, z ∈ spotsZ 0 m
  | [], _ => ⟨[], rfl, by simp⟩
  | x :: xs, h => by
    simp only [List.all_cons, Bool.and_eq_true] at h
    obtain ⟨i, j, r, rfl, hr⟩ := spot_at h.1
    obtain ⟨t, rfl, ht⟩ := spots_all h.2
    refine ⟨[(i : Int), (j : Int)] :: t, rfl, fun z hz => ?_⟩
    rcases List.mem_cons.mp hz with rfl | hz
    · have := spotsZ_of (k := 0) hr
      rwa [Nat.zero_add] at this
    · exact ht z hz
theorem spots_is {m : Film} {t : Trk} (h : ∀ z ∈ t, z ∈ spotsZ 0 m) : (t.map encZ).all (isSpot (m.map encF)) = true := by
  rw [List.all_map, List.all_eq_true]
  intro z hz
  obtain ⟨i, j, e, hr⟩ := spotS (h z hz)
  rw [e]
  exact spot_is hr
noncomputable def isTrackB (m : Film) (s : Six) (d : D) : Bool := @decide (IsTrack m s d) (Classical.propDecidable _)
theorem isTrackB_iff {m : Film} {s : Six} {d : D} : isTrackB m s d = true ↔ IsTrack m s d := by
  unfold isTrackB
  simp
noncomputable def isTellingB (m : Film) (s : Six) (d : D) : Bool := @decide (IsTelling m s d) (Classical.propDecidable _)
theorem isTellingB_iff {m : Film} {s : Six} {d : D} : isTellingB m s d = true ↔ IsTelling m s d := by
  unfold isTellingB
  simp
theorem isTrackB_no {m : Film} {s : Six} {d : D} (h : ¬ IsTrack m s d) : isTrackB m s d = false := by
  cases e : isTrackB m s d with
  | false => rfl
  | true => exact absurd (isTrackB_iff.mp e) h
theorem isTellingB_no {m : Film} {s : Six} {d : D} (h : ¬ IsTelling m s d) : isTellingB m s d = false := by
  cases e : isTellingB m s d with
  | false => rfl
  | true => exact absurd (isTellingB_iff.mp e) h
/-- the ints of a tuple -/
def unI : D → Int
  | .int i => i
  | _ => 0
def unZ : D → List Int
  | .tup xs => xs.map unI
  | _ => []
theorem unZ_encZ (a : List Int) : unZ (encZ a) = a := by
  simp only [unZ, encZ, List.map_map]
  exact List.map_id' a
def mayP (m : Film) (s : Six) : D → Bool
  | .tup [a, b] => mayS m s (unZ a) (unZ b)
  | _ => false
theorem mayP_enc (m : Film) (s : Six) (p : List Int × List Int) : mayP m s (encP p) = mayS m s p.1 p.2 := by
  simp only [mayP, encP, unZ_encZ]
theorem pl_lst {xs : List D} (h : pl (.lst xs) = true) : plnL xs = true ∧ ∀ x ∈ xs, pl x = true := by
  simp only [pl, plnD, dptD, Bool.and_eq_true, decide_eq_true_eq] at h
  refine ⟨h.1, ?_⟩
  have : ∀ {l : List D}, plnL l = true → dptL l ≤ 60 → ∀ x ∈ l, pl x = true := by
    intro l
    induction l with
    | nil => exact fun _ _ x hx => by cases hx
    | cons a l ih =>
      intro h1 h2 x hx
      simp only [plnL, Bool.and_eq_true] at h1
      simp only [dptL] at h2
      rcases List.mem_cons.mp hx with rfl | hx
      · simp only [pl, h1.1, Bool.true_and, decide_eq_true_eq]
        omega
      · exact ih h1.2 (by omega) x hx
  have h2 : dptL xs + 1 ≤ 60 := of_decide_eq_true h.2
  exact this h.1 (by omega)
theorem isEq_nil {xs : List D} (h : pl (.lst xs) = true) : isEq (.lst xs) (.lst []) = some xs.isEmpty := by
  simp only [isEq, h, Bool.true_and]
  rw [if_pos (by rfl)]
  cases xs <;> rfl
def IsTrackOk (Γ : Tab) : Prop := ∀ (m : Film) (s : Six) (d : D), DotsZ m → SixZ s → pl d = true → CallsIo Γ "is_track" [] [encM m, s.enc, d] (.ok (.val (.bl (isTrackB m s d))) [])
theorem not_lst {m : Film} {s : Six} {d : D} (h : ∀ xs, d ≠ .lst xs) : isTrackB m s d = false := isTrackB_no fun ⟨t, e, _⟩ => h _ e
theorem all_prs {m : Film} {s : Six} {t : Trk} : ((prs t).map encP).all (mayP m s) = true ↔ ∀ p ∈ prs t, mayS m s p.1 p.2 = true := by
  rw [List.all_map, List.all_eq_true]
  simp only [Function.comp, mayP_enc]
theorem is_track_ok {Γ Γ' : Tab} (hs : IsSpotOk Γ) (hl : MayLeadOk Γ) (hp : PairsOk Γ) (h : Γ'.fn "is_track" = some ⟨d_is_track.ps, d_is_track.io, d_is_track.run Γ⟩) : IsTrackOk Γ' := fun m s d hm hz hd => calls_of h rfl rfl (by
  unfold d_is_track
  cases d with
  | lst xs =>
    obtain ⟨px, _⟩ := pl_lst hd
    have en := isEq_nil hd
    have k1 : den Γ is_track_c1 [.val (encM m), .val s.enc, .val (.lst xs), .un, .un] = .ok (.own (.lst (xs.flatMap fun x => [.bl (isSpot (m.map encF) x)]))) [.val (encM m), .val s.enc, .val (.lst xs), .un, .un] := by
      refine den_cmp1 (xs := xs) (lk := none) (ρ' := [.val (encM m), .val s.enc, .val (.lst xs), .un, .un]) _ rfl rfl rfl rfl fun x hx => ⟨[.val (encM m), .val s.enc, .val (.lst xs), .val x, .un], rfl, ?_⟩
      simp_arith [callV (hs m x (plnL_mem px hx)), argsN, isRef]
    cases xs with
    | nil =>
      rw [isTrackB_no (fun ⟨t, e, ht⟩ => by
        simp only [encK, D.lst.injEq] at e
        exact ht.ne (List.map_eq_nil_iff.mp e.symm))]
      simp_arith [SL, en, List.isEmpty_nil]
    | cons x0 xs0 =>
      cases e1 : (x0 :: xs0).all (isSpot (m.map encF)) with
      | false =>
        rw [isTrackB_no (fun ⟨t, e, ht⟩ => by
          simp only [encK, D.lst.injEq] at e
          rw [e, spots_is ht.mem] at e1
          cases e1)]
        simp_arith [SL, en, List.isEmpty_cons, is_track_c1_o, k1, prim_all, bools_map, all_map_id, e1, ofO_some]
      | true =>
        obtain ⟨t, e2, ht⟩ := spots_all e1
        have hne : t ≠ [] := by rintro rfl; cases e2
        rw [e2] at hd k1 e1 ⊢
        have en := isEq_nil hd
        have c1 := hp (t.map encZ)
        rw [zipL_prs] at c1
        have k2 : den Γ is_track_c2 [.val (encM m), .val s.enc, .val (.lst (t.map encZ)), .un, .un] = .ok (.own (.lst (((prs t).map encP).flatMap fun x => [.bl (mayP m s x)]))) [.val (encM m), .val s.enc, .val (.lst (t.map encZ)), .un, .un] := by
          refine den_cmp1 (xs := (prs t).map encP) (lk := none) (ρ' := [.val (encM m), .val s.enc, .val (.lst (t.map encZ)), .un, .un]) _ ?_ rfl rfl rfl fun x hx => ?_
          · show (den Γ (.call "pairs_of" (.cons (.var 2) .nil)) _).bind _ = _
            simp_arith [callV c1, argsN, isRef, seqOf_l]
            rfl
          · obtain ⟨p, hp', rfl⟩ := List.mem_map.mp hx
            obtain ⟨m1, m2⟩ := prs_mem hp'
            refine ⟨[.val (encM m), .val s.enc, .val (.lst (t.map encZ)), .val (encZ p.1), .val (encZ p.2)], rfl, ?_⟩
            rw [mayP_enc]
            simp_arith [callV (may_leadS hl hm hz (ht _ m1) (ht _ m2)), argsN, isRef]
        have en : isEq (.lst (t.map encZ)) (.lst []) = some false := by
          rw [en]
          cases t with
          | nil => exact absurd rfl hne
          | cons a l => rfl
        have e3 : isTrackB m s (.lst (t.map encZ)) = ((prs t).map encP).all (mayP m s) := by
          cases e4 : ((prs t).map encP).all (mayP m s) with
          | true => exact isTrackB_iff.mpr ⟨t, rfl, hne, ht, all_prs.mp e4⟩
          | false =>
            exact isTrackB_no fun ⟨t', e, ht'⟩ => by
              cases encK_inj (a := t) e
              rw [all_prs.mpr ht'.may] at e4
              cases e4
        rw [e3]
        simp_arith [SL, en, is_track_c1_o, k1, prim_all, bools_map, all_map_id, e1, ofO_some, is_track_c2_o, k2]
  | non => rw [not_lst (by intro xs e; cases e)]; simp_arith [Def.run]
  | bl _ => rw [not_lst (by intro xs e; cases e)]; simp_arith [Def.run]
  | int _ => rw [not_lst (by intro xs e; cases e)]; simp_arith [Def.run]
  | str _ => rw [not_lst (by intro xs e; cases e)]; simp_arith [Def.run]
  | tup _ => rw [not_lst (by intro xs e; cases e)]; simp_arith [Def.run]
  | _ => cases hd)
/-! ### explanations -/
structure SmallM (m : Film) : Prop where
  len : m.length ≤ 1000
  tot : total m ≤ 1000
  frm : ∀ f ∈ m, f.length ≤ 1000
def unL : D → List D
  | .lst xs => xs
  | _ => []
theorem flat_enc : ∀ T : List Trk, (T.map encK).flatMap unL = T.flatten.map encZ
  | [] => rfl
  | t :: T => by
    simp only [List.map_cons, List.flatMap_cons, flat_enc T, List.flatten_cons, List.map_append]
    rfl
theorem flat_one (l : List D) : l = l.flatMap fun x => [x] := by
  induction l with
  | nil => rfl
  | cons a l ih => simpa using ih
theorem tracks_all {m : Film} {s : Six} : ∀ {xs : List D}, xs.all (isTrackB m s) = true → ∃ T : List Trk, xs = T.map encK ∧ ∀ t ∈ T, TrackZ m s t
  | [], _ => ⟨[], rfl, by simp⟩
  | x :: xs, h => by
    simp only [List.all_cons, Bool.and_eq_true] at h
    obtain ⟨t, rfl, ht⟩ := isTrackB_iff.mp h.1
    obtain ⟨T, rfl, hT⟩ := tracks_all h.2
    refine ⟨t :: T, rfl, fun z hz => ?_⟩
    rcases List.mem_cons.mp hz with rfl | hz
    · exact ht
    · exact hT z hz
theorem tracks_is {m : Film} {s : Six} {T : List Trk} (h : ∀ t ∈ T, TrackZ m s t) : (T.map encK).all (isTrackB m s) = true := by
  rw [List.all_map, List.all_eq_true]
  exact fun t ht => isTrackB_iff.mpr ⟨t, rfl, h t ht⟩
theorem uniqZ_mem {α : Type} [DecidableEq α] {a : α} : ∀ {l : List α}, a ∈ uniqZ l ↔ a ∈ l
  | [] => by simp [uniqZ]
  | b :: l => by
    simp only [uniqZ]
    split
    · rename_i h
      rw [uniqZ_mem, List.mem_cons]
      constructor
      · exact .inr
      · rintro (rfl | h')
        · exact h
        · exact h'
    · rw [List.mem_cons, List.mem_cons, uniqZ_mem]
theorem uniqZ_len {α : Type} [DecidableEq α] : ∀ {l : List α}, (uniqZ l).length < l.length ↔ ¬ l.Nodup
  | [] => by simp [uniqZ]
  | b :: l => by
    have ih := uniqZ_len (l := l)
    have le := len_uniqZ l
    simp only [uniqZ, List.nodup_cons, List.length_cons]
    split
    · rename_i h
      constructor
      · intro _ h2
        exact h2.1 h
      · intro _
        omega
    · rename_i h
      simp only [List.length_cons, Nat.add_lt_add_iff_right, ih, h, not_false_eq_true, true_and]
theorem setOk_spots {m : Film} (hm : SmallM m) {l : Trk} (hl : l.length < 64) (h : ∀ z ∈ l, z ∈ spotsZ 0 m) : setOkT (l.map encZ) = true := by
  have b2 : ∀ z ∈ l, bdTup 2 (encZ z) = true ∧ (∀ r, tupDim (encZ z :: r) = 2) := fun z hz => by
    obtain ⟨i, j, e, f, h1, h2⟩ := spotS (h z hz)
    have g1 := (List.getElem?_eq_some_iff.mp h1).1
    have g2 := (List.getElem?_eq_some_iff.mp h2).1
    have g3 := hm.frm f (List.mem_of_getElem? h1)
    have g4 := hm.len
    rw [e]
    refine ⟨?_, fun r => rfl⟩
    simp only [bdTup, encZ, List.map_cons, List.map_nil, List.length_cons, List.length_nil, List.all_cons, List.all_nil, Bool.and_true, Bool.and_eq_true, decide_eq_true_eq]
    refine ⟨rfl, ⟨?_, ?_⟩, ?_, ?_⟩ <;> omega
  cases l with
  | nil => rfl
  | cons a l =>
    have d2 : tupDim ((a :: l).map encZ) = 2 := (b2 a (List.mem_cons_self ..)).2 _
    simp only [setOkT, d2, List.length_map, Bool.and_eq_true, decide_eq_true_eq, List.all_map, List.all_eq_true, Function.comp]
    exact ⟨⟨hl, by omega⟩, fun z hz => (b2 z hz).1⟩
theorem allInts_Z : ∀ l : List Int, allInts (l.map D.int) = true
  | [] => rfl
  | _ :: l => allInts_Z l
def encKP (p : Trk × Trk) : D := .tup [encK p.1, encK p.2]
def hdL : D → D
  | .lst (x :: _) => x
  | _ => .non
def ltP : D → Bool
  | .tup [a, b] => decide (unZ (hdL a) < unZ (hdL b))
  | _ => false
theorem hd_enc {t : Trk} (h : t ≠ []) : hdL (encK t) = encZ (headS t) ∧ at? (t.map encZ) 0 = some (encZ (headS t)) := by
  cases t with
  | nil => exact absurd rfl h
  | cons a l => exact ⟨rfl, at_0 _ _⟩
theorem lt_enc (a b : List Int) : cmpOp .lt (encZ a) (encZ b) = some (decide (a < b)) := by
  simp only [encZ, cmp_ltT, allInts_Z, Bool.and_self, if_true, ltL_ints]
structure IsTellingOk (Γ : Tab) : Prop where
  any : ∀ (m : Film) (s : Six) (d : D), DotsZ m → SixZ s → SmallM m → pl d = true → (∀ T, d = encTs T → T.flatten.length < 64) → CallsIo Γ "is_telling" [] [encM m, s.enc, d] (.ok (.val (.bl (isTellingB m s d))) [])
theorem not_lst2 {m : Film} {s : Six} {d : D} (h : ∀ xs, d ≠ .lst xs) : isTellingB m s d = false := isTellingB_no fun ⟨t, e, _⟩ => h _ e
theorem is_telling_ok {Γ Γ' : Tab} (ht : IsTrackOk Γ) (h : Γ'.fn "is_telling" = some ⟨d_is_telling.ps, d_is_telling.io, d_is_telling.run Γ⟩) : IsTellingOk Γ' := ⟨fun m s d hm hz hsm hd hT => calls_of h rfl rfl (by
  unfold d_is_telling
  cases d with
  | lst xs =>
    obtain ⟨px, plx⟩ := pl_lst hd
    have k1 : den Γ is_telling_c1 [.val (encM m), .val s.enc, .val (.lst xs), .un, .un, .un, .un, .un] = .ok (.own (.lst (xs.flatMap fun x => [.bl (isTrackB m s x)]))) [.val (encM m), .val s.enc, .val (.lst xs), .un, .un, .un, .un, .un] := by
      refine den_cmp1 (xs := xs) (lk := none) (ρ' := [.val (encM m), .val s.enc, .val (.lst xs), .un, .un, .un, .un, .un]) _ rfl rfl rfl rfl fun x hx => ⟨[.val (encM m), .val s.enc, .val (.lst xs), .val x, .un, .un, .un, .un], rfl, ?_⟩
      simp_arith [callV (ht m s x hm hz (plx x hx)), argsN, isRef]
    cases e1 : xs.all (isTrackB m s) with
    | false =>
      rw [isTellingB_no (fun ⟨T, e, hE⟩ => by
        simp only [encTs, D.lst.injEq] at e
        rw [e, tracks_is hE.trk] at e1
        cases e1)]
      simp_arith [is_telling_c1_o, k1, prim_all, bools_map, all_map_id, e1, ofO_some]
    | true =>
      obtain ⟨T, e2, hTr⟩ := tracks_all e1
      subst e2
      have hl := hT T rfl
      have hmem : ∀ z ∈ T.flatten, z ∈ spotsZ 0 m := fun z hz => by
        obtain ⟨t, h1, h2⟩ := List.mem_flatten.mp hz
        exact (hTr t h1).mem z h2
      have k2 : den Γ is_telling_c2 [.val (encM m), .val s.enc, .val (.lst (T.map encK)), .un, .un, .un, .un, .un] = .ok (.own (.lst (T.flatten.map encZ))) [.val (encM m), .val s.enc, .val (.lst (T.map encK)), .un, .un, .un, .un, .un] := by
        rw [← flat_enc]
        unfold is_telling_c2
        refine den_cmp2 (xs := T.map encK) (lk := none) (ρ' := [.val (encM m), .val s.enc, .val (.lst (T.map encK)), .un, .un, .un, .un, .un]) unL rfl rfl rfl rfl rfl ?_ fun x hx => ?_
        · rw [flat_enc, List.length_map]
          exact Nat.le_trans (Nat.le_of_lt hl) (by decide)
        · obtain ⟨t, ht', rfl⟩ := List.mem_map.mp hx
          exact ⟨[.val (encM m), .val s.enc, .val (.lst (T.map encK)), .un, .un, .val (encK t), .un, .un], t.map encZ, fun y => [y], rfl, rfl, rfl, flat_one _, fun y hy => ⟨[.val (encM m), .val s.enc, .val (.lst (T.map encK)), .un, .un, .val (encK t), .val y, .un], rfl, by simp_arith [Def.run]⟩⟩
      have ok := setOk_spots hsm hl hmem
      have ul : (uniqD (T.flatten.map encZ)).length = (uniqZ T.flatten).length := by rw [uniqD_enc, List.length_map]
      cases e3 : decide ((uniqZ T.flatten).length < T.flatten.length) with
      | true =>
        rw [isTellingB_no (fun ⟨T', e, hE⟩ => by
          cases encTs_inj (a := T) e
          exact uniqZ_len.mp (of_decide_eq_true e3) hE.nd)]
        simp_arith [is_telling_c1_o, k1, prim_all, bools_map, all_map_id, e1, ofO_some, k2, xden, xLenSet, ok, ul, prim_len_l, List.length_map, Int.ofNat_lt, e3]
      | false =>
        have nd : T.flatten.Nodup := Classical.byContradiction fun h => by
          have := decide_eq_true (uniqZ_len.mpr h)
          rw [e3] at this
          cases this
        have k3 : ∀ v, den Γ is_telling_c3 [.val (encM m), .val s.enc, .val (.lst (T.map encK)), .un, .val v, .un, .un, .un] = .ok (.own (.lst (((prs T).map encKP).flatMap fun x => [.bl (ltP x)]))) [.val (encM m), .val s.enc, .val (.lst (T.map encK)), .un, .val v, .un, .un, .un] := fun v => by
          refine den_cmp1 (xs := (prs T).map encKP) (lk := none) (ρ' := [.val (encM m), .val s.enc, .val (.lst (T.map encK)), .un, .val v, .un, .un, .un]) _ ?_ rfl rfl rfl fun x hx => ?_
          · rw [show (prs T).map encKP = _ from (zipL_prs encK T).symm, ← cut_1]
            rfl
          · obtain ⟨p, hp', rfl⟩ := List.mem_map.mp hx
            obtain ⟨m1, m2⟩ := prs_mem hp'
            obtain ⟨a1, a2⟩ := hd_enc (hTr _ m1).ne
            obtain ⟨b1, b2⟩ := hd_enc (hTr _ m2).ne
            refine ⟨[.val (encM m), .val s.enc, .val (.lst (T.map encK)), .val (encK p.1), .val v, .un, .un, .val (encK p.2)], rfl, ?_⟩
            simp only [encKP, ltP, a1, b1, unZ_encZ]
            simp_arith [encK, ix_l, a2, b2, ofO_some, lt_enc, ofB_some]
        have e4 : isTellingB m s (.lst (T.map encK)) = ((prs T).map encKP).all ltP := by
          have key : ((prs T).map encKP).all ltP = true ↔ ∀ p ∈ prs T, headS p.1 < headS p.2 := by
            rw [List.all_map, List.all_eq_true]
            refine forall_congr' fun p => forall_congr' fun hp => ?_
            obtain ⟨m1, m2⟩ := prs_mem hp
            simp only [Function.comp, encKP, ltP, (hd_enc (hTr _ m1).ne).1, (hd_enc (hTr _ m2).ne).1, unZ_encZ, decide_eq_true_eq]
          cases e5 : ((prs T).map encKP).all ltP with
          | true => exact isTellingB_iff.mpr ⟨T, rfl, hTr, nd, key.mp e5⟩
          | false =>
            exact isTellingB_no fun ⟨T', e, hE⟩ => by
              cases encTs_inj (a := T) e
              rw [key.mpr hE.ord] at e5
              cases e5
        rw [e4]
        simp_arith [is_telling_c1_o, k1, prim_all, bools_map, all_map_id, e1, ofO_some, k2, xden, xLenSet, ok, ul, prim_len_l, List.length_map, Int.ofNat_lt, e3, is_telling_c3_o, k3]
  | non => rw [not_lst2 (by intro xs e; cases e)]; simp_arith [Def.run]
  | bl _ => rw [not_lst2 (by intro xs e; cases e)]; simp_arith [Def.run]
  | int _ => rw [not_lst2 (by intro xs e; cases e)]; simp_arith [Def.run]
  | str _ => rw [not_lst2 (by intro xs e; cases e)]; simp_arith [Def.run]
  | tup _ => rw [not_lst2 (by intro xs e; cases e)]; simp_arith [Def.run]
  | _ => cases hd)⟩
end MP
end
section
set_option autoImplicit false
set_option Elab.async false
set_option linter.all false
set_option maxRecDepth 100000
/-! MkTracks2: what is asked of explanations. Core Lean alone. -/
namespace MP
local macro_rules
  | `(tactic| simp_arith [$ls,*]) => `(tactic| simp only [Def.run, List.length_cons, List.length_nil, if_true, if_false, Bool.false_eq_true, Bool.true_eq_false, initRho, List.contains_nil, List.contains_cons, denS, den, two, Out.bind_ok, Out.bind_ex, Out.bind_bad, Out.fl_ok, Out.fl_ex, Out.fl_bad, val, Fl.then_next, Fl.then_ret, Fl.then_brk, Fl.then_cnt, Fl.then_ex, Fl.then_bad, Prim.fresh, List.getElem?_cons_zero, List.getElem?_cons_succ, List.set_cons_zero, List.set_cons_succ, outsOf, Bool.not_false, Bool.not_true, put, free, Nat.reduceAdd, Nat.reduceSub, Nat.reduceEqDiff, Nat.reduceBEq, Nat.reduceLT, Nat.reduceLeDiff, List.replicate_zero, List.replicate_succ, Bool.or_false, Bool.or_true, Bool.false_or, Bool.true_or, Bool.and_true, Bool.true_and, Bool.and_false, Bool.false_and, Option.map_some, Option.map_none, Option.bind_some, Option.bind_none, eltOf, decide_true, decide_false, reduceIte, reduceCtorEq, Int.cast_ofNat_Int, Int.reduceEq, Int.reduceLE, Int.reduceLT, Int.reduceNeg, Int.reduceAdd, Int.reduceSub, beq_self_eq_true, BEq.rfl, outO_some, opd_var, again_var, see_val, see_own, see_lck, see_io, peek_zero, peek_succ, d_val, d_own, cell_val, cell_own, isEq_int, isEq_scr, opd_nil, again_nil, opd_cons, again_cons, testOf_cons, opd_tup, again_tup, testOf_tup, opd_lst, again_lst, testOf_lst, opd_bin, again_bin, testOf_bin, opd_neg, again_neg, testOf_neg, opd_cmp, again_cmp, testOf_cmp, opd_chn, again_chn, testOf_chn, opd_and, again_and, testOf_and, opd_or, again_or, testOf_or, opd_not, again_not, testOf_not, opd_ite, again_ite, testOf_ite, opd_isi, again_isi, testOf_isi, opd_call, again_call, testOf_call, opd_prm1, again_prm1, testOf_prm1, opd_prm2, again_prm2, testOf_prm2, opd_ix, again_ix, testOf_ix, opd_slc, again_slc, testOf_slc, opd_rev, again_rev, testOf_rev, opd_att, again_att, testOf_att, opd_cst, again_cst, testOf_cst, opd_glb, again_glb, testOf_glb, opd_cmp1, again_cmp1, testOf_cmp1, opd_cmp2, again_cmp2, testOf_cmp2, opd_pop, again_pop, testOf_pop, opd_xop, again_xop, testOf_xop, testOf_nil, cmp_eq, cmp_ne, cmp_isin, cmp_notin, cmp_is, cmp_isnot, cmp_lt, cmp_le, cmp_gt, cmp_ge, cmp_ltT, inst_non_int, inst_non_bool, inst_non_tuple, inst_non_list, inst_non_dict, inst_non_str, inst_non_cls, inst_bl_int, inst_bl_bool, inst_bl_tuple, inst_bl_list, inst_bl_dict, inst_bl_str, inst_bl_cls, is_bl_non, inst_int_int, inst_int_bool, inst_int_tuple, inst_int_list, inst_int_dict, inst_int_str, inst_int_cls, is_int_non, inst_str_int, inst_str_bool, inst_str_tuple, inst_str_list, inst_str_dict, inst_str_str, inst_str_cls, is_str_non, inst_tup_int, inst_tup_bool, inst_tup_tuple, inst_tup_list, inst_tup_dict, inst_tup_str, inst_tup_cls, is_tup_non, inst_lst_int, inst_lst_bool, inst_lst_tuple, inst_lst_list, inst_lst_dict, inst_lst_str, inst_lst_cls, is_lst_non, inst_scr_int, inst_scr_bool, inst_scr_tuple, inst_scr_list, inst_scr_dict, inst_scr_str, inst_scr_cls, is_scr_non, inst_obj_int, inst_obj_bool, inst_obj_tuple, inst_obj_list, inst_obj_dict, inst_obj_str, is_obj_non, is_non_non, is_bl_bl, prim_len_l, prim_len_t, prim_all, prim_any, prim_sum, prim_tuple_l, prim_tuple_t, prim_list_l, prim_list_t, prim_sorted, prim_sset, prim_len_s, prim_abs, prim_min2, prim_max2, prim_min1, prim_max1, bin_addI, bin_subI, bin_mulI, bin_fdivI, bin_modI, bin_powI, bin_addL, bin_addT, bin_mulT, bin_mulL, ix_l, ix_t, ix_s, newO_l, newO_i, newO_t, newO_s, ofO_some, ownO_some, ofB_some, optI_nil, sl_l, sl_t, mut_own, mut_io, ioAt_zero, ioAt_succ, lstOf_lst, mutL_eq, setIx1_some, setIx0_some, setIx_eq, ioPut_own, ioPut_io, ioPut_succ, at2_0, at2_1, ixN2_0, ixN2_1, Option.isSome_some, Option.isSome_none, seqOf_l, seqOf_t, $ls,*])
theorem nodup_le {α : Type} [DecidableEq α] : ∀ {a b : List α}, a.Nodup → (∀ x ∈ a, x ∈ b) → a.length ≤ b.length
  | [], _, _, _ => Nat.zero_le _
  | x :: a, b, h, hs => by
    rw [List.nodup_cons] at h
    have hx := hs x (List.mem_cons_self ..)
    have := nodup_le (a := a) (b := b.erase x) h.2 (fun y hy => (List.mem_erase_of_ne (by rintro rfl; exact h.1 hy)).mpr (hs y (List.mem_cons_of_mem _ hy)))
    rw [List.length_erase_of_mem hx] at this
    have : 0 < b.length := List.length_pos_of_mem hx
    simp only [List.length_cons]
    omega
structure GoodM (m : Film) : Prop where
  dz : DotsZ m
  sm : SmallM m
  tot : total m ≤ 24
  len : m.length ≤ 8
theorem good_m {m : Film} (h : isFilm (encM m) = true) : GoodM m := by
  simp only [encM, isFilm, Bool.and_eq_true, decide_eq_true_eq, List.length_map, many_enc, List.all_map, List.all_eq_true, Function.comp] at h
  obtain ⟨⟨⟨h1, h2⟩, h3⟩, h4⟩ := h
  refine ⟨fun f hf r hr => ?_, ⟨by omega, by omega, fun f hf => ?_⟩, h4, h2⟩
  · have := h3 f hf
    simp only [encF, isFrame, Bool.and_eq_true, decide_eq_true_eq, List.length_map, List.all_map, List.all_eq_true, Function.comp] at this
    obtain ⟨x, y, e⟩ := isDot_is (this.1.2 r hr)
    exact ⟨x, y, encZ_inj e⟩
  · have := h3 f hf
    simp only [encF, isFrame, Bool.and_eq_true, decide_eq_true_eq, List.length_map] at this
    omega
theorem spots_total (m : Film) : (spotsZ 0 m).length = total m := by
  have := congrArg List.length (spots_enc 0 m)
  rw [List.length_map, spots_len, many_enc] at this
  exact this.symm
theorem ExplZ.mem {m : Film} {s : Six} {T : List Trk} (h : ExplZ m s T) : ∀ z ∈ T.flatten, z ∈ spotsZ 0 m := fun z hz => by
  obtain ⟨t, h1, h2⟩ := List.mem_flatten.mp hz
  exact (h.trk t h1).mem z h2
theorem ExplZ.flat_le {m : Film} {s : Six} {T : List Trk} (h : ExplZ m s T) : T.flatten.length ≤ total m := by
  rw [← spots_total]
  exact nodup_le h.nd h.mem
theorem pl_lst_of {xs : List D} {n : Nat} (hn : n < 60) (h : ∀ x ∈ xs, plnD x = true ∧ dptD x ≤ n) : plnD (.lst xs) = true ∧ dptD (.lst xs) ≤ n + 1 := by
  simp only [plnD, dptD]
  induction xs with
  | nil => exact ⟨rfl, by simp [dptL]⟩
  | cons x xs ih =>
    obtain ⟨h1, h2⟩ := h x (List.mem_cons_self ..)
    obtain ⟨h3, h4⟩ := ih fun y hy => h y (List.mem_cons_of_mem _ hy)
    simp only [plnL, h1, h3, Bool.and_self, dptL, true_and]
    omega
theorem pl_of {d : D} {n : Nat} (hn : n ≤ 60) (h : plnD d = true ∧ dptD d ≤ n) : pl d = true := by
  simp only [pl, h.1, Bool.true_and]
  exact decide_eq_true (Nat.le_trans h.2 hn)
theorem pd_encZ (z : List Int) : plnD (encZ z) = true ∧ dptD (encZ z) ≤ 1 := by
  refine ⟨pln_encZ z, ?_⟩
  simp only [encZ, dptD, dpt_ints]
  omega
theorem pd_encK (t : Trk) : plnD (encK t) = true ∧ dptD (encK t) ≤ 2 := pl_lst_of (by omega) fun x hx => by
  obtain ⟨z, _, rfl⟩ := List.mem_map.mp hx
  exact pd_encZ z
theorem pd_encTs (T : List Trk) : plnD (encTs T) = true ∧ dptD (encTs T) ≤ 3 := pl_lst_of (by omega) fun x hx => by
  obtain ⟨z, _, rfl⟩ := List.mem_map.mp hx
  exact pd_encK z
theorem pl_encTs (T : List Trk) : pl (encTs T) = true := pl_of (by omega) (pd_encTs T)
theorem pl_encZ (z : List Int) : pl (encZ z) = true := pl_of (by omega) (pd_encZ z)
/-! ### refusals -/
/-- what is no explanation, and the word for it -/
inductive TellNo : D → D → D → String → Prop
  | film (d ru x : D) : pln d → isFilm d = false → TellNo d ru x "NoFilm"
  | rules (m : Film) (ru x : D) : isFilm (encM m) = true → pln ru → TellNo (encM m) ru x "NoRules"
  | tracks (m : Film) (s : Six) (x : D) : isFilm (encM m) = true → SixZ s → pl x = true → (∀ T, x = encTs T → T.flatten.length < 64) → isTellingB m s x = false → TellNo (encM m) s.enc x "NoTracks"
structure NeedTracksOk (Γ : Tab) : Prop where
  ok : ∀ (m : Film) (s : Six) (T : List Trk), isFilm (encM m) = true → SixZ s → ExplZ m s T → CallsIo Γ "need_tracks" [] [encM m, s.enc, encTs T] (.ok (.val .non) [])
  no : ∀ (d ru x : D) (c : String), TellNo d ru x c → CallsIo Γ "need_tracks" [] [d, ru, x] (.ex c [])
theorem tell_y {Γ : Tab} (h : IsTellingOk Γ) {m : Film} {s : Six} {T : List Trk} (hm : isFilm (encM m) = true) (hs : SixZ s) (hT : ExplZ m s T) : CallsIo Γ "is_telling" [] [encM m, s.enc, encTs T] (.ok (.val (.bl true)) []) := by
  have g := good_m hm
  have := h.any m s (encTs T) g.dz hs g.sm (pl_encTs T) (fun T' e => by
    cases encTs_inj e
    have := hT.flat_le
    have := g.tot
    omega)
  rwa [isTellingB_iff.mpr ⟨T, rfl, hT⟩] at this
theorem need_tracks_ok {Γ Γ' : Tab} (hf : NeedFilmOk Γ) (hr : NeedRulesOk Γ) (ht : IsTellingOk Γ) (h : Γ'.fn "need_tracks" = some ⟨d_need_tracks.ps, d_need_tracks.io, d_need_tracks.run Γ⟩) : NeedTracksOk Γ' where
  ok := fun m s T hm hs hT => calls_of h rfl rfl (by
    unfold d_need_tracks
    simp_arith [callV (need_film_y hf hm), callV (hr.1 s), callV (tell_y ht hm hs hT), argsN, isRef])
  no := fun d ru x c hn => calls_of h rfl rfl (by
    unfold d_need_tracks
    cases hn with
    | film _ _ _ h1 h2 => simp_arith [callX (need_film_n hf h1 h2), argsN, isRef]
    | rules m _ _ h1 h2 => simp_arith [callV (need_film_y hf h1), callX (hr.2 _ h2), argsN, isRef]
    | tracks m s _ h1 h2 h3 h4 h5 =>
      have g := good_m h1
      have := ht.any m s x g.dz h2 g.sm h3 h4
      rw [h5] at this
      simp_arith [callV (need_film_y hf h1), callV (hr.1 s), callV this, argsN, isRef])
structure IsExplOk (Γ : Tab) : Prop where
  any : ∀ (m : Film) (s : Six) (d : D), isFilm (encM m) = true → SixZ s → pl d = true → (∀ T, d = encTs T → T.flatten.length < 64) → CallsIo Γ "is_explanation" [] [encM m, s.enc, d] (.ok (.val (.bl (isTellingB m s d))) [])
  no : ∀ (d ru x : D) (c : String), TellNo d ru x c → c ≠ "NoTracks" → CallsIo Γ "is_explanation" [] [d, ru, x] (.ex c [])
theorem is_explanation_ok {Γ Γ' : Tab} (hf : NeedFilmOk Γ) (hr : NeedRulesOk Γ) (ht : IsTellingOk Γ) (h : Γ'.fn "is_explanation" = some ⟨d_is_explanation.ps, d_is_explanation.io, d_is_explanation.run Γ⟩) : IsExplOk Γ' where
  any := fun m s d hm hs hp hl => calls_of h rfl rfl (by
    have g := good_m hm
    unfold d_is_explanation
    simp_arith [callV (need_film_y hf hm), callV (hr.1 s), callV (ht.any m s d g.dz hs g.sm hp hl), argsN, isRef])
  no := fun d ru x c hn hc => calls_of h rfl rfl (by
    unfold d_is_explanation
    cases hn with
    | film _ _ _ h1 h2 => simp_arith [callX (need_film_n hf h1 h2), argsN, isRef]
    | rules m _ _ h1 h2 => simp_arith [callV (need_film_y hf h1), callX (hr.2 _ h2), argsN, isRef]
    | tracks m s _ h1 h2 h3 h4 h5 => exact absurd rfl hc)
/-! ### clutter -/
def leftZ (m : Film) (T : List Trk) : List (List Int) := (spotsZ 0 m).filter fun z => !decide (z ∈ T.flatten)
def LeftOutOk (Γ : Tab) : Prop := ∀ (m : Film) (T : List Trk), SmallM m → T.flatten.length ≤ 1000 → CallsIo Γ "left_out" [] [encM m, encTs T] (.ok (.own (.lst ((leftZ m T).map encZ))) [])
theorem filter_flat (l : List (List Int)) (U : List (List Int)) : (l.map encZ).flatMap (fun x => if memD x (U.map encZ) then [] else [x]) = (l.filter fun z => !decide (z ∈ U)).map encZ := by
  induction l with
  | nil => rfl
  | cons a l ih =>
    rw [List.map_cons, List.flatMap_cons, ih, memD_enc, List.filter_cons]
    by_cases h : a ∈ U <;> simp [h]
theorem isIn_encs (z : List Int) (U : List (List Int)) : isIn (encZ z) (.lst (U.map encZ)) = some (decide (z ∈ U)) := by
  simp only [isIn, pl_encZ, pl_encs, Bool.and_self, if_true, memD_enc]
theorem left_out_ok {Γ Γ' : Tab} (ha : AllSpotsOk Γ) (h : Γ'.fn "left_out" = some ⟨d_left_out.ps, d_left_out.io, d_left_out.run Γ⟩) : LeftOutOk Γ' := fun m T hm hl => calls_of h rfl rfl (by
  have k1 : den Γ left_out_c1 [.val (encM m), .val (.lst (T.map encK)), .un, .un, .un] = .ok (.own (.lst (T.flatten.map encZ))) [.val (encM m), .val (.lst (T.map encK)), .un, .un, .un] := by
    rw [← flat_enc]
    refine den_cmp2 (xs := T.map encK) (lk := none) (ρ' := [.val (encM m), .val (.lst (T.map encK)), .un, .un, .un]) _ rfl rfl rfl rfl rfl ?_ fun x hx => ?_
    · rw [flat_enc, List.length_map]
      exact Nat.le_trans hl (by decide)
    · obtain ⟨t, ht', rfl⟩ := List.mem_map.mp hx
      exact ⟨[.val (encM m), .val (.lst (T.map encK)), .un, .val (encK t), .un], t.map encZ, fun y => [y], rfl, rfl, rfl, flat_one _, fun y hy => ⟨[.val (encM m), .val (.lst (T.map encK)), .un, .val (encK t), .val y], rfl, by simp_arith [Def.run]⟩⟩
  have c1 := ha m hm.tot hm.frm
  rw [allSpots_enc] at c1
  have k2 : den Γ left_out_c2 [.val (encM m), .val (.lst (T.map encK)), .own (.lst (T.flatten.map encZ)), .un, .un] = .ok (.own (.lst ((leftZ m T).map encZ))) [.val (encM m), .val (.lst (T.map encK)), .own (.lst (T.flatten.map encZ)), .un, .un] := by
    rw [leftZ, ← filter_flat]
    refine den_cmp1 (xs := (spotsZ 0 m).map encZ) (lk := none) (ρ' := [.val (encM m), .val (.lst (T.map encK)), .own (.lst (T.flatten.map encZ)), .un, .un]) _ ?_ rfl rfl rfl fun x hx => ?_
    · show (den Γ (.call "all_spots" (.cons (.var 0) .nil)) _).bind _ = _
      simp_arith [callV c1, argsN, isRef, seqOf_l]
    · obtain ⟨z, hz, rfl⟩ := List.mem_map.mp hx
      refine ⟨[.val (encM m), .val (.lst (T.map encK)), .own (.lst (T.flatten.map encZ)), .un, .val (encZ z)], rfl, ?_⟩
      rw [memD_enc]
      by_cases hz' : z ∈ T.flatten
      · simp_arith [isIn_encs, hz', decide_true, ofB_some]
      · simp_arith [isIn_encs, hz', decide_false, ofB_some]
  unfold d_left_out
  show Def.run Γ _ [encM m, .lst (T.map encK)] = _
  simp_arith [k1, k2]
  rfl)
/-! ### steps -/
def stepsZ (T : List Trk) : List (List Int × List Int) := T.flatMap prs
def stepsD (T : List Trk) : List D := sortD ((stepsZ T).map encP)
theorem flat_prs (T : List Trk) : (T.map encK).flatMap (fun x => zipL (unL x) ((unL x).drop 1)) = (stepsZ T).map encP := by
  induction T with
  | nil => rfl
  | cons t T ih =>
    rw [List.map_cons, List.flatMap_cons, ih]
    simp only [stepsZ, List.flatMap_cons, List.map_append]
    congr 1
    exact zipL_prs encZ t
theorem sortOk_pairs (l : List (List Int × List Int)) : sortOk (l.map encP) = true := by
  have pd : ∀ p : List Int × List Int, plnD (encP p) = true ∧ dptD (encP p) ≤ 2 := fun p => by
    obtain ⟨a1, a2⟩ := pd_encZ p.1
    obtain ⟨b1, b2⟩ := pd_encZ p.2
    simp only [encP, plnD, plnL, dptD, dptL, a1, b1, Bool.and_self, true_and]
    omega
  simp only [sortOk, List.all_map, Bool.and_eq_true, Bool.or_eq_true, List.all_eq_true, Function.comp]
  refine ⟨fun p _ => ⟨pl_of (by omega) (pd p), fun q _ => ?_⟩, .inl fun p _ => rfl⟩
  simp only [encP, encZ, alk, alkL, alk_ints, Bool.and_self]
theorem prs_len {α : Type} (l : List α) : (prs l).length ≤ l.length := by
  simp only [prs, List.length_zip]
  omega
theorem steps_len (T : List Trk) : (stepsZ T).length ≤ T.flatten.length := by
  induction T with
  | nil => exact Nat.le_refl _
  | cons t T ih =>
    have := prs_len t
    simp only [stepsZ, List.flatMap_cons, List.length_append, List.flatten_cons] at ih ⊢
    omega
def AllStepsOk (Γ : Tab) : Prop := ∀ T : List Trk, T.flatten.length ≤ 1000 → CallsIo Γ "all_steps" [] [encTs T] (.ok (.own (.lst (stepsD T))) [])
theorem all_steps_ok {Γ Γ' : Tab} (hp : PairsOk Γ) (h : Γ'.fn "all_steps" = some ⟨d_all_steps.ps, d_all_steps.io, d_all_steps.run Γ⟩) : AllStepsOk Γ' := fun T hl => calls_of h rfl rfl (by
  have k1 : den Γ all_steps_c1 [.val (.lst (T.map encK)), .un, .un] = .ok (.own (.lst ((stepsZ T).map encP))) [.val (.lst (T.map encK)), .un, .un] := by
    rw [← flat_prs]
    refine den_cmp2 (xs := T.map encK) (lk := none) (ρ' := [.val (.lst (T.map encK)), .un, .un]) _ rfl rfl rfl rfl rfl ?_ fun x hx => ?_
    · rw [flat_prs, List.length_map]
      exact Nat.le_trans (Nat.le_trans (steps_len T) hl) (by decide)
    · obtain ⟨t, ht', rfl⟩ := List.mem_map.mp hx
      refine ⟨[.val (.lst (T.map encK)), .val (encK t), .un], zipL (t.map encZ) ((t.map encZ).drop 1), fun y => [y], rfl, ?_, rfl, flat_one _, fun y hy => ⟨[.val (.lst (T.map encK)), .val (encK t), .val y], rfl, by simp_arith [Def.run]⟩⟩
      show (den Γ (.call "pairs_of" (.cons (.var 1) .nil)) _).bind _ = _
      simp_arith [encK, callV (hp (t.map encZ)), argsN, isRef, seqOf_l]
  unfold d_all_steps
  show Def.run Γ _ [.lst (T.map encK)] = _
  simp_arith [all_steps_c1_o, k1, prim_sorted, sortOk_pairs, ownO_some]
  rfl)
/-! ### costs -/
def costP (m : Film) (s : Six) : D → Int
  | .tup [a, b] => costS m s (unZ a) (unZ b)
  | _ => 0
theorem costP_enc (m : Film) (s : Six) (p : List Int × List Int) : costP m s (encP p) = costS m s p.1 p.2 := by
  simp only [costP, encP, unZ_encZ]
theorem sumI_flat (f : D → Int) : ∀ l : List D, sumI (l.flatMap fun x => [.int (f x)]) = some ((l.map f).sum)
  | [] => rfl
  | x :: l => by
    simp only [List.flatMap_cons, List.singleton_append, sumI, sumI_flat f l, Option.map_some, List.map_cons, List.sum_cons]
theorem perm_sum {l l' : List Int} (h : l.Perm l') : l.sum = l'.sum := by
  induction h with
  | nil => rfl
  | cons x _ ih => simp [ih]
  | swap x y l => simp; omega
  | trans _ _ h1 h2 => exact h1.trans h2
theorem mem_stepsD {T : List Trk} {x : D} (h : x ∈ stepsD T) : ∃ p ∈ stepsZ T, x = encP p := by
  have := (List.mergeSort_perm ((stepsZ T).map encP) leD).mem_iff.mp h
  obtain ⟨p, hp, rfl⟩ := List.mem_map.mp this
  exact ⟨p, hp, rfl⟩
def stepSum (m : Film) (s : Six) (T : List Trk) : Int := ((stepsZ T).map fun p => costS m s p.1 p.2).sum
theorem stepsD_sum (m : Film) (s : Six) (T : List Trk) : ((stepsD T).map (costP m s)).sum = stepSum m s T := by
  rw [show stepsD T = ((stepsZ T).map encP).mergeSort leD from rfl, perm_sum ((List.mergeSort_perm ((stepsZ T).map encP) leD).map (costP m s)), List.map_map, stepSum]
  congr 1
  exact List.map_congr_left fun p _ => costP_enc m s p
theorem steps_mem {m : Film} {s : Six} {T : List Trk} (h : ExplZ m s T) {p : List Int × List Int} (hp : p ∈ stepsZ T) : p.1 ∈ spotsZ 0 m ∧ p.2 ∈ spotsZ 0 m ∧ mayS m s p.1 p.2 = true := by
  obtain ⟨t, h1, h2⟩ := List.mem_flatMap.mp hp
  obtain ⟨m1, m2⟩ := prs_mem h2
  have := h.trk t h1
  exact ⟨this.mem _ m1, this.mem _ m2, this.may _ h2⟩
def costT (m : Film) (s : Six) (T : List Trk) : Int := s.c * (leftZ m T).length + (s.b + s.e) * T.length + stepSum m s T
structure CostOfOk (Γ : Tab) : Prop where
  ok : ∀ (m : Film) (s : Six) (T : List Trk), isFilm (encM m) = true → SixZ s → ExplZ m s T → CallsIo Γ "cost_of" [] [encM m, s.enc, encTs T] (.ok (.val (.int (costT m s T))) [])
  no : ∀ (d ru x : D) (c : String), TellNo d ru x c → CallsIo Γ "cost_of" [] [d, ru, x] (.ex c [])
theorem cost_of_ok {Γ Γ' : Tab} (hn : NeedTracksOk Γ) (hl : LeftOutOk Γ) (ha : AllStepsOk Γ) (hc : CostBetweenOk Γ) (h : Γ'.fn "cost_of" = some ⟨d_cost_of.ps, d_cost_of.io, d_cost_of.run Γ⟩) : CostOfOk Γ' where
  ok := fun m s T hm hs hT => calls_of h rfl rfl (by
    have g := good_m hm
    have fl := hT.flat_le
    have gt := g.tot
    have c1 := hn.ok m s T hm hs hT
    have c2 := hl m T g.sm (by omega)
    have c3 := ha T (by omega)
    have k1 : ∀ v, den Γ cost_of_c1 [.val (encM m), .val s.enc, .val (encTs T), .val v, .un, .un] = .ok (.own (.lst ((stepsD T).flatMap fun x => [.int (costP m s x)]))) [.val (encM m), .val s.enc, .val (encTs T), .val v, .un, .un] := fun v => by
      refine den_cmp1 (xs := stepsD T) (lk := none) (ρ' := [.val (encM m), .val s.enc, .val (encTs T), .val v, .un, .un]) _ ?_ rfl rfl rfl fun x hx => ?_
      · show (den Γ (.call "all_steps" (.cons (.var 2) .nil)) _).bind _ = _
        simp_arith [callV c3, argsN, isRef, seqOf_l]
      · obtain ⟨p, hp, rfl⟩ := mem_stepsD hx
        obtain ⟨m1, m2, _⟩ := steps_mem hT hp
        refine ⟨[.val (encM m), .val s.enc, .val (encTs T), .val v, .val (encZ p.1), .val (encZ p.2)], rfl, ?_⟩
        rw [costP_enc]
        simp_arith [callV (cost_betweenS hc g.dz hs m1 m2), argsN, isRef]
    have mo1 := mul_lt (b := ((leftZ m T).length : Int)) hs.c.1 (by have := hs.c.2; omega)
    have mo2 := mul_lt (a := s.b + s.e) (b := (T.length : Int)) (by have := hs.b.1; have := hs.e.1; omega) (by have := hs.b.2; have := hs.e.2; omega)
    unfold d_cost_of
    simp only [Six.enc, rulD, encTs] at c1 c2 k1 ⊢
    simp_arith [callV c1, callV c2, argsN, isRef, att_c, att_b, att_e, ofO_some, prim_len_l, List.length_map, bin_mulI, mo1, mo2, bin_addI, newO_i, cost_of_c1_o, k1, prim_sum, sumI_flat, stepsD_sum]
    rfl)
  no := fun d ru x c hx => calls_of h rfl rfl (by
    unfold d_cost_of
    simp_arith [callX (hn.no d ru x c hx), argsN, isRef])
structure ClutterOfOk (Γ : Tab) : Prop where
  ok : ∀ (m : Film) (s : Six) (T : List Trk), isFilm (encM m) = true → SixZ s → ExplZ m s T → CallsIo Γ "clutter_of" [] [encM m, s.enc, encTs T] (.ok (.own (.lst ((leftZ m T).map encZ))) [])
  no : ∀ (d ru x : D) (c : String), TellNo d ru x c → CallsIo Γ "clutter_of" [] [d, ru, x] (.ex c [])
theorem clutter_of_ok {Γ Γ' : Tab} (hn : NeedTracksOk Γ) (hl : LeftOutOk Γ) (h : Γ'.fn "clutter_of" = some ⟨d_clutter_of.ps, d_clutter_of.io, d_clutter_of.run Γ⟩) : ClutterOfOk Γ' where
  ok := fun m s T hm hs hT => calls_of h rfl rfl (by
    have g := good_m hm
    have fl := hT.flat_le
    have gt := g.tot
    have c1 := hn.ok m s T hm hs hT
    have c2 := hl m T g.sm (by omega)
    unfold d_clutter_of
    simp_arith [callV c1, callV c2, argsN, isRef])
  no := fun d ru x c hx => calls_of h rfl rfl (by
    unfold d_clutter_of
    simp_arith [callX (hn.no d ru x c hx), argsN, isRef])
structure StepsOfOk (Γ : Tab) : Prop where
  ok : ∀ (m : Film) (s : Six) (T : List Trk), isFilm (encM m) = true → SixZ s → ExplZ m s T → CallsIo Γ "steps_of" [] [encM m, s.enc, encTs T] (.ok (.own (.lst (stepsD T))) [])
  no : ∀ (d ru x : D) (c : String), TellNo d ru x c → CallsIo Γ "steps_of" [] [d, ru, x] (.ex c [])
theorem steps_of_ok {Γ Γ' : Tab} (hn : NeedTracksOk Γ) (hl : AllStepsOk Γ) (h : Γ'.fn "steps_of" = some ⟨d_steps_of.ps, d_steps_of.io, d_steps_of.run Γ⟩) : StepsOfOk Γ' where
  ok := fun m s T hm hs hT => calls_of h rfl rfl (by
    have g := good_m hm
    have fl := hT.flat_le
    have gt := g.tot
    have c1 := hn.ok m s T hm hs hT
    have c2 := hl T (by omega)
    unfold d_steps_of
    simp_arith [callV c1, callV c2, argsN, isRef])
  no := fun d ru x c hx => calls_of h rfl rfl (by
    unfold d_steps_of
    simp_arith [callX (hn.no d ru x c hx), argsN, isRef])
/-! ### alive -/
/-- the frames of a track's first and last spot -/
def fst0 (t : Trk) : Int := (headS t).headD 0
def lst0 (t : Trk) : Int := (t.getLastD []).headD 0
def aliveZ (T : List Trk) (k : Int) : List Trk := T.filter fun t => decide (fst0 t ≤ k) && decide (k ≤ lst0 t)
structure AliveOk (Γ : Tab) : Prop where
  ok : ∀ (m : Film) (s : Six) (T : List Trk) (k : Nat), isFilm (encM m) = true → SixZ s → ExplZ m s T → k < m.length → CallsIo Γ "alive" [] [encM m, s.enc, encTs T, .int k] (.ok (.val (.int (aliveZ T k).length)) [])
  no : ∀ (d ru x f : D) (c : String), TellNo d ru x c → CallsIo Γ "alive" [] [d, ru, x, f] (.ex c [])
  fr : ∀ (m : Film) (s : Six) (T : List Trk) (f : D), isFilm (encM m) = true → SixZ s → ExplZ m s T → pln f → isWhole f 0 ((m.length : Int) - 1) = false → CallsIo Γ "alive" [] [encM m, s.enc, encTs T, f] (.ex "NoFrame" [])
theorem at_last (x : D) : ∀ xs : List D, at? (x :: xs) (-1) = some ((x :: xs).getLastD .non) := by
  intro xs
  have h : ixN (x :: xs).length (-1) = some xs.length := by
    unfold ixN
    rw [if_neg (by omega), if_pos (by simp only [List.length_cons]; omega)]
    congr 1
    simp only [List.length_cons]
    omega
  simp only [at?, h, Option.bind_some]
  rw [List.getLastD_eq_getLast?, List.getLast?_eq_getElem?]
  simp only [List.length_cons, Nat.add_sub_cancel]
  rw [List.getElem?_eq_getElem (by simp)]
  rfl
theorem last_enc {t : Trk} (h : t ≠ []) : at? (t.map encZ) (-1) = some (encZ (t.getLastD [])) := by
  cases t with
  | nil => exact absurd rfl h
  | cons a l =>
    rw [List.map_cons, at_last]
    congr 1
    rw [← List.map_cons]
    simp only [List.getLastD_eq_getLast?, List.getLast?_map]
    cases e : (a :: l).getLast? with
    | none => simp at e
    | some v => rfl
theorem last_mem {t : Trk} (h : t ≠ []) : t.getLastD [] ∈ t := by
  cases e : t.getLast? with
  | none => simp at e; exact absurd e h
  | some v =>
    rw [List.getLastD_eq_getLast?, e]
    exact List.mem_of_getLast? e
theorem head_mem {t : Trk} (h : t ≠ []) : headS t ∈ t := by
  cases t with
  | nil => exact absurd rfl h
  | cons a l => exact List.mem_cons_self ..
theorem at_spot {m : Film} {z : List Int} (h : z ∈ spotsZ 0 m) : at? (z.map D.int) 0 = some (.int (z.headD 0)) := by
  obtain ⟨i, j, e, _⟩ := spotS h
  rw [e]
  rfl
def alP (k : Int) (x : D) : List D := match x with
  | .lst _ => if decide ((unZ (hdL x)).headD 0 ≤ k) && decide (k ≤ (unZ ((unL x).getLastD .non)).headD 0) then [x] else []
  | _ => []
theorem alP_enc {t : Trk} (h : t ≠ []) (k : Int) : alP k (encK t) = if decide (fst0 t ≤ k) && decide (k ≤ lst0 t) then [encK t] else [] := by
  have e1 : (unL (encK t)).getLastD .non = encZ (t.getLastD []) := by
    simp only [encK, unL, List.getLastD_eq_getLast?, List.getLast?_map]
    cases e : t.getLast? with
    | none => simp at e; exact absurd e h
    | some v => rfl
  show (if decide ((unZ (hdL (encK t))).headD 0 ≤ k) && decide (k ≤ (unZ ((unL (encK t)).getLastD .non)).headD 0) then [encK t] else []) = _
  rw [(hd_enc h).1, e1, unZ_encZ, unZ_encZ]
  rfl
theorem alive_flat (k : Int) : ∀ T : List Trk, (∀ t ∈ T, t ≠ []) → (T.map encK).flatMap (alP k) = (aliveZ T k).map encK
  | [], _ => rfl
  | t :: T, h => by
    rw [List.map_cons, List.flatMap_cons, alive_flat k T (fun t ht => h t (List.mem_cons_of_mem _ ht)), alP_enc (h t (List.mem_cons_self ..)), aliveZ, aliveZ, List.filter_cons]
    split <;> simp
theorem alive_ok {Γ Γ' : Tab} (hn : NeedTracksOk Γ) (hw : WholeOk Γ) (h : Γ'.fn "alive" = some ⟨d_alive.ps, d_alive.io, d_alive.run Γ⟩) : AliveOk Γ' where
  ok := fun m s T k hm hs hT hk => calls_of h rfl rfl (by
    have c1 := hn.ok m s T hm hs hT
    have c2 := hw (.int k) 0 ((m.length : Int) - 1) rfl
    have w : isWhole (.int k) 0 ((m.length : Int) - 1) = true := by
      simp only [isWhole, Bool.and_eq_true, decide_eq_true_eq]
      omega
    rw [w] at c2
    have k1 : den Γ alive_c1 [.val (encM m), .val s.enc, .val (.lst (T.map encK)), .val (.int k), .un] = .ok (.own (.lst ((aliveZ T k).map encK))) [.val (encM m), .val s.enc, .val (.lst (T.map encK)), .val (.int k), .un] := by
      rw [← alive_flat k T fun t ht => (hT.trk t ht).ne]
      refine den_cmp1 (xs := T.map encK) (lk := none) (ρ' := [.val (encM m), .val s.enc, .val (.lst (T.map encK)), .val (.int k), .un]) _ rfl rfl rfl rfl fun x hx => ?_
      obtain ⟨t, ht, rfl⟩ := List.mem_map.mp hx
      have tz := hT.trk t ht
      refine ⟨[.val (encM m), .val s.enc, .val (.lst (T.map encK)), .val (.int k), .val (encK t)], rfl, ?_⟩
      rw [alP_enc tz.ne]
      have a1 := (hd_enc tz.ne).2
      have a2 := last_enc tz.ne
      have b1 : at? ((headS t).map D.int) 0 = some (.int (fst0 t)) := at_spot (tz.mem _ (head_mem tz.ne))
      have b2 : at? ((t.getLastD []).map D.int) 0 = some (.int (lst0 t)) := at_spot (tz.mem _ (last_mem tz.ne))
      simp only [encZ] at a1 a2
      have f1 : ∀ x : List Int, encZ x = .tup (x.map D.int) := fun _ => rfl
      cases e1 : decide (fst0 t ≤ k) with
      | false => simp_arith [encK, f1, ix_l, ix_t, a1, a2, b1, b2, ofO_some, e1, ofB_some, Bool.false_and]
      | true => cases e2 : decide ((k : Int) ≤ lst0 t) <;> simp_arith [encK, f1, ix_l, ix_t, a1, a2, b1, b2, ofO_some, e1, e2, ofB_some, Bool.true_and]
    unfold d_alive
    simp only [encM, encTs] at c1 c2 k1 ⊢
    simp_arith [callV c1, callV c2, argsN, isRef, prim_len_t, List.length_map, ofO_some, bin_subI, newO_i, alive_c1_o, k1, prim_len_l])
  no := fun d ru x f c hx => calls_of h rfl rfl (by
    unfold d_alive
    simp_arith [callX (hn.no d ru x c hx), argsN, isRef])
  fr := fun m s T f hm hs hT hp hf => calls_of h rfl rfl (by
    have c1 := hn.ok m s T hm hs hT
    have c2 := hw f 0 ((m.length : Int) - 1) hp
    rw [hf] at c2
    unfold d_alive
    simp only [encM, encTs] at c1 c2 ⊢
    simp_arith [callV c1, callV c2, argsN, isRef, prim_len_t, List.length_map, ofO_some, bin_subI, newO_i])
end MP
end
section
set_option autoImplicit false
set_option Elab.async false
set_option linter.all false
set_option maxRecDepth 100000
/-! MkWays: fractions, ways, places. Core Lean alone. -/
namespace MP
local macro_rules
  | `(tactic| simp_arith [$ls,*]) => `(tactic| simp only [Def.run, List.length_cons, List.length_nil, if_true, if_false, Bool.false_eq_true, Bool.true_eq_false, initRho, List.contains_nil, List.contains_cons, denS, den, two, Out.bind_ok, Out.bind_ex, Out.bind_bad, Out.fl_ok, Out.fl_ex, Out.fl_bad, val, Fl.then_next, Fl.then_ret, Fl.then_brk, Fl.then_cnt, Fl.then_ex, Fl.then_bad, Prim.fresh, List.getElem?_cons_zero, List.getElem?_cons_succ, List.set_cons_zero, List.set_cons_succ, outsOf, Bool.not_false, Bool.not_true, put, free, Nat.reduceAdd, Nat.reduceSub, Nat.reduceEqDiff, Nat.reduceBEq, Nat.reduceLT, Nat.reduceLeDiff, List.replicate_zero, List.replicate_succ, Bool.or_false, Bool.or_true, Bool.false_or, Bool.true_or, Bool.and_true, Bool.true_and, Bool.and_false, Bool.false_and, Option.map_some, Option.map_none, Option.bind_some, Option.bind_none, eltOf, decide_true, decide_false, reduceIte, reduceCtorEq, Int.cast_ofNat_Int, Int.reduceEq, Int.reduceLE, Int.reduceLT, Int.reduceNeg, Int.reduceAdd, Int.reduceSub, beq_self_eq_true, BEq.rfl, outO_some, opd_var, again_var, see_val, see_own, see_lck, see_io, peek_zero, peek_succ, d_val, d_own, cell_val, cell_own, isEq_int, isEq_scr, opd_nil, again_nil, opd_cons, again_cons, testOf_cons, opd_tup, again_tup, testOf_tup, opd_lst, again_lst, testOf_lst, opd_bin, again_bin, testOf_bin, opd_neg, again_neg, testOf_neg, opd_cmp, again_cmp, testOf_cmp, opd_chn, again_chn, testOf_chn, opd_and, again_and, testOf_and, opd_or, again_or, testOf_or, opd_not, again_not, testOf_not, opd_ite, again_ite, testOf_ite, opd_isi, again_isi, testOf_isi, opd_call, again_call, testOf_call, opd_prm1, again_prm1, testOf_prm1, opd_prm2, again_prm2, testOf_prm2, opd_ix, again_ix, testOf_ix, opd_slc, again_slc, testOf_slc, opd_rev, again_rev, testOf_rev, opd_att, again_att, testOf_att, opd_cst, again_cst, testOf_cst, opd_glb, again_glb, testOf_glb, opd_cmp1, again_cmp1, testOf_cmp1, opd_cmp2, again_cmp2, testOf_cmp2, opd_pop, again_pop, testOf_pop, opd_xop, again_xop, testOf_xop, testOf_nil, cmp_eq, cmp_ne, cmp_isin, cmp_notin, cmp_is, cmp_isnot, cmp_lt, cmp_le, cmp_gt, cmp_ge, cmp_ltT, inst_non_int, inst_non_bool, inst_non_tuple, inst_non_list, inst_non_dict, inst_non_str, inst_non_cls, inst_bl_int, inst_bl_bool, inst_bl_tuple, inst_bl_list, inst_bl_dict, inst_bl_str, inst_bl_cls, is_bl_non, inst_int_int, inst_int_bool, inst_int_tuple, inst_int_list, inst_int_dict, inst_int_str, inst_int_cls, is_int_non, inst_str_int, inst_str_bool, inst_str_tuple, inst_str_list, inst_str_dict, inst_str_str, inst_str_cls, is_str_non, inst_tup_int, inst_tup_bool, inst_tup_tuple, inst_tup_list, inst_tup_dict, inst_tup_str, inst_tup_cls, is_tup_non, inst_lst_int, inst_lst_bool, inst_lst_tuple, inst_lst_list, inst_lst_dict, inst_lst_str, inst_lst_cls, is_lst_non, inst_scr_int, inst_scr_bool, inst_scr_tuple, inst_scr_list, inst_scr_dict, inst_scr_str, inst_scr_cls, is_scr_non, inst_obj_int, inst_obj_bool, inst_obj_tuple, inst_obj_list, inst_obj_dict, inst_obj_str, is_obj_non, is_non_non, is_bl_bl, prim_len_l, prim_len_t, prim_all, prim_any, prim_sum, prim_tuple_l, prim_tuple_t, prim_list_l, prim_list_t, prim_sorted, prim_sset, prim_len_s, prim_abs, prim_min2, prim_max2, prim_min1, prim_max1, bin_addI, bin_subI, bin_mulI, bin_fdivI, bin_modI, bin_powI, bin_addL, bin_addT, bin_mulT, bin_mulL, ix_l, ix_t, ix_s, newO_l, newO_i, newO_t, newO_s, ofO_some, ownO_some, ofB_some, optI_nil, sl_l, sl_t, mut_own, mut_io, ioAt_zero, ioAt_succ, lstOf_lst, mutL_eq, setIx1_some, setIx0_some, setIx_eq, ioPut_own, ioPut_io, ioPut_succ, at2_0, at2_1, ixN2_0, ixN2_1, Option.isSome_some, Option.isSome_none, seqOf_l, seqOf_t, $ls,*])
def common_b1 : S := (.seq (.par 0 1 (.var 1) (.bin .mod (.var 0) (.var 1))) .nil)
def common_l1 : S := (.whl (.cmp .ne (.var 1) (.cst (.int 0))) common_b1)
def d_common : Def := { ps := 2, n := 2, io := [], body := (.seq common_l1 (.seq (.ret (.var 0)) .nil)) }
def d_lowest : Def := { ps := 2, n := 3, io := [], body := (.seq (.ite (.cmp .lt (.var 1) (.cst (.int 0))) (.seq (.par 0 1 (.bin .sub (.cst (.int 0)) (.var 0)) (.bin .sub (.cst (.int 0)) (.var 1))) .nil) .nil) (.seq (.asg 2 (.call "common" (.cons (.prm1 .abs (.var 0)) (.cons (.var 1) .nil)))) (.seq (.ret (.tup (.cons (.bin .fdiv (.var 0) (.var 2)) (.cons (.bin .fdiv (.var 1) (.var 2)) .nil)))) .nil))) }
def is_point_c1 : E := (.cmp1 [1] (.nm 1) (.itr (.var 0)) .nil (.call "is_whole" (.cons (.var 1) (.cons (.cst (.int 0)) (.cons (.cst (.int 99)) .nil)))))
theorem is_point_c1_o (m : Rho → Out CV) (ρ : Rho) : opd is_point_c1 m ρ = val m ρ := rfl
def d_is_point : Def := { ps := 1, n := 2, io := [], body := (.seq (.ret (.and (.isi (.var 0) .tuple) (.and (.cmp .eq (.prm1 .len (.var 0)) (.cst (.int 3))) (.prm1 .all is_point_c1)))) .nil) }
def is_way_c1 : E := (.cmp1 [1] (.nm 1) (.itr (.var 0)) .nil (.call "is_point" (.cons (.var 1) .nil)))
theorem is_way_c1_o (m : Rho → Out CV) (ρ : Rho) : opd is_way_c1 m ρ = val m ρ := rfl
def is_way_c2 : E := (.cmp1 [1, 2] (.tp [1, 2]) (.zip (.var 0) (.slc (.var 0) (.cst (.int 1)) .nil)) .nil (.cmp .lt (.ix (.var 1) (.cst (.int 0))) (.ix (.var 2) (.cst (.int 0)))))
theorem is_way_c2_o (m : Rho → Out CV) (ρ : Rho) : opd is_way_c2 m ρ = val m ρ := rfl
def d_is_way : Def := { ps := 1, n := 3, io := [], body := (.seq (.ite (.or (.not (.isi (.var 0) .tuple)) (.or (.not (.chn .le .le (.cst (.int 1)) (.prm1 .len (.var 0)) (.cst (.int 8)))) (.not (.prm1 .all is_way_c1)))) (.seq (.ret (.cst (.bl false))) .nil) .nil) (.seq (.ret (.prm1 .all is_way_c2)) .nil)) }
def d_need_way : Def := { ps := 1, n := 1, io := [], body := (.seq (.ite (.not (.call "is_way" (.cons (.var 0) .nil))) (.seq (.rse "NoWay") .nil) .nil) .nil) }
def place_b1 : S := (.seq (.ite (.cmp .eq (.bin .mul (.ix (.var 4) (.cst (.int 0))) (.var 3)) (.var 2)) (.seq (.ret (.tup (.cons (.tup (.cons (.ix (.var 4) (.cst (.int 1))) (.cons (.cst (.int 1)) .nil))) (.cons (.tup (.cons (.ix (.var 4) (.cst (.int 2))) (.cons (.cst (.int 1)) .nil))) .nil)))) .nil) .nil) .nil)
def place_l1 : S := (.for (.nm 4) (.itr (.var 0)) place_b1)
def place_b2 : S := (.seq (.ite (.chn .lt .lt (.bin .mul (.ix (.var 5) (.cst (.int 0))) (.var 3)) (.var 2) (.bin .mul (.ix (.var 6) (.cst (.int 0))) (.var 3))) (.seq (.par 7 8 (.bin .sub (.var 2) (.bin .mul (.ix (.var 5) (.cst (.int 0))) (.var 3))) (.bin .mul (.bin .sub (.ix (.var 6) (.cst (.int 0))) (.ix (.var 5) (.cst (.int 0)))) (.var 3))) (.seq (.ret (.tup (.cons (.call "lowest" (.cons (.bin .add (.bin .mul (.ix (.var 5) (.cst (.int 1))) (.var 8)) (.bin .mul (.bin .sub (.ix (.var 6) (.cst (.int 1))) (.ix (.var 5) (.cst (.int 1)))) (.var 7))) (.cons (.var 8) .nil))) (.cons (.call "lowest" (.cons (.bin .add (.bin .mul (.ix (.var 5) (.cst (.int 2))) (.var 8)) (.bin .mul (.bin .sub (.ix (.var 6) (.cst (.int 2))) (.ix (.var 5) (.cst (.int 2)))) (.var 7))) (.cons (.var 8) .nil))) .nil)))) .nil)) .nil) .nil)
def place_l2 : S := (.for (.tp [5, 6]) (.zip (.var 0) (.slc (.var 0) (.cst (.int 1)) .nil)) place_b2)
def d_place : Def := { ps := 2, n := 9, io := [], body := (.seq (.asgT [2, 3] (.var 1)) (.seq place_l1 (.seq place_l2 (.seq (.ret (.cst .non)) .nil)))) }
def place_at_c1 : E := (.cmp1 [2] (.nm 2) (.itr (.var 1)) .nil (.and (.isi (.var 2) .int) (.not (.isi (.var 2) .bool))))
theorem place_at_c1_o (m : Rho → Out CV) (ρ : Rho) : opd place_at_c1 m ρ = val m ρ := rfl
def d_place_at : Def := { ps := 2, n := 3, io := [], body := (.seq (.expr (.call "need_way" (.cons (.var 0) .nil))) (.seq (.ite (.or (.not (.isi (.var 1) .tuple)) (.cmp .ne (.prm1 .len (.var 1)) (.cst (.int 2)))) (.seq (.rse "NoMoment") .nil) .nil) (.seq (.ite (.not (.prm1 .all place_at_c1)) (.seq (.rse "NoMoment") .nil) .nil) (.seq (.ite (.or (.cmp .lt (.ix (.var 1) (.cst (.int 0))) (.cst (.int 0))) (.cmp .lt (.ix (.var 1) (.cst (.int 1))) (.cst (.int 1)))) (.seq (.rse "NoMoment") .nil) .nil) (.seq (.ret (.call "place" (.cons (.var 0) (.cons (.var 1) .nil)))) .nil))))) }
def _law_way_c1 : E := (.cmp1 [5] (.nm 5) (.rng1 (.bin .add (.cst (.int 1)) (.call "_law_draw" (.cons (.var 0) (.cons (.ref 1) (.cons (.var 2) .nil)))))) .nil (.call "_law_draw" (.cons (.var 0) (.cons (.ref 1) (.cons (.cst (.int 9)) .nil)))))
theorem _law_way_c1_o (m : Rho → Out CV) (ρ : Rho) : opd _law_way_c1 m ρ = val m ρ := rfl
def _law_way_c2 : E := (.cmp1 [6] (.nm 6) (.itr (.var 4)) .nil (.tup (.cons (.var 6) (.cons (.call "_law_draw" (.cons (.var 0) (.cons (.ref 1) (.cons (.var 3) .nil)))) (.cons (.call "_law_draw" (.cons (.var 0) (.cons (.ref 1) (.cons (.var 3) .nil)))) .nil)))))
theorem _law_way_c2_o (m : Rho → Out CV) (ρ : Rho) : opd _law_way_c2 m ρ = val m ρ := rfl
def d__law_way : Def := { ps := 4, n := 7, io := [1], body := (.seq (.asg 4 (.prm1 .sortedSet _law_way_c1)) (.seq (.ret (.prm1 .tuple _law_way_c2)) .nil)) }
def d__law_same : Def := { ps := 2, n := 2, io := [], body := (.seq (.ret (.cmp .eq (.bin .mul (.ix (.var 0) (.cst (.int 0))) (.ix (.var 1) (.cst (.int 1)))) (.bin .mul (.ix (.var 1) (.cst (.int 0))) (.ix (.var 0) (.cst (.int 1)))))) .nil) }
def _law_lowest_b1 : S := (.seq (.par 1 2 (.var 2) (.bin .mod (.var 1) (.var 2))) .nil)
def _law_lowest_l1 : S := (.whl (.cmp .ne (.var 2) (.cst (.int 0))) _law_lowest_b1)
def d__law_lowest : Def := { ps := 1, n := 3, io := [], body := (.seq (.ite (.or (.not (.isi (.var 0) .tuple)) (.or (.cmp .ne (.prm1 .len (.var 0)) (.cst (.int 2))) (.cmp .lt (.ix (.var 0) (.cst (.int 1))) (.cst (.int 1))))) (.seq (.ret (.cst (.bl false))) .nil) .nil) (.seq (.par 1 2 (.prm1 .abs (.ix (.var 0) (.cst (.int 0)))) (.ix (.var 0) (.cst (.int 1)))) (.seq _law_lowest_l1 (.seq (.ret (.cmp .eq (.var 1) (.cst (.int 1)))) .nil)))) }
def _law_at_b1 : S := (.seq (.ite (.chn .le .le (.bin .mul (.ix (.var 3) (.cst (.int 0))) (.var 2)) (.var 1) (.bin .mul (.ix (.var 4) (.cst (.int 0))) (.var 2))) (.seq (.asg 5 (.bin .mul (.bin .sub (.ix (.var 4) (.cst (.int 0))) (.ix (.var 3) (.cst (.int 0)))) (.var 2))) (.seq (.asg 6 (.bin .sub (.var 1) (.bin .mul (.ix (.var 3) (.cst (.int 0))) (.var 2)))) (.seq (.ret (.tup (.cons (.bin .add (.bin .mul (.ix (.var 3) (.cst (.int 1))) (.bin .sub (.var 5) (.var 6))) (.bin .mul (.ix (.var 4) (.cst (.int 1))) (.var 6))) (.cons (.bin .add (.bin .mul (.ix (.var 3) (.cst (.int 2))) (.bin .sub (.var 5) (.var 6))) (.bin .mul (.ix (.var 4) (.cst (.int 2))) (.var 6))) (.cons (.var 5) .nil))))) .nil))) .nil) .nil)
def _law_at_l1 : S := (.for (.tp [3, 4]) (.zip (.var 0) (.slc (.var 0) (.cst (.int 1)) .nil)) _law_at_b1)
def d__law_at : Def := { ps := 3, n := 7, io := [], body := (.seq _law_at_l1 (.seq (.ite (.cmp .eq (.bin .mul (.ix (.ix (.var 0) (.cst (.int 0))) (.cst (.int 0))) (.var 2)) (.var 1)) (.seq (.ret (.tup (.cons (.ix (.ix (.var 0) (.cst (.int 0))) (.cst (.int 1))) (.cons (.ix (.ix (.var 0) (.cst (.int 0))) (.cst (.int 2))) (.cons (.cst (.int 1)) .nil))))) .nil) .nil) (.seq (.ret (.cst .non)) .nil))) }
/-! ### the greatest number that goes into both -/
theorem fmod_nat (a b : Nat) : Int.fmod (a : Int) (b : Int) = ((a % b : Nat) : Int) := by
  rw [Int.fmod_eq_emod_of_nonneg _ (by omega)]
  simp
theorem isEq_nat0 (b : Nat) : isEq (.int (b : Int)) (.int 0) = some (decide (b = 0)) := by
  rw [isEq_int]
  by_cases h : b = 0
  · subst h; rfl
  · have : ¬ ((b : Int) = 0) := by omega
    simp [h, this]
theorem common_loop {Γ : Tab} : ∀ (n a b : Nat), b < n → whileL (den Γ (.cmp .ne (.var 1) (.cst (.int 0)))) (denS Γ common_b1) n [.val (.int a), .val (.int b)] = .next [.val (.int (Nat.gcd a b : Nat)), .val (.int 0)]
  | 0, _, _, h => absurd h (Nat.not_lt_zero _)
  | n + 1, a, b, h => by
    cases b with
    | zero =>
      simp only [whileL]
      simp_arith [Int.natCast_zero, isEq_int, decide_true, Option.map_some, Nat.gcd_zero_right]
    | succ b =>
      have ih := common_loop (Γ := Γ) n (b + 1) (a % (b + 1)) (by have := Nat.mod_lt a (show 0 < b + 1 by omega); omega)
      have e1 : isEq (.int ((b + 1 : Nat) : Int)) (.int 0) = some false := by rw [isEq_nat0]; simp
      have hz : (((b + 1 : Nat) : Int) ≠ 0) = True := by simp; omega
      rw [Nat.gcd_comm (b + 1) (a % (b + 1)), ← Nat.gcd_rec, Nat.gcd_comm (b + 1) a] at ih
      have eb : denS Γ common_b1 [.val (.int (a : Int)), .val (.int ((b + 1 : Nat) : Int))] = .next [.val (.int ((b + 1 : Nat) : Int)), .val (.int ((a % (b + 1) : Nat) : Int))] := by
        unfold common_b1
        simp_arith [hz, fmod_nat, Nat.reduceBNe]
      have ec : val (den Γ (.cmp .ne (.var 1) (.cst (.int 0)))) [.val (.int (a : Int)), .val (.int ((b + 1 : Nat) : Int))] = .ok (.bl true) [.val (.int (a : Int)), .val (.int ((b + 1 : Nat) : Int))] := by
        simp_arith [e1]
      simp only [whileL, ec, Out.fl_ok, eb]
      exact ih
def CommonOk (Γ : Tab) : Prop := ∀ a b : Nat, b < 100000 → CallsIo Γ "common" [] [.int a, .int b] (.ok (.val (.int (Nat.gcd a b : Nat))) [])
theorem common_ok {Γ Γ' : Tab} (hf : Γ.fuel = 1000000) (h : Γ'.fn "common" = some ⟨d_common.ps, d_common.io, d_common.run Γ⟩) : CommonOk Γ' := fun a b hb => calls_of h rfl rfl (by
  have e : denS Γ common_l1 [.val (.int a), .val (.int b)] = .next [.val (.int (Nat.gcd a b : Nat)), .val (.int 0)] := by
    unfold common_l1
    show whileL _ _ Γ.fuel _ = _
    rw [hf]
    exact common_loop _ a b (by omega)
  unfold d_common
  simp_arith [e])
/-- v is the fraction u / l in lowest terms -/
structure Low (u l a b : Int) : Prop where
  pos : 1 ≤ b
  low : Nat.gcd a.natAbs b.natAbs = 1
  eq : a * l = u * b
  small : b ≤ l
def LowestOk (Γ : Tab) : Prop := ∀ u l : Int, 1 ≤ l → l < 100000 → ∃ a b : Int, Low u l a b ∧ CallsIo Γ "lowest" [] [.int u, .int l] (.ok (.val (.tup [.int a, .int b])) [])
theorem abs_nat (u : Int) : (if u < 0 then -u else u) = (u.natAbs : Int) := by split <;> omega
theorem lowest_ok {Γ Γ' : Tab} (hc : CommonOk Γ) (h : Γ'.fn "lowest" = some ⟨d_lowest.ps, d_lowest.io, d_lowest.run Γ⟩) : LowestOk Γ' := fun u l h1 h2 => by
  obtain ⟨m, rfl⟩ : ∃ m : Nat, l = m := ⟨l.toNat, by omega⟩
  have c1 := hc u.natAbs m (by omega)
  have hm : 0 < m := by omega
  have hg : 0 < Nat.gcd u.natAbs m := Nat.gcd_pos_of_pos_right _ hm
  have d1 : (Nat.gcd u.natAbs m) ∣ u.natAbs := Nat.gcd_dvd_left ..
  have d2 : (Nat.gcd u.natAbs m) ∣ m := Nat.gcd_dvd_right ..
  have gle : Nat.gcd u.natAbs m ≤ m := Nat.gcd_le_right _ hm
  have du : ((Nat.gcd u.natAbs m : Nat) : Int) ∣ u := Int.ofNat_dvd_left.mpr d1
  obtain ⟨a, ha⟩ := du
  obtain ⟨b, hb⟩ := d2
  refine ⟨a, b, ⟨?_, ?_, ?_, ?_⟩, calls_of h rfl rfl ?_⟩
  · have : b ≠ 0 := fun z => by rw [z] at hb; omega
    omega
  · have e1 : u.natAbs = Nat.gcd u.natAbs m * a.natAbs := by
      have := congrArg Int.natAbs ha
      rw [Int.natAbs_mul] at this
      simpa using this
    have e2 := Nat.gcd_div_gcd_div_gcd_of_pos_right (n := u.natAbs) hm
    have q1 : u.natAbs / Nat.gcd u.natAbs m = a.natAbs := by
      rw [Nat.div_eq_of_eq_mul_right hg e1]
    have q2 : m / Nat.gcd u.natAbs m = b := by
      rw [Nat.div_eq_of_eq_mul_right hg hb]
    rw [q1, q2] at e2
    simpa using e2
  · have hb' : (m : Int) = (Nat.gcd u.natAbs m : Nat) * (b : Int) := by
      have := congrArg (fun n : Nat => (n : Int)) hb
      simpa using this
    calc a * (m : Int) = a * (((Nat.gcd u.natAbs m : Nat) : Int) * b) := by rw [← hb']
      _ = (((Nat.gcd u.natAbs m : Nat) : Int) * a) * b := by rw [← Int.mul_assoc, Int.mul_comm a]
      _ = u * b := by rw [← ha]
  · have : b ≤ m := by
      rw [hb]
      exact Nat.le_mul_of_pos_left b hg
    omega
  · have n0 : decide ((m : Int) < 0) = false := by simp
    have gz : (((Nat.gcd u.natAbs m : Nat) : Int) ≠ 0 ∧ ((Nat.gcd u.natAbs m : Nat) : Int).natAbs < 1073741824) = True := by
      simp only [eq_iff_iff, iff_true]
      omega
    have f1 : Int.fdiv u (Nat.gcd u.natAbs m : Nat) = a := by
      rw [Int.fdiv_eq_ediv_of_nonneg _ (by omega)]
      conv => lhs; lhs; rw [ha]
      exact Int.mul_ediv_cancel_left a (by omega)
    have f2 : Int.fdiv (m : Int) (Nat.gcd u.natAbs m : Nat) = b := by
      rw [Int.fdiv_eq_ediv_of_nonneg _ (by omega)]
      have hb' : (m : Int) = (Nat.gcd u.natAbs m : Nat) * (b : Int) := by
        have := congrArg (fun n : Nat => (n : Int)) hb
        simpa using this
      conv => lhs; lhs; rw [hb']
      exact Int.mul_ediv_cancel_left _ (by omega)
    unfold d_lowest
    simp_arith [n0, abs_nat, callV c1, argsN, isRef, gz, f1, f2, SL]
/-! ### ways -/
structure Pt where
  m : Int
  x : Int
  y : Int
def Pt.enc (p : Pt) : D := .tup [.int p.m, .int p.x, .int p.y]
def encW (W : List Pt) : D := .tup (W.map Pt.enc)
structure PtZ (p : Pt) : Prop where
  m : 0 ≤ p.m ∧ p.m ≤ 99
  x : 0 ≤ p.x ∧ p.x ≤ 99
  y : 0 ≤ p.y ∧ p.y ≤ 99
structure WayZ (W : List Pt) : Prop where
  pos : 1 ≤ W.length
  len : W.length ≤ 8
  pts : ∀ p ∈ W, PtZ p
  inc : W.Pairwise (fun p q => p.m < q.m)
def IsPointOk (Γ : Tab) : Prop := ∀ p : Pt, PtZ p → CallsIo Γ "is_point" [] [p.enc] (.ok (.val (.bl true)) [])
theorem is_point_ok {Γ Γ' : Tab} (hw : WholeOk Γ) (h : Γ'.fn "is_point" = some ⟨d_is_point.ps, d_is_point.io, d_is_point.run Γ⟩) : IsPointOk Γ' := fun p hp => calls_of h rfl rfl (by
  have w : ∀ i : Int, 0 ≤ i ∧ i ≤ 99 → isWhole (.int i) 0 99 = true := fun i hi => by simp [isWhole, hi]
  have cc : den Γ is_point_c1 [.val p.enc, .un] = .ok (.own (.lst [.bl true, .bl true, .bl true])) [.val p.enc, .un] := by
    have e1 : [D.bl true, .bl true, .bl true] = [D.int p.m, .int p.x, .int p.y].flatMap fun x => [.bl (isWhole x 0 99)] := by
      simp [w _ hp.m, w _ hp.x, w _ hp.y]
    rw [e1]
    refine den_cmp1 (xs := [.int p.m, .int p.x, .int p.y]) (lk := none) (ρ' := [.val p.enc, .un]) _ rfl rfl rfl rfl fun x hx => ?_
    refine ⟨[.val p.enc, .val x], rfl, ?_⟩
    have hx : pln x := by
      simp only [List.mem_cons, List.not_mem_nil, or_false] at hx
      rcases hx with rfl | rfl | rfl <;> rfl
    simp_arith [callV (hw x 0 99 hx), argsN, isRef]
  have pa : prim .all [.lst [.bl true, .bl true, .bl true]] = some (.bl true) := rfl
  have i3 : isEq (.int ((0 + 1 + 1 + 1 : Nat) : Int)) (.int 3) = some true := rfl
  simp only [Pt.enc] at cc ⊢
  unfold d_is_point
  simp_arith [i3, is_point_c1_o, cc, pa])
def IsWayOk (Γ : Tab) : Prop := ∀ W, WayZ W → CallsIo Γ "is_way" [] [encW W] (.ok (.val (.bl true)) [])
theorem all_trues {xs : List D} {f : D → List D} (h : ∀ x ∈ xs, f x = [.bl true]) : prim .all [.lst (xs.flatMap f)] = some (.bl true) := by
  have e : xs.flatMap f = xs.map fun _ => D.bl true := by
    induction xs with
    | nil => rfl
    | cons x xs ih =>
      rw [List.flatMap_cons, h x (by simp), ih fun y hy => h y (List.mem_cons_of_mem _ hy)]
      rfl
  rw [e, prim_all]
  have : ∀ l : List D, bools (l.map fun _ => D.bl true) = some (l.map fun _ => true) := by
    intro l
    induction l with
    | nil => rfl
    | cons a l ih => simp [bools, ih]
  rw [this]
  simp
theorem cut_one (xs : List D) : cut xs (some 1) none = xs.drop 1 := by
  unfold cut sEnd
  cases xs with
  | nil => rfl
  | cons x xs => simp
theorem zip_mem : ∀ {W : List Pt} {d : D}, d ∈ zipL (W.map Pt.enc) ((W.map Pt.enc).drop 1) → ∃ (i : Nat) (p q : Pt), W[i]? = some p ∧ W[i + 1]? = some q ∧ d = .tup [p.enc, q.enc]
  | [], d, h => by simp [zipL] at h
  | [p], d, h => by simp [zipL] at h
  | p :: q :: W, d, h => by
    simp only [List.map_cons, List.drop_succ_cons, List.drop_zero, zipL, List.mem_cons] at h
    rcases h with rfl | h
    · exact ⟨0, p, q, rfl, rfl, rfl⟩
    · obtain ⟨i, p', q', h1, h2, h3⟩ := zip_mem (W := q :: W) (d := d) (by simpa using h)
      exact ⟨i + 1, p', q', by simpa using h1, by simpa using h2, h3⟩
theorem zip_at : ∀ {W : List Pt} {i : Nat} {d : D}, (zipL (W.map Pt.enc) ((W.map Pt.enc).drop 1))[i]? = some d → ∃ p q : Pt, W[i]? = some p ∧ W[i + 1]? = some q ∧ d = .tup [p.enc, q.enc]
  | [], i, d, h => by simp [zipL] at h
  | [p], i, d, h => by simp [zipL] at h
  | p :: q :: W, 0, d, h => by
    simp only [List.map_cons, List.drop_succ_cons, List.drop_zero, zipL, List.getElem?_cons_zero, Option.some.injEq] at h
    exact ⟨p, q, rfl, rfl, h.symm⟩
  | p :: q :: W, i + 1, d, h => by
    obtain ⟨p', q', h1, h2, h3⟩ := zip_at (W := q :: W) (i := i) (d := d) (by simpa [zipL] using h)
    exact ⟨p', q', by simpa using h1, by simpa using h2, h3⟩
theorem zip_len : ∀ W : List Pt, (zipL (W.map Pt.enc) ((W.map Pt.enc).drop 1)).length = W.length - 1
  | [] => rfl
  | [p] => rfl
  | p :: q :: W => by
    have := zip_len (q :: W)
    simp only [List.map_cons, List.drop_succ_cons, List.drop_zero, zipL, List.length_cons] at this ⊢
    omega
theorem inc_at {W : List Pt} (h : W.Pairwise (fun p q => p.m < q.m)) {i j : Nat} {p q : Pt} (hi : W[i]? = some p) (hj : W[j]? = some q) (hij : i < j) : p.m < q.m := by
  obtain ⟨h1, rfl⟩ := List.getElem?_eq_some_iff.mp hi
  obtain ⟨h2, rfl⟩ := List.getElem?_eq_some_iff.mp hj
  exact List.pairwise_iff_getElem.mp h i j h1 h2 hij
theorem is_way_ok {Γ Γ' : Tab} (hp : IsPointOk Γ) (h : Γ'.fn "is_way" = some ⟨d_is_way.ps, d_is_way.io, d_is_way.run Γ⟩) : IsWayOk Γ' := fun W hW => calls_of h rfl rfl (by
  have c1 : den Γ is_way_c1 [.val (encW W), .un, .un] = .ok (.own (.lst ((W.map Pt.enc).flatMap fun _ => [.bl true]))) [.val (encW W), .un, .un] := by
    refine den_cmp1 (xs := W.map Pt.enc) (lk := none) (ρ' := [.val (encW W), .un, .un]) _ rfl rfl rfl rfl fun x hx => ?_
    obtain ⟨p, hp', rfl⟩ := List.mem_map.mp hx
    refine ⟨[.val (encW W), .val p.enc, .un], rfl, ?_⟩
    simp_arith [callV (hp p (hW.pts p hp')), argsN, isRef]
  have p1 := all_trues (xs := W.map Pt.enc) (f := fun _ => [.bl true]) fun _ _ => rfl
  have c2 : den Γ is_way_c2 [.val (encW W), .un, .un] = .ok (.own (.lst ((zipL (W.map Pt.enc) ((W.map Pt.enc).drop 1)).flatMap fun _ => [.bl true]))) [.val (encW W), .un, .un] := by
    refine den_cmp1 (xs := zipL (W.map Pt.enc) ((W.map Pt.enc).drop 1)) (lk := none) (ρ' := [.val (encW W), .un, .un]) _ (by
      simp only [encW]
      simp_arith [iterOf, optI_cst, cut_one]) rfl rfl rfl fun x hx => ?_
    obtain ⟨i, p, q, h1, h2, rfl⟩ := zip_mem hx
    refine ⟨[.val (encW W), .val p.enc, .val q.enc], rfl, ?_⟩
    have lt : decide (p.m < q.m) = true := decide_eq_true (inc_at hW.inc h1 h2 (Nat.lt_succ_self i))
    have a0 : ∀ p : Pt, ixD p.enc (.int 0) = some (.int p.m) := fun p => rfl
    simp_arith [a0, lt]
  have p2 := all_trues (xs := zipL (W.map Pt.enc) ((W.map Pt.enc).drop 1)) (f := fun _ => [.bl true]) fun _ _ => rfl
  have l1 : decide ((1 : Int) ≤ ((W.length : Nat) : Int)) = true := by have := hW.pos; simp; omega
  have l2 : decide (((W.length : Nat) : Int) ≤ 8) = true := by have := hW.len; simp; omega
  simp only [encW] at c1 c2 ⊢
  unfold d_is_way
  simp_arith [List.length_map, l1, l2, is_way_c1_o, c1, p1, is_way_c2_o, c2, p2])
def NeedWayOk (Γ : Tab) : Prop := ∀ W, WayZ W → CallsIo Γ "need_way" [] [encW W] (.ok (.val .non) [])
theorem need_way_ok {Γ Γ' : Tab} (hw : IsWayOk Γ) (h : Γ'.fn "need_way" = some ⟨d_need_way.ps, d_need_way.io, d_need_way.run Γ⟩) : NeedWayOk Γ' := fun W hW => calls_of h rfl rfl (by
  unfold d_need_way
  simp_arith [callV (hw W hW), argsN, isRef])
/-! ### where a way is -/
/-- what place tells of the moment u / l -/
inductive PlaceR (W : List Pt) (u l : Int) : D → Prop
  | at (i : Nat) (p : Pt) : W[i]? = some p → p.m * l = u → PlaceR W u l (.tup [.tup [.int p.x, .int 1], .tup [.int p.y, .int 1]])
  | btw (i : Nat) (p q : Pt) (a b c d : Int) : W[i]? = some p → W[i + 1]? = some q → p.m * l < u → u < q.m * l → Low (p.x * ((q.m - p.m) * l) + (q.x - p.x) * (u - p.m * l)) ((q.m - p.m) * l) a b → Low (p.y * ((q.m - p.m) * l) + (q.y - p.y) * (u - p.m * l)) ((q.m - p.m) * l) c d →
      PlaceR W u l (.tup [.tup [.int a, .int b], .tup [.int c, .int d]])
  | none : (∀ (i : Nat) (p : Pt), W[i]? = some p → p.m * l ≠ u) → (∀ (i : Nat) (p q : Pt), W[i]? = some p → W[i + 1]? = some q → ¬(p.m * l < u ∧ u < q.m * l)) → PlaceR W u l .non
def PlaceOk (Γ : Tab) : Prop := ∀ (W : List Pt) (u l : Int), WayZ W → 0 ≤ u → u < 1000000 → 1 ≤ l → l < 1000 → ∃ v, PlaceR W u l v ∧ CallsIo Γ "place" [] [encW W, .tup [.int u, .int l]] (.ok (.val v) [])
theorem mul_sm {a b : Int} (h : a.natAbs < 2 ^ 64) : mulOk a b = true := by
  have : decide (a.natAbs < 2 ^ 64) = true := by simp only [decide_eq_true_eq]; exact h
  simp only [mulOk, this, Bool.true_or]
def VUw (c : Cell) : Prop := c = .un ∨ ∃ d, c = .val d
theorem pt_ix (p : Pt) : ixD p.enc (.int 0) = some (.int p.m) ∧ ixD p.enc (.int 1) = some (.int p.x) ∧ ixD p.enc (.int 2) = some (.int p.y) := ⟨rfl, rfl, rfl⟩
theorem place_ok {Γ Γ' : Tab} (hl : LowestOk Γ) (h : Γ'.fn "place" = some ⟨d_place.ps, d_place.io, d_place.run Γ⟩) : PlaceOk Γ' := fun W u l hW hu0 hu1 hl0 hl1 => by
  have pm : ∀ {i : Nat} {p : Pt}, W[i]? = some p → PtZ p := fun hi => hW.pts _ (List.mem_of_getElem? hi)
  -- the points
  have loop1 : (∃ c4, VUw c4 ∧ denS Γ place_l1 [.val (encW W), .val (.tup [.int u, .int l]), .val (.int u), .val (.int l), .un, .un, .un, .un, .un] = .next [.val (encW W), .val (.tup [.int u, .int l]), .val (.int u), .val (.int l), c4, .un, .un, .un, .un] ∧ ∀ (i : Nat) (p : Pt), W[i]? = some p → p.m * l ≠ u)
      ∨ ∃ v ρ', PlaceR W u l v ∧ denS Γ place_l1 [.val (encW W), .val (.tup [.int u, .int l]), .val (.int u), .val (.int l), .un, .un, .un, .un, .un] = .ret (.val v) ρ' := by
    unfold place_l1
    rw [den_for (d := encW W) (xs := W.map Pt.enc) rfl rfl]
    rcases forL_ret (tg := .nm 4) (f := denS Γ place_b1) (fun j ρ => (∃ c4, VUw c4 ∧ ρ = [.val (encW W), .val (.tup [.int u, .int l]), .val (.int u), .val (.int l), c4, .un, .un, .un, .un]) ∧ ∀ (i : Nat) (p : Pt), i < j → W[i]? = some p → p.m * l ≠ u) (fun cv _ => ∃ v, PlaceR W u l v ∧ cv = .val v) (W.map Pt.enc) 0 [.val (encW W), .val (.tup [.int u, .int l]), .val (.int u), .val (.int l), .un, .un, .un, .un, .un] (by
      rintro j x ρ hj ⟨⟨c4, h4, rfl⟩, hn⟩
      rw [Nat.zero_add] at hn ⊢
      rw [List.getElem?_map] at hj
      obtain ⟨p, hp, rfl⟩ := Option.map_eq_some_iff.mp hj
      obtain ⟨a0, a1, a2⟩ := pt_ix p
      have z := pm hp
      have mo : mulOk p.m l = true := mul_sm (by have := z.m; omega)
      refine ⟨[.val (encW W), .val (.tup [.int u, .int l]), .val (.int u), .val (.int l), .val p.enc, .un, .un, .un, .un], by rcases h4 with rfl | ⟨d, rfl⟩ <;> rfl, ?_⟩
      unfold place_b1
      cases e : decide (p.m * l = u) with
      | true => exact .inr ⟨.val _, _, (by simp_arith [a0, a1, a2, mo, isEq_int, e, SL]; rfl), _, .at j p hp (of_decide_eq_true e), rfl⟩
      | false =>
        refine .inl ⟨_, .inl (by simp_arith [a0, a1, a2, mo, isEq_int, e]; rfl), ⟨_, .inr ⟨_, rfl⟩, rfl⟩, fun i p' hi hp' => ?_⟩
        rcases Nat.lt_or_ge i j with q | q
        · exact hn i p' q hp'
        · have : i = j := by omega
          subst this
          rw [hp] at hp'
          cases hp'
          exact of_decide_eq_false e) ⟨⟨.un, .inl rfl, rfl⟩, fun i p hi => absurd hi (Nat.not_lt_zero _)⟩ with ⟨ρ', e, ⟨c4, h4, rfl⟩, hn⟩ | ⟨cv, ρ', e, v, hv, rfl⟩
    · refine .inl ⟨c4, h4, e, fun i p hp => hn i p ?_ hp⟩
      rw [Nat.zero_add, List.length_map]
      exact (List.getElem?_eq_some_iff.mp hp).1
    · exact .inr ⟨v, ρ', hv, e⟩
  rcases loop1 with ⟨c4, h4, e1, hn⟩ | ⟨v, ρ', hv, e1⟩
  rotate_left
  · refine ⟨v, hv, calls_of h rfl rfl ?_⟩
    have bt : bindT (.tp [2, 3]) (.tup [.int u, .int l]) [.val (encW W), .val (.tup [.int u, .int l]), .un, .un, .un, .un, .un, .un, .un] = some [.val (encW W), .val (.tup [.int u, .int l]), .val (.int u), .val (.int l), .un, .un, .un, .un, .un] := rfl
    unfold d_place
    simp_arith [frees, free, bt, e1, Bool.and_self]
  -- between the points
  have loop2 : (∃ ρ', denS Γ place_l2 [.val (encW W), .val (.tup [.int u, .int l]), .val (.int u), .val (.int l), c4, .un, .un, .un, .un] = .next ρ' ∧ ∀ (i : Nat) (p q : Pt), W[i]? = some p → W[i + 1]? = some q → ¬(p.m * l < u ∧ u < q.m * l))
      ∨ ∃ v ρ', PlaceR W u l v ∧ denS Γ place_l2 [.val (encW W), .val (.tup [.int u, .int l]), .val (.int u), .val (.int l), c4, .un, .un, .un, .un] = .ret (.val v) ρ' := by
    unfold place_l2
    have hi : val (den Γ (.zip (.var 0) (.slc (.var 0) (.cst (.int 1)) .nil))) [.val (encW W), .val (.tup [.int u, .int l]), .val (.int u), .val (.int l), c4, .un, .un, .un, .un] = .ok (.lst (zipL (W.map Pt.enc) ((W.map Pt.enc).drop 1))) [.val (encW W), .val (.tup [.int u, .int l]), .val (.int u), .val (.int l), c4, .un, .un, .un, .un] := by
      simp only [encW]
      simp_arith [optI_cst, cut_one]
    rw [den_for hi rfl]
    rcases forL_ret (tg := .tp [5, 6]) (f := denS Γ place_b2) (fun j ρ => (∃ c5 c6, VUw c5 ∧ VUw c6 ∧ ρ = [.val (encW W), .val (.tup [.int u, .int l]), .val (.int u), .val (.int l), c4, c5, c6, .un, .un]) ∧ ∀ (i : Nat) (p q : Pt), i < j → W[i]? = some p → W[i + 1]? = some q → ¬(p.m * l < u ∧ u < q.m * l)) (fun cv _ => ∃ v, PlaceR W u l v ∧ cv = .val v) (zipL (W.map Pt.enc) ((W.map Pt.enc).drop 1)) 0 [.val (encW W), .val (.tup [.int u, .int l]), .val (.int u), .val (.int l), c4, .un, .un, .un, .un] (by
      rintro j x ρ hj ⟨⟨c5, c6, h5, h6, rfl⟩, hn⟩
      rw [Nat.zero_add] at hn ⊢
      obtain ⟨p, q, hp, hq, rfl⟩ := zip_at hj
      obtain ⟨a0, a1, a2⟩ := pt_ix p
      obtain ⟨b0, b1, b2⟩ := pt_ix q
      have z := pm hp
      have z' := pm hq
      have lt := inc_at hW.inc hp hq (Nat.lt_succ_self j)
      have mo : mulOk p.m l = true := mul_sm (by have := z.m; omega)
      have mo' : mulOk q.m l = true := mul_sm (by have := z'.m; omega)
      have mo2 : mulOk (q.m - p.m) l = true := mul_sm (by have := z'.m; have := z.m; omega)
      have mx : ∀ b, mulOk p.x b = true := fun b => mul_sm (by have := z.x; omega)
      have my : ∀ b, mulOk p.y b = true := fun b => mul_sm (by have := z.y; omega)
      have mx2 : ∀ b, mulOk (q.x - p.x) b = true := fun b => mul_sm (by have := z.x; have := z'.x; omega)
      have my2 : ∀ b, mulOk (q.y - p.y) b = true := fun b => mul_sm (by have := z.y; have := z'.y; omega)
      have w1 : 1 ≤ (q.m - p.m) * l := by
        have : 1 * 1 ≤ (q.m - p.m) * l := Int.mul_le_mul (by omega) hl0 (by omega) (by omega)
        omega
      have w2 : (q.m - p.m) * l < 100000 := by
        have : (q.m - p.m) * l ≤ 99 * 999 := Int.mul_le_mul (by have := z'.m; have := z.m; omega) (by omega) (by omega) (by omega)
        omega
      obtain ⟨a, b, lo1, k1⟩ := hl (p.x * ((q.m - p.m) * l) + (q.x - p.x) * (u - p.m * l)) _ w1 w2
      obtain ⟨c, d, lo2, k2⟩ := hl (p.y * ((q.m - p.m) * l) + (q.y - p.y) * (u - p.m * l)) _ w1 w2
      refine ⟨[.val (encW W), .val (.tup [.int u, .int l]), .val (.int u), .val (.int l), c4, .val p.enc, .val q.enc, .un, .un], by rcases h5 with rfl | ⟨d, rfl⟩ <;> rcases h6 with rfl | ⟨d', rfl⟩ <;> rfl, ?_⟩
      unfold place_b2
      have keep : (¬(p.m * l < u ∧ u < q.m * l)) → ∀ (i : Nat) (p' q' : Pt), i < j + 1 → W[i]? = some p' → W[i + 1]? = some q' → ¬(p'.m * l < u ∧ u < q'.m * l) := fun hh i p' q' hi hp' hq' => by
        rcases Nat.lt_or_ge i j with y | y
        · exact hn i p' q' y hp' hq'
        · have : i = j := by omega
          subst this
          rw [hp] at hp'
          rw [hq] at hq'
          cases hp'
          cases hq'
          exact hh
      cases e : decide (p.m * l < u) with
      | false => exact .inl ⟨_, .inl (by simp_arith [a0, b0, mo, e]; rfl), ⟨_, _, .inr ⟨_, rfl⟩, .inr ⟨_, rfl⟩, rfl⟩, keep fun hh => of_decide_eq_false e hh.1⟩
      | true =>
        cases e2 : decide (u < q.m * l) with
        | false => exact .inl ⟨_, .inl (by simp_arith [a0, b0, mo, mo', e, e2]; rfl), ⟨_, _, .inr ⟨_, rfl⟩, .inr ⟨_, rfl⟩, rfl⟩, keep fun hh => of_decide_eq_false e2 hh.2⟩
        | true => exact .inr ⟨.val _, _, (by simp_arith [a0, a1, a2, b0, b1, b2, mo, mo', e, e2, mo2, Nat.reduceBNe, mx, my, mx2, my2, callV k1, callV k2, argsN, isRef, SL]; rfl), _, .btw j p q a b c d hp hq (of_decide_eq_true e) (of_decide_eq_true e2) lo1 lo2, rfl⟩) ⟨⟨.un, .un, .inl rfl, .inl rfl, rfl⟩, fun i p q hi => absurd hi (Nat.not_lt_zero _)⟩ with ⟨ρ', e, _, hn⟩ | ⟨cv, ρ', e, v, hv, rfl⟩
    · refine .inl ⟨ρ', e, fun i p q hp hq => hn i p q ?_ hp hq⟩
      rw [Nat.zero_add, zip_len]
      have := (List.getElem?_eq_some_iff.mp hq).1
      omega
    · exact .inr ⟨v, ρ', hv, e⟩
  have bt : bindT (.tp [2, 3]) (.tup [.int u, .int l]) [.val (encW W), .val (.tup [.int u, .int l]), .un, .un, .un, .un, .un, .un, .un] = some [.val (encW W), .val (.tup [.int u, .int l]), .val (.int u), .val (.int l), .un, .un, .un, .un, .un] := rfl
  rcases loop2 with ⟨ρ', e2, hn2⟩ | ⟨v, ρ', hv, e2⟩
  · refine ⟨.non, .none hn hn2, calls_of h rfl rfl ?_⟩
    unfold d_place
    simp_arith [frees, free, bt, e1, e2, Bool.and_self]
  · refine ⟨v, hv, calls_of h rfl rfl ?_⟩
    unfold d_place
    simp_arith [frees, free, bt, e1, e2, Bool.and_self]
def PlaceAtOk (Γ : Tab) : Prop := ∀ (W : List Pt) (u l : Int), WayZ W → 0 ≤ u → u < 1000000 → 1 ≤ l → l < 1000 → ∃ v, PlaceR W u l v ∧ CallsIo Γ "place_at" [] [encW W, .tup [.int u, .int l]] (.ok (.val v) [])
theorem place_at_ok {Γ Γ' : Tab} (hn : NeedWayOk Γ) (hp : PlaceOk Γ) (h : Γ'.fn "place_at" = some ⟨d_place_at.ps, d_place_at.io, d_place_at.run Γ⟩) : PlaceAtOk Γ' := fun W u l hW hu0 hu1 hl0 hl1 => by
  obtain ⟨v, hv, c⟩ := hp W u l hW hu0 hu1 hl0 hl1
  refine ⟨v, hv, calls_of h rfl rfl ?_⟩
  have cc : den Γ place_at_c1 [.val (encW W), .val (.tup [.int u, .int l]), .un] = .ok (.own (.lst [.bl true, .bl true])) [.val (encW W), .val (.tup [.int u, .int l]), .un] := by
    have e1 : [D.bl true, .bl true] = [D.int u, .int l].flatMap fun _ => [.bl true] := rfl
    rw [e1]
    refine den_cmp1 (xs := [.int u, .int l]) (lk := none) (ρ' := [.val (encW W), .val (.tup [.int u, .int l]), .un]) _ rfl rfl rfl rfl fun x hx => ⟨[.val (encW W), .val (.tup [.int u, .int l]), .val x], rfl, ?_⟩
    simp only [List.mem_cons, List.not_mem_nil, or_false] at hx
    rcases hx with rfl | rfl <;> simp_arith []
  have pa : prim .all [.lst [.bl true, .bl true]] = some (.bl true) := rfl
  have l2 : isEq (.int ((0 + 1 + 1 : Nat) : Int)) (.int 2) = some true := rfl
  have d1 : decide (u < 0) = false := by simp; omega
  have d2 : decide (l < 1) = false := by simp; omega
  unfold d_place_at
  simp_arith [callV (hn W hW), argsN, isRef, l2, place_at_c1_o, cc, pa, at2_0, at2_1, d1, d2, callV c]
end MP
end
section
set_option autoImplicit false
set_option Elab.async false
set_option linter.all false
set_option maxRecDepth 100000
/-! MkMeet: ways, of things of any kind; texts of the meetings. Core Lean alone. -/
namespace MP
local macro_rules
  | `(tactic| simp_arith [$ls,*]) => `(tactic| simp only [Def.run, List.length_cons, List.length_nil, if_true, if_false, Bool.false_eq_true, Bool.true_eq_false, initRho, List.contains_nil, List.contains_cons, denS, den, two, Out.bind_ok, Out.bind_ex, Out.bind_bad, Out.fl_ok, Out.fl_ex, Out.fl_bad, val, Fl.then_next, Fl.then_ret, Fl.then_brk, Fl.then_cnt, Fl.then_ex, Fl.then_bad, Prim.fresh, List.getElem?_cons_zero, List.getElem?_cons_succ, List.set_cons_zero, List.set_cons_succ, outsOf, Bool.not_false, Bool.not_true, put, free, Nat.reduceAdd, Nat.reduceSub, Nat.reduceEqDiff, Nat.reduceBEq, Nat.reduceLT, Nat.reduceLeDiff, List.replicate_zero, List.replicate_succ, Bool.or_false, Bool.or_true, Bool.false_or, Bool.true_or, Bool.and_true, Bool.true_and, Bool.and_false, Bool.false_and, Option.map_some, Option.map_none, Option.bind_some, Option.bind_none, eltOf, decide_true, decide_false, reduceIte, reduceCtorEq, Int.cast_ofNat_Int, Int.reduceEq, Int.reduceLE, Int.reduceLT, Int.reduceNeg, Int.reduceAdd, Int.reduceSub, beq_self_eq_true, BEq.rfl, outO_some, opd_var, again_var, see_val, see_own, see_lck, see_io, peek_zero, peek_succ, d_val, d_own, cell_val, cell_own, isEq_int, isEq_scr, opd_nil, again_nil, opd_cons, again_cons, testOf_cons, opd_tup, again_tup, testOf_tup, opd_lst, again_lst, testOf_lst, opd_bin, again_bin, testOf_bin, opd_neg, again_neg, testOf_neg, opd_cmp, again_cmp, testOf_cmp, opd_chn, again_chn, testOf_chn, opd_and, again_and, testOf_and, opd_or, again_or, testOf_or, opd_not, again_not, testOf_not, opd_ite, again_ite, testOf_ite, opd_isi, again_isi, testOf_isi, opd_call, again_call, testOf_call, opd_prm1, again_prm1, testOf_prm1, opd_prm2, again_prm2, testOf_prm2, opd_ix, again_ix, testOf_ix, opd_slc, again_slc, testOf_slc, opd_rev, again_rev, testOf_rev, opd_att, again_att, testOf_att, opd_cst, again_cst, testOf_cst, opd_glb, again_glb, testOf_glb, opd_cmp1, again_cmp1, testOf_cmp1, opd_cmp2, again_cmp2, testOf_cmp2, opd_pop, again_pop, testOf_pop, opd_xop, again_xop, testOf_xop, testOf_nil, cmp_eq, cmp_ne, cmp_isin, cmp_notin, cmp_is, cmp_isnot, cmp_lt, cmp_le, cmp_gt, cmp_ge, cmp_ltT, inst_non_int, inst_non_bool, inst_non_tuple, inst_non_list, inst_non_dict, inst_non_str, inst_non_cls, inst_bl_int, inst_bl_bool, inst_bl_tuple, inst_bl_list, inst_bl_dict, inst_bl_str, inst_bl_cls, is_bl_non, inst_int_int, inst_int_bool, inst_int_tuple, inst_int_list, inst_int_dict, inst_int_str, inst_int_cls, is_int_non, inst_str_int, inst_str_bool, inst_str_tuple, inst_str_list, inst_str_dict, inst_str_str, inst_str_cls, is_str_non, inst_tup_int, inst_tup_bool, inst_tup_tuple, inst_tup_list, inst_tup_dict, inst_tup_str, inst_tup_cls, is_tup_non, inst_lst_int, inst_lst_bool, inst_lst_tuple, inst_lst_list, inst_lst_dict, inst_lst_str, inst_lst_cls, is_lst_non, inst_scr_int, inst_scr_bool, inst_scr_tuple, inst_scr_list, inst_scr_dict, inst_scr_str, inst_scr_cls, is_scr_non, inst_obj_int, inst_obj_bool, inst_obj_tuple, inst_obj_list, inst_obj_dict, inst_obj_str, is_obj_non, is_non_non, is_bl_bl, prim_len_l, prim_len_t, prim_all, prim_any, prim_sum, prim_tuple_l, prim_tuple_t, prim_list_l, prim_list_t, prim_sorted, prim_sset, prim_len_s, prim_abs, prim_min2, prim_max2, prim_min1, prim_max1, bin_addI, bin_subI, bin_mulI, bin_fdivI, bin_modI, bin_powI, bin_addL, bin_addT, bin_mulT, bin_mulL, ix_l, ix_t, ix_s, newO_l, newO_i, newO_t, newO_s, ofO_some, ownO_some, ofB_some, optI_nil, sl_l, sl_t, mut_own, mut_io, ioAt_zero, ioAt_succ, lstOf_lst, mutL_eq, setIx1_some, setIx0_some, setIx_eq, ioPut_own, ioPut_io, ioPut_succ, at2_0, at2_1, ixN2_0, ixN2_1, Option.isSome_some, Option.isSome_none, seqOf_l, seqOf_t, $ls,*])
def way_of_c1 : E := (.cmp1 [3] (.nm 3) (.itr (.var 2)) .nil (.bin .add (.tup (.cons (.ix (.var 3) (.cst (.int 0))) .nil)) (.call "dot_of" (.cons (.var 0) (.cons (.var 3) .nil)))))
theorem way_of_c1_o (m : Rho → Out CV) (ρ : Rho) : opd way_of_c1 m ρ = val m ρ := rfl
def d_way_of : Def := { ps := 3, n := 4, io := [], body := (.seq (.expr (.call "need_film" (.cons (.var 0) .nil))) (.seq (.expr (.call "need_rules" (.cons (.var 1) .nil))) (.seq (.ite (.not (.call "is_track" (.cons (.var 0) (.cons (.var 1) (.cons (.var 2) .nil))))) (.seq (.rse "NoTracks") .nil) .nil) (.seq (.ret (.prm1 .tuple way_of_c1)) .nil)))) }
def d_minus : Def := { ps := 2, n := 2, io := [], body := (.seq (.ret (.call "lowest" (.cons (.bin .sub (.bin .mul (.ix (.var 0) (.cst (.int 0))) (.ix (.var 1) (.cst (.int 1)))) (.bin .mul (.ix (.var 1) (.cst (.int 0))) (.ix (.var 0) (.cst (.int 1))))) (.cons (.bin .mul (.ix (.var 0) (.cst (.int 1))) (.ix (.var 1) (.cst (.int 1)))) .nil)))) .nil) }
def d_gap_at : Def := { ps := 3, n := 5, io := [], body := (.seq (.par 3 4 (.call "place" (.cons (.var 0) (.cons (.tup (.cons (.var 2) (.cons (.cst (.int 1)) .nil))) .nil))) (.call "place" (.cons (.var 1) (.cons (.tup (.cons (.var 2) (.cons (.cst (.int 1)) .nil))) .nil)))) (.seq (.ret (.lst (.cons (.call "minus" (.cons (.ix (.var 3) (.cst (.int 0))) (.cons (.ix (.var 4) (.cst (.int 0))) .nil))) (.cons (.call "minus" (.cons (.ix (.var 3) (.cst (.int 1))) (.cons (.ix (.var 4) (.cst (.int 1))) .nil))) .nil)))) .nil)) }
def d_zero_in : Def := { ps := 2, n := 4, io := [], body := (.seq (.ite (.and (.cmp .eq (.ix (.var 0) (.cst (.int 0))) (.cst (.int 0))) (.cmp .eq (.ix (.var 1) (.cst (.int 0))) (.cst (.int 0)))) (.seq (.ret (.cst (.str "ever"))) .nil) .nil) (.seq (.asg 2 (.call "minus" (.cons (.var 0) (.cons (.var 1) .nil)))) (.seq (.ite (.cmp .eq (.ix (.var 2) (.cst (.int 0))) (.cst (.int 0))) (.seq (.ret (.cst .non)) .nil) .nil) (.seq (.asg 3 (.call "lowest" (.cons (.bin .mul (.ix (.var 0) (.cst (.int 0))) (.ix (.var 2) (.cst (.int 1)))) (.cons (.bin .mul (.ix (.var 0) (.cst (.int 1))) (.ix (.var 2) (.cst (.int 0)))) .nil)))) (.seq (.ret (.ite (.chn .le .le (.cst (.int 0)) (.ix (.var 3) (.cst (.int 0))) (.ix (.var 3) (.cst (.int 1)))) (.var 3) (.cst .non))) .nil))))) }
def meeting_within_c1 : E := (.cmp1 [5, 6] (.tp [5, 6]) (.zip (.call "gap_at" (.cons (.var 0) (.cons (.var 1) (.cons (.var 2) .nil)))) (.call "gap_at" (.cons (.var 0) (.cons (.var 1) (.cons (.var 3) .nil))))) .nil (.call "zero_in" (.cons (.var 5) (.cons (.var 6) .nil))))
theorem meeting_within_c1_o (m : Rho → Out CV) (ρ : Rho) : opd meeting_within_c1 m ρ = val m ρ := rfl
def meeting_within_c2 : E := (.cmp1 [8] (.nm 8) (.itr (.var 4)) (.cmp .ne (.var 8) (.cst (.str "ever"))) (.var 8))
theorem meeting_within_c2_o (m : Rho → Out CV) (ρ : Rho) : opd meeting_within_c2 m ρ = val m ρ := rfl
def d_meeting_within : Def := { ps := 4, n := 11, io := [], body := (.seq (.asg 4 meeting_within_c1) (.seq (.ite (.cmp .isin (.cst .non) (.var 4)) (.seq (.ret (.cst .non)) .nil) .nil) (.seq (.asg 7 meeting_within_c2) (.seq (.ite (.cmp .eq (.var 7) (.lst .nil)) (.seq (.ret (.tup (.cons (.var 2) (.cons (.cst (.int 1)) .nil)))) .nil) .nil) (.seq (.ite (.cmp .ne (.ix (.var 7) (.cst (.int 0))) (.ix (.var 7) (.neg (.cst (.int 1))))) (.seq (.ret (.cst .non)) .nil) .nil) (.seq (.asgT [9, 10] (.ix (.var 7) (.cst (.int 0)))) (.seq (.ret (.call "lowest" (.cons (.bin .add (.bin .mul (.var 2) (.var 10)) (.bin .mul (.bin .sub (.var 3) (.var 2)) (.var 9))) (.cons (.var 10) .nil)))) .nil))))))) }
def first_meeting_c1 : E := (.cmp1 [5] (.nm 5) (.itr (.bin .add (.var 0) (.var 1))) (.chn .le .le (.var 2) (.ix (.var 5) (.cst (.int 0))) (.var 3)) (.ix (.var 5) (.cst (.int 0))))
theorem first_meeting_c1_o (m : Rho → Out CV) (ρ : Rho) : opd first_meeting_c1 m ρ = val m ρ := rfl
def first_meeting_b1 : S := (.seq (.asg 9 (.call "meeting_within" (.cons (.var 0) (.cons (.var 1) (.cons (.var 7) (.cons (.var 8) .nil)))))) (.seq (.ite (.cmp .isnot (.var 9) (.cst .non)) (.seq (.ret (.var 9)) .nil) .nil) .nil))
def first_meeting_l1 : S := (.for (.tp [7, 8]) (.zip (.var 6) (.slc (.var 6) (.cst (.int 1)) .nil)) first_meeting_b1)
def d_first_meeting : Def := { ps := 2, n := 10, io := [], body := (.seq (.expr (.call "need_way" (.cons (.var 0) .nil))) (.seq (.expr (.call "need_way" (.cons (.var 1) .nil))) (.seq (.par 2 3 (.prm2 .max2 (.ix (.ix (.var 0) (.cst (.int 0))) (.cst (.int 0))) (.ix (.ix (.var 1) (.cst (.int 0))) (.cst (.int 0)))) (.prm2 .min2 (.ix (.ix (.var 0) (.neg (.cst (.int 1)))) (.cst (.int 0))) (.ix (.ix (.var 1) (.neg (.cst (.int 1)))) (.cst (.int 0))))) (.seq (.ite (.cmp .gt (.var 2) (.var 3)) (.seq (.ret (.cst .non)) .nil) .nil) (.seq (.asg 4 first_meeting_c1) (.seq (.asg 6 (.prm1 .sortedSet (.bin .add (.var 4) (.lst (.cons (.var 2) (.cons (.var 3) .nil)))))) (.seq (.ite (.cmp .eq (.call "gap_at" (.cons (.var 0) (.cons (.var 1) (.cons (.var 2) .nil)))) (.lst (.cons (.tup (.cons (.cst (.int 0)) (.cons (.cst (.int 1)) .nil))) (.cons (.tup (.cons (.cst (.int 0)) (.cons (.cst (.int 1)) .nil))) .nil)))) (.seq (.ret (.tup (.cons (.var 2) (.cons (.cst (.int 1)) .nil)))) .nil) .nil) (.seq first_meeting_l1 (.seq (.ret (.cst .non)) .nil))))))))) }
def isPoint (d : D) : Bool :=
  match d with
  | .tup xs => decide (xs.length = 3) && xs.all fun x => isWhole x 0 99
  | _ => false
theorem int_eq3 (n : Nat) : decide ((n : Int) = 3) = decide (n = 3) := by
  by_cases h : n = 3
  · simp [h]
  · simp [h]; omega
def PointAnyOk (Γ : Tab) : Prop := ∀ d, pln d → CallsIo Γ "is_point" [] [d] (.ok (.val (.bl (isPoint d))) [])
theorem point_any_ok {Γ Γ' : Tab} (hw : WholeOk Γ) (h : Γ'.fn "is_point" = some ⟨d_is_point.ps, d_is_point.io, d_is_point.run Γ⟩) : PointAnyOk Γ' := fun d hp => calls_of h rfl rfl (by
  have key : ∀ (xs : List D), plnL xs = true → den Γ is_point_c1 [.val (.tup xs), .un] = .ok (.own (.lst (xs.flatMap fun x => [.bl (isWhole x 0 99)]))) [.val (.tup xs), .un] := by
    intro xs hx
    refine den_cmp1 (xs := xs) (lk := none) (ρ' := [.val (.tup xs), .un]) _ rfl rfl rfl rfl fun x hm => ⟨[.val (.tup xs), .val x], rfl, ?_⟩
    simp_arith [callV (hw x 0 99 (plnL_mem hx hm)), argsN, isRef]
  unfold d_is_point
  cases d with
  | tup xs =>
    have hx : plnL xs = true := hp
    simp only [isPoint]
    cases e1 : decide (xs.length = 3)
    · simp_arith [int_eq3, e1]
    · simp_arith [int_eq3, e1, is_point_c1_o, key xs hx, bools_map, all_map_id]
  | dic _ => cases hp
  | fn _ => cases hp
  | obj _ _ => cases hp
  | scr _ => cases hp
  | _ => simp only [isPoint]; simp_arith [Def.run])
def momD : D → Int
  | .tup (.int i :: _) => i
  | _ => 0
def pairMom : D → Bool
  | .tup [a, b] => decide (momD a < momD b)
  | _ => false
def isWay (d : D) : Bool :=
  match d with
  | .tup xs => decide (1 ≤ xs.length) && decide (xs.length ≤ 8) && xs.all isPoint && (zipL xs (xs.drop 1)).all pairMom
  | _ => false
theorem isPoint_ints {d : D} (h : isPoint d = true) : ∃ a b c : Int, d = .tup [.int a, .int b, .int c] := by
  cases d <;> first | (cases h; done) | skip
  rename_i xs
  simp only [isPoint, Bool.and_eq_true, decide_eq_true_eq] at h
  obtain ⟨h1, h2⟩ := h
  match xs, h1, h2 with
  | [x, y, z], _, h2 =>
    simp only [List.all_cons, List.all_nil, Bool.and_true, Bool.and_eq_true] at h2
    obtain ⟨a, b, c⟩ := h2
    cases x <;> first | (cases a; done) | skip
    cases y <;> first | (cases b; done) | skip
    cases z <;> first | (cases c; done) | skip
    exact ⟨_, _, _, rfl⟩
def WayAnyOk (Γ : Tab) : Prop := ∀ d, pln d → CallsIo Γ "is_way" [] [d] (.ok (.val (.bl (isWay d))) [])
theorem way_any_ok {Γ Γ' : Tab} (hd : PointAnyOk Γ) (h : Γ'.fn "is_way" = some ⟨d_is_way.ps, d_is_way.io, d_is_way.run Γ⟩) : WayAnyOk Γ' := fun d hp => calls_of h rfl rfl (by
  have k1 : ∀ (xs : List D), plnL xs = true → den Γ is_way_c1 [.val (.tup xs), .un, .un] = .ok (.own (.lst (xs.flatMap fun x => [.bl (isPoint x)]))) [.val (.tup xs), .un, .un] := by
    intro xs hx
    refine den_cmp1 (xs := xs) (lk := none) (ρ' := [.val (.tup xs), .un, .un]) _ rfl rfl rfl rfl fun x hm => ⟨[.val (.tup xs), .val x, .un], rfl, ?_⟩
    simp_arith [callV (hd x (plnL_mem hx hm)), argsN, isRef]
  have k2 : ∀ (xs : List D), xs.all isPoint = true → den Γ is_way_c2 [.val (.tup xs), .un, .un] = .ok (.own (.lst ((zipL xs (xs.drop 1)).flatMap fun x => [.bl (pairMom x)]))) [.val (.tup xs), .un, .un] := by
    intro xs hx
    refine den_cmp1 (xs := zipL xs (xs.drop 1)) (lk := none) (ρ' := [.val (.tup xs), .un, .un]) _ ?_ rfl rfl rfl fun p hm => ?_
    · rw [← cut1]
      rfl
    · obtain ⟨a, b, ha, hb, rfl⟩ := zipL_mem hm
      have hb := List.mem_of_mem_drop hb
      obtain ⟨a1, a2, a3, rfl⟩ := isPoint_ints (List.all_eq_true.mp hx a ha)
      obtain ⟨b1, b2, b3, rfl⟩ := isPoint_ints (List.all_eq_true.mp hx b hb)
      refine ⟨[.val (.tup xs), .val (.tup [.int a1, .int a2, .int a3]), .val (.tup [.int b1, .int b2, .int b3])], rfl, ?_⟩
      have a0 : ∀ a b c : D, at? [a, b, c] 0 = some a := fun _ _ _ => rfl
      simp_arith [ix_t, a0, ofO_some, pairMom, momD, ofB_some]
      rfl
  unfold d_is_way
  cases d with
  | tup xs =>
    have hx : plnL xs = true := hp
    simp only [isWay]
    cases e0 : decide (1 ≤ xs.length)
    · simp_arith [int_ge1, e0]
    · cases e1 : decide (xs.length ≤ 8)
      · simp_arith [int_ge1, e0, int_le8, e1]
      · cases e2 : xs.all isPoint
        · simp_arith [int_ge1, e0, int_le8, e1, is_way_c1_o, k1 xs hx, bools_map, all_map_id, e2]
        · simp_arith [int_ge1, e0, int_le8, e1, is_way_c1_o, k1 xs hx, bools_map, all_map_id, e2, is_way_c2_o, k2 xs e2]
  | dic _ => cases hp
  | fn _ => cases hp
  | obj _ _ => cases hp
  | scr _ => cases hp
  | _ => simp only [isWay]; simp_arith [Def.run])
def NeedWayAnyOk (Γ : Tab) : Prop := ∀ d, pln d → CallsIo Γ "need_way" [] [d] (if isWay d then .ok (.val .non) [] else .ex "NoWay" [])
theorem need_way_any_ok {Γ Γ' : Tab} (hw : WayAnyOk Γ) (h : Γ'.fn "need_way" = some ⟨d_need_way.ps, d_need_way.io, d_need_way.run Γ⟩) : NeedWayAnyOk Γ' := fun d hp => calls_of h rfl rfl (by
  unfold d_need_way
  cases e : isWay d
  · have := hw d hp
    rw [e] at this
    simp_arith [callV this, argsN, isRef]
  · have := hw d hp
    rw [e] at this
    simp_arith [callV this, argsN, isRef])
theorem need_way_y {Γ : Tab} (h : NeedWayAnyOk Γ) {d : D} (hp : pln d) (hm : isWay d = true) : CallsIo Γ "need_way" [] [d] (.ok (.val .non) []) := by
  have := h d hp
  rwa [hm] at this
theorem need_way_n {Γ : Tab} (h : NeedWayAnyOk Γ) {d : D} (hp : pln d) (hm : isWay d = false) : CallsIo Γ "need_way" [] [d] (.ex "NoWay" []) := by
  have := h d hp
  rwa [hm] at this
/-! ### what is no moment -/
def isI : D → Bool
  | .int _ => true
  | _ => false
/-- two ints, not below 0, not below 1 -/
def isMom : D → Bool
  | .tup [.int a, .int b] => decide (0 ≤ a) && decide (1 ≤ b)
  | _ => false
structure PlaceAtNo (Γ : Tab) : Prop where
  way : ∀ w x, pln w → isWay w = false → CallsIo Γ "place_at" [] [w, x] (.ex "NoWay" [])
  mom : ∀ w x, pln w → isWay w = true → pln x → isMom x = false → CallsIo Γ "place_at" [] [w, x] (.ex "NoMoment" [])
theorem place_at_no {Γ Γ' : Tab} (hn : NeedWayAnyOk Γ) (h : Γ'.fn "place_at" = some ⟨d_place_at.ps, d_place_at.io, d_place_at.run Γ⟩) : PlaceAtNo Γ' where
  way := fun w x hp hw => calls_of h rfl rfl (by
    unfold d_place_at
    simp_arith [callX (need_way_n hn hp hw), argsN, isRef])
  mom := fun w x hp hw hx hm => calls_of h rfl rfl (by
    have key : ∀ (xs : List D), plnL xs = true → den Γ place_at_c1 [.val w, .val (.tup xs), .un] = .ok (.own (.lst (xs.flatMap fun x => [.bl (isI x)]))) [.val w, .val (.tup xs), .un] := by
      intro xs hx
      refine den_cmp1 (xs := xs) (lk := none) (ρ' := [.val w, .val (.tup xs), .un]) _ rfl rfl rfl rfl fun x hm => ⟨[.val w, .val (.tup xs), .val x], rfl, ?_⟩
      have px : pln x := plnL_mem hx hm
      cases x with
      | dic _ => cases px
      | fn _ => cases px
      | obj _ _ => cases px
      | scr _ => cases px
      | _ => simp only [isI]; simp_arith [Def.run]
    unfold d_place_at
    have c1 := need_way_y hn hp hw
    cases x with
    | tup xs =>
      have hx : plnL xs = true := hx
      cases e1 : decide (xs.length = 2)
      · simp_arith [callV c1, argsN, isRef, int_eq2, e1]
      · cases e2 : xs.all isI
        · simp_arith [callV c1, argsN, isRef, int_eq2, e1, place_at_c1_o, key xs hx, bools_map, all_map_id, e2]
        · match xs, of_decide_eq_true e1, e2 with
          | [.int a, .int b], _, _ =>
            have k := key [.int a, .int b] rfl
            have e2' : [D.int a, D.int b].all isI = true := rfl
            simp only [isMom] at hm
            cases e3 : decide (a < 0)
            · have : decide (0 ≤ a) = true := by
                have := of_decide_eq_false e3
                exact decide_eq_true (by omega)
              rw [this, Bool.true_and] at hm
              have e4 : decide (b < 1) = true := by
                have := of_decide_eq_false hm
                exact decide_eq_true (by omega)
              simp_arith [callV c1, argsN, isRef, int_eq2, e1, place_at_c1_o, k, bools_map, all_map_id, e2', at2_0, at2_1, e3, e4]
            · simp_arith [callV c1, argsN, isRef, int_eq2, e1, place_at_c1_o, k, bools_map, all_map_id, e2', at2_0, at2_1, e3]
    | dic _ => cases hx
    | fn _ => cases hx
    | obj _ _ => cases hx
    | scr _ => cases hx
    | _ => simp_arith [callV c1, argsN, isRef])
structure FirstNo (Γ : Tab) : Prop where
  one : ∀ w x, pln w → isWay w = false → CallsIo Γ "first_meeting" [] [w, x] (.ex "NoWay" [])
  two : ∀ w x, pln w → isWay w = true → pln x → isWay x = false → CallsIo Γ "first_meeting" [] [w, x] (.ex "NoWay" [])
theorem first_no {Γ Γ' : Tab} (hn : NeedWayAnyOk Γ) (h : Γ'.fn "first_meeting" = some ⟨d_first_meeting.ps, d_first_meeting.io, d_first_meeting.run Γ⟩) : FirstNo Γ' where
  one := fun w x hp hw => calls_of h rfl rfl (by
    unfold d_first_meeting
    simp_arith [callX (need_way_n hn hp hw), argsN, isRef])
  two := fun w x hp hw hx hw2 => calls_of h rfl rfl (by
    unfold d_first_meeting
    simp_arith [callV (need_way_y hn hp hw), callX (need_way_n hn hx hw2), argsN, isRef])
/-! ### the way of a track -/
def ptZ (m : Film) (z : List Int) : D := .tup (.int (z.headD 0) :: (dotS m z).map D.int)
def wayZ (m : Film) (t : Trk) : D := .tup (t.map (ptZ m))
structure WayOfOk (Γ : Tab) : Prop where
  ok : ∀ (m : Film) (s : Six) (t : Trk), isFilm (encM m) = true → SixZ s → TrackZ m s t → CallsIo Γ "way_of" [] [encM m, s.enc, encK t] (.ok (.val (wayZ m t)) [])
  film : ∀ (d ru x : D), pln d → isFilm d = false → CallsIo Γ "way_of" [] [d, ru, x] (.ex "NoFilm" [])
  rules : ∀ (m : Film) (ru x : D), isFilm (encM m) = true → pln ru → CallsIo Γ "way_of" [] [encM m, ru, x] (.ex "NoRules" [])
  trk : ∀ (m : Film) (s : Six) (x : D), isFilm (encM m) = true → SixZ s → pl x = true → isTrackB m s x = false → CallsIo Γ "way_of" [] [encM m, s.enc, x] (.ex "NoTracks" [])
theorem way_of_ok {Γ Γ' : Tab} (hf : NeedFilmOk Γ) (hr : NeedRulesOk Γ) (ht : IsTrackOk Γ) (hd : DotOfOk Γ) (h : Γ'.fn "way_of" = some ⟨d_way_of.ps, d_way_of.io, d_way_of.run Γ⟩) : WayOfOk Γ' where
  ok := fun m s t hm hs hT => calls_of h rfl rfl (by
    have g := good_m hm
    have c1 := ht m s (encK t) g.dz hs (pl_of (n := 2) (by omega) (pd_encK t))
    rw [isTrackB_iff.mpr ⟨t, rfl, hT⟩] at c1
    have k1 : den Γ way_of_c1 [.val (encM m), .val s.enc, .val (.lst (t.map encZ)), .un] = .ok (.own (.lst ((t.map encZ).flatMap fun x => [ptZ m (unZ x)]))) [.val (encM m), .val s.enc, .val (.lst (t.map encZ)), .un] := by
      refine den_cmp1 (xs := t.map encZ) (lk := none) (ρ' := [.val (encM m), .val s.enc, .val (.lst (t.map encZ)), .un]) _ rfl rfl rfl rfl fun x hx => ?_
      obtain ⟨z, hz, rfl⟩ := List.mem_map.mp hx
      refine ⟨[.val (encM m), .val s.enc, .val (.lst (t.map encZ)), .val (encZ z)], rfl, ?_⟩
      have a1 := at_spot (hT.mem z hz)
      obtain ⟨i, j, e, hsp⟩ := spotS (hT.mem z hz)
      have c2 := hd m i j _ hsp
      have e2 : encZ z = .tup [.int i, .int j] := by rw [e]; rfl
      rw [← e2] at c2
      have hl : (dotS m z).length = 2 := by
        obtain ⟨x, y, e⟩ := spot_dot g.dz hsp
        rw [e]
        rfl
      have f1 : ∀ x : List Int, encZ x = .tup (x.map D.int) := fun _ => rfl
      rw [unZ_encZ]
      simp only [f1] at c2
      simp_arith [f1, ix_t, a1, ofO_some, SL, callV c2, argsN, isRef, bin_addT, List.length_map, hl, newO_t]
      rfl
    have e1 : (t.map encZ).flatMap (fun x => [ptZ m (unZ x)]) = t.map (ptZ m) := by
      clear k1 c1 hT
      induction t with
      | nil => rfl
      | cons z t ih => rw [List.map_cons, List.flatMap_cons, ih, unZ_encZ]; rfl
    rw [e1] at k1
    simp only [encK] at c1 ⊢
    unfold d_way_of
    simp_arith [callV (need_film_y hf hm), callV (hr.1 s), callV c1, argsN, isRef, way_of_c1_o, k1, prim_tuple_l, ofO_some]
    rfl)
  film := fun d ru x h1 h2 => calls_of h rfl rfl (by
    unfold d_way_of
    simp_arith [callX (need_film_n hf h1 h2), argsN, isRef])
  rules := fun m ru x h1 h2 => calls_of h rfl rfl (by
    unfold d_way_of
    simp_arith [callV (need_film_y hf h1), callX (hr.2 _ h2), argsN, isRef])
  trk := fun m s x h1 h2 h3 h4 => calls_of h rfl rfl (by
    have g := good_m h1
    have c1 := ht m s x g.dz h2 h3
    rw [h4] at c1
    unfold d_way_of
    simp_arith [callV (need_film_y hf h1), callV (hr.1 s), callV c1, argsN, isRef])
end MP
end
section
set_option autoImplicit false
set_option Elab.async false
set_option linter.all false
set_option maxRecDepth 100000
/-! K35: the law of ways that are refused. Core Lean alone. -/
namespace MP
local macro_rules
  | `(tactic| simp_arith [$ls,*]) => `(tactic| simp only [Def.run, List.length_cons, List.length_nil, if_true, if_false, Bool.false_eq_true, Bool.true_eq_false, initRho, List.contains_nil, List.contains_cons, denS, den, two, Out.bind_ok, Out.bind_ex, Out.bind_bad, Out.fl_ok, Out.fl_ex, Out.fl_bad, val, Fl.then_next, Fl.then_ret, Fl.then_brk, Fl.then_cnt, Fl.then_ex, Fl.then_bad, Prim.fresh, List.getElem?_cons_zero, List.getElem?_cons_succ, List.set_cons_zero, List.set_cons_succ, outsOf, Bool.not_false, Bool.not_true, put, free, Nat.reduceAdd, Nat.reduceSub, Nat.reduceEqDiff, Nat.reduceBEq, Nat.reduceLT, Nat.reduceLeDiff, List.replicate_zero, List.replicate_succ, Bool.or_false, Bool.or_true, Bool.false_or, Bool.true_or, Bool.and_true, Bool.true_and, Bool.and_false, Bool.false_and, Option.map_some, Option.map_none, Option.bind_some, Option.bind_none, eltOf, decide_true, decide_false, reduceIte, reduceCtorEq, Int.cast_ofNat_Int, Int.reduceEq, Int.reduceLE, Int.reduceLT, Int.reduceNeg, Int.reduceAdd, Int.reduceSub, beq_self_eq_true, BEq.rfl, outO_some, opd_var, again_var, see_val, see_own, see_lck, see_io, peek_zero, peek_succ, d_val, d_own, cell_val, cell_own, isEq_int, isEq_scr, opd_nil, again_nil, opd_cons, again_cons, testOf_cons, opd_tup, again_tup, testOf_tup, opd_lst, again_lst, testOf_lst, opd_bin, again_bin, testOf_bin, opd_neg, again_neg, testOf_neg, opd_cmp, again_cmp, testOf_cmp, opd_chn, again_chn, testOf_chn, opd_and, again_and, testOf_and, opd_or, again_or, testOf_or, opd_not, again_not, testOf_not, opd_ite, again_ite, testOf_ite, opd_isi, again_isi, testOf_isi, opd_call, again_call, testOf_call, opd_prm1, again_prm1, testOf_prm1, opd_prm2, again_prm2, testOf_prm2, opd_ix, again_ix, testOf_ix, opd_slc, again_slc, testOf_slc, opd_rev, again_rev, testOf_rev, opd_att, again_att, testOf_att, opd_cst, again_cst, testOf_cst, opd_glb, again_glb, testOf_glb, opd_cmp1, again_cmp1, testOf_cmp1, opd_cmp2, again_cmp2, testOf_cmp2, opd_pop, again_pop, testOf_pop, opd_xop, again_xop, testOf_xop, testOf_nil, cmp_eq, cmp_ne, cmp_isin, cmp_notin, cmp_is, cmp_isnot, cmp_lt, cmp_le, cmp_gt, cmp_ge, cmp_ltT, inst_non_int, inst_non_bool, inst_non_tuple, inst_non_list, inst_non_dict, inst_non_str, inst_non_cls, inst_bl_int, inst_bl_bool, inst_bl_tuple, inst_bl_list, inst_bl_dict, inst_bl_str, inst_bl_cls, is_bl_non, inst_int_int, inst_int_bool, inst_int_tuple, inst_int_list, inst_int_dict, inst_int_str, inst_int_cls, is_int_non, inst_str_int, inst_str_bool, inst_str_tuple, inst_str_list, inst_str_dict, inst_str_str, inst_str_cls, is_str_non, inst_tup_int, inst_tup_bool, inst_tup_tuple, inst_tup_list, inst_tup_dict, inst_tup_str, inst_tup_cls, is_tup_non, inst_lst_int, inst_lst_bool, inst_lst_tuple, inst_lst_list, inst_lst_dict, inst_lst_str, inst_lst_cls, is_lst_non, inst_scr_int, inst_scr_bool, inst_scr_tuple, inst_scr_list, inst_scr_dict, inst_scr_str, inst_scr_cls, is_scr_non, inst_obj_int, inst_obj_bool, inst_obj_tuple, inst_obj_list, inst_obj_dict, inst_obj_str, is_obj_non, is_non_non, is_bl_bl, prim_len_l, prim_len_t, prim_all, prim_any, prim_sum, prim_tuple_l, prim_tuple_t, prim_list_l, prim_list_t, prim_sorted, prim_sset, prim_len_s, prim_abs, prim_min2, prim_max2, prim_min1, prim_max1, bin_addI, bin_subI, bin_mulI, bin_fdivI, bin_modI, bin_powI, bin_addL, bin_addT, bin_mulT, bin_mulL, ix_l, ix_t, ix_s, newO_l, newO_i, newO_t, newO_s, ofO_some, ownO_some, ofB_some, optI_nil, sl_l, sl_t, mut_own, mut_io, ioAt_zero, ioAt_succ, lstOf_lst, mutL_eq, setIx1_some, setIx0_some, setIx_eq, ioPut_own, ioPut_io, ioPut_succ, at2_0, at2_1, ixN2_0, ixN2_1, Option.isSome_some, Option.isSome_none, seqOf_l, seqOf_t, $ls,*])
namespace K35
def d__law_ask : Def := { ps := 3, n := 4, io := [], body := (.seq (.tryW 3 (.seq (.retC ["place_at", "first_meeting"] (.ix (.lst (.cons (.glb "place_at" (.fn "place_at")) (.cons (.glb "first_meeting" (.fn "first_meeting")) .nil))) (.var 0)) (.cons (.var 1) (.cons (.var 2) .nil))) .nil)) .nil) }
def d__law_way_of : Def := { ps := 3, n := 4, io := [], body := (.seq (.tryW 3 (.seq (.ret (.call "way_of" (.cons (.var 0) (.cons (.var 1) (.cons (.var 2) .nil))))) .nil)) .nil) }
def d__law_once : Def := { ps := 2, n := 9, io := [1], body := (.seq (.asg 2 (.lst (.cons (.cst .non) (.cons (.tup .nil) (.cons (.lst (.cons (.tup (.cons (.cst (.int 0)) (.cons (.cst (.int 1)) (.cons (.cst (.int 1)) .nil)))) .nil)) (.cons (.tup (.cons (.tup (.cons (.cst (.int 0)) (.cons (.cst (.int 1)) .nil))) .nil)) (.cons (.tup (.cons (.tup (.cons (.cst (.int 0)) (.cons (.cst (.int 1)) (.cons (.cst (.int 100)) .nil)))) .nil)) (.cons (.tup (.cons (.tup (.cons (.cst (.int 100)) (.cons (.cst (.int 1)) (.cons (.cst (.int 1)) .nil)))) .nil)) (.cons (.tup (.cons (.tup (.cons (.cst (.int 1)) (.cons (.cst (.int 0)) (.cons (.cst (.int 0)) .nil)))) (.cons (.tup (.cons (.cst (.int 1)) (.cons (.cst (.int 0)) (.cons (.cst (.int 1)) .nil)))) .nil))) .nil))))))))) (.seq (.app 2 (.tup (.cons (.tup (.cons (.cst (.int 2)) (.cons (.cst (.int 0)) (.cons (.cst (.int 0)) .nil)))) (.cons (.tup (.cons (.cst (.int 1)) (.cons (.cst (.int 0)) (.cons (.cst (.int 0)) .nil)))) .nil)))) (.seq (.asg 2 (.call "_law_pick" (.cons (.var 0) (.cons (.ref 1) (.cons (.bin .add (.var 2) (.lst (.cons (.tup (.cons (.tup (.cons (.cst (.int 0)) (.cons (.cst (.bl true)) (.cons (.cst (.int 0)) .nil)))) .nil)) (.cons (.bin .mul (.tup (.cons (.tup (.cons (.cst (.int 0)) (.cons (.cst (.int 1)) (.cons (.cst (.int 1)) .nil)))) .nil)) (.cst (.int 9))) (.cons (.cst (.str "way")) (.cons (.tup (.cons (.tup (.cons (.cst (.int 0)) (.cons (.cst (.int 1)) (.cons (.cst (.int 1)) .nil)))) (.cons (.cst .non) .nil))) (.cons (.tup (.cons (.lst (.cons (.cst (.int 0)) (.cons (.cst (.int 1)) (.cons (.cst (.int 1)) .nil)))) .nil)) .nil))))))) .nil))))) (.seq (.asg 3 (.tup (.cons (.tup (.cons (.cst (.int 0)) (.cons (.cst (.int 1)) (.cons (.cst (.int 1)) .nil)))) (.cons (.tup (.cons (.cst (.int 4)) (.cons (.cst (.int 5)) (.cons (.cst (.int 5)) .nil)))) .nil)))) (.seq (.ite (.or (.cmp .isnot (.call "is_way" (.cons (.var 2) .nil)) (.cst (.bl false))) (.cmp .isnot (.call "is_way" (.cons (.var 3) .nil)) (.cst (.bl true)))) (.seq (.ret (.cst (.bl false))) .nil) .nil) (.seq (.asg 4 (.call "_law_pick" (.cons (.var 0) (.cons (.ref 1) (.cons (.lst (.cons (.cst .non) (.cons (.cst (.int 1)) (.cons (.tup (.cons (.cst (.int 1)) .nil)) (.cons (.tup (.cons (.cst (.int 1)) (.cons (.cst (.int 0)) .nil))) (.cons (.tup (.cons (.neg (.cst (.int 1))) (.cons (.cst (.int 1)) .nil))) (.cons (.tup (.cons (.cst (.int 1)) (.cons (.neg (.cst (.int 1))) .nil))) (.cons (.tup (.cons (.cst (.bl true)) (.cons (.cst (.int 1)) .nil))) (.cons (.lst (.cons (.cst (.int 1)) (.cons (.cst (.int 1)) .nil))) (.cons (.tup (.cons (.cst (.int 1)) (.cons (.cst (.int 2)) (.cons (.cst (.int 3)) .nil)))) (.cons (.tup (.cons (.cst (.str "1")) (.cons (.cst (.int 1)) .nil))) .nil))))))))))) .nil))))) (.seq (.ite (.or (.cmp .ne (.call "_law_ask" (.cons (.cst (.int 0)) (.cons (.var 2) (.cons (.var 4) .nil)))) (.tup (.cons (.cst (.str "refused")) (.cons (.cst (.int 7)) .nil)))) (.cmp .ne (.call "_law_ask" (.cons (.cst (.int 0)) (.cons (.var 3) (.cons (.var 4) .nil)))) (.tup (.cons (.cst (.str "refused")) (.cons (.cst (.int 8)) .nil))))) (.seq (.ret (.cst (.bl false))) .nil) .nil) (.seq (.ite (.or (.cmp .ne (.call "_law_ask" (.cons (.cst (.int 1)) (.cons (.var 2) (.cons (.var 3) .nil)))) (.tup (.cons (.cst (.str "refused")) (.cons (.cst (.int 7)) .nil)))) (.cmp .ne (.call "_law_ask" (.cons (.cst (.int 1)) (.cons (.var 3) (.cons (.var 2) .nil)))) (.tup (.cons (.cst (.str "refused")) (.cons (.cst (.int 7)) .nil))))) (.seq (.ret (.cst (.bl false))) .nil) .nil) (.seq (.par 5 6 (.tup (.cons (.tup (.cons (.tup (.cons (.cst (.int 1)) (.cons (.cst (.int 1)) .nil))) .nil)) (.cons (.tup (.cons (.tup (.cons (.cst (.int 1)) (.cons (.cst (.int 2)) .nil))) (.cons (.tup (.cons (.cst (.int 3)) (.cons (.cst (.int 3)) .nil))) .nil))) .nil))) (.call "_law_rules" (.cons (.call "_law_six" (.cons (.var 0) (.cons (.ref 1) .nil))) .nil))) (.seq (.asg 7 (.call "_law_pick" (.cons (.var 0) (.cons (.ref 1) (.cons (.lst (.cons (.cst .non) (.cons (.cst (.int 5)) (.cons (.cst (.str "rules")) .nil)))) .nil))))) (.seq (.asg 8 (.call "_law_pick" (.cons (.var 0) (.cons (.ref 1) (.cons (.lst (.cons (.cst .non) (.cons (.lst .nil) (.cons (.lst (.cons (.tup (.cons (.cst (.int 5)) (.cons (.cst (.int 0)) .nil))) .nil)) (.cons (.lst (.cons (.tup (.cons (.cst (.int 1)) (.cons (.cst (.int 0)) .nil))) (.cons (.tup (.cons (.cst (.int 0)) (.cons (.cst (.int 0)) .nil))) .nil))) (.cons (.tup (.cons (.tup (.cons (.cst (.int 0)) (.cons (.cst (.int 0)) .nil))) .nil)) (.cons (.lst (.cons (.tup (.cons (.cst (.int 1)) (.cons (.cst (.int 0)) .nil))) (.cons (.tup (.cons (.cst (.int 1)) (.cons (.cst (.int 1)) .nil))) .nil))) (.cons (.lst (.cons (.lst (.cons (.cst (.int 0)) (.cons (.cst (.int 0)) .nil))) .nil)) .nil)))))))) .nil))))) (.seq (.ite (.cmp .ne (.call "_law_way_of" (.cons (.call "_law_no_film" (.cons (.var 0) (.cons (.ref 1) .nil))) (.cons (.var 7) (.cons (.var 8) .nil)))) (.tup (.cons (.cst (.str "refused")) (.cons (.cst (.int 0)) .nil)))) (.seq (.ret (.cst (.bl false))) .nil) .nil) (.seq (.ite (.cmp .ne (.call "_law_way_of" (.cons (.var 5) (.cons (.var 7) (.cons (.var 8) .nil)))) (.tup (.cons (.cst (.str "refused")) (.cons (.cst (.int 4)) .nil)))) (.seq (.ret (.cst (.bl false))) .nil) .nil) (.seq (.ite (.cmp .ne (.call "_law_way_of" (.cons (.var 5) (.cons (.var 6) (.cons (.var 8) .nil)))) (.tup (.cons (.cst (.str "refused")) (.cons (.cst (.int 5)) .nil)))) (.seq (.ret (.cst (.bl false))) .nil) .nil) (.seq (.ret (.cmp .eq (.call "_law_way_of" (.cons (.var 5) (.cons (.var 6) (.cons (.lst (.cons (.tup (.cons (.cst (.int 1)) (.cons (.cst (.int 1)) .nil))) .nil)) .nil)))) (.tup (.cons (.tup (.cons (.cst (.int 1)) (.cons (.cst (.int 3)) (.cons (.cst (.int 3)) .nil)))) .nil)))) .nil))))))))))))))) }
def law_c1 : E := (.cmp1 [2] (.nm 2) (.rng1 (.cst (.int 4))) .nil (.call "_law_once" (.cons (.var 0) (.cons (.ref 1) .nil))))
theorem law_c1_o (m : Rho → Out CV) (ρ : Rho) : opd law_c1 m ρ = val m ρ := rfl
def d_law : Def := { ps := 1, n := 3, io := [], body := (.seq (.asg 1 (.lst (.cons (.cst (.int 0)) (.cons (.cst (.int 0)) .nil)))) (.seq (.ret (.prm1 .all law_c1)) .nil)) }
def film0 : Film := [[[1, 1]], [[1, 2], [3, 3]]]
theorem film0_is : isFilm (encM film0) = true := by decide
theorem sp0 : spotsZ 0 film0 = [[0, 0], [1, 0], [1, 1]] := by decide
def bads : List D := [.non, .tup [], .lst [.tup [.int 0, .int 1, .int 1]], .tup [.tup [.int 0, .int 1]], .tup [.tup [.int 0, .int 1, .int 100]], .tup [.tup [.int 100, .int 1, .int 1]], .tup [.tup [.int 1, .int 0, .int 0], .tup [.int 1, .int 0, .int 1]], .tup [.tup [.int 2, .int 0, .int 0], .tup [.int 1, .int 0, .int 0]],
  .tup [.tup [.int 0, .bl true, .int 0]], .tup (repL [.tup [.int 0, .int 1, .int 1]] 9), .str "way", .tup [.tup [.int 0, .int 1, .int 1], .non], .tup [.lst [.int 0, .int 1, .int 1]]]
theorem bads_no : ∀ x ∈ bads, plnD x = true ∧ isWay x = false := by decide
def good : D := .tup [.tup [.int 0, .int 1, .int 1], .tup [.int 4, .int 5, .int 5]]
theorem good_is : plnD good = true ∧ isWay good = true := by decide
def odds : List D := [.non, .int 1, .tup [.int 1], .tup [.int 1, .int 0], .tup [.int (-1), .int 1], .tup [.int 1, .int (-1)], .tup [.bl true, .int 1], .lst [.int 1, .int 1], .tup [.int 1, .int 2, .int 3], .tup [.str "1", .int 1]]
theorem odds_no : ∀ x ∈ odds, plnD x = true ∧ isMom x = false := by decide
def wrongs : List D := [.non, .int 5, .str "rules"]
theorem wrongs_pln : ∀ x ∈ wrongs, plnD x = true := by decide
def trks : List D := [.non, encK [], encK [[5, 0]], encK [[1, 0], [0, 0]], .tup [.tup [.int 0, .int 0]], encK [[1, 0], [1, 1]], .lst [.lst [.int 0, .int 0]]]
theorem may_no {s : Six} {a b : List Int} (h : mayS film0 s a b = true) : (1 : Int) ≤ ((b.headD 0).toNat : Int) - ((a.headD 0).toNat : Int) := by
  simp only [mayS, mayZ, Bool.and_eq_true] at h
  exact of_decide_eq_true h.1.1
theorem trks_no (s : Six) : ∀ x ∈ trks, pl x = true ∧ isTrackB film0 s x = false := by
  intro x hx
  simp only [trks, List.mem_cons, List.not_mem_nil, or_false] at hx
  have ts : ∀ t : Trk, ¬ TrackZ film0 s t → pl (encK t) = true ∧ isTrackB film0 s (encK t) = false := fun t h => ⟨pl_of (n := 2) (by omega) (pd_encK t), isTrackB_no fun ⟨t', e, h'⟩ => h (by rw [encK_inj e]; exact h')⟩
  rcases hx with rfl | rfl | rfl | rfl | rfl | rfl | rfl
  · exact ⟨rfl, isTrackB_no fun ⟨T, e, _⟩ => by cases e⟩
  · exact ts _ fun h => h.ne rfl
  · exact ts _ fun h => by
      have := h.mem [5, 0] (by simp)
      rw [sp0] at this
      revert this
      decide
  · exact ts _ fun h => by
      have := may_no (h.may ([1, 0], [0, 0]) (by decide))
      revert this
      decide
  · exact ⟨rfl, isTrackB_no fun ⟨T, e, _⟩ => by cases e⟩
  · exact ts _ fun h => by
      have := may_no (h.may ([1, 0], [1, 1]) (by decide))
      revert this
      decide
  · refine ⟨rfl, isTrackB_no fun ⟨t, e, _⟩ => ?_⟩
    cases t with
    | nil => cases e
    | cons a t => cases e
theorem trk1 (s : Six) : TrackZ film0 s [[1, 1]] := ⟨by simp, fun z hz => by rcases List.mem_singleton.mp hz with rfl; rw [sp0]; decide, fun p hp => by cases hp⟩
structure AskOk (Γ : Tab) : Prop where
  pw : ∀ w x, pln w → isWay w = false → CallsIo Γ "_law_ask" [] [.int 0, w, x] (.ok (.val (refd 7)) [])
  pm : ∀ w x, pln w → isWay w = true → pln x → isMom x = false → CallsIo Γ "_law_ask" [] [.int 0, w, x] (.ok (.val (refd 8)) [])
  f1 : ∀ w x, pln w → isWay w = false → CallsIo Γ "_law_ask" [] [.int 1, w, x] (.ok (.val (refd 7)) [])
  f2 : ∀ w x, pln w → isWay w = true → pln x → isWay x = false → CallsIo Γ "_law_ask" [] [.int 1, w, x] (.ok (.val (refd 7)) [])
theorem cn1 : ["place_at", "first_meeting"].contains "place_at" = true := by decide
theorem cn2 : ["place_at", "first_meeting"].contains "first_meeting" = true := by decide
theorem ask_ok {Γ Γ' : Tab} (h1 : PlaceAtNo Γ) (h2 : FirstNo Γ) (h : Γ'.fn "_law_ask" = some ⟨d__law_ask.ps, d__law_ask.io, d__law_ask.run Γ⟩) : AskOk Γ' where
  pw := fun w x a b => calls_of h rfl rfl (by
    unfold d__law_ask
    simp_arith [SL, at2_0, at2_1, cn1, callX (h1.way w x a b), argsN, isRef, fx_NoWay]
    rfl)
  pm := fun w x a b c d => calls_of h rfl rfl (by
    unfold d__law_ask
    simp_arith [SL, at2_0, at2_1, cn1, callX (h1.mom w x a b c d), argsN, isRef, fx_NoMoment]
    rfl)
  f1 := fun w x a b => calls_of h rfl rfl (by
    unfold d__law_ask
    simp_arith [SL, at2_0, at2_1, cn2, callX (h2.one w x a b), argsN, isRef, fx_NoWay]
    rfl)
  f2 := fun w x a b c d => calls_of h rfl rfl (by
    unfold d__law_ask
    simp_arith [SL, at2_0, at2_1, cn2, callX (h2.two w x a b c d), argsN, isRef, fx_NoWay]
    rfl)
structure AskWayOk (Γ : Tab) : Prop where
  film : ∀ (d ru x : D), pln d → isFilm d = false → CallsIo Γ "_law_way_of" [] [d, ru, x] (.ok (.val (refd 0)) [])
  rules : ∀ (ru x : D), pln ru → CallsIo Γ "_law_way_of" [] [encM film0, ru, x] (.ok (.val (refd 4)) [])
  trk : ∀ (s : Six) (x : D), SixZ s → pl x = true → isTrackB film0 s x = false → CallsIo Γ "_law_way_of" [] [encM film0, s.enc, x] (.ok (.val (refd 5)) [])
  ok : ∀ (s : Six), SixZ s → CallsIo Γ "_law_way_of" [] [encM film0, s.enc, encK [[1, 1]]] (.ok (.val (.tup [.tup [.int 1, .int 3, .int 3]])) [])
theorem ask_way_ok {Γ Γ' : Tab} (h1 : WayOfOk Γ) (h : Γ'.fn "_law_way_of" = some ⟨d__law_way_of.ps, d__law_way_of.io, d__law_way_of.run Γ⟩) : AskWayOk Γ' where
  film := fun d ru x a b => calls_of h rfl rfl (by
    unfold d__law_way_of
    simp_arith [callX (h1.film d ru x a b), argsN, isRef, fx_NoFilm]
    rfl)
  rules := fun ru x a => calls_of h rfl rfl (by
    unfold d__law_way_of
    simp_arith [callX (h1.rules film0 ru x film0_is a), argsN, isRef, fx_NoRules]
    rfl)
  trk := fun s x a b c => calls_of h rfl rfl (by
    unfold d__law_way_of
    simp_arith [callX (h1.trk film0 s x film0_is a b c), argsN, isRef, fx_NoTracks]
    rfl)
  ok := fun s a => calls_of h rfl rfl (by
    have c1 : CallsIo Γ "way_of" [] [encM film0, s.enc, encK [[1, 1]]] (.ok (.val (.tup [.tup [.int 1, .int 3, .int 3]])) []) := h1.ok film0 s [[1, 1]] film0_is a (trk1 s)
    unfold d__law_way_of
    simp_arith [callV c1, argsN, isRef])
structure Has (Γ : Tab) : Prop where
  noFilm : NoFilmOk Γ
  six : LawSixOk Γ
  rules : LawRulesOk Γ
  pick : PickOk Γ
  ask : AskOk Γ
  askw : AskWayOk Γ
  way : WayAnyOk Γ
def OnceOk (Γ : Tab) : Prop := ∀ ns : List Int, Draws Γ "_law_once" [1] (fun t => [.scr ns, t]) fun v => v = .bl true
theorem once_ok0 {Γ Γ' : Tab} (h : Has Γ) (hf : Γ'.fn "_law_once" = some ⟨d__law_once.ps, d__law_once.io, d__law_once.run Γ⟩) : OnceOk Γ' := by
  intro ns t ht
  obtain ⟨bad, t1, hbad, ht1, c1⟩ := h.pick ns (.lst bads) bads (.inl rfl) (by show 0 < 13; omega) (by show 13 < 1073741824; omega) t ht
  obtain ⟨odd, t2, hodd, ht2, c2⟩ := h.pick ns (.lst odds) odds (.inl rfl) (by show 0 < 10; omega) (by show 10 < 1073741824; omega) t1 ht1
  obtain ⟨s, t3, hs, ht3, c3⟩ := h.six ns t2 ht2
  have c4 := h.rules.ok (.int s.b) (.int s.e) (.int s.c) (.int s.g) (.int s.r) (.int s.m) rfl rfl rfl rfl rfl rfl
  rw [good_six hs] at c4
  have c4 : CallsIo Γ "_law_rules" [] [s.lst] (.ok (.own s.enc) []) := c4
  obtain ⟨wr, t4, hwr, ht4, c5⟩ := h.pick ns (.lst wrongs) wrongs (.inl rfl) (by show 0 < 3; omega) (by show 3 < 1073741824; omega) t3 ht3
  obtain ⟨tr, t5, htr, ht5, c6⟩ := h.pick ns (.lst trks) trks (.inl rfl) (by show 0 < 7; omega) (by show 7 < 1073741824; omega) t4 ht4
  obtain ⟨bf, t6, hbf, ht6, c7⟩ := h.noFilm ns t5 ht5
  have fb := bad_no bf hbf
  have c1 : CallsIo Γ "_law_pick" [1] [.scr ns, twn t, .lst bads] (.ok (.val bad) [twn t1]) := c1
  have c2 : CallsIo Γ "_law_pick" [1] [.scr ns, twn t1, .lst odds] (.ok (.val odd) [twn t2]) := c2
  have c5 : CallsIo Γ "_law_pick" [1] [.scr ns, twn t3, .lst wrongs] (.ok (.val wr) [twn t4]) := c5
  have c6 : CallsIo Γ "_law_pick" [1] [.scr ns, twn t4, .lst trks] (.ok (.val tr) [twn t5]) := c6
  have c7 : CallsIo Γ "_law_no_film" [1] [.scr ns, twn t5] (.ok (.val bf) [twn t6]) := c7
  obtain ⟨b1, b2⟩ := bads_no bad hbad
  obtain ⟨g1, g2⟩ := good_is
  obtain ⟨o1, o2⟩ := odds_no odd hodd
  obtain ⟨r1, r2⟩ := trks_no s tr htr
  have m1 := h.way bad b1
  have m2 := h.way good g1
  rw [b2] at m1
  rw [g2] at m2
  have m3 : CallsIo Γ "_law_ask" [] [.int 0, bad, odd] (.ok (.val (.tup [.str "refused", .int 7])) []) := h.ask.pw bad odd b1 b2
  have m4 : CallsIo Γ "_law_ask" [] [.int 0, good, odd] (.ok (.val (.tup [.str "refused", .int 8])) []) := h.ask.pm good odd g1 g2 o1 o2
  have m5 : CallsIo Γ "_law_ask" [] [.int 1, bad, good] (.ok (.val (.tup [.str "refused", .int 7])) []) := h.ask.f1 bad good b1 b2
  have m6 : CallsIo Γ "_law_ask" [] [.int 1, good, bad] (.ok (.val (.tup [.str "refused", .int 7])) []) := h.ask.f2 good bad g1 g2 b1 b2
  have m7 : CallsIo Γ "_law_way_of" [] [bf, wr, tr] (.ok (.val (.tup [.str "refused", .int 0])) []) := h.askw.film bf wr tr fb.2 fb.1
  have m8 : CallsIo Γ "_law_way_of" [] [encM film0, wr, tr] (.ok (.val (.tup [.str "refused", .int 4])) []) := h.askw.rules wr tr (wrongs_pln wr hwr)
  have m9 : CallsIo Γ "_law_way_of" [] [encM film0, s.enc, tr] (.ok (.val (.tup [.str "refused", .int 5])) []) := h.askw.trk s tr hs r1 r2
  have m10 : CallsIo Γ "_law_way_of" [] [encM film0, s.enc, .lst [.tup [.int 1, .int 1]]] (.ok (.val (.tup [.tup [.int 1, .int 3, .int 3]])) []) := h.askw.ok s hs
  refine ⟨.bl true, t6, rfl, ht6, calls_of hf rfl rfl ?_⟩
  have e1 : isEq (.tup [.tup [.int 1, .int 3, .int 3]]) (.tup [.tup [.int 1, .int 3, .int 3]]) = some true := by decide
  have b9 : binOp .mul (.tup [.tup [.int 0, .int 1, .int 1]]) (.int 9) = some (.tup (repL [.tup [.int 0, .int 1, .int 1]] 9)) := rfl
  simp only [bads] at c1
  simp only [odds] at c2
  simp only [wrongs] at c5
  simp only [trks, encK, encZ, List.map_cons, List.map_nil] at c6
  simp only [Six.lst] at c3 c4
  simp only [good] at m2 m4 m5 m6
  have ef : encM film0 = .tup [.tup [.tup [.int 1, .int 1]], .tup [.tup [.int 1, .int 2], .tup [.int 3, .int 3]]] := rfl
  rw [ef] at m8 m9 m10
  unfold d__law_once
  simp_arith [SL, Nat.reduceBNe, List.cons_append, List.nil_append, b9, newO_t, newO_l, callTi c1, callTi c2, callTi c3, callV c4, callTi c5, callTi c6, callTi c7, argsN, isRef, callV m1, callV m2, callV m3, callV m4, callV m5, callV m6, callV m7, callV m8, callV m9, callV m10, isEq_refd, BEq.rfl, is_bl_bl, e1]
theorem once_ok {Γ Γ' : Tab} (h1 : NoFilmOk Γ) (h2 : LawSixOk Γ) (h3 : LawRulesOk Γ) (h4 : PickOk Γ) (h5 : AskOk Γ) (h6 : AskWayOk Γ) (h7 : WayAnyOk Γ) (hf : Γ'.fn "_law_once" = some ⟨d__law_once.ps, d__law_once.io, d__law_once.run Γ⟩) : OnceOk Γ' := once_ok0 ⟨h1, h2, h3, h4, h5, h6, h7⟩ hf
theorem run_law {Γ : Tab} (h : OnceOk Γ) (ns : List Int) : d_law.run Γ [.scr ns] = .ok (.val (.bl true)) [] := by
  have ht0 : OkT (0, 0) := ⟨by decide, by decide⟩
  obtain ⟨t', yss, e, ht', al⟩ := den_cmpI (Γ := Γ) (vs := [2]) (tg := .nm 2) (it := .rng1 (.cst (.int 4))) (cond := .nil) (elt := .call "_law_once" (.cons (.var 0) (.cons (.ref 1) .nil))) (ρ := [.val (.scr ns), .own (twn (0, 0)), .un]) (xs := rngL 0 4) (fun t : Int × Int => [.val (.scr ns), .own (twn t), .un]) OkT (fun _ ys => ys = [.bl true]) (0, 0) rfl rfl ht0 rfl rfl (fun s' => ⟨rfl, fun v hv => by simp at hv; subst hv; rfl⟩) (fun t x ht hx => by
    obtain ⟨v, t', rfl, ht', c⟩ := h ns t ht
    have c : CallsIo Γ "_law_once" [1] [.scr ns, twn t] (.ok (.val (.bl true)) [twn t']) := c
    refine ⟨t', [.bl true], [.val (.scr ns), .own (twn t), .val x], [.val (.scr ns), .own (twn t'), .val x], rfl, ?_, rfl, rfl, ht', rfl⟩
    simp_arith [callT c, argsN, isRef])
  have e : den Γ law_c1 [.val (.scr ns), .own (.lst [.int 0, .int 0]), .un] = .ok (.own (.lst yss.flatten)) [.val (.scr ns), .own (twn t'), .un] := e
  have ey : yss.flatten = [.bl true, .bl true, .bl true, .bl true] := by
    have hl := al.len
    have hr := al.right (Q := fun ys => ys = [D.bl true]) (fun _ _ h => h)
    have : yss = List.replicate 4 [.bl true] := List.eq_replicate_iff.mpr ⟨hl.symm, hr⟩
    rw [this]
    rfl
  rw [ey] at e
  have pa : prim .all [.lst [.bl true, .bl true, .bl true, .bl true]] = some (.bl true) := rfl
  unfold d_law
  simp_arith [SL, law_c1_o, e, pa]
end K35
end MP
end
section
set_option Elab.async false
set_option linter.all false
set_option maxRecDepth 100000
set_option maxHeartbeats 2000000
namespace MPR
open PySem PySem.Spec PyProof.Rows L2 MP MPS MP.K35
def topS (i : Nat) : Stmt := PySem.Challenge.pw_dotways_k35_ways_refused.main.body.getD i (.Pass ⟨0, 0, 0, 0⟩)
def topM (i j : Nat) : Stmt := (MPS.clsBody (topS i)).getD j (.Pass ⟨0, 0, 0, 0⟩)
def rBi : List String := ["len", "isinstance", "int", "bool", "tuple", "all", "zip", "abs", "max", "min", "sorted", "set", "range", "sum", "list"]
def rGc : List (String × Int) := [("WIDEST", 99), ("FULLEST", 6), ("LONGEST", 8), ("MOST", 24)]
def rCls : List String := ["Rules"]
def rFld : List String := ["birth", "end", "clutter", "gap", "reach", "miss"]
def rExs : List String := ["NoWay", "NoMoment", "NoRules", "NoFilm", "NoTracks"]
def rTw : Bool := true
def rDf : List String := ["_law_draw", "_law_pick", "is_whole", "is_point", "is_way", "need_way", "common", "lowest", "place", "place_at", "minus", "gap_at", "zero_in", "meeting_within", "first_meeting", "_law_ask", "_law_rules", "_law_six", "is_dot", "is_frame", "many_dots", "is_film", "need_film", "need_rules", "is_spot", "pairs_of", "apart", "dot_of", "may_lead", "is_track", "way_of", "_law_way_of", "_law_no_film", "_law_once", "law"]
def rMs : List String := ["Rules.__init__"]
def R__law_draw : MPS.Row := { N := [Str.ofString "script", Str.ofString "town", Str.ofString "many", Str.ofString "one", Str.ofString "at", Str.ofString "mixed"], bi := rBi, gc := rGc, cls := rCls, exs := rExs, fld := rFld, tw := false, fns := [], mks := [], eqs := [] }
theorem sc__law_draw : FnScope R__law_draw.N [Str.ofString "script", Str.ofString "town", Str.ofString "many"] (defScope (topS 50)) := ⟨rfl, rfl, rfl, by decide +kernel, rfl, by decide +kernel, by decide +kernel⟩
theorem ck__law_draw : ckS R__law_draw d__law_draw.body (defScope (topS 50)) (.b (defBody (topS 50))) = true := by decide +kernel
theorem bd__law_draw : BindsAll "_law_draw" (topS 50) [Str.ofString "script", Str.ofString "town", Str.ofString "many"] := fun _ _ _ _ _ _ us hl => match us, hl with | [_, _, _], _ => rfl
def G__law_draw : Tab := (Tab.empty 1000000).add "_law_draw" d__law_draw
theorem fn__law_draw : (R__law_draw.fns.all fun g => ((Tab.empty 1000000).fn g).isSome && !rMs.contains g) = true := by decide +kernel
theorem a__law_draw {Γ : Tab} (h : Γ.fn "_law_draw" = some ⟨d__law_draw.ps, d__law_draw.io, d__law_draw.run (Tab.empty 1000000)⟩) : DrawOk Γ := draw_ok  h
def R__law_pick : MPS.Row := { N := [Str.ofString "script", Str.ofString "town", Str.ofString "some"], bi := rBi, gc := rGc, cls := rCls, exs := rExs, fld := rFld, tw := false, fns := ["_law_draw"], mks := [], eqs := [] }
theorem sc__law_pick : FnScope R__law_pick.N [Str.ofString "script", Str.ofString "town", Str.ofString "some"] (defScope (topS 51)) := ⟨rfl, rfl, rfl, by decide +kernel, rfl, by decide +kernel, by decide +kernel⟩
theorem ck__law_pick : ckS R__law_pick d__law_pick.body (defScope (topS 51)) (.b (defBody (topS 51))) = true := by decide +kernel
theorem bd__law_pick : BindsAll "_law_pick" (topS 51) [Str.ofString "script", Str.ofString "town", Str.ofString "some"] := fun _ _ _ _ _ _ us hl => match us, hl with | [_, _, _], _ => rfl
def G__law_pick : Tab := G__law_draw.add "_law_pick" d__law_pick
theorem fn__law_pick : (R__law_pick.fns.all fun g => (G__law_draw.fn g).isSome && !rMs.contains g) = true := by decide +kernel
theorem a__law_pick {Γ : Tab} (h : Γ.fn "_law_pick" = some ⟨d__law_pick.ps, d__law_pick.io, d__law_pick.run G__law_draw⟩) : PickOk Γ := pick_ok (a__law_draw rfl) h
def R_is_whole : MPS.Row := { N := [Str.ofString "thing", Str.ofString "least", Str.ofString "most"], bi := rBi, gc := rGc, cls := rCls, exs := rExs, fld := rFld, tw := false, fns := [], mks := [], eqs := [] }
theorem sc_is_whole : FnScope R_is_whole.N [Str.ofString "thing", Str.ofString "least", Str.ofString "most"] (defScope (topS 19)) := ⟨rfl, rfl, rfl, by decide +kernel, rfl, by decide +kernel, by decide +kernel⟩
theorem ck_is_whole : ckS R_is_whole d_is_whole.body (defScope (topS 19)) (.b (defBody (topS 19))) = true := by decide +kernel
theorem bd_is_whole : BindsAll "is_whole" (topS 19) [Str.ofString "thing", Str.ofString "least", Str.ofString "most"] := fun _ _ _ _ _ _ us hl => match us, hl with | [_, _, _], _ => rfl
def G_is_whole : Tab := G__law_pick.add "is_whole" d_is_whole
theorem fn_is_whole : (R_is_whole.fns.all fun g => (G__law_pick.fn g).isSome && !rMs.contains g) = true := by decide +kernel
theorem a_is_whole {Γ : Tab} (h : Γ.fn "is_whole" = some ⟨d_is_whole.ps, d_is_whole.io, d_is_whole.run G__law_pick⟩) : WholeOk Γ := whole_ok  h
def R_is_point : MPS.Row := { N := [Str.ofString "thing", Str.ofString "one"], bi := rBi, gc := rGc, cls := rCls, exs := rExs, fld := rFld, tw := false, fns := ["is_whole"], mks := [], eqs := [] }
theorem sc_is_point : FnScope R_is_point.N [Str.ofString "thing"] (defScope (topS 38)) := ⟨rfl, rfl, rfl, by decide +kernel, rfl, by decide +kernel, by decide +kernel⟩
theorem ck_is_point : ckS R_is_point d_is_point.body (defScope (topS 38)) (.b (defBody (topS 38))) = true := by decide +kernel
theorem bd_is_point : BindsAll "is_point" (topS 38) [Str.ofString "thing"] := fun _ _ _ _ _ _ us hl => match us, hl with | [_], _ => rfl
def G_is_point : Tab := G_is_whole.add "is_point" d_is_point
theorem fn_is_point : (R_is_point.fns.all fun g => (G_is_whole.fn g).isSome && !rMs.contains g) = true := by decide +kernel
theorem a_is_point {Γ : Tab} (h : Γ.fn "is_point" = some ⟨d_is_point.ps, d_is_point.io, d_is_point.run G_is_whole⟩) : PointAnyOk Γ := point_any_ok (a_is_whole rfl) h
def R_is_way : MPS.Row := { N := [Str.ofString "thing", Str.ofString "one", Str.ofString "other"], bi := rBi, gc := rGc, cls := rCls, exs := rExs, fld := rFld, tw := false, fns := ["is_point"], mks := [], eqs := [] }
theorem sc_is_way : FnScope R_is_way.N [Str.ofString "thing"] (defScope (topS 39)) := ⟨rfl, rfl, rfl, by decide +kernel, rfl, by decide +kernel, by decide +kernel⟩
theorem ck_is_way : ckS R_is_way d_is_way.body (defScope (topS 39)) (.b (defBody (topS 39))) = true := by decide +kernel
theorem bd_is_way : BindsAll "is_way" (topS 39) [Str.ofString "thing"] := fun _ _ _ _ _ _ us hl => match us, hl with | [_], _ => rfl
def G_is_way : Tab := G_is_point.add "is_way" d_is_way
theorem fn_is_way : (R_is_way.fns.all fun g => (G_is_point.fn g).isSome && !rMs.contains g) = true := by decide +kernel
theorem a_is_way {Γ : Tab} (h : Γ.fn "is_way" = some ⟨d_is_way.ps, d_is_way.io, d_is_way.run G_is_point⟩) : WayAnyOk Γ := way_any_ok (a_is_point rfl) h
def R_need_way : MPS.Row := { N := [Str.ofString "thing"], bi := rBi, gc := rGc, cls := rCls, exs := rExs, fld := rFld, tw := false, fns := ["is_way"], mks := [], eqs := [] }
theorem sc_need_way : FnScope R_need_way.N [Str.ofString "thing"] (defScope (topS 40)) := ⟨rfl, rfl, rfl, by decide +kernel, rfl, by decide +kernel, by decide +kernel⟩
theorem ck_need_way : ckS R_need_way d_need_way.body (defScope (topS 40)) (.b (defBody (topS 40))) = true := by decide +kernel
theorem bd_need_way : BindsAll "need_way" (topS 40) [Str.ofString "thing"] := fun _ _ _ _ _ _ us hl => match us, hl with | [_], _ => rfl
def G_need_way : Tab := G_is_way.add "need_way" d_need_way
theorem fn_need_way : (R_need_way.fns.all fun g => (G_is_way.fn g).isSome && !rMs.contains g) = true := by decide +kernel
theorem a_need_way {Γ : Tab} (h : Γ.fn "need_way" = some ⟨d_need_way.ps, d_need_way.io, d_need_way.run G_is_way⟩) : NeedWayAnyOk Γ := need_way_any_ok (a_is_way rfl) h
def R_common : MPS.Row := { N := [Str.ofString "one", Str.ofString "other"], bi := rBi, gc := rGc, cls := rCls, exs := rExs, fld := rFld, tw := false, fns := [], mks := [], eqs := [] }
theorem sc_common : FnScope R_common.N [Str.ofString "one", Str.ofString "other"] (defScope (topS 36)) := ⟨rfl, rfl, rfl, by decide +kernel, rfl, by decide +kernel, by decide +kernel⟩
theorem ck_common : ckS R_common d_common.body (defScope (topS 36)) (.b (defBody (topS 36))) = true := by decide +kernel
theorem bd_common : BindsAll "common" (topS 36) [Str.ofString "one", Str.ofString "other"] := fun _ _ _ _ _ _ us hl => match us, hl with | [_, _], _ => rfl
def G_common : Tab := G_need_way.add "common" d_common
theorem fn_common : (R_common.fns.all fun g => (G_need_way.fn g).isSome && !rMs.contains g) = true := by decide +kernel
theorem a_common {Γ : Tab} (h : Γ.fn "common" = some ⟨d_common.ps, d_common.io, d_common.run G_need_way⟩) : CommonOk Γ := common_ok rfl h
def R_lowest : MPS.Row := { N := [Str.ofString "upper", Str.ofString "lower", Str.ofString "whole"], bi := rBi, gc := rGc, cls := rCls, exs := rExs, fld := rFld, tw := false, fns := ["common"], mks := [], eqs := [] }
theorem sc_lowest : FnScope R_lowest.N [Str.ofString "upper", Str.ofString "lower"] (defScope (topS 37)) := ⟨rfl, rfl, rfl, by decide +kernel, rfl, by decide +kernel, by decide +kernel⟩
theorem ck_lowest : ckS R_lowest d_lowest.body (defScope (topS 37)) (.b (defBody (topS 37))) = true := by decide +kernel
theorem bd_lowest : BindsAll "lowest" (topS 37) [Str.ofString "upper", Str.ofString "lower"] := fun _ _ _ _ _ _ us hl => match us, hl with | [_, _], _ => rfl
def G_lowest : Tab := G_common.add "lowest" d_lowest
theorem fn_lowest : (R_lowest.fns.all fun g => (G_common.fn g).isSome && !rMs.contains g) = true := by decide +kernel
theorem a_lowest {Γ : Tab} (h : Γ.fn "lowest" = some ⟨d_lowest.ps, d_lowest.io, d_lowest.run G_common⟩) : LowestOk Γ := lowest_ok (a_common rfl) h
def R_place : MPS.Row := { N := [Str.ofString "way", Str.ofString "moment", Str.ofString "upper", Str.ofString "lower", Str.ofString "point", Str.ofString "one", Str.ofString "other", Str.ofString "part", Str.ofString "whole"], bi := rBi, gc := rGc, cls := rCls, exs := rExs, fld := rFld, tw := false, fns := ["lowest"], mks := [], eqs := [] }
theorem sc_place : FnScope R_place.N [Str.ofString "way", Str.ofString "moment"] (defScope (topS 42)) := ⟨rfl, rfl, rfl, by decide +kernel, rfl, by decide +kernel, by decide +kernel⟩
theorem ck_place : ckS R_place d_place.body (defScope (topS 42)) (.b (defBody (topS 42))) = true := by decide +kernel
theorem bd_place : BindsAll "place" (topS 42) [Str.ofString "way", Str.ofString "moment"] := fun _ _ _ _ _ _ us hl => match us, hl with | [_, _], _ => rfl
def G_place : Tab := G_lowest.add "place" d_place
theorem fn_place : (R_place.fns.all fun g => (G_lowest.fn g).isSome && !rMs.contains g) = true := by decide +kernel
theorem a_place {Γ : Tab} (h : Γ.fn "place" = some ⟨d_place.ps, d_place.io, d_place.run G_lowest⟩) : PlaceOk Γ := place_ok (a_lowest rfl) h
def R_place_at : MPS.Row := { N := [Str.ofString "way", Str.ofString "moment", Str.ofString "one"], bi := rBi, gc := rGc, cls := rCls, exs := rExs, fld := rFld, tw := false, fns := ["need_way", "place"], mks := [], eqs := [] }
theorem sc_place_at : FnScope R_place_at.N [Str.ofString "way", Str.ofString "moment"] (defScope (topS 43)) := ⟨rfl, rfl, rfl, by decide +kernel, rfl, by decide +kernel, by decide +kernel⟩
theorem ck_place_at : ckS R_place_at d_place_at.body (defScope (topS 43)) (.b (defBody (topS 43))) = true := by decide +kernel
theorem bd_place_at : BindsAll "place_at" (topS 43) [Str.ofString "way", Str.ofString "moment"] := fun _ _ _ _ _ _ us hl => match us, hl with | [_, _], _ => rfl
def G_place_at : Tab := G_place.add "place_at" d_place_at
theorem fn_place_at : (R_place_at.fns.all fun g => (G_place.fn g).isSome && !rMs.contains g) = true := by decide +kernel
theorem a_place_at {Γ : Tab} (h : Γ.fn "place_at" = some ⟨d_place_at.ps, d_place_at.io, d_place_at.run G_place⟩) : PlaceAtNo Γ := place_at_no (a_need_way rfl) h
def R_minus : MPS.Row := { N := [Str.ofString "one", Str.ofString "other"], bi := rBi, gc := rGc, cls := rCls, exs := rExs, fld := rFld, tw := false, fns := ["lowest"], mks := [], eqs := [] }
theorem sc_minus : FnScope R_minus.N [Str.ofString "one", Str.ofString "other"] (defScope (topS 44)) := ⟨rfl, rfl, rfl, by decide +kernel, rfl, by decide +kernel, by decide +kernel⟩
theorem ck_minus : ckS R_minus d_minus.body (defScope (topS 44)) (.b (defBody (topS 44))) = true := by decide +kernel
theorem bd_minus : BindsAll "minus" (topS 44) [Str.ofString "one", Str.ofString "other"] := fun _ _ _ _ _ _ us hl => match us, hl with | [_, _], _ => rfl
def G_minus : Tab := G_place_at.add "minus" d_minus
theorem fn_minus : (R_minus.fns.all fun g => (G_place_at.fn g).isSome && !rMs.contains g) = true := by decide +kernel
def R_gap_at : MPS.Row := { N := [Str.ofString "way", Str.ofString "other", Str.ofString "moment", Str.ofString "mine", Str.ofString "yours"], bi := rBi, gc := rGc, cls := rCls, exs := rExs, fld := rFld, tw := false, fns := ["place", "minus"], mks := [], eqs := [] }
theorem sc_gap_at : FnScope R_gap_at.N [Str.ofString "way", Str.ofString "other", Str.ofString "moment"] (defScope (topS 45)) := ⟨rfl, rfl, rfl, by decide +kernel, rfl, by decide +kernel, by decide +kernel⟩
theorem ck_gap_at : ckS R_gap_at d_gap_at.body (defScope (topS 45)) (.b (defBody (topS 45))) = true := by decide +kernel
theorem bd_gap_at : BindsAll "gap_at" (topS 45) [Str.ofString "way", Str.ofString "other", Str.ofString "moment"] := fun _ _ _ _ _ _ us hl => match us, hl with | [_, _, _], _ => rfl
def G_gap_at : Tab := G_minus.add "gap_at" d_gap_at
theorem fn_gap_at : (R_gap_at.fns.all fun g => (G_minus.fn g).isSome && !rMs.contains g) = true := by decide +kernel
def R_zero_in : MPS.Row := { N := [Str.ofString "start", Str.ofString "stop", Str.ofString "fall", Str.ofString "when"], bi := rBi, gc := rGc, cls := rCls, exs := rExs, fld := rFld, tw := false, fns := ["minus", "lowest"], mks := [], eqs := [] }
theorem sc_zero_in : FnScope R_zero_in.N [Str.ofString "start", Str.ofString "stop"] (defScope (topS 46)) := ⟨rfl, rfl, rfl, by decide +kernel, rfl, by decide +kernel, by decide +kernel⟩
theorem ck_zero_in : ckS R_zero_in d_zero_in.body (defScope (topS 46)) (.b (defBody (topS 46))) = true := by decide +kernel
theorem bd_zero_in : BindsAll "zero_in" (topS 46) [Str.ofString "start", Str.ofString "stop"] := fun _ _ _ _ _ _ us hl => match us, hl with | [_, _], _ => rfl
def G_zero_in : Tab := G_gap_at.add "zero_in" d_zero_in
theorem fn_zero_in : (R_zero_in.fns.all fun g => (G_gap_at.fn g).isSome && !rMs.contains g) = true := by decide +kernel
def R_meeting_within : MPS.Row := { N := [Str.ofString "way", Str.ofString "other", Str.ofString "one", Str.ofString "two", Str.ofString "zeros", Str.ofString "start", Str.ofString "stop", Str.ofString "whens", Str.ofString "when", Str.ofString "upper", Str.ofString "lower"], bi := rBi, gc := rGc, cls := rCls, exs := rExs, fld := rFld, tw := false, fns := ["gap_at", "zero_in", "lowest"], mks := [], eqs := [] }
theorem sc_meeting_within : FnScope R_meeting_within.N [Str.ofString "way", Str.ofString "other", Str.ofString "one", Str.ofString "two"] (defScope (topS 47)) := ⟨rfl, rfl, rfl, by decide +kernel, rfl, by decide +kernel, by decide +kernel⟩
theorem ck_meeting_within : ckS R_meeting_within d_meeting_within.body (defScope (topS 47)) (.b (defBody (topS 47))) = true := by decide +kernel
theorem bd_meeting_within : BindsAll "meeting_within" (topS 47) [Str.ofString "way", Str.ofString "other", Str.ofString "one", Str.ofString "two"] := fun _ _ _ _ _ _ us hl => match us, hl with | [_, _, _, _], _ => rfl
def G_meeting_within : Tab := G_zero_in.add "meeting_within" d_meeting_within
theorem fn_meeting_within : (R_meeting_within.fns.all fun g => (G_zero_in.fn g).isSome && !rMs.contains g) = true := by decide +kernel
def R_first_meeting : MPS.Row := { N := [Str.ofString "way", Str.ofString "other", Str.ofString "start", Str.ofString "stop", Str.ofString "turns", Str.ofString "point", Str.ofString "moments", Str.ofString "one", Str.ofString "two", Str.ofString "when"], bi := rBi, gc := rGc, cls := rCls, exs := rExs, fld := rFld, tw := false, fns := ["need_way", "gap_at", "meeting_within"], mks := [], eqs := [] }
theorem sc_first_meeting : FnScope R_first_meeting.N [Str.ofString "way", Str.ofString "other"] (defScope (topS 48)) := ⟨rfl, rfl, rfl, by decide +kernel, rfl, by decide +kernel, by decide +kernel⟩
theorem ck_first_meeting : ckS R_first_meeting d_first_meeting.body (defScope (topS 48)) (.b (defBody (topS 48))) = true := by decide +kernel
theorem bd_first_meeting : BindsAll "first_meeting" (topS 48) [Str.ofString "way", Str.ofString "other"] := fun _ _ _ _ _ _ us hl => match us, hl with | [_, _], _ => rfl
def G_first_meeting : Tab := G_meeting_within.add "first_meeting" d_first_meeting
theorem fn_first_meeting : (R_first_meeting.fns.all fun g => (G_meeting_within.fn g).isSome && !rMs.contains g) = true := by decide +kernel
theorem a_first_meeting {Γ : Tab} (h : Γ.fn "first_meeting" = some ⟨d_first_meeting.ps, d_first_meeting.io, d_first_meeting.run G_meeting_within⟩) : FirstNo Γ := first_no (a_need_way rfl) h
def R__law_ask : MPS.Row := { N := [Str.ofString "what", Str.ofString "one", Str.ofString "other", Str.ofString "e"], bi := rBi, gc := rGc, cls := rCls, exs := rExs, fld := rFld, tw := true, fns := ["place_at", "first_meeting"], mks := [], eqs := [] }
theorem sc__law_ask : FnScope R__law_ask.N [Str.ofString "what", Str.ofString "one", Str.ofString "other"] (defScope (topS 63)) := ⟨rfl, rfl, rfl, by decide +kernel, rfl, by decide +kernel, by decide +kernel⟩
theorem ck__law_ask : ckS R__law_ask d__law_ask.body (defScope (topS 63)) (.b (defBody (topS 63))) = true := by decide +kernel
theorem bd__law_ask : BindsAll "_law_ask" (topS 63) [Str.ofString "what", Str.ofString "one", Str.ofString "other"] := fun _ _ _ _ _ _ us hl => match us, hl with | [_, _, _], _ => rfl
def G__law_ask : Tab := G_first_meeting.add "_law_ask" d__law_ask
theorem fn__law_ask : (R__law_ask.fns.all fun g => (G_first_meeting.fn g).isSome && !rMs.contains g) = true := by decide +kernel
theorem a__law_ask {Γ : Tab} (h : Γ.fn "_law_ask" = some ⟨d__law_ask.ps, d__law_ask.io, d__law_ask.run G_first_meeting⟩) : AskOk Γ := ask_ok (a_place_at rfl) (a_first_meeting rfl) h
def R_Rules___init__ : MPS.Row := { N := [Str.ofString "self", Str.ofString "birth", Str.ofString "end", Str.ofString "clutter", Str.ofString "gap", Str.ofString "reach", Str.ofString "miss", Str.ofString "one"], bi := rBi, gc := rGc, cls := rCls, exs := rExs, fld := rFld, tw := false, fns := ["is_whole"], mks := [], eqs := [] }
theorem sc_Rules___init__ : FnScope R_Rules___init__.N [Str.ofString "self", Str.ofString "birth", Str.ofString "end", Str.ofString "clutter", Str.ofString "gap", Str.ofString "reach", Str.ofString "miss"] (defScope (topM 29 0)) := ⟨rfl, rfl, rfl, by decide +kernel, rfl, by decide +kernel, by decide +kernel⟩
theorem ck_Rules___init__ : ckS R_Rules___init__ d_Rules___init__.body (defScope (topM 29 0)) (.b (defBody (topM 29 0))) = true := by decide +kernel
def G_Rules___init__ : Tab := G__law_ask.add "Rules.__init__" d_Rules___init__
theorem fn_Rules___init__ : (R_Rules___init__.fns.all fun g => (G__law_ask.fn g).isSome && !rMs.contains g) = true := by decide +kernel
theorem a_Rules___init__ {Γ : Tab} (h : Γ.fn "Rules.__init__" = some ⟨d_Rules___init__.ps, d_Rules___init__.io, d_Rules___init__.run G__law_ask⟩) : InitOk Γ := init_ok (a_is_whole rfl) h
def R__law_rules : MPS.Row := { N := [Str.ofString "six"], bi := rBi, gc := rGc, cls := rCls, exs := rExs, fld := rFld, tw := false, fns := [], mks := [("Rules", ["birth", "end", "clutter", "gap", "reach", "miss"], [(true, 0), (true, 1), (true, 2), (true, 3), (true, 4), (true, 5)])], eqs := [] }
theorem sc__law_rules : FnScope R__law_rules.N [Str.ofString "six"] (defScope (topS 58)) := ⟨rfl, rfl, rfl, by decide +kernel, rfl, by decide +kernel, by decide +kernel⟩
theorem ck__law_rules : ckS R__law_rules d__law_rules.body (defScope (topS 58)) (.b (defBody (topS 58))) = true := by decide +kernel
theorem bd__law_rules : BindsAll "_law_rules" (topS 58) [Str.ofString "six"] := fun _ _ _ _ _ _ us hl => match us, hl with | [_], _ => rfl
def G__law_rules : Tab := G_Rules___init__.add "_law_rules" d__law_rules
theorem fn__law_rules : (R__law_rules.fns.all fun g => (G_Rules___init__.fn g).isSome && !rMs.contains g) = true := by decide +kernel
theorem a__law_rules {Γ : Tab} (h : Γ.fn "_law_rules" = some ⟨d__law_rules.ps, d__law_rules.io, d__law_rules.run G_Rules___init__⟩) : LawRulesOk Γ := law_rules_ok (a_Rules___init__ rfl) h
def R__law_six : MPS.Row := { N := [Str.ofString "script", Str.ofString "town", Str.ofString "costs", Str.ofString "k"], bi := rBi, gc := rGc, cls := rCls, exs := rExs, fld := rFld, tw := false, fns := ["_law_pick", "_law_draw"], mks := [], eqs := [] }
theorem sc__law_six : FnScope R__law_six.N [Str.ofString "script", Str.ofString "town"] (defScope (topS 57)) := ⟨rfl, rfl, rfl, by decide +kernel, rfl, by decide +kernel, by decide +kernel⟩
theorem ck__law_six : ckS R__law_six d__law_six.body (defScope (topS 57)) (.b (defBody (topS 57))) = true := by decide +kernel
theorem bd__law_six : BindsAll "_law_six" (topS 57) [Str.ofString "script", Str.ofString "town"] := fun _ _ _ _ _ _ us hl => match us, hl with | [_, _], _ => rfl
def G__law_six : Tab := G__law_rules.add "_law_six" d__law_six
theorem fn__law_six : (R__law_six.fns.all fun g => (G__law_rules.fn g).isSome && !rMs.contains g) = true := by decide +kernel
theorem a__law_six {Γ : Tab} (h : Γ.fn "_law_six" = some ⟨d__law_six.ps, d__law_six.io, d__law_six.run G__law_rules⟩) : LawSixOk Γ := law_six_ok (a__law_draw rfl) (a__law_pick rfl) h
def R_is_dot : MPS.Row := { N := [Str.ofString "thing", Str.ofString "one"], bi := rBi, gc := rGc, cls := rCls, exs := rExs, fld := rFld, tw := false, fns := ["is_whole"], mks := [], eqs := [] }
theorem sc_is_dot : FnScope R_is_dot.N [Str.ofString "thing"] (defScope (topS 20)) := ⟨rfl, rfl, rfl, by decide +kernel, rfl, by decide +kernel, by decide +kernel⟩
theorem ck_is_dot : ckS R_is_dot d_is_dot.body (defScope (topS 20)) (.b (defBody (topS 20))) = true := by decide +kernel
theorem bd_is_dot : BindsAll "is_dot" (topS 20) [Str.ofString "thing"] := fun _ _ _ _ _ _ us hl => match us, hl with | [_], _ => rfl
def G_is_dot : Tab := G__law_six.add "is_dot" d_is_dot
theorem fn_is_dot : (R_is_dot.fns.all fun g => (G__law_six.fn g).isSome && !rMs.contains g) = true := by decide +kernel
theorem a_is_dot {Γ : Tab} (h : Γ.fn "is_dot" = some ⟨d_is_dot.ps, d_is_dot.io, d_is_dot.run G__law_six⟩) : DotOk Γ := dot_ok (a_is_whole rfl) h
def R_is_frame : MPS.Row := { N := [Str.ofString "thing", Str.ofString "dot", Str.ofString "other"], bi := rBi, gc := rGc, cls := rCls, exs := rExs, fld := rFld, tw := false, fns := ["is_dot"], mks := [], eqs := [] }
theorem sc_is_frame : FnScope R_is_frame.N [Str.ofString "thing"] (defScope (topS 21)) := ⟨rfl, rfl, rfl, by decide +kernel, rfl, by decide +kernel, by decide +kernel⟩
theorem ck_is_frame : ckS R_is_frame d_is_frame.body (defScope (topS 21)) (.b (defBody (topS 21))) = true := by decide +kernel
theorem bd_is_frame : BindsAll "is_frame" (topS 21) [Str.ofString "thing"] := fun _ _ _ _ _ _ us hl => match us, hl with | [_], _ => rfl
def G_is_frame : Tab := G_is_dot.add "is_frame" d_is_frame
theorem fn_is_frame : (R_is_frame.fns.all fun g => (G_is_dot.fn g).isSome && !rMs.contains g) = true := by decide +kernel
theorem a_is_frame {Γ : Tab} (h : Γ.fn "is_frame" = some ⟨d_is_frame.ps, d_is_frame.io, d_is_frame.run G_is_dot⟩) : IsFrameOk Γ := is_frame_ok (a_is_dot rfl) h
def R_many_dots : MPS.Row := { N := [Str.ofString "film", Str.ofString "frame"], bi := rBi, gc := rGc, cls := rCls, exs := rExs, fld := rFld, tw := false, fns := [], mks := [], eqs := [] }
theorem sc_many_dots : FnScope R_many_dots.N [Str.ofString "film"] (defScope (topS 22)) := ⟨rfl, rfl, rfl, by decide +kernel, rfl, by decide +kernel, by decide +kernel⟩
theorem ck_many_dots : ckS R_many_dots d_many_dots.body (defScope (topS 22)) (.b (defBody (topS 22))) = true := by decide +kernel
theorem bd_many_dots : BindsAll "many_dots" (topS 22) [Str.ofString "film"] := fun _ _ _ _ _ _ us hl => match us, hl with | [_], _ => rfl
def G_many_dots : Tab := G_is_frame.add "many_dots" d_many_dots
theorem fn_many_dots : (R_many_dots.fns.all fun g => (G_is_frame.fn g).isSome && !rMs.contains g) = true := by decide +kernel
theorem a_many_dots {Γ : Tab} (h : Γ.fn "many_dots" = some ⟨d_many_dots.ps, d_many_dots.io, d_many_dots.run G_is_frame⟩) : ManyOk Γ := many_ok  h
def R_is_film : MPS.Row := { N := [Str.ofString "thing", Str.ofString "one"], bi := rBi, gc := rGc, cls := rCls, exs := rExs, fld := rFld, tw := false, fns := ["is_frame", "many_dots"], mks := [], eqs := [] }
theorem sc_is_film : FnScope R_is_film.N [Str.ofString "thing"] (defScope (topS 23)) := ⟨rfl, rfl, rfl, by decide +kernel, rfl, by decide +kernel, by decide +kernel⟩
theorem ck_is_film : ckS R_is_film d_is_film.body (defScope (topS 23)) (.b (defBody (topS 23))) = true := by decide +kernel
theorem bd_is_film : BindsAll "is_film" (topS 23) [Str.ofString "thing"] := fun _ _ _ _ _ _ us hl => match us, hl with | [_], _ => rfl
def G_is_film : Tab := G_many_dots.add "is_film" d_is_film
theorem fn_is_film : (R_is_film.fns.all fun g => (G_many_dots.fn g).isSome && !rMs.contains g) = true := by decide +kernel
theorem a_is_film {Γ : Tab} (h : Γ.fn "is_film" = some ⟨d_is_film.ps, d_is_film.io, d_is_film.run G_many_dots⟩) : IsFilmOk Γ := is_film_ok (a_is_frame rfl) (a_many_dots rfl) h
def R_need_film : MPS.Row := { N := [Str.ofString "thing"], bi := rBi, gc := rGc, cls := rCls, exs := rExs, fld := rFld, tw := false, fns := ["is_film"], mks := [], eqs := [] }
theorem sc_need_film : FnScope R_need_film.N [Str.ofString "thing"] (defScope (topS 24)) := ⟨rfl, rfl, rfl, by decide +kernel, rfl, by decide +kernel, by decide +kernel⟩
theorem ck_need_film : ckS R_need_film d_need_film.body (defScope (topS 24)) (.b (defBody (topS 24))) = true := by decide +kernel
theorem bd_need_film : BindsAll "need_film" (topS 24) [Str.ofString "thing"] := fun _ _ _ _ _ _ us hl => match us, hl with | [_], _ => rfl
def G_need_film : Tab := G_is_film.add "need_film" d_need_film
theorem fn_need_film : (R_need_film.fns.all fun g => (G_is_film.fn g).isSome && !rMs.contains g) = true := by decide +kernel
theorem a_need_film {Γ : Tab} (h : Γ.fn "need_film" = some ⟨d_need_film.ps, d_need_film.io, d_need_film.run G_is_film⟩) : NeedFilmOk Γ := need_film_ok (a_is_film rfl) h
def R_need_rules : MPS.Row := { N := [Str.ofString "rules"], bi := rBi, gc := rGc, cls := rCls, exs := rExs, fld := rFld, tw := false, fns := [], mks := [], eqs := [] }
theorem sc_need_rules : FnScope R_need_rules.N [Str.ofString "rules"] (defScope (topS 30)) := ⟨rfl, rfl, rfl, by decide +kernel, rfl, by decide +kernel, by decide +kernel⟩
theorem ck_need_rules : ckS R_need_rules d_need_rules.body (defScope (topS 30)) (.b (defBody (topS 30))) = true := by decide +kernel
theorem bd_need_rules : BindsAll "need_rules" (topS 30) [Str.ofString "rules"] := fun _ _ _ _ _ _ us hl => match us, hl with | [_], _ => rfl
def G_need_rules : Tab := G_need_film.add "need_rules" d_need_rules
theorem fn_need_rules : (R_need_rules.fns.all fun g => (G_need_film.fn g).isSome && !rMs.contains g) = true := by decide +kernel
theorem a_need_rules {Γ : Tab} (h : Γ.fn "need_rules" = some ⟨d_need_rules.ps, d_need_rules.io, d_need_rules.run G_need_film⟩) : NeedRulesOk Γ := need_rules_ok  h
def R_is_spot : MPS.Row := { N := [Str.ofString "film", Str.ofString "thing"], bi := rBi, gc := rGc, cls := rCls, exs := rExs, fld := rFld, tw := false, fns := ["is_whole"], mks := [], eqs := [] }
theorem sc_is_spot : FnScope R_is_spot.N [Str.ofString "film", Str.ofString "thing"] (defScope (topS 25)) := ⟨rfl, rfl, rfl, by decide +kernel, rfl, by decide +kernel, by decide +kernel⟩
theorem ck_is_spot : ckS R_is_spot d_is_spot.body (defScope (topS 25)) (.b (defBody (topS 25))) = true := by decide +kernel
theorem bd_is_spot : BindsAll "is_spot" (topS 25) [Str.ofString "film", Str.ofString "thing"] := fun _ _ _ _ _ _ us hl => match us, hl with | [_, _], _ => rfl
def G_is_spot : Tab := G_need_rules.add "is_spot" d_is_spot
theorem fn_is_spot : (R_is_spot.fns.all fun g => (G_need_rules.fn g).isSome && !rMs.contains g) = true := by decide +kernel
theorem a_is_spot {Γ : Tab} (h : Γ.fn "is_spot" = some ⟨d_is_spot.ps, d_is_spot.io, d_is_spot.run G_need_rules⟩) : IsSpotOk Γ := is_spot_ok (a_is_whole rfl) h
def R_pairs_of : MPS.Row := { N := [Str.ofString "track"], bi := rBi, gc := rGc, cls := rCls, exs := rExs, fld := rFld, tw := false, fns := [], mks := [], eqs := [] }
theorem sc_pairs_of : FnScope R_pairs_of.N [Str.ofString "track"] (defScope (topS 33)) := ⟨rfl, rfl, rfl, by decide +kernel, rfl, by decide +kernel, by decide +kernel⟩
theorem ck_pairs_of : ckS R_pairs_of d_pairs_of.body (defScope (topS 33)) (.b (defBody (topS 33))) = true := by decide +kernel
theorem bd_pairs_of : BindsAll "pairs_of" (topS 33) [Str.ofString "track"] := fun _ _ _ _ _ _ us hl => match us, hl with | [_], _ => rfl
def G_pairs_of : Tab := G_is_spot.add "pairs_of" d_pairs_of
theorem fn_pairs_of : (R_pairs_of.fns.all fun g => (G_is_spot.fn g).isSome && !rMs.contains g) = true := by decide +kernel
theorem a_pairs_of {Γ : Tab} (h : Γ.fn "pairs_of" = some ⟨d_pairs_of.ps, d_pairs_of.io, d_pairs_of.run G_is_spot⟩) : PairsOk Γ := pairs_ok  h
def R_apart : MPS.Row := { N := [Str.ofString "dot", Str.ofString "other"], bi := rBi, gc := rGc, cls := rCls, exs := rExs, fld := rFld, tw := false, fns := [], mks := [], eqs := [] }
theorem sc_apart : FnScope R_apart.N [Str.ofString "dot", Str.ofString "other"] (defScope (topS 27)) := ⟨rfl, rfl, rfl, by decide +kernel, rfl, by decide +kernel, by decide +kernel⟩
theorem ck_apart : ckS R_apart d_apart.body (defScope (topS 27)) (.b (defBody (topS 27))) = true := by decide +kernel
theorem bd_apart : BindsAll "apart" (topS 27) [Str.ofString "dot", Str.ofString "other"] := fun _ _ _ _ _ _ us hl => match us, hl with | [_, _], _ => rfl
def G_apart : Tab := G_pairs_of.add "apart" d_apart
theorem fn_apart : (R_apart.fns.all fun g => (G_pairs_of.fn g).isSome && !rMs.contains g) = true := by decide +kernel
theorem a_apart {Γ : Tab} (h : Γ.fn "apart" = some ⟨d_apart.ps, d_apart.io, d_apart.run G_pairs_of⟩) : ApartOk Γ := apart_ok  h
def R_dot_of : MPS.Row := { N := [Str.ofString "film", Str.ofString "spot"], bi := rBi, gc := rGc, cls := rCls, exs := rExs, fld := rFld, tw := false, fns := [], mks := [], eqs := [] }
theorem sc_dot_of : FnScope R_dot_of.N [Str.ofString "film", Str.ofString "spot"] (defScope (topS 26)) := ⟨rfl, rfl, rfl, by decide +kernel, rfl, by decide +kernel, by decide +kernel⟩
theorem ck_dot_of : ckS R_dot_of d_dot_of.body (defScope (topS 26)) (.b (defBody (topS 26))) = true := by decide +kernel
theorem bd_dot_of : BindsAll "dot_of" (topS 26) [Str.ofString "film", Str.ofString "spot"] := fun _ _ _ _ _ _ us hl => match us, hl with | [_, _], _ => rfl
def G_dot_of : Tab := G_apart.add "dot_of" d_dot_of
theorem fn_dot_of : (R_dot_of.fns.all fun g => (G_apart.fn g).isSome && !rMs.contains g) = true := by decide +kernel
theorem a_dot_of {Γ : Tab} (h : Γ.fn "dot_of" = some ⟨d_dot_of.ps, d_dot_of.io, d_dot_of.run G_apart⟩) : DotOfOk Γ := dot_of_ok  h
def R_may_lead : MPS.Row := { N := [Str.ofString "film", Str.ofString "rules", Str.ofString "spot", Str.ofString "other", Str.ofString "frames"], bi := rBi, gc := rGc, cls := rCls, exs := rExs, fld := rFld, tw := false, fns := ["apart", "dot_of"], mks := [], eqs := [] }
theorem sc_may_lead : FnScope R_may_lead.N [Str.ofString "film", Str.ofString "rules", Str.ofString "spot", Str.ofString "other"] (defScope (topS 31)) := ⟨rfl, rfl, rfl, by decide +kernel, rfl, by decide +kernel, by decide +kernel⟩
theorem ck_may_lead : ckS R_may_lead d_may_lead.body (defScope (topS 31)) (.b (defBody (topS 31))) = true := by decide +kernel
theorem bd_may_lead : BindsAll "may_lead" (topS 31) [Str.ofString "film", Str.ofString "rules", Str.ofString "spot", Str.ofString "other"] := fun _ _ _ _ _ _ us hl => match us, hl with | [_, _, _, _], _ => rfl
def G_may_lead : Tab := G_dot_of.add "may_lead" d_may_lead
theorem fn_may_lead : (R_may_lead.fns.all fun g => (G_dot_of.fn g).isSome && !rMs.contains g) = true := by decide +kernel
theorem a_may_lead {Γ : Tab} (h : Γ.fn "may_lead" = some ⟨d_may_lead.ps, d_may_lead.io, d_may_lead.run G_dot_of⟩) : MayLeadOk Γ := may_lead_ok (a_apart rfl) (a_dot_of rfl) h
def R_is_track : MPS.Row := { N := [Str.ofString "film", Str.ofString "rules", Str.ofString "thing", Str.ofString "one", Str.ofString "other"], bi := rBi, gc := rGc, cls := rCls, exs := rExs, fld := rFld, tw := false, fns := ["is_spot", "pairs_of", "may_lead"], mks := [], eqs := [] }
theorem sc_is_track : FnScope R_is_track.N [Str.ofString "film", Str.ofString "rules", Str.ofString "thing"] (defScope (topS 34)) := ⟨rfl, rfl, rfl, by decide +kernel, rfl, by decide +kernel, by decide +kernel⟩
theorem ck_is_track : ckS R_is_track d_is_track.body (defScope (topS 34)) (.b (defBody (topS 34))) = true := by decide +kernel
theorem bd_is_track : BindsAll "is_track" (topS 34) [Str.ofString "film", Str.ofString "rules", Str.ofString "thing"] := fun _ _ _ _ _ _ us hl => match us, hl with | [_, _, _], _ => rfl
def G_is_track : Tab := G_may_lead.add "is_track" d_is_track
theorem fn_is_track : (R_is_track.fns.all fun g => (G_may_lead.fn g).isSome && !rMs.contains g) = true := by decide +kernel
theorem a_is_track {Γ : Tab} (h : Γ.fn "is_track" = some ⟨d_is_track.ps, d_is_track.io, d_is_track.run G_may_lead⟩) : IsTrackOk Γ := is_track_ok (a_is_spot rfl) (a_may_lead rfl) (a_pairs_of rfl) h
def R_way_of : MPS.Row := { N := [Str.ofString "film", Str.ofString "rules", Str.ofString "track", Str.ofString "spot"], bi := rBi, gc := rGc, cls := rCls, exs := rExs, fld := rFld, tw := false, fns := ["need_film", "need_rules", "is_track", "dot_of"], mks := [], eqs := [] }
theorem sc_way_of : FnScope R_way_of.N [Str.ofString "film", Str.ofString "rules", Str.ofString "track"] (defScope (topS 41)) := ⟨rfl, rfl, rfl, by decide +kernel, rfl, by decide +kernel, by decide +kernel⟩
theorem ck_way_of : ckS R_way_of d_way_of.body (defScope (topS 41)) (.b (defBody (topS 41))) = true := by decide +kernel
theorem bd_way_of : BindsAll "way_of" (topS 41) [Str.ofString "film", Str.ofString "rules", Str.ofString "track"] := fun _ _ _ _ _ _ us hl => match us, hl with | [_, _, _], _ => rfl
def G_way_of : Tab := G_is_track.add "way_of" d_way_of
theorem fn_way_of : (R_way_of.fns.all fun g => (G_is_track.fn g).isSome && !rMs.contains g) = true := by decide +kernel
theorem a_way_of {Γ : Tab} (h : Γ.fn "way_of" = some ⟨d_way_of.ps, d_way_of.io, d_way_of.run G_is_track⟩) : WayOfOk Γ := way_of_ok (a_need_film rfl) (a_need_rules rfl) (a_is_track rfl) (a_dot_of rfl) h
def R__law_way_of : MPS.Row := { N := [Str.ofString "film", Str.ofString "rules", Str.ofString "track", Str.ofString "e"], bi := rBi, gc := rGc, cls := rCls, exs := rExs, fld := rFld, tw := true, fns := ["way_of"], mks := [], eqs := [] }
theorem sc__law_way_of : FnScope R__law_way_of.N [Str.ofString "film", Str.ofString "rules", Str.ofString "track"] (defScope (topS 64)) := ⟨rfl, rfl, rfl, by decide +kernel, rfl, by decide +kernel, by decide +kernel⟩
theorem ck__law_way_of : ckS R__law_way_of d__law_way_of.body (defScope (topS 64)) (.b (defBody (topS 64))) = true := by decide +kernel
theorem bd__law_way_of : BindsAll "_law_way_of" (topS 64) [Str.ofString "film", Str.ofString "rules", Str.ofString "track"] := fun _ _ _ _ _ _ us hl => match us, hl with | [_, _, _], _ => rfl
def G__law_way_of : Tab := G_way_of.add "_law_way_of" d__law_way_of
theorem fn__law_way_of : (R__law_way_of.fns.all fun g => (G_way_of.fn g).isSome && !rMs.contains g) = true := by decide +kernel
theorem a__law_way_of {Γ : Tab} (h : Γ.fn "_law_way_of" = some ⟨d__law_way_of.ps, d__law_way_of.io, d__law_way_of.run G_way_of⟩) : AskWayOk Γ := ask_way_ok (a_way_of rfl) h
def R__law_no_film : MPS.Row := { N := [Str.ofString "script", Str.ofString "town", Str.ofString "bad", Str.ofString "six", Str.ofString "k"], bi := rBi, gc := rGc, cls := rCls, exs := rExs, fld := rFld, tw := false, fns := ["_law_pick"], mks := [], eqs := [] }
theorem sc__law_no_film : FnScope R__law_no_film.N [Str.ofString "script", Str.ofString "town"] (defScope (topS 61)) := ⟨rfl, rfl, rfl, by decide +kernel, rfl, by decide +kernel, by decide +kernel⟩
theorem ck__law_no_film : ckS R__law_no_film d__law_no_film.body (defScope (topS 61)) (.b (defBody (topS 61))) = true := by decide +kernel
theorem bd__law_no_film : BindsAll "_law_no_film" (topS 61) [Str.ofString "script", Str.ofString "town"] := fun _ _ _ _ _ _ us hl => match us, hl with | [_, _], _ => rfl
def G__law_no_film : Tab := G__law_way_of.add "_law_no_film" d__law_no_film
theorem fn__law_no_film : (R__law_no_film.fns.all fun g => (G__law_way_of.fn g).isSome && !rMs.contains g) = true := by decide +kernel
theorem a__law_no_film {Γ : Tab} (h : Γ.fn "_law_no_film" = some ⟨d__law_no_film.ps, d__law_no_film.io, d__law_no_film.run G__law_way_of⟩) : NoFilmOk Γ := no_film_ok (a__law_pick rfl) h
def R__law_once : MPS.Row := { N := [Str.ofString "script", Str.ofString "town", Str.ofString "bad", Str.ofString "good", Str.ofString "odd", Str.ofString "film", Str.ofString "rules", Str.ofString "wrong", Str.ofString "track"], bi := rBi, gc := rGc, cls := rCls, exs := rExs, fld := rFld, tw := false, fns := ["_law_pick", "is_way", "_law_ask", "_law_rules", "_law_six", "_law_way_of", "_law_no_film"], mks := [], eqs := [] }
theorem sc__law_once : FnScope R__law_once.N [Str.ofString "script", Str.ofString "town"] (defScope (topS 65)) := ⟨rfl, rfl, rfl, by decide +kernel, rfl, by decide +kernel, by decide +kernel⟩
theorem ck__law_once : ckS R__law_once d__law_once.body (defScope (topS 65)) (.b (defBody (topS 65))) = true := by decide +kernel
theorem bd__law_once : BindsAll "_law_once" (topS 65) [Str.ofString "script", Str.ofString "town"] := fun _ _ _ _ _ _ us hl => match us, hl with | [_, _], _ => rfl
def G__law_once : Tab := G__law_no_film.add "_law_once" d__law_once
theorem fn__law_once : (R__law_once.fns.all fun g => (G__law_no_film.fn g).isSome && !rMs.contains g) = true := by decide +kernel
theorem a__law_once {Γ : Tab} (h : Γ.fn "_law_once" = some ⟨d__law_once.ps, d__law_once.io, d__law_once.run G__law_no_film⟩) : OnceOk Γ := once_ok (a__law_no_film rfl) (a__law_six rfl) (a__law_rules rfl) (a__law_pick rfl) (a__law_ask rfl) (a__law_way_of rfl) (a_is_way rfl) h
def R_law : MPS.Row := { N := [Str.ofString "script", Str.ofString "town", Str.ofString "k"], bi := rBi, gc := rGc, cls := rCls, exs := rExs, fld := rFld, tw := false, fns := ["_law_once"], mks := [], eqs := [] }
theorem sc_law : FnScope R_law.N [Str.ofString "script"] (defScope (topS 66)) := ⟨rfl, rfl, rfl, by decide +kernel, rfl, by decide +kernel, by decide +kernel⟩
theorem ck_law : ckS R_law d_law.body (defScope (topS 66)) (.b (defBody (topS 66))) = true := by decide +kernel
theorem bd_law : BindsAll "law" (topS 66) [Str.ofString "script"] := fun _ _ _ _ _ _ us hl => match us, hl with | [_], _ => rfl
theorem fn_law : (R_law.fns.all fun g => (G__law_once.fn g).isSome && !rMs.contains g) = true := by decide +kernel
abbrev G_all : Tab := G__law_once
theorem sc__law_which : FnScope [Str.ofString "e", Str.ofString "own"] [Str.ofString "e"] (defScope (topS 62)) := ⟨rfl, rfl, rfl, by decide +kernel, rfl, by decide +kernel, by decide +kernel⟩
theorem bd__law_which : BindsAll "_law_which" (topS 62) [Str.ofString "e"] := fun _ _ _ _ _ _ us hl => match us, hl with | [_], _ => rfl
theorem wh__law_which : whichB ["isinstance", "ValueError"] [Str.ofString "e", Str.ofString "own"] (defScope (topS 62)) (defBody (topS 62)) = true := by decide +kernel
def kws_0 : List (String × Int) := [("gap", 0), ("reach", 198), ("miss", 0)]
def lack_0 : List (String × Int) := []
def plan_0 : List (Bool × Nat) := [(true, 0), (true, 1), (true, 2), (true, 3), (true, 4), (true, 5)]
theorem bk_0 : ∀ (D : Addr) (doc pm : Value) (an : Option Addr) (cdv ct : Value) (us mv ws : List Value), us.length = 1 → mv.length = lack_0.length → ws.length = (["birth", "end", "clutter", "gap", "reach", "miss"] : List String).length → KwChain D (((kwsV lack_0).map (·.1)).zip mv) (bindArgs (PySem.W.fnOf (Str.ofString "__init__") (Str.ofString "Rules.__init__") (defArgs (topM 29 0)) (defBody (topM 29 0)) (defScope (topM 29 0)) .none (.ref D) doc pm an cdv ct) ⟨us, ((["birth", "end", "clutter", "gap", "reach", "miss"] : List String).map Str.ofString).zip ws⟩) ([Str.ofString "self", Str.ofString "birth", Str.ofString "end", Str.ofString "clutter", Str.ofString "gap", Str.ofString "reach", Str.ofString "miss"].zip (gPlan plan_0 us mv ws)) := fun _ _ _ _ _ _ us mv ws h1 h2 h3 => match us, mv, ws, h1, h2, h3 with | [_], [], [_, _, _, _, _, _], _, _, _ => rfl
theorem row_F {P : Program} {w : World} {K : PySem.W.Frag} {mg : Str → Option Value} {h : Heap} {fa f1 f2 f3 f4 f5 f6 f7 f8 f9 f10 f11 f12 f13 f14 f15 f16 f17 f18 f19 f20 f21 f22 f23 f24 f25 f26 f27 f28 f29 f30 f31 f32 f33 f34 f35 a_Rules___init__ : Addr} (X : K.In h) (G : h.Ns mainGlobals mg) (hfa : mg "law" = some (.ref fa)) (tw : Tw K mg (adrOf K)) (cl : ClOk K (adrOf K) rFld rCls) (ex : ExOk K (adrOf K) rExs) (bi : BiOk K rBi) (gc : GcOk K rGc) (hm_Rules___init__ : ∃ dat, L2.FunD K (Str.ofString "__init__") (Str.ofString "Rules.__init__") (defArgs (topM 29 0)) (defBody (topM 29 0)) (defScope (topM 29 0)) [] (kwsV kws_0) a_Rules___init__ dat) (ha_Rules___init__ : Mk K (adrOf K "Rules") a_Rules___init__) (h1 : HasDef K "_law_draw" (topS 50) f1) (h2 : HasDef K "_law_pick" (topS 51) f2) (h3 : HasDef K "is_whole" (topS 19) f3) (h4 : HasDef K "is_point" (topS 38) f4) (h5 : HasDef K "is_way" (topS 39) f5) (h6 : HasDef K "need_way" (topS 40) f6) (h7 : HasDef K "common" (topS 36) f7) (h8 : HasDef K "lowest" (topS 37) f8) (h9 : HasDef K "place" (topS 42) f9) (h10 : HasDef K "place_at" (topS 43) f10) (h11 : HasDef K "minus" (topS 44) f11) (h12 : HasDef K "gap_at" (topS 45) f12) (h13 : HasDef K "zero_in" (topS 46) f13) (h14 : HasDef K "meeting_within" (topS 47) f14) (h15 : HasDef K "first_meeting" (topS 48) f15) (h16 : HasDef K "_law_ask" (topS 63) f16) (h17 : HasDef K "_law_rules" (topS 58) f17) (h18 : HasDef K "_law_six" (topS 57) f18) (h19 : HasDef K "is_dot" (topS 20) f19) (h20 : HasDef K "is_frame" (topS 21) f20) (h21 : HasDef K "many_dots" (topS 22) f21) (h22 : HasDef K "is_film" (topS 23) f22) (h23 : HasDef K "need_film" (topS 24) f23) (h24 : HasDef K "need_rules" (topS 30) f24) (h25 : HasDef K "is_spot" (topS 25) f25) (h26 : HasDef K "pairs_of" (topS 33) f26) (h27 : HasDef K "apart" (topS 27) f27) (h28 : HasDef K "dot_of" (topS 26) f28) (h29 : HasDef K "may_lead" (topS 31) f29) (h30 : HasDef K "is_track" (topS 34) f30) (h31 : HasDef K "way_of" (topS 41) f31) (h32 : HasDef K "_law_way_of" (topS 64) f32) (h33 : HasDef K "_law_no_film" (topS 61) f33) (h34 : HasDef K "_law_once" (topS 65) f34) (h35 : HasDef K "law" (topS 66) f35) :
    ∃ dat : FuncData, (∀ (s : Shared) (v : Value), BindsTo s dat ⟨[v], []⟩ [("script", v)]) ∧ ∀ base : Heap, K.In base → base.Ns mainGlobals mg → FnOk P w K mg base (L2.CX P w) 37 fa dat ["script"] (spF (wdOf rCls K) ⟨d_law.ps, d_law.io, d_law.run G_all⟩) := by
  have df : DfOk K rDf := ⟨h1.adr, h2.adr, h3.adr, h4.adr, h5.adr, h6.adr, h7.adr, h8.adr, h9.adr, h10.adr, h11.adr, h12.adr, h13.adr, h14.adr, h15.adr, h16.adr, h17.adr, h18.adr, h19.adr, h20.adr, h21.adr, h22.adr, h23.adr, h24.adr, h25.adr, h26.adr, h27.adr, h28.adr, h29.adr, h30.adr, h31.adr, h32.adr, h33.adr, h34.adr, h35.adr, trivial⟩
  obtain ⟨dt_Rules___init__, F_Rules___init__⟩ := hm_Rules___init__
  have main : ∀ base : Heap, K.In base → base.Ns mainGlobals mg → Prom P w K mg base (wdOf rCls K) rMs 36 G__law_once ∧ Mths P w K mg base (wdOf rCls K) 36 R_law G__law_once := fun base _ _ => by
    have p0 := Prom.empty (P := P) (w := w) (K := K) (mg := mg) (base := base) (wd := wdOf rCls K) (ms := rMs) (k := 0) (fuel := 1000000)
    have p1 : Prom P w K mg base (wdOf rCls K) rMs 1 G__law_draw := p0.add X G h1 bd__law_draw sc__law_draw (names0 X G rfl rfl cl (fun z => by cases z) (df.sub (by decide)) ex bi gc) fn__law_draw (mths0 rfl rfl) (fun z => by cases z) rfl rfl rfl ck__law_draw
    have p2 : Prom P w K mg base (wdOf rCls K) rMs 2 G__law_pick := p1.add X G h2 bd__law_pick sc__law_pick (names0 X G rfl rfl cl (fun z => by cases z) (df.sub (by decide)) ex bi gc) fn__law_pick (mths0 rfl rfl) (fun z => by cases z) rfl rfl rfl ck__law_pick
    have p3 : Prom P w K mg base (wdOf rCls K) rMs 3 G_is_whole := p2.add X G h3 bd_is_whole sc_is_whole (names0 X G rfl rfl cl (fun z => by cases z) (df.sub (by decide)) ex bi gc) fn_is_whole (mths0 rfl rfl) (fun z => by cases z) rfl rfl rfl ck_is_whole
    have p4 : Prom P w K mg base (wdOf rCls K) rMs 4 G_is_point := p3.add X G h4 bd_is_point sc_is_point (names0 X G rfl rfl cl (fun z => by cases z) (df.sub (by decide)) ex bi gc) fn_is_point (mths0 rfl rfl) (fun z => by cases z) rfl rfl rfl ck_is_point
    have p5 : Prom P w K mg base (wdOf rCls K) rMs 5 G_is_way := p4.add X G h5 bd_is_way sc_is_way (names0 X G rfl rfl cl (fun z => by cases z) (df.sub (by decide)) ex bi gc) fn_is_way (mths0 rfl rfl) (fun z => by cases z) rfl rfl rfl ck_is_way
    have p6 : Prom P w K mg base (wdOf rCls K) rMs 6 G_need_way := p5.add X G h6 bd_need_way sc_need_way (names0 X G rfl rfl cl (fun z => by cases z) (df.sub (by decide)) ex bi gc) fn_need_way (mths0 rfl rfl) (fun z => by cases z) rfl rfl rfl ck_need_way
    have p7 : Prom P w K mg base (wdOf rCls K) rMs 7 G_common := p6.add X G h7 bd_common sc_common (names0 X G rfl rfl cl (fun z => by cases z) (df.sub (by decide)) ex bi gc) fn_common (mths0 rfl rfl) (fun z => by cases z) rfl rfl rfl ck_common
    have p8 : Prom P w K mg base (wdOf rCls K) rMs 8 G_lowest := p7.add X G h8 bd_lowest sc_lowest (names0 X G rfl rfl cl (fun z => by cases z) (df.sub (by decide)) ex bi gc) fn_lowest (mths0 rfl rfl) (fun z => by cases z) rfl rfl rfl ck_lowest
    have p9 : Prom P w K mg base (wdOf rCls K) rMs 9 G_place := p8.add X G h9 bd_place sc_place (names0 X G rfl rfl cl (fun z => by cases z) (df.sub (by decide)) ex bi gc) fn_place (mths0 rfl rfl) (fun z => by cases z) rfl rfl rfl ck_place
    have p10 : Prom P w K mg base (wdOf rCls K) rMs 10 G_place_at := p9.add X G h10 bd_place_at sc_place_at (names0 X G rfl rfl cl (fun z => by cases z) (df.sub (by decide)) ex bi gc) fn_place_at (mths0 rfl rfl) (fun z => by cases z) rfl rfl rfl ck_place_at
    have p11 : Prom P w K mg base (wdOf rCls K) rMs 11 G_minus := p10.add X G h11 bd_minus sc_minus (names0 X G rfl rfl cl (fun z => by cases z) (df.sub (by decide)) ex bi gc) fn_minus (mths0 rfl rfl) (fun z => by cases z) rfl rfl rfl ck_minus
    have p12 : Prom P w K mg base (wdOf rCls K) rMs 12 G_gap_at := p11.add X G h12 bd_gap_at sc_gap_at (names0 X G rfl rfl cl (fun z => by cases z) (df.sub (by decide)) ex bi gc) fn_gap_at (mths0 rfl rfl) (fun z => by cases z) rfl rfl rfl ck_gap_at
    have p13 : Prom P w K mg base (wdOf rCls K) rMs 13 G_zero_in := p12.add X G h13 bd_zero_in sc_zero_in (names0 X G rfl rfl cl (fun z => by cases z) (df.sub (by decide)) ex bi gc) fn_zero_in (mths0 rfl rfl) (fun z => by cases z) rfl rfl rfl ck_zero_in
    have p14 : Prom P w K mg base (wdOf rCls K) rMs 14 G_meeting_within := p13.add X G h14 bd_meeting_within sc_meeting_within (names0 X G rfl rfl cl (fun z => by cases z) (df.sub (by decide)) ex bi gc) fn_meeting_within (mths0 rfl rfl) (fun z => by cases z) rfl rfl rfl ck_meeting_within
    have p15 : Prom P w K mg base (wdOf rCls K) rMs 15 G_first_meeting := p14.add X G h15 bd_first_meeting sc_first_meeting (names0 X G rfl rfl cl (fun z => by cases z) (df.sub (by decide)) ex bi gc) fn_first_meeting (mths0 rfl rfl) (fun z => by cases z) rfl rfl rfl ck_first_meeting
    have p16 : Prom P w K mg base (wdOf rCls K) rMs 16 G__law_ask := p15.add X G h16 bd__law_ask sc__law_ask (names0 X G rfl rfl cl (fun _ => tw) (df.sub (by decide)) ex bi gc) fn__law_ask (mths0 rfl rfl) (fun _ => by omega) rfl rfl rfl ck__law_ask
    have o_Rules___init__ : FnOk P w K mg base (L2.CX P w) 17 a_Rules___init__ dt_Rules___init__ [Str.ofString "self", Str.ofString "birth", Str.ofString "end", Str.ofString "clutter", Str.ofString "gap", Str.ofString "reach", Str.ofString "miss"] (spF (wdOf rCls K) ⟨d_Rules___init__.ps, d_Rules___init__.io, d_Rules___init__.run G__law_ask⟩) := def_okD (R := R_Rules___init__) (Γ := G__law_ask) (d := d_Rules___init__) F_Rules___init__ sc_Rules___init__ (names0 X G rfl rfl cl (fun z => by cases z) (df.sub (by decide)) ex bi gc) (p16.fns fn_Rules___init__) (mths0 rfl rfl) (fun z => by cases z) rfl rfl (by decide) ck_Rules___init__ ⟨rfl, rfl, fun ds _ => .inr rfl⟩
    have p17 : Prom P w K mg base (wdOf rCls K) rMs 18 G_Rules___init__ := (p16.addM (x := "Rules.__init__") (d := d_Rules___init__) (by decide)).le (by omega)
    have mk_0 : ∀ k, 18 ≤ k → MkG P w K mg base (wdOf rCls K) k ("Rules", ["birth", "end", "clutter", "gap", "reach", "miss"], [(true, 0), (true, 1), (true, 2), (true, 3), (true, 4), (true, 5)]) ⟨d_Rules___init__.ps, d_Rules___init__.io, d_Rules___init__.run G__law_ask⟩ := fun k hk => mk_of (plan2 := plan_0) (kws := kws_0) (ms := lack_0) hk ha_Rules___init__ F_Rules___init__ (by decide) (by decide) bk_0 (fun x zs hz => by match zs, hz with | [_, _, _, _, _, _], _ => rfl) o_Rules___init__
    have p18 : Prom P w K mg base (wdOf rCls K) rMs 19 G__law_rules := p17.add X G h17 bd__law_rules sc__law_rules (names0 X G rfl rfl cl (fun z => by cases z) (df.sub (by decide)) ex bi gc) fn__law_rules (mths_of ⟨⟨show "Rules" ∈ rCls by decide, _, rfl, mk_0 _ (by omega)⟩, trivial⟩ trivial) (fun z => by cases z) rfl rfl rfl ck__law_rules
    have p19 : Prom P w K mg base (wdOf rCls K) rMs 20 G__law_six := p18.add X G h18 bd__law_six sc__law_six (names0 X G rfl rfl cl (fun z => by cases z) (df.sub (by decide)) ex bi gc) fn__law_six (mths0 rfl rfl) (fun z => by cases z) rfl rfl rfl ck__law_six
    have p20 : Prom P w K mg base (wdOf rCls K) rMs 21 G_is_dot := p19.add X G h19 bd_is_dot sc_is_dot (names0 X G rfl rfl cl (fun z => by cases z) (df.sub (by decide)) ex bi gc) fn_is_dot (mths0 rfl rfl) (fun z => by cases z) rfl rfl rfl ck_is_dot
    have p21 : Prom P w K mg base (wdOf rCls K) rMs 22 G_is_frame := p20.add X G h20 bd_is_frame sc_is_frame (names0 X G rfl rfl cl (fun z => by cases z) (df.sub (by decide)) ex bi gc) fn_is_frame (mths0 rfl rfl) (fun z => by cases z) rfl rfl rfl ck_is_frame
    have p22 : Prom P w K mg base (wdOf rCls K) rMs 23 G_many_dots := p21.add X G h21 bd_many_dots sc_many_dots (names0 X G rfl rfl cl (fun z => by cases z) (df.sub (by decide)) ex bi gc) fn_many_dots (mths0 rfl rfl) (fun z => by cases z) rfl rfl rfl ck_many_dots
    have p23 : Prom P w K mg base (wdOf rCls K) rMs 24 G_is_film := p22.add X G h22 bd_is_film sc_is_film (names0 X G rfl rfl cl (fun z => by cases z) (df.sub (by decide)) ex bi gc) fn_is_film (mths0 rfl rfl) (fun z => by cases z) rfl rfl rfl ck_is_film
    have p24 : Prom P w K mg base (wdOf rCls K) rMs 25 G_need_film := p23.add X G h23 bd_need_film sc_need_film (names0 X G rfl rfl cl (fun z => by cases z) (df.sub (by decide)) ex bi gc) fn_need_film (mths0 rfl rfl) (fun z => by cases z) rfl rfl rfl ck_need_film
    have p25 : Prom P w K mg base (wdOf rCls K) rMs 26 G_need_rules := p24.add X G h24 bd_need_rules sc_need_rules (names0 X G rfl rfl cl (fun z => by cases z) (df.sub (by decide)) ex bi gc) fn_need_rules (mths0 rfl rfl) (fun z => by cases z) rfl rfl rfl ck_need_rules
    have p26 : Prom P w K mg base (wdOf rCls K) rMs 27 G_is_spot := p25.add X G h25 bd_is_spot sc_is_spot (names0 X G rfl rfl cl (fun z => by cases z) (df.sub (by decide)) ex bi gc) fn_is_spot (mths0 rfl rfl) (fun z => by cases z) rfl rfl rfl ck_is_spot
    have p27 : Prom P w K mg base (wdOf rCls K) rMs 28 G_pairs_of := p26.add X G h26 bd_pairs_of sc_pairs_of (names0 X G rfl rfl cl (fun z => by cases z) (df.sub (by decide)) ex bi gc) fn_pairs_of (mths0 rfl rfl) (fun z => by cases z) rfl rfl rfl ck_pairs_of
    have p28 : Prom P w K mg base (wdOf rCls K) rMs 29 G_apart := p27.add X G h27 bd_apart sc_apart (names0 X G rfl rfl cl (fun z => by cases z) (df.sub (by decide)) ex bi gc) fn_apart (mths0 rfl rfl) (fun z => by cases z) rfl rfl rfl ck_apart
    have p29 : Prom P w K mg base (wdOf rCls K) rMs 30 G_dot_of := p28.add X G h28 bd_dot_of sc_dot_of (names0 X G rfl rfl cl (fun z => by cases z) (df.sub (by decide)) ex bi gc) fn_dot_of (mths0 rfl rfl) (fun z => by cases z) rfl rfl rfl ck_dot_of
    have p30 : Prom P w K mg base (wdOf rCls K) rMs 31 G_may_lead := p29.add X G h29 bd_may_lead sc_may_lead (names0 X G rfl rfl cl (fun z => by cases z) (df.sub (by decide)) ex bi gc) fn_may_lead (mths0 rfl rfl) (fun z => by cases z) rfl rfl rfl ck_may_lead
    have p31 : Prom P w K mg base (wdOf rCls K) rMs 32 G_is_track := p30.add X G h30 bd_is_track sc_is_track (names0 X G rfl rfl cl (fun z => by cases z) (df.sub (by decide)) ex bi gc) fn_is_track (mths0 rfl rfl) (fun z => by cases z) rfl rfl rfl ck_is_track
    have p32 : Prom P w K mg base (wdOf rCls K) rMs 33 G_way_of := p31.add X G h31 bd_way_of sc_way_of (names0 X G rfl rfl cl (fun z => by cases z) (df.sub (by decide)) ex bi gc) fn_way_of (mths0 rfl rfl) (fun z => by cases z) rfl rfl rfl ck_way_of
    have p33 : Prom P w K mg base (wdOf rCls K) rMs 34 G__law_way_of := p32.add X G h32 bd__law_way_of sc__law_way_of (names0 X G rfl rfl cl (fun _ => tw) (df.sub (by decide)) ex bi gc) fn__law_way_of (mths0 rfl rfl) (fun _ => by omega) rfl rfl rfl ck__law_way_of
    have p34 : Prom P w K mg base (wdOf rCls K) rMs 35 G__law_no_film := p33.add X G h33 bd__law_no_film sc__law_no_film (names0 X G rfl rfl cl (fun z => by cases z) (df.sub (by decide)) ex bi gc) fn__law_no_film (mths0 rfl rfl) (fun z => by cases z) rfl rfl rfl ck__law_no_film
    have p35 : Prom P w K mg base (wdOf rCls K) rMs 36 G__law_once := p34.add X G h34 bd__law_once sc__law_once (names0 X G rfl rfl cl (fun z => by cases z) (df.sub (by decide)) ex bi gc) fn__law_once (mths0 rfl rfl) (fun z => by cases z) rfl rfl rfl ck__law_once
    exact ⟨p35, (mths0 rfl rfl)⟩
  exact fin X G hfa h35 (fun base b1 b2 => (main base b1 b2).1) bd_law sc_law (names0 X G rfl rfl cl (fun z => by cases z) (df.sub (by decide)) ex bi gc) fn_law (fun base b1 b2 => (main base b1 b2).2) (fun z => by cases z) rfl rfl rfl ck_law
theorem law_holds (ns : List Int) : d_law.run G_all [.scr ns] = .ok (.val (.bl true)) [] :=
  run_law (a__law_once rfl) ns
end MPR
open PySem PySem.W PyProof.Rows MP MPS MPR
set_option maxHeartbeats 0 in
theorem PySem.Challenge.cw_dotways_k35_ways_refused_holds : PySem.Challenge.rw_dotways_k35_ways_refused.Holds := by
  w_on; o_law; k_head; (case hw => w_witness2)
  k_fill
  refine MPS.walk_rowD MP.K35.d_law MPR.G_all (l := PySem.Challenge.rw_dotways_k35_ways_refused) (n := 63) (k := 37) (wd := MPS.wdOf MPR.rCls) rfl (by decide) rfl ⟨rfl, by decide, by decide⟩ (fun w h Y => PySem.W.kIn_of Y) ?F (fun _ => rfl) rfl rfl MPR.law_holds
  case F =>
    intro w mg fa h KX G hmg
    refine' MPR.row_F KX G hmg (MPS.tw_mk KX G ?txs ?tnd ?taD ?tlD ?tmD ?tn ?tt ?tz1 ?tz2 (MPS.has_def ?twa ?twl ?twc ?twk) MPR.sc__law_which rfl rfl MPR.bd__law_which MPR.wh__law_which) ?cl ?ex ?bi ?gc (MPS.funD_meth ?ml0 ?mc0 ?mk0 ?mw0) (MPS.mk_adr ?ma0 ?mm0 ?mi0 ?mf0 ?mp0) (MPS.has_def ?a1 ?l1 ?c1 ?k1) (MPS.has_def ?a2 ?l2 ?c2 ?k2) (MPS.has_def ?a3 ?l3 ?c3 ?k3) (MPS.has_def ?a4 ?l4 ?c4 ?k4) (MPS.has_def ?a5 ?l5 ?c5 ?k5) (MPS.has_def ?a6 ?l6 ?c6 ?k6) (MPS.has_def ?a7 ?l7 ?c7 ?k7) (MPS.has_def ?a8 ?l8 ?c8 ?k8) (MPS.has_def ?a9 ?l9 ?c9 ?k9) (MPS.has_def ?a10 ?l10 ?c10 ?k10) (MPS.has_def ?a11 ?l11 ?c11 ?k11) (MPS.has_def ?a12 ?l12 ?c12 ?k12) (MPS.has_def ?a13 ?l13 ?c13 ?k13) (MPS.has_def ?a14 ?l14 ?c14 ?k14) (MPS.has_def ?a15 ?l15 ?c15 ?k15) (MPS.has_def ?a16 ?l16 ?c16 ?k16) (MPS.has_def ?a17 ?l17 ?c17 ?k17) (MPS.has_def ?a18 ?l18 ?c18 ?k18) (MPS.has_def ?a19 ?l19 ?c19 ?k19) (MPS.has_def ?a20 ?l20 ?c20 ?k20) (MPS.has_def ?a21 ?l21 ?c21 ?k21) (MPS.has_def ?a22 ?l22 ?c22 ?k22) (MPS.has_def ?a23 ?l23 ?c23 ?k23) (MPS.has_def ?a24 ?l24 ?c24 ?k24) (MPS.has_def ?a25 ?l25 ?c25 ?k25) (MPS.has_def ?a26 ?l26 ?c26 ?k26) (MPS.has_def ?a27 ?l27 ?c27 ?k27) (MPS.has_def ?a28 ?l28 ?c28 ?k28) (MPS.has_def ?a29 ?l29 ?c29 ?k29) (MPS.has_def ?a30 ?l30 ?c30 ?k30) (MPS.has_def ?a31 ?l31 ?c31 ?k31) (MPS.has_def ?a32 ?l32 ?c32 ?k32) (MPS.has_def ?a33 ?l33 ?c33 ?k33) (MPS.has_def ?a34 ?l34 ?c34 ?k34) (MPS.has_def ?a35 ?l35 ?c35 ?k35)
    (case taD => k_is)
    (case tlD => k_is)
    (case tmD => rfl)
    (case tn => k_is)
    (case tt => k_is)
    (case tz1 => k_is)
    (case tz2 => k_is)
    (case twa => k_is)
    (case twl => k_is)
    (case twc => k_is)
    (case twk => k_is)
    case txs => refine' MPS.xc_cons ?ya0 ?yl0 ?ym0 ?yd0 ?yg0 ?yk0 ?yh0 (MPS.xc_cons ?ya1 ?yl1 ?ym1 ?yd1 ?yg1 ?yk1 ?yh1 (MPS.xc_cons ?ya2 ?yl2 ?ym2 ?yd2 ?yg2 ?yk2 ?yh2 (MPS.xc_cons ?ya3 ?yl3 ?ym3 ?yd3 ?yg3 ?yk3 ?yh3 (MPS.xc_cons ?ya4 ?yl4 ?ym4 ?yd4 ?yg4 ?yk4 ?yh4 (MPS.xc_cons ?ya5 ?yl5 ?ym5 ?yd5 ?yg5 ?yk5 ?yh5 (MPS.xc_cons ?ya6 ?yl6 ?ym6 ?yd6 ?yg6 ?yk6 ?yh6 (MPS.xc_cons ?ya7 ?yl7 ?ym7 ?yd7 ?yg7 ?yk7 ?yh7 (MPS.xc_cons ?ya8 ?yl8 ?ym8 ?yd8 ?yg8 ?yk8 ?yh8 (MPS.xc_cons ?ya9 ?yl9 ?ym9 ?yd9 ?yg9 ?yk9 ?yh9 (MPS.xc_cons ?ya10 ?yl10 ?ym10 ?yd10 ?yg10 ?yk10 ?yh10 (MPS.xc_cons ?ya11 ?yl11 ?ym11 ?yd11 ?yg11 ?yk11 ?yh11 (MPS.xc_nil)))))))))))); (case ya0 => k_is); (case yl0 => k_is); (case ym0 => rfl); (case yd0 => rfl); (case yg0 => k_is); (case yk0 => k_is); (case yh0 => k_is); (case ya1 => k_is); (case yl1 => k_is); (case ym1 => rfl); (case yd1 => rfl); (case yg1 => k_is); (case yk1 => k_is); (case yh1 => k_is); (case ya2 => k_is); (case yl2 => k_is); (case ym2 => rfl); (case yd2 => rfl); (case yg2 => k_is); (case yk2 => k_is); (case yh2 => k_is); (case ya3 => k_is); (case yl3 => k_is); (case ym3 => rfl); (case yd3 => rfl); (case yg3 => k_is); (case yk3 => k_is); (case yh3 => k_is); (case ya4 => k_is); (case yl4 => k_is); (case ym4 => rfl); (case yd4 => rfl); (case yg4 => k_is); (case yk4 => k_is); (case yh4 => k_is); (case ya5 => k_is); (case yl5 => k_is); (case ym5 => rfl); (case yd5 => rfl); (case yg5 => k_is); (case yk5 => k_is); (case yh5 => k_is); (case ya6 => k_is); (case yl6 => k_is); (case ym6 => rfl); (case yd6 => rfl); (case yg6 => k_is); (case yk6 => k_is); (case yh6 => k_is); (case ya7 => k_is); (case yl7 => k_is); (case ym7 => rfl); (case yd7 => rfl); (case yg7 => k_is); (case yk7 => k_is); (case yh7 => k_is); (case ya8 => k_is); (case yl8 => k_is); (case ym8 => rfl); (case yd8 => rfl); (case yg8 => k_is); (case yk8 => k_is); (case yh8 => k_is); (case ya9 => k_is); (case yl9 => k_is); (case ym9 => rfl); (case yd9 => rfl); (case yg9 => k_is); (case yk9 => k_is); (case yh9 => k_is); (case ya10 => k_is); (case yl10 => k_is); (case ym10 => rfl); (case yd10 => rfl); (case yg10 => k_is); (case yk10 => k_is); (case yh10 => k_is); (case ya11 => k_is); (case yl11 => k_is); (case ym11 => rfl); (case yd11 => rfl); (case yg11 => k_is); (case yk11 => k_is); (case yh11 => k_is)
    (case tnd => decide)
    (case ma0 => k_is)
    (case mm0 => k_is)
    (case mi0 => k_is)
    (case mf0 => k_is)
    (case mp0 => k_is)
    (case ml0 => k_is)
    (case mc0 => k_is)
    (case mk0 => k_is)
    case mw0 => refine' MPS.kw_cons ?mq0_0 (MPS.kw_cons ?mq0_1 (MPS.kw_cons ?mq0_2 (trivial))); (case mq0_0 => k_is); (case mq0_1 => k_is); (case mq0_2 => k_is)
    case cl => refine' MPS.cl_cons ?cA0 ?cB0 ?cC0 ?cD0 ?cE0 ?cF0 ?cG0 ?cH0 ?cI0 ?cJ0 ?cL0 (trivial); (case cA0 => k_is); (case cB0 => k_is); (case cC0 => k_is); (case cD0 => k_is); (case cE0 => k_is); (case cF0 => k_is); (case cG0 => k_is); (case cH0 => k_is); (case cI0 => k_is); (case cJ0 => rfl); (case cL0 => refine' ⟨?_, ?_, ?_, ?_, ?_, ?_, trivial⟩ <;> k_is)
    case ex => refine' MPS.ex_cons ?xa0 ?xe0 ?xk0 ?xs0 ?xt0 (MPS.ex_cons ?xa1 ?xe1 ?xk1 ?xs1 ?xt1 (MPS.ex_cons ?xa2 ?xe2 ?xk2 ?xs2 ?xt2 (MPS.ex_cons ?xa3 ?xe3 ?xk3 ?xs3 ?xt3 (MPS.ex_cons ?xa4 ?xe4 ?xk4 ?xs4 ?xt4 (trivial))))); (case xa0 => k_is); (case xe0 => k_exc); (case xk0 => k_is); (case xs0 => k_is); (case xt0 => k_is); (case xa1 => k_is); (case xe1 => k_exc); (case xk1 => k_is); (case xs1 => k_is); (case xt1 => k_is); (case xa2 => k_is); (case xe2 => k_exc); (case xk2 => k_is); (case xs2 => k_is); (case xt2 => k_is); (case xa3 => k_is); (case xe3 => k_exc); (case xk3 => k_is); (case xs3 => k_is); (case xt3 => k_is); (case xa4 => k_is); (case xe4 => k_exc); (case xk4 => k_is); (case xs4 => k_is); (case xt4 => k_is)
    case bi => refine' ⟨?_, ?_, ?_, ?_, ?_, ?_, ?_, ?_, ?_, ?_, ?_, ?_, ?_, ?_, ?_, trivial⟩ <;> k_is
    case gc => refine' MPS.gc_cons ?gcq0 (MPS.gc_cons ?gcq1 (MPS.gc_cons ?gcq2 (MPS.gc_cons ?gcq3 (trivial)))); (case gcq0 => k_is); (case gcq1 => k_is); (case gcq2 => k_is); (case gcq3 => k_is)
    (case a1 => k_is); (case l1 => k_is); (case c1 => k_is); (case k1 => k_is)
    (case a2 => k_is); (case l2 => k_is); (case c2 => k_is); (case k2 => k_is)
    (case a3 => k_is); (case l3 => k_is); (case c3 => k_is); (case k3 => k_is)
    (case a4 => k_is); (case l4 => k_is); (case c4 => k_is); (case k4 => k_is)
    (case a5 => k_is); (case l5 => k_is); (case c5 => k_is); (case k5 => k_is)
    (case a6 => k_is); (case l6 => k_is); (case c6 => k_is); (case k6 => k_is)
    (case a7 => k_is); (case l7 => k_is); (case c7 => k_is); (case k7 => k_is)
    (case a8 => k_is); (case l8 => k_is); (case c8 => k_is); (case k8 => k_is)
    (case a9 => k_is); (case l9 => k_is); (case c9 => k_is); (case k9 => k_is)
    (case a10 => k_is); (case l10 => k_is); (case c10 => k_is); (case k10 => k_is)
    (case a11 => k_is); (case l11 => k_is); (case c11 => k_is); (case k11 => k_is)
    (case a12 => k_is); (case l12 => k_is); (case c12 => k_is); (case k12 => k_is)
    (case a13 => k_is); (case l13 => k_is); (case c13 => k_is); (case k13 => k_is)
    (case a14 => k_is); (case l14 => k_is); (case c14 => k_is); (case k14 => k_is)
    (case a15 => k_is); (case l15 => k_is); (case c15 => k_is); (case k15 => k_is)
    (case a16 => k_is); (case l16 => k_is); (case c16 => k_is); (case k16 => k_is)
    (case a17 => k_is); (case l17 => k_is); (case c17 => k_is); (case k17 => k_is)
    (case a18 => k_is); (case l18 => k_is); (case c18 => k_is); (case k18 => k_is)
    (case a19 => k_is); (case l19 => k_is); (case c19 => k_is); (case k19 => k_is)
    (case a20 => k_is); (case l20 => k_is); (case c20 => k_is); (case k20 => k_is)
    (case a21 => k_is); (case l21 => k_is); (case c21 => k_is); (case k21 => k_is)
    (case a22 => k_is); (case l22 => k_is); (case c22 => k_is); (case k22 => k_is)
    (case a23 => k_is); (case l23 => k_is); (case c23 => k_is); (case k23 => k_is)
    (case a24 => k_is); (case l24 => k_is); (case c24 => k_is); (case k24 => k_is)
    (case a25 => k_is); (case l25 => k_is); (case c25 => k_is); (case k25 => k_is)
    (case a26 => k_is); (case l26 => k_is); (case c26 => k_is); (case k26 => k_is)
    (case a27 => k_is); (case l27 => k_is); (case c27 => k_is); (case k27 => k_is)
    (case a28 => k_is); (case l28 => k_is); (case c28 => k_is); (case k28 => k_is)
    (case a29 => k_is); (case l29 => k_is); (case c29 => k_is); (case k29 => k_is)
    (case a30 => k_is); (case l30 => k_is); (case c30 => k_is); (case k30 => k_is)
    (case a31 => k_is); (case l31 => k_is); (case c31 => k_is); (case k31 => k_is)
    (case a32 => k_is); (case l32 => k_is); (case c32 => k_is); (case k32 => k_is)
    (case a33 => k_is); (case l33 => k_is); (case c33 => k_is); (case k33 => k_is)
    (case a34 => k_is); (case l34 => k_is); (case c34 => k_is); (case k34 => k_is)
    (case a35 => k_is); (case l35 => k_is); (case c35 => k_is); (case k35 => k_is)
end
